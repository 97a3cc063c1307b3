import PyProof.Rows.All
import Wide.All
import HandS.Exc
import HandS.ExcField
import HandS.ExcInit
import HandS.ExcIs
import KE.KExcIs
import HandS.HeadHook4
import HandS.HeadEnd
import HandS.Words
import PySem.Challenge.RW_twowaysigns_k56_worlds_made
import HandS.Head2
import OpenK.AllK
import Wide.FinOn
import HandS.ForMost
import HandS.CallSlots
import HandS.Defaults
import KE.SortKeyHeap
import HandS.Text
import PyProof.ReprRoads
import HandS.Flow
import HandS.TupAny
import HandS.IsInst
import HandS.TupLe
import HandS.Style
import HandS.Star
import HandS.HeadWalk
import HandS.WordsDict
import HandS.RaiseMore
import PyProof.CallFns
import HandS.Iter
import KE.GoesMore
import KE.GoesEnum
import HandS.Small
import HandS.Comp
import HandS.DictComp
import HandS.OwnEq
import HandS.Deep
import KE.KStar
import KE.KUnpackStar
import PyProof.RulesMatch
import HandS.TryOnly
set_option Elab.async false
set_option linter.all false
set_option maxRecDepth 100000
set_option maxHeartbeats 4000000
/-! DLA: the terms that the head of a law is asked about. -/
namespace DL
open PySem PySem.Spec PyProof.Rows L2
inductive D where
  | non | bl (b : Bool) | int (i : Int) | str (x : Str)
  | tup (xs : List D) | lst (xs : List D) | dct (kvs : List (Key × D))
  | ins (c : Nat) (fs : List (Str × D))

/-- a field stored -/
def putD (f : Str) (v : D) : List (Str × D) → List (Str × D)
  | [] => [(f, v)]
  | (g, x) :: r => if g = f then (g, v) :: r else (g, x) :: putD f v r
inductive Cell where
  | sh (d : D)
  | ow (d : D)
  | nst (ds : List D)
  | al (s i : Nat)
abbrev Env := List (Option Cell)

inductive Bo where
  | add | sub | mul | fdv | mod | pow
inductive Co where
  | eq | ne | lt | le | gt | ge | is | isn | in_ | nin
inductive Bi where
  | len | int | str | list | tuple | sum | min | max | any | all | repr | dict | set | sorted | abs
inductive Mt where
  | get | index | join | split | startswith | upper | count | find
inductive Ty where
  | str | int | bool | tup | lst | dct | cls (n : Nat) | verr
  deriving DecidableEq
inductive Tg where
  | n (i : Nat) | t (ts : Tg) | z | c (a b : Tg)
mutual
inductive Ex where
  | v (i : Nat) | non | bl (b : Bool) | int (i : Int) | str (s : Str) | g (n : Nat)
  | bin (o : Bo) (a b : Ex) | neg (a : Ex)
  | cmp (o : Co) (a b : Ex) | chn (o p : Co) (a b c : Ex)
  | and (a b : Ex) | or (a b : Ex) | not (a : Ex) | ite (c : Cd) (a b : Ex)
  | tup (es : Exs) | lst (es : Exs)
  | ix (a b : Ex) | sl (a : Ex) (l h : Exo) | rv (a : Ex)
  | call (f : Nat) (es : Exs) | callk (f : Nat) (es : Exs) (kn : List Str) (ks : Exs)
  | mk (c f : Nat) (es : Exs) | mkk (c f : Nat) (es : Exs) (kn : List Str) (ks : Exs)
  | om (c f : Nat) (o : Ex) (m : Str) (es : Exs) | omk (c f : Nat) (o : Ex) (m : Str) (es : Exs) (kn : List Str) (ks : Exs)
  | bi (b : Bi) (es : Exs) | bit (b : Bi) (it : It)
  | isi (e : Ex) (tup : Bool) (ts : List Ty)
  | mt (m : Mt) (o : Ex) (es : Exs)
  | fld (o : Ex) (f : Str)
  | lcn (e : Ex) (own : List Nat) (gs : Gens) | nlen (s : Nat)
  | lc (e : Ex) (own : List Nat) (gs : Gens) | dc (k v : Ex) (own : List Nat) (gs : Gens)
  | dsp (es : Exs)
  | srt (f : Nat) (e : Ex)
inductive Exs where
  | n | c (e : Ex) (es : Exs) | s (e : Ex) (es : Exs)
inductive Exo where
  | n | s (e : Ex)
inductive Cd where
  | e (e : Ex) | and (a b : Cd) | or (a b : Cd) | not (a : Cd) | ite (c a b : Cd)
inductive Cdo where
  | n | s (c : Cd)
inductive It where
  | e (e : Ex) | rng (es : Exs) | enu (e : Ex) | zip (a b : Ex) | rvs (e : Ex)
inductive Gens where
  | n | c (own : List Nat) (t : Tg) (i : It) (c : Cdo) (g : Gens)
end
/-- what a handler asks: of the error (none: ValueError), of a truth value in a slot -/
inductive Hx where
  | isx (cs : List (Option Nat)) (tup : Bool) | v (i : Nat) | and (a b : Hx) | or (a b : Hx) | not (a : Hx)
inductive Hv where
  | non | bl (b : Bool) | int (i : Int) | str (s : Str) | v (i : Nat) | fld (f : Str) | b (x : Hx)
inductive Hst where
  | set (i : Nat) (x : Hx) (t : Hst) | iff (x : Hx) (a t : Hst) | ret (v : Hv) | rets (vs : List Hv)
mutual
inductive Sm where
  | set (t : Tg) (e : Ex) | seti (s : Nat) (i e : Ex) | setf (s : Nat) (f : Str) (e : Ex)
  | app (s : Nat) (e : Ex) | ext (s : Nat) (e : Ex) | insr (s : Nat) (i e : Ex)
  | pop (t s : Nat) (e : Exo) | popx (s : Nat) (e : Exo)
  | expr (e : Ex) | iff (c : Cd) (a b : Sms) | for_ (t : Tg) (i : It) (b : Sms) | whl (c : Cd) (b : Sms)
  | ret (e : Ex) | retn | pass | brk | cnt
  | setN (i : Nat) (e : Ex) | nal (t s : Nat) (i : Ex) | nrow (s i : Nat) (e : Ex) | napp (s : Nat) (e : Ex) | npt (i s : Nat)
  | fins (t s v : Nat) | lend (i : Nat) (us : List Nat) (s : Nat) (e : Ex)
  | rse (c : Nat) (es : Exs) | tri (b : Sms) (c : Option Nat) (s : Option Nat) (h : Hst)
  | stu (w i : Nat) (e : Ex) | mch (s : Nat) (ms : Mcs)
inductive Sms where
  | n | c (s : Sm) (t : Sms)
inductive Mcs where
  | n | c (x : Str) (g : Cdo) (b : Sms) (r : Mcs) | d (b : Sms)
end
structure Exn where
  cls : Nat
  fs : List (Str × D)
def tyD (d : D) (t : Ty) : Bool := match d, t with
  | .str _, .str => true
  | .int _, .int => true
  | .bl _, .int => true
  | .bl _, .bool => true
  | .tup _, .tup => true
  | .lst _, .lst => true
  | .dct _, .dct => true
  | .ins c _, .cls n => c == n
  | _, _ => false
def insOk (n : Nat) : D → Bool
  | .ins c _ => decide (c < n)
  | _ => true
inductive FR where
  | ok (c : Cell) | ex (x : Exn) | no
def tyVal (CA : Nat → Addr) : D → Value
  | .non => .type "NoneType"
  | .bl _ => .type "bool"
  | .int _ => .type "int"
  | .str _ => .type "str"
  | .tup _ => .type "tuple"
  | .lst _ => .type "list"
  | .dct _ => .type "dict"
  | .ins c _ => .ref (CA c)
inductive Kd where
  | fn | mt (c : Nat) | mk (c : Nat)
structure Fd where
  nm : Str
  kd : Kd
  ps : List Str
structure Gm where
  fds : List Fd
  con : List Str
  cls : List Str
  xcs : List (Str × List Str)
  xns : List Str
  blt : List Str
  kws : List (Nat × Nat × List Str)
  tys : List Ty
  ats : List Str
  rep : Bool := false
def tyNm (Γ : Gm) : Ty → Option (Option String × Str)
  | .str => some (some "str", "str")
  | .int => some (some "int", "int")
  | .bool => some (some "bool", "bool")
  | .tup => some (some "tuple", "tuple")
  | .lst => some (some "list", "list")
  | .dct => some (some "dict", "dict")
  | .cls c => (Γ.cls[c]?).map fun x => (none, x)
  | .verr => none
def cvU (CA : Nat → Addr) : Option Nat → Value
  | some c => .ref (CA (1000 + c))
  | none => .type "ValueError"
/-- a def of the core text; one that is shown by hand has its own meaning -/
structure Df where
  nm : Str
  kd : Kd
  ps : List Str
  N : List Str
  fx : List Nat
  body : Sms
  hand : Option ((Nat → List D → FR) → List D → FR) := none
structure Tbl where
  defs : List Df
  con : List D
  eqs : List (Nat × Nat)
  wf : Nat
  ncls : Nat
  xs : List (List Str)
  sub : Nat → Option Nat → Bool
  nx : Nat
  rep : Bool := false
def clxB (K : PySem.W.Frag) (C : Addr) : Bool := He.eqO (PySem.W.findIn K (.ref C) "__class__") (some (some (.builtin "object.__class__"))) && (He.eqO (PySem.W.specialIn K (.builtin "object.__class__") "__get__") (some (some (.builtin "getset_descriptor.__get__"))) &&
  (decide (PySem.W.takesIn K (.builtin "object.__class__") = some true) && decide (PySem.W.mroIn K C (.type "object") = some true)))
def smp : List D := [.non, .bl true, .int 0, .str "", .tup [], .lst [], .dct []]
def kitB (K : PySem.W.Frag) (CA : Nat → Addr) (n : Nat) (t : Ty) (u : Value) : Bool := (smp.all fun d => decide (PySem.W.kitOne K (tyVal CA d) u = some (tyD d t))) && (List.range n).all fun c => decide (PySem.W.kitOne K (.ref (CA c)) u = some (tyD (.ins c []) t))
def oexB (K : PySem.W.Frag) (C : Addr) : Bool := (match K.lookup C with
    | some ⟨.type "type", _, .cls cd, sl⟩ => (match cd.mro, sl.toList with
      | .ref C' :: bm, [_, _, _, _, some (.builtin n), _] => C' == C && (n == "ValueError.__new__" && (!cd.hasDel && (cd.hasDict && PySem.HandSPX.refsVE bm)))
      | _, _ => false)
    | _ => false) && (He.eqO (PySem.W.findIn K (.ref C) "__setattr__") (some (some (.builtin "object.__setattr__"))) && (decide (PySem.W.subIn K (.ref C) (.type "BaseException") = some true) && (decide (PySem.W.typeIn K (.ref C) = some (.type "type")) && PySem.W.keepIn K (.ref C))))
/-- names of the errors' classes; texts of the constants; where a constant is a text -/
structure Nms where
  xn : List Str
  txs : List Str
def xccB (K : PySem.W.Frag) (D : Addr) : Bool := xfB K D && (decide (PySem.W.findIn K (.ref D) "__class__" = some (some (.builtin "object.__class__"))) && (decide (PySem.W.specialIn K (.builtin "object.__class__") "__get__" = some (some (.builtin "getset_descriptor.__get__"))) &&
  (decide (PySem.W.takesIn K (.builtin "object.__class__") = some true) && (decide (PySem.W.mroIn K D (.type "object") = some true) && (PySem.W.clsIn K D).isSome))))
section
variable (Γ : Gm) (T : Tbl) (S : Nms)
def cnm (c : Nat) : Str := if c < 1000 then Γ.cls.getD c "" else S.xn.getD (c - 1000) ""
def caK (K : PySem.W.Frag) (c : Nat) : Addr := He.ga K (cnm Γ S c)
def atD (d : Df) : Str × Option Str := match d.kd with
  | .fn => (d.nm, none)
  | .mt c => (cnm Γ S c, some d.nm)
  | .mk c => (cnm Γ S c, some "__init__")
def atF (f : Nat) : Str × Option Str := match T.defs[f]? with
  | some d => atD Γ S d
  | none => ("", none)
def afK (K : PySem.W.Frag) (f : Nat) : Addr := He.fAd K (atF Γ T S f)
def xaK (K : PySem.W.Frag) (c : Nat) : Addr := He.fAd K (cnm Γ S (1000 + c), some "__init__")
def faD (d : Df) : List He.Fa := match d.kd with
  | .fn => [.glo d.nm, .keep d.nm]
  | .mt c => [.meth (cnm Γ S c) d.nm]
  | .mk c => [.mkr d.nm]
def mkFa : List He.Fa := T.defs.flatMap (faD Γ S) ++ (Γ.cls.flatMap fun x => .cls x :: .glo x :: Γ.ats.map fun a => .noat x a) ++ Γ.blt.map .free ++ (Γ.con.zip S.txs).map (fun p => .str p.1 p.2) ++ (.free "ValueError" :: .free "isinstance" :: Γ.xns.map fun x => .glo x) ++ Γ.xcs.map fun p => .glo p.1
def tyU (K : PySem.W.Frag) (t : Ty) : Value := match tyNm Γ t, t with
  | some (some s, _), _ => .type s
  | some (none, _), .cls c => .ref (caK Γ S K c)
  | _, _ => .none
def oN : Option Nat → Bool
  | some e => decide (e < Γ.xns.length)
  | none => true
def gxB (K : PySem.W.Frag) : Bool := (List.range T.nx).all fun c => ((none :: (List.range Γ.xns.length).map some).all fun o => decide (PySem.W.kitOne K (.ref (caK Γ S K (1000 + c))) (cvU (caK Γ S K) o) = some (T.sub (1000 + c) o)) && decide (PySem.W.exmOne K (.ref (caK Γ S K (1000 + c))) (cvU (caK Γ S K) o) = some (T.sub (1000 + c) o))) &&
  (xccB K (caK Γ S K (1000 + c)) && (xfB K (caK Γ S K (1000 + c)) && (Γ.xcs.flatMap (·.2)).all fun f => He.eqO (PySem.W.findIn K (.ref (caK Γ S K (1000 + c))) f) (some none)))
def mkEx (K : PySem.W.Frag) : Bool := gxB Γ T S K && ((Γ.cls.all fun x => clxB K (He.ga K x)) && ((Γ.tys.all fun t => kitB K (caK Γ S K) T.ncls t (tyU Γ S K t)) && ((Γ.xcs.all fun p => oexB K (He.ga K p.1) && (He.eqO (PySem.W.findIn K (.ref (He.ga K p.1)) "__init__") (some (some (.ref (He.fAd K (p.1, some "__init__"))))) && (decide (PySem.W.typeIn K (.ref (He.fAd K (p.1, some "__init__"))) = some (.type "function")) && p.2.all fun f => He.eqO (PySem.W.findIn K (.ref (He.ga K p.1)) f) (some none)))) &&
  T.eqs.all fun q => He.eqO (PySem.W.findIn K (.ref (caK Γ S K q.1)) "__eq__") (some (some (.ref (afK Γ T S K q.2)))) && PySem.W.isFn K (.ref (afK Γ T S K q.2)))))
end
/-- what the objects at as name, but what was seen -/
def nextY (g : Addr → Option Obj) (seen as : List Addr) : List Addr := (as.flatMap fun a => match g a with
  | some o => He.refsD o
  | none => []).filter fun a => !(seen.contains a)
def layY (g : Addr → Option Obj) : Nat → List Addr → List Addr → List Addr
  | 0, seen, as => seen
  | n + 1, seen, as => layY g n (seen ++ nextY g seen as) (nextY g seen as)
def asY (g : Addr → Option Obj) (n : Nat) : List Addr := layY g n [mainGlobals] [mainGlobals]
abbrev AlY : Type := He.AlD × Bool
def obsY (n : Nat) (fa : List He.Fa) (fn : List He.DefD) (ex : PySem.W.Frag → Bool) (g : Addr → Option Obj) : AlY := (He.obsD fa fn (He.frG g (asY g n)), ex (He.frG g (asY g n)))
def hookY (n : Nat) (fa : List He.Fa) (fn : List He.DefD) (ex : PySem.W.Frag → Bool) : PySem.W.Hook where
  α := AlY
  obs := fun s => obsY n fa fn ex s.heap.get?
  val := fun _ => (He.valD fn, true)
  says := fun _ h => ∃ K : PySem.W.Frag, K.In h ∧ He.SaysD fa fn K ∧ ex K = true
  of := fun _ _ e => ⟨_, He.frG_in, congrArg (fun z : AlY => z.1) e, congrArg (fun z : AlY => z.2) e⟩
  keeps := fun _ _ _ ⟨K, hK, c⟩ k => ⟨K, PySem.W.Frag.In.keeps hK k, c⟩
theorem obsY_eq {n : Nat} {fa : List He.Fa} {fn : List He.DefD} {ex : PySem.W.Frag → Bool} {g : Addr → Option Obj} {s : Shared} (h : ∀ a, g a = s.heap.get? a) : obsY n fa fn ex g = (hookY n fa fn ex).obs s := by
  have e : g = s.heap.get? := funext h
  rw [e]; rfl
end DL

set_option maxHeartbeats 4000000
/-! The core text of law_k56_worlds_made, printed by gen2.py. -/
namespace Cr
open DL PySem PySem.Spec PyProof.Rows L2
def b0_f1 : Sms := (.c (.iff (.e (.cmp .nin (.v 2) (.v 1)))
 (.c (.ret (.bl false))
 .n)
 .n)
 .n)
/-- consists_of -/
def b0 : Sms := (.c (.for_ (.n 2) (.e (.v 0)) b0_f1)
 (.c (.ret (.bl true))
 .n))
def n0 : List Str := ["text", "characters", "character"]
def d0 : Df := { nm := "consists_of", kd := .fn, ps := ["text", "characters"], N := n0, fx := [], body := b0 }

/-- is_symbol_name -/
def b1 : Sms := (.c (.iff (.not (.e (.chn .le .le (.int 1) (.bi .len (.c (.v 0) .n)) (.int 8))))
 (.c (.ret (.bl false))
 .n)
 .n)
 (.c (.ret (.and (.cmp .in_ (.ix (.v 0) (.int 0)) (.g 0)) (.call 0 (.c (.sl (.v 0) (.s (.int 1)) .n) (.c (.bin .add (.g 0) (.g 1)) .n)))))
 .n))
def n1 : List Str := ["text"]
def d1 : Df := { nm := "is_symbol_name", kd := .fn, ps := ["text"], N := n1, fx := [], body := b1 }

def b2_f1 : Sms := (.c (.iff (.e (.isi (.v 2) false [.str]))
 (.c (.app 1 (.v 2))
 .n)
 (.c (.ext 1 (.call 2 (.c (.sl (.v 2) (.s (.int 1)) .n) .n)))
 .n))
 .n)
/-- occurrences -/
def b2 : Sms := (.c (.set (.n 1) (.lst .n))
 (.c (.for_ (.n 2) (.e (.v 0)) b2_f1)
 (.c (.ret (.v 1))
 .n)))
def n2 : List Str := ["terms", "found", "term"]
def d2 : Df := { nm := "occurrences", kd := .fn, ps := ["terms"], N := n2, fx := [], body := b2 }

def b3_f1 : Sms := (.c (.iff (.e (.cmp .nin (.v 2) (.v 1)))
 (.c (.app 1 (.v 2))
 .n)
 .n)
 .n)
/-- row_variables -/
def b3 : Sms := (.c (.set (.n 1) (.lst .n))
 (.c (.for_ (.n 2) (.e (.call 2 (.c (.v 0) .n))) b3_f1)
 (.c (.ret (.bi .tuple (.c (.v 1) .n)))
 .n)))
def n3 : List Str := ["row", "names", "name"]
def d3 : Df := { nm := "row_variables", kd := .fn, ps := ["row"], N := n3, fx := [], body := b3 }

/-- variables_of -/
def b4 : Sms := (.c (.ret (.call 3 (.c (.tup (.c (.v 0) .n)) .n)))
 .n)
def n4 : List Str := ["term"]
def d4 : Df := { nm := "variables_of", kd := .fn, ps := ["term"], N := n4, fx := [], body := b4 }

/-- table_length -/
def b5 : Sms := (.c (.ret (.ix (.tup (.c (.int 1) (.c (.v 0) (.c (.bin .mul (.v 0) (.v 0)) .n)))) (.v 1)))
 .n)
def n5 : List Str := ["size", "arity"]
def d5 : Df := { nm := "table_length", kd := .fn, ps := ["size", "arity"], N := n5, fx := [], body := b5 }

def b6_f1 : Sms := (.c (.set (.n 2) (.bin .add (.bin .mul (.v 2) (.v 0)) (.v 3)))
 .n)
/-- entry_index -/
def b6 : Sms := (.c (.set (.n 2) (.int 0))
 (.c (.for_ (.n 3) (.e (.v 1)) b6_f1)
 (.c (.ret (.v 2))
 .n)))
def n6 : List Str := ["size", "arguments", "index", "argument"]
def d6 : Df := { nm := "entry_index", kd := .fn, ps := ["size", "arguments"], N := n6, fx := [], body := b6 }

def b7_f1 : Sms := (.c (.iff (.e (.cmp .ne (.ix (.v 1) (.bin .add (.bin .mul (.v 2) (.v 0)) (.v 3))) (.ix (.v 1) (.bin .add (.bin .mul (.v 3) (.v 0)) (.v 2)))))
 (.c (.ret (.bl false))
 .n)
 .n)
 .n)
def b7_f2 : Sms := (.c (.for_ (.n 3) (.rng (.c (.v 2) .n)) b7_f1)
 .n)
/-- is_symmetric -/
def b7 : Sms := (.c (.for_ (.n 2) (.rng (.c (.v 0) .n)) b7_f2)
 (.c (.ret (.bl true))
 .n))
def n7 : List Str := ["size", "table", "x", "y"]
def d7 : Df := { nm := "is_symmetric", kd := .fn, ps := ["size", "table"], N := n7, fx := [], body := b7 }

def b8_f1 : Sms := (.c (.iff (.not (.e (.chn .le .lt (.int 0) (.v 3) (.v 0))))
 (.c (.ret (.bl false))
 .n)
 .n)
 .n)
/-- is_table -/
def b8 : Sms := (.c (.iff (.e (.cmp .ne (.bi .len (.c (.v 2) .n)) (.call 5 (.c (.v 0) (.c (.ix (.v 1) (.int 1)) .n)))))
 (.c (.ret (.bl false))
 .n)
 .n)
 (.c (.for_ (.n 3) (.e (.v 2)) b8_f1)
 (.c (.ret (.or (.not (.ix (.v 1) (.int 2))) (.call 7 (.c (.v 0) (.c (.v 2) .n)))))
 .n)))
def n8 : List Str := ["size", "symbol", "table", "thing"]
def d8 : Df := { nm := "is_table", kd := .fn, ps := ["size", "symbol", "table"], N := n8, fx := [], body := b8 }

def b9_e1 : Ex := (.bi .tuple (.c (.v 6) .n))
def b9_f1 : Sms := (.c (.iff (.not (.e (.call 8 (.c (.v 2) (.c (.ix (.fld (.v 1) "symbols") (.v 5)) (.c (.v 6) .n))))))
 (.c (.rse 1 (.c (.v 5) .n))
 .n)
 .n)
 .n)
/-- World.__init__ -/
def b9 : Sms := (.c (.set (.n 4) (.bi .tuple (.c (.lc b9_e1 [6] (.c [6] (.n 6) (.e (.v 3)) .n .n)) .n)))
 (.c (.for_ (.t (.c (.n 5) (.c (.n 6) .z))) (.enu (.v 4)) b9_f1)
 (.c (.setf 0 "signature" (.v 1))
 (.c (.setf 0 "size" (.v 2))
 (.c (.setf 0 "tables" (.v 4))
 .n)))))
def n9 : List Str := ["self", "signature", "size", "tables", "copied", "index", "table"]
def d9 : Df := { nm := "World", kd := (.mk 0), ps := ["self", "signature", "size", "tables"], N := n9, fx := [0], body := b9 }

def b10_e1 : Ex := (.om 0 10 (.v 0) "thing_of" (.c (.v 4) (.c (.v 2) .n)))
/-- World.thing_of -/
def b10 : Sms := (.c (.iff (.e (.isi (.v 1) false [.str]))
 (.c (.ret (.ix (.v 2) (.v 1)))
 .n)
 .n)
 (.c (.set (.n 3) (.lc b10_e1 [4] (.c [4] (.n 4) (.e (.sl (.v 1) (.s (.int 1)) .n)) .n .n)))
 (.c (.ret (.ix (.ix (.fld (.v 0) "tables") (.om 1 14 (.fld (.v 0) "signature") "rank" (.c (.ix (.v 1) (.int 0)) .n))) (.call 6 (.c (.fld (.v 0) "size") (.c (.v 3) .n)))))
 .n)))
def n10 : List Str := ["self", "term", "things", "arguments", "argument"]
def d10 : Df := { nm := "thing_of", kd := (.mt 0), ps := ["self", "term", "things"], N := n10, fx := [], body := b10 }

def b11_f1 : Sms := (.c (.iff (.e (.cmp .nin (.v 4) (.v 3)))
 (.c (.rse 2 (.c (.v 4) .n))
 .n)
 .n)
 .n)
/-- World.value -/
def b11 : Sms := (.c (.set (.n 3) (.dc (.v 4) (.v 5) [4, 5] (.c [4, 5] (.t (.c (.n 4) (.c (.n 5) .z))) (.e (.v 2)) .n .n)))
 (.c (.for_ (.n 4) (.e (.call 4 (.c (.v 1) .n))) b11_f1)
 (.c (.ret (.om 0 10 (.v 0) "thing_of" (.c (.v 1) (.c (.v 3) .n))))
 .n)))
def n11 : List Str := ["self", "term", "values", "things", "variable", "thing"]
def d11 : Df := { nm := "value", kd := (.mt 0), ps := ["self", "term", "values"], N := n11, fx := [], body := b11 }

def b12_f1 : Sms := (.c (.iff (.or (.not (.e (.call 1 (.c (.v 5) .n)))) (.e (.cmp .in_ (.v 5) (.v 3))))
 (.c (.rse 0 (.c (.v 4) .n))
 .n)
 .n)
 (.c (.iff (.or (.e (.cmp .nin (.v 6) (.tup (.c (.int 0) (.c (.int 1) (.c (.int 2) .n)))))) (.and (.e (.v 7)) (.e (.cmp .ne (.v 6) (.int 2)))))
 (.c (.rse 0 (.c (.v 4) .n))
 .n)
 .n)
 (.c (.app 2 (.tup (.c (.v 5) (.c (.v 6) (.c (.v 7) .n)))))
 (.c (.seti 3 (.v 5) (.tup (.c (.v 4) (.c (.v 6) (.c (.v 7) .n)))))
 .n))))
/-- Signature.__init__ -/
def b12 : Sms := (.c (.set (.n 2) (.lst .n))
 (.c (.set (.n 3) (.dsp .n))
 (.c (.for_ (.t (.c (.n 4) (.c (.t (.c (.n 5) (.c (.n 6) (.c (.n 7) .z)))) .z))) (.enu (.v 1)) b12_f1)
 (.c (.setf 0 "symbols" (.bi .tuple (.c (.v 2) .n)))
 (.c (.setf 0 "table" (.v 3))
 .n)))))
def n12 : List Str := ["self", "symbols", "triples", "table", "index", "name", "arity", "two_way"]
def d12 : Df := { nm := "Signature", kd := (.mk 1), ps := ["self", "symbols"], N := n12, fx := [0], body := b12 }

/-- Signature.arity -/
def b13 : Sms := (.c (.iff (.e (.cmp .in_ (.v 1) (.fld (.v 0) "table")))
 (.c (.ret (.ix (.ix (.fld (.v 0) "table") (.v 1)) (.int 1)))
 .n)
 .n)
 (.c (.ret .non)
 .n))
def n13 : List Str := ["self", "name"]
def d13 : Df := { nm := "arity", kd := (.mt 1), ps := ["self", "name"], N := n13, fx := [], body := b13 }

/-- Signature.rank -/
def b14 : Sms := (.c (.iff (.e (.cmp .in_ (.v 1) (.fld (.v 0) "table")))
 (.c (.ret (.ix (.ix (.fld (.v 0) "table") (.v 1)) (.int 0)))
 .n)
 .n)
 (.c (.ret .non)
 .n))
def n14 : List Str := ["self", "name"]
def d14 : Df := { nm := "rank", kd := (.mt 1), ps := ["self", "name"], N := n14, fx := [], body := b14 }

/-- Signature.__eq__ -/
def b15 : Sms := (.c (.ret (.and (.isi (.v 1) false [(.cls 1)]) (.cmp .eq (.fld (.v 0) "symbols") (.fld (.v 1) "symbols"))))
 .n)
def n15 : List Str := ["self", "other"]
def d15 : Df := { nm := "__eq__", kd := (.mt 1), ps := ["self", "other"], N := n15, fx := [], body := b15 }

/-- _law_whole -/
def b16 : Sms := (.c (.ret (.and (.isi (.v 0) false [.int]) (.not (.isi (.v 0) false [.bool]))))
 .n)
def n16 : List Str := ["_law_value_here"]
def d16 : Df := { nm := "_law_whole", kd := .fn, ps := ["_law_value_here"], N := n16, fx := [], body := b16 }

def b17_f1 : Sms := (.c (.set (.n 2) (.bin .mod (.bi .int (.c (.bin .add (.bin .mul (.v 2) (.int 31)) (.bin .mod (.bi .int (.c (.v 3) .n)) (.int 1000003))) .n)) (.int 1000003)))
 .n)
/-- _law_cell -/
def b17 : Sms := (.c (.iff (.e (.cmp .lt (.v 1) (.bi .len (.c (.v 0) .n))))
 (.c (.ret (.ix (.v 0) (.v 1)))
 .n)
 .n)
 (.c (.set (.n 2) (.int 17))
 (.c (.for_ (.n 3) (.e (.v 0)) b17_f1)
 (.c (.ret (.bin .mod (.bi .int (.c (.bin .mul (.bin .mul (.bin .add (.v 2) (.int 7)) (.bin .add (.v 1) (.int 3))) (.int 69621)) .n)) (.int 2147483647)))
 .n))))
def n17 : List Str := ["_law_script", "_law_k", "_law_seed", "_law_cell_here"]
def d17 : Df := { nm := "_law_cell", kd := .fn, ps := ["_law_script", "_law_k"], N := n17, fx := [], body := b17 }

def b18_f1 : Sms := (.c (.app 2 (.bin .mod (.bi .int (.c (.v 3) .n)) (.v 4)))
 (.c (.set (.n 3) (.bin .fdv (.bi .int (.c (.v 3) .n)) (.v 4)))
 .n))
def b18_f2 : Sms := (.c (.set (.n 5) (.bin .mod (.bi .int (.c (.bin .add (.bin .add (.bin .mul (.v 5) (.int 48271)) (.bin .mul (.int 974711) (.v 6))) (.int 12345)) .n)) (.int 2147483647)))
 (.c (.set (.n 7) (.bin .mod (.bi .int (.c (.bin .mul (.v 5) (.bin .add (.bin .fdv (.v 5) (.int 65537)) (.int 3))) .n)) (.int 2147483629)))
 (.c (.app 2 (.bin .mod (.bin .fdv (.v 7) (.int 19)) (.ix (.v 1) (.v 6))))
 .n)))
/-- _law_digits -/
def b18 : Sms := (.c (.set (.n 2) (.lst .n))
 (.c (.set (.n 3) (.bi .int (.c (.v 0) .n)))
 (.c (.iff (.e (.cmp .ge (.v 3) (.bin .pow (.int 10) (.int 18))))
 (.c (.set (.n 3) (.bin .sub (.v 3) (.bin .pow (.int 10) (.int 18))))
 (.c (.for_ (.n 4) (.e (.v 1)) b18_f1)
 (.c (.ret (.v 2))
 .n)))
 .n)
 (.c (.set (.n 5) (.bin .mod (.bi .int (.c (.v 3) .n)) (.int 2147483629)))
 (.c (.for_ (.n 6) (.rng (.c (.bi .len (.c (.v 1) .n)) .n)) b18_f2)
 (.c (.ret (.v 2))
 .n))))))
def n18 : List Str := ["_law_cell_here", "_law_sizes", "_law_row", "_law_rest", "_law_extent", "_law_seed", "_law_k", "_law_twice"]
def d18 : Df := { nm := "_law_digits", kd := .fn, ps := ["_law_cell_here", "_law_sizes"], N := n18, fx := [], body := b18 }

def b19_i1 : Sm := (.iff (.e (.cmp .gt (.ix (.v 0) (.int 1)) (.int 0)))
 (.c (.app 2 (.lst (.c (.int 0) (.c (.bl false) .n))))
 .n)
 .n)
def b19_i2 : Sm := (.iff (.e (.cmp .gt (.ix (.v 0) (.int 2)) (.int 0)))
 (.c (.app 2 (.lst (.c (.int 1) (.c (.bl false) .n))))
 .n)
 .n)
def b19_i3 : Sm := (.iff (.e (.cmp .gt (.ix (.v 0) (.int 3)) (.int 0)))
 (.c (.app 2 (.lst (.c (.int 2) (.c (.bl false) .n))))
 .n)
 .n)
def b19_i4 : Sm := (.iff (.e (.cmp .eq (.ix (.v 0) (.int 4)) (.int 3)))
 (.c (.app 2 (.lst (.c (.int 2) (.c (.bl true) .n))))
 .n)
 .n)
def b19_i5 : Sm := (.iff (.e (.cmp .eq (.ix (.v 0) (.int 5)) (.int 2)))
 (.c (.app 2 (.lst (.c (.int 0) (.c (.bl false) .n))))
 .n)
 .n)
def b19_f1 : Sms := (.c (.set (.n 7) (.bin .mod (.bi .int (.c (.v 4) .n)) (.bi .len (.c (.v 2) .n))))
 (.c (.set (.n 4) (.bin .fdv (.bi .int (.c (.v 4) .n)) (.bi .len (.c (.v 2) .n))))
 (.c (.pop 8 2 (.s (.v 7)))
 (.c (.app 3 (.tup (.c (.ix (.v 1) (.bin .mod (.bi .int (.c (.bin .add (.ix (.v 0) (.int 0)) (.bin .mul (.int 3) (.v 6))) .n)) (.int 10))) (.c (.ix (.v 8) (.int 0)) (.c (.ix (.v 8) (.int 1)) .n)))))
 .n))))
/-- _law_symbols -/
def b19 : Sms := (.c (.set (.n 1) (.lst (.c (.str "g") (.c (.str "g2h2g2h1") (.c (.str "hg") (.c (.str "g1") (.c (.str "g2h2g2h2") (.c (.str "gg") (.c (.str "h1") (.c (.str "h2") (.c (.str "g2") (.c (.str "h") .n))))))))))))
 (.c (.set (.n 2) (.lst (.c (.lst (.c (.int 0) (.c (.bl false) .n))) (.c (.lst (.c (.int 2) (.c (.bl true) .n))) .n))))
 (.c b19_i1
 (.c b19_i2
 (.c b19_i3
 (.c b19_i4
 (.c b19_i5
 (.c (.set (.n 3) (.lst .n))
 (.c (.set (.n 4) (.bi .int (.c (.ix (.v 0) (.int 6)) .n)))
 (.c (.set (.n 5) (.bi .len (.c (.v 2) .n)))
 (.c (.for_ (.n 6) (.rng (.c (.v 5) .n)) b19_f1)
 (.c (.ret (.v 3))
 .n))))))))))))
def n19 : List Str := ["_law_row", "_law_menu_here", "_law_plan", "_law_symbols_here", "_law_rest", "_law_many", "_law_k", "_law_at", "_law_picked"]
def d19 : Df := { nm := "_law_symbols", kd := .fn, ps := ["_law_row"], N := n19, fx := [], body := b19 }

def b20_i1 : Sm := (.iff (.e (.cmp .lt (.v 3) (.bi .len (.c (.v 2) .n))))
 (.c (.set (.n 5) (.bi .int (.c (.ix (.v 2) (.v 3)) .n)))
 .n)
 .n)
def b20_c1 : Cdo := (.s (.e (.cmp .eq (.ix (.v 13) (.int 1)) (.int 0))))
def b20_c2 : Cdo := (.s (.e (.ix (.v 13) (.int 2))))
def b20_i2 : Sm := (.iff (.e (.cmp .eq (.v 4) (.int 1)))
 (.c (.set (.n 7) (.int 4))
 (.c (.set (.n 8) (.bin .add (.bi .list (.c (.v 0) .n)) (.lc (.v 13) [13] (.c [13] (.n 13) (.e (.v 0)) b20_c2 .n))))
 .n))
 .n)
def b20_c3 : Cdo := (.s (.e (.cmp .gt (.ix (.v 13) (.int 1)) (.int 0))))
def b20_c4 : Cdo := (.s (.e (.ix (.v 13) (.int 2))))
def b20_c5 : Cdo := (.s (.e (.cmp .eq (.ix (.v 13) (.int 1)) (.int 0))))
def b20_i3 : Sm := (.iff (.e (.cmp .ge (.v 4) (.int 2)))
 (.c (.set (.n 7) (.int 0))
 (.c (.set (.n 8) (.bin .add (.lc (.v 13) [13] (.c [13] (.n 13) (.e (.v 0)) b20_c3 .n)) (.lc (.v 13) [13] (.c [13] (.n 13) (.e (.v 0)) b20_c4 .n))))
 (.c (.iff (.e (.cmp .eq (.bin .mod (.bin .fdv (.v 5) (.int 120)) (.int 10)) (.int 1)))
 (.c (.set (.n 8) (.lc (.v 13) [13] (.c [13] (.n 13) (.e (.v 0)) b20_c5 .n)))
 .n)
 .n)
 .n)))
 .n)
def b20_i4 : Sm := (.iff (.and (.e (.cmp .gt (.bi .len (.c (.v 1) .n)) (.int 0))) (.e (.cmp .lt (.bin .mod (.v 5) (.int 10)) (.v 7))))
 (.c (.ret (.lst (.c (.ix (.v 1) (.bin .mod (.bin .fdv (.v 5) (.int 10)) (.bi .len (.c (.v 1) .n)))) (.c (.v 6) .n))))
 .n)
 .n)
def b20_f1 : Sms := (.c (.set (.n 12) (.call 20 (.c (.v 0) (.c (.v 1) (.c (.v 2) (.c (.v 6) (.c (.bin .sub (.v 4) (.int 1)) .n)))))))
 (.c (.app 10 (.ix (.v 12) (.int 0)))
 (.c (.set (.n 6) (.ix (.v 12) (.int 1)))
 .n)))
/-- _law_term -/
def b20 : Sms := (.c (.set (.n 5) (.int 0))
 (.c b20_i1
 (.c (.set (.n 6) (.bin .add (.v 3) (.int 1)))
 (.c (.set (.n 7) (.int 8))
 (.c (.set (.n 8) (.lc (.v 13) [13] (.c [13] (.n 13) (.e (.v 0)) b20_c1 .n)))
 (.c b20_i2
 (.c b20_i3
 (.c b20_i4
 (.c (.set (.n 9) (.ix (.v 8) (.bin .mod (.bin .fdv (.v 5) (.int 10)) (.bi .len (.c (.v 8) .n)))))
 (.c (.set (.n 10) (.lst (.c (.ix (.v 9) (.int 0)) .n)))
 (.c (.for_ (.n 11) (.rng (.c (.ix (.v 9) (.int 1)) .n)) b20_f1)
 (.c (.ret (.lst (.c (.bi .tuple (.c (.v 10) .n)) (.c (.v 6) .n))))
 .n))))))))))))
def n20 : List Str := ["_law_symbols_here", "_law_names", "_law_row", "_law_at", "_law_depth", "_law_digit", "_law_behind", "_law_chance", "_law_menu_here", "_law_chosen", "_law_parts", "_law_k", "_law_inner", "_law_symbol"]
def d20 : Df := { nm := "_law_term", kd := .fn, ps := ["_law_symbols_here", "_law_names", "_law_row", "_law_at", "_law_depth"], N := n20, fx := [], body := b20 }

def b21_f1 : Sms := (.c (.set (.n 1) (.bin .add (.v 1) (.call 21 (.c (.v 2) .n))))
 .n)
/-- _law_letters -/
def b21 : Sms := (.c (.iff (.e (.isi (.v 0) false [.str]))
 (.c (.ret (.lst (.c (.v 0) .n)))
 .n)
 .n)
 (.c (.set (.n 1) (.lst .n))
 (.c (.for_ (.n 2) (.e (.sl (.v 0) (.s (.int 1)) .n)) b21_f1)
 (.c (.ret (.v 1))
 .n))))
def n21 : List Str := ["_law_tree", "_law_found", "_law_item"]
def d21 : Df := { nm := "_law_letters", kd := .fn, ps := ["_law_tree"], N := n21, fx := [], body := b21 }

def b22_e1 : Ex := (.ix (.v 2) (.bin .mod (.bi .int (.c (.bin .add (.v 0) (.bin .mul (.int 3) (.v 3))) .n)) (.int 8)))
/-- _law_menu -/
def b22 : Sms := (.c (.set (.n 2) (.lst (.c (.str "X") (.c (.str "Y1") (.c (.str "X10010") (.c (.str "X1") (.c (.str "Y") (.c (.str "X2") (.c (.str "X01") (.c (.str "X10011") .n))))))))))
 (.c (.ret (.lc b22_e1 [3] (.c [3] (.n 3) (.rng (.c (.v 1) .n)) .n .n)))
 .n))
def n22 : List Str := ["_law_digit", "_law_many", "_law_menu_here", "_law_k"]
def d22 : Df := { nm := "_law_menu", kd := .fn, ps := ["_law_digit", "_law_many"], N := n22, fx := [], body := b22 }

def b23_c1 : Cdo := (.s (.e (.cmp .eq (.ix (.ix (.v 0) (.v 8)) (.int 0)) (.ix (.v 3) (.int 0)))))
def b23_f1 : Sms := (.c (.set (.n 6) (.bin .add (.bin .mul (.v 6) (.v 1)) (.call 23 (.c (.v 0) (.c (.v 1) (.c (.v 2) (.c (.v 7) (.c (.v 4) .n))))))))
 .n)
/-- _law_value -/
def b23 : Sms := (.c (.iff (.e (.isi (.v 3) false [.str]))
 (.c (.ret (.ix (.v 4) (.v 3)))
 .n)
 .n)
 (.c (.set (.n 5) (.ix (.lc (.v 8) [8] (.c [8] (.n 8) (.rng (.c (.bi .len (.c (.v 0) .n)) .n)) b23_c1 .n)) (.int 0)))
 (.c (.set (.n 6) (.int 0))
 (.c (.for_ (.n 7) (.e (.sl (.v 3) (.s (.int 1)) .n)) b23_f1)
 (.c (.ret (.ix (.ix (.v 2) (.v 5)) (.v 6)))
 .n)))))
def n23 : List Str := ["_law_symbols_here", "_law_extent", "_law_boards", "_law_tree", "_law_known", "_law_at", "_law_index", "_law_item", "_law_k"]
def d23 : Df := { nm := "_law_value", kd := .fn, ps := ["_law_symbols_here", "_law_extent", "_law_boards", "_law_tree", "_law_known"], N := n23, fx := [], body := b23 }

def b24_i1 : Sm := (.iff (.e (.cmp .eq (.ix (.v 0) (.int 7)) (.int 11)))
 (.c (.ret (.lst .n))
 .n)
 .n)
def b24_e1 : Ex := (.tup (.c (.ix (.v 3) (.int 0)) (.c (.ix (.v 3) (.int 1)) (.c (.bl false) .n))))
def b24_i2 : Sm := (.iff (.e (.cmp .eq (.ix (.v 0) (.int 7)) (.int 1)))
 (.c (.ret (.lc b24_e1 [3] (.c [3] (.n 3) (.e (.v 1)) .n .n)))
 .n)
 .n)
def b24_i3 : Sm := (.iff (.e (.cmp .in_ (.ix (.v 0) (.int 7)) (.lst (.c (.int 2) (.c (.int 4) .n)))))
 (.c (.set (.n 2) (.lst (.c (.tup (.c (.str "g3") (.c (.int 2) (.c (.bl true) .n)))) (.c (.tup (.c (.str "h3") (.c (.int 0) (.c (.bl false) .n)))) (.c (.tup (.c (.str "gh") (.c (.int 1) (.c (.bl false) .n)))) (.c (.tup (.c (.str "hh") (.c (.int 2) (.c (.bl false) .n)))) (.c (.tup (.c (.str "g0") (.c (.int 0) (.c (.bl false) .n)))) .n)))))))
 (.c (.set (.n 2) (.bin .add (.v 2) (.lst (.c (.tup (.c (.str "h0") (.c (.int 2) (.c (.bl true) .n)))) (.c (.tup (.c (.str "g13") (.c (.int 2) (.c (.bl false) .n)))) (.c (.tup (.c (.str "h13") (.c (.int 1) (.c (.bl false) .n)))) (.c (.tup (.c (.str "g01") (.c (.int 0) (.c (.bl false) .n)))) (.c (.tup (.c (.str "g10") (.c (.int 2) (.c (.bl true) .n)))) .n))))))))
 (.c (.ret (.bin .add (.v 1) (.sl (.v 2) .n (.s (.bin .sub (.int 12) (.bi .len (.c (.v 1) .n)))))))
 .n)))
 .n)
def b24_c1 : Cdo := (.s (.e (.cmp .eq (.ix (.v 3) (.int 1)) (.int 0))))
def b24_i4 : Sm := (.iff (.e (.cmp .eq (.ix (.v 0) (.int 7)) (.int 3)))
 (.c (.ret (.lc (.v 3) [3] (.c [3] (.n 3) (.e (.v 1)) b24_c1 .n)))
 .n)
 .n)
/-- _law_signs -/
def b24 : Sms := (.c (.set (.n 1) (.call 19 (.c (.v 0) .n)))
 (.c b24_i1
 (.c b24_i2
 (.c b24_i3
 (.c b24_i4
 (.c (.ret (.v 1))
 .n))))))
def n24 : List Str := ["_law_row", "_law_symbols_here", "_law_more", "_law_symbol"]
def d24 : Df := { nm := "_law_signs", kd := .fn, ps := ["_law_row"], N := n24, fx := [], body := b24 }

def b25_c1 : Cdo := (.s (.e (.cmp .eq (.ix (.v 11) (.int 1)) (.int 0))))
def b25_e1 : Ex := (.tup (.c (.ix (.v 11) (.int 0)) .n))
def b25_c2 : Cdo := (.s (.e (.cmp .gt (.ix (.v 11) (.int 1)) (.int 0))))
def b25_f1 : Sms := (.c (.set (.n 8) (.bi .int (.c (.ix (.v 2) (.bin .add (.int 1) (.v 7))) .n)))
 (.c (.set (.n 9) (.ix (.v 5) (.bin .mod (.bin .fdv (.v 8) (.int 2)) (.bi .len (.c (.v 5) .n)))))
 (.c (.set (.n 10) (.ix (.v 4) (.bin .mod (.bin .fdv (.v 8) (.int 24)) (.bi .len (.c (.v 4) .n)))))
 (.c (.iff (.e (.cmp .eq (.ix (.v 9) (.int 1)) (.int 1)))
 (.c (.set (.n 6) (.tup (.c (.ix (.v 9) (.int 0)) (.c (.v 6) .n))))
 .n)
 (.c (.iff (.e (.cmp .eq (.bin .mod (.v 8) (.int 2)) (.int 1)))
 (.c (.set (.n 6) (.tup (.c (.ix (.v 9) (.int 0)) (.c (.v 10) (.c (.v 6) .n)))))
 .n)
 (.c (.set (.n 6) (.tup (.c (.ix (.v 9) (.int 0)) (.c (.v 6) (.c (.v 10) .n)))))
 .n))
 .n))
 .n))))
/-- _law_tower -/
def b25 : Sms := (.c (.set (.n 4) (.bin .add (.bi .list (.c (.v 1) .n)) (.lc b25_e1 [11] (.c [11] (.n 11) (.e (.v 0)) b25_c1 .n))))
 (.c (.set (.n 5) (.lc (.v 11) [11] (.c [11] (.n 11) (.e (.v 0)) b25_c2 .n)))
 (.c (.set (.n 6) (.ix (.v 4) (.bin .mod (.bi .int (.c (.ix (.v 2) (.int 0)) .n)) (.bi .len (.c (.v 4) .n)))))
 (.c (.for_ (.n 7) (.rng (.c (.v 3) .n)) b25_f1)
 (.c (.ret (.v 6))
 .n)))))
def n25 : List Str := ["_law_symbols_here", "_law_names", "_law_row", "_law_many", "_law_menu_here", "_law_wide", "_law_tree", "_law_k", "_law_digit", "_law_sign", "_law_leaf", "_law_symbol"]
def d25 : Df := { nm := "_law_tower", kd := .fn, ps := ["_law_symbols_here", "_law_names", "_law_row", "_law_many"], N := n25, fx := [], body := b25 }

def b26_f1 : Sms := (.c (.set (.n 5) (.bin .mod (.bi .int (.c (.bin .add (.ix (.v 2) (.bin .mod (.v 4) (.bi .len (.c (.v 2) .n)))) (.bin .fdv (.v 4) (.bi .len (.c (.v 2) .n)))) .n)) (.v 1)))
 (.c (.iff (.and (.e (.ix (.v 0) (.int 2))) (.e (.cmp .gt (.bin .fdv (.v 4) (.v 1)) (.bin .mod (.v 4) (.v 1)))))
 (.c (.set (.n 5) (.ix (.v 3) (.bin .add (.bin .mul (.bin .mod (.v 4) (.v 1)) (.v 1)) (.bin .fdv (.v 4) (.v 1)))))
 .n)
 .n)
 (.c (.app 3 (.v 5))
 .n)))
/-- _law_table -/
def b26 : Sms := (.c (.set (.n 3) (.lst .n))
 (.c (.for_ (.n 4) (.rng (.c (.ix (.lst (.c (.int 1) (.c (.v 1) (.c (.bin .mul (.v 1) (.v 1)) .n)))) (.ix (.v 0) (.int 1))) .n)) b26_f1)
 (.c (.ret (.v 3))
 .n)))
def n26 : List Str := ["_law_symbol", "_law_extent", "_law_row", "_law_table_here", "_law_k", "_law_entry"]
def d26 : Df := { nm := "_law_table", kd := .fn, ps := ["_law_symbol", "_law_extent", "_law_row"], N := n26, fx := [], body := b26 }

def b27_e1 : Ex := (.bi .list (.c (.v 8) .n))
def b27_c1 : Cdo := (.s (.e (.ix (.ix (.v 0) (.v 11)) (.int 2))))
/-- _law_spoil -/
def b27 : Sms := (.c (.setN 5 (.lcn b27_e1 [8] (.c [8] (.n 8) (.e (.v 2)) .n .n)))
 (.c (.set (.n 6) (.lc (.v 11) [11] (.c [11] (.n 11) (.rng (.c (.bi .len (.c (.v 0) .n)) .n)) b27_c1 .n)))
 (.c (.set (.n 7) (.bin .mod (.bi .int (.c (.ix (.v 3) (.int 0)) .n)) (.bi .len (.c (.v 0) .n))))
 (.c (.iff (.and (.e (.cmp .eq (.ix (.v 3) (.int 1)) (.int 4))) (.e (.cmp .gt (.bi .len (.c (.v 6) .n)) (.int 0))))
 (.c (.set (.n 7) (.ix (.v 6) (.bin .mod (.bi .int (.c (.ix (.v 3) (.int 0)) .n)) (.bi .len (.c (.v 6) .n)))))
 .n)
 .n)
 (.c (.nal 8 5 (.v 7))
 (.c (.set (.n 9) (.bin .mod (.bi .int (.c (.ix (.v 3) (.int 2)) .n)) (.bi .max (.c (.int 1) (.c (.bi .len (.c (.v 8) .n)) .n)))))
 (.c (.iff (.e (.cmp .eq (.ix (.v 3) (.int 1)) (.int 5)))
 (.c (.insr 8 (.v 9) (.bin .mod (.bi .int (.c (.ix (.v 3) (.int 3)) .n)) (.v 1)))
 .n)
 (.c (.iff (.and (.e (.cmp .eq (.ix (.v 3) (.int 1)) (.int 6))) (.e (.cmp .gt (.bi .len (.c (.v 8) .n)) (.int 0))))
 (.c (.popx 8 (.s (.v 9)))
 .n)
 (.c (.iff (.e (.cmp .eq (.ix (.v 3) (.int 1)) (.int 7)))
 (.c (.nrow 5 7 (.bin .mul (.lst (.c (.bin .mod (.bi .int (.c (.ix (.v 3) (.int 3)) .n)) (.v 1)) .n)) (.ix (.lst (.c (.v 1) (.c (.bin .mul (.v 1) (.v 1)) (.c (.v 1) .n)))) (.ix (.ix (.v 0) (.v 7)) (.int 1)))))
 .n)
 (.c (.iff (.e (.cmp .eq (.ix (.v 3) (.int 1)) (.int 8)))
 (.c (.nrow 5 7 (.lst .n))
 .n)
 (.c (.iff (.e (.cmp .gt (.bi .len (.c (.v 8) .n)) (.int 0)))
 (.c (.set (.n 10) (.bin .mod (.bi .int (.c (.bin .add (.bin .add (.ix (.v 8) (.v 9)) (.int 1)) (.bin .mod (.bi .int (.c (.ix (.v 3) (.int 3)) .n)) (.bi .max (.c (.int 1) (.c (.bin .sub (.v 1) (.int 1)) .n))))) .n)) (.v 1)))
 (.c (.seti 8 (.v 9) (.ix (.lst (.c (.neg (.int 1)) (.c (.v 1) (.c (.v 4) (.c (.v 10) (.c (.v 10) (.c (.int 0) (.c (.int 0) .n)))))))) (.ix (.v 3) (.int 1))))
 .n))
 .n)
 .n))
 .n))
 .n))
 .n))
 (.c (.ret (.v 5))
 .n))))))))
def n27 : List Str := ["_law_symbols_here", "_law_extent", "_law_boards", "_law_row", "_law_number", "_law_spoilt", "_law_crossed", "_law_at", "_law_table_here", "_law_place", "_law_thing", "_law_k"]
def d27 : Df := { nm := "_law_spoil", kd := .fn, ps := ["_law_symbols_here", "_law_extent", "_law_boards", "_law_row", "_law_number"], N := n27, fx := [], body := b27 }

def b28_f1 : Sms := (.c (.iff (.or (.e (.cmp .lt (.ix (.v 4) (.v 5)) (.int 0))) (.e (.cmp .ge (.ix (.v 4) (.v 5)) (.v 1))))
 (.c (.ret (.v 3))
 .n)
 .n)
 (.c (.iff (.and (.e (.ix (.ix (.v 0) (.v 3)) (.int 2))) (.e (.cmp .ne (.ix (.v 4) (.v 5)) (.ix (.v 4) (.bin .add (.bin .mul (.bin .mod (.v 5) (.v 1)) (.v 1)) (.bin .fdv (.v 5) (.v 1)))))))
 (.c (.ret (.v 3))
 .n)
 .n)
 .n))
def b28_f2 : Sms := (.c (.set (.n 4) (.ix (.v 2) (.v 3)))
 (.c (.iff (.e (.cmp .ne (.bi .len (.c (.v 4) .n)) (.ix (.lst (.c (.int 1) (.c (.v 1) (.c (.bin .mul (.v 1) (.v 1)) .n)))) (.ix (.ix (.v 0) (.v 3)) (.int 1)))))
 (.c (.ret (.v 3))
 .n)
 .n)
 (.c (.for_ (.n 5) (.rng (.c (.bi .len (.c (.v 4) .n)) .n)) b28_f1)
 .n)))
/-- _law_first_bad -/
def b28 : Sms := (.c (.for_ (.n 3) (.rng (.c (.bi .len (.c (.v 0) .n)) .n)) b28_f2)
 (.c (.ret (.bi .len (.c (.v 0) .n)))
 .n))
def n28 : List Str := ["_law_symbols_here", "_law_extent", "_law_boards", "_law_k", "_law_table_here", "_law_at"]
def d28 : Df := { nm := "_law_first_bad", kd := .fn, ps := ["_law_symbols_here", "_law_extent", "_law_boards"], N := n28, fx := [], body := b28 }

def b29_f1 : Sms := (.c (.app 4 (.call 26 (.c (.ix (.v 1) (.v 5)) (.c (.v 3) (.c (.call 18 (.c (.call 17 (.c (.v 0) (.c (.bin .add (.int 2) (.v 5)) .n))) (.c (.bin .mul (.lst (.c (.int 60) .n)) (.int 36)) .n))) .n)))))
 .n)
def b29_e1 : Ex := (.bi .list (.c (.v 19) .n))
def b29_f2 : Sms := (.c (.iff (.e (.cmp .gt (.bi .len (.c (.v 1) .n)) (.int 0)))
 (.c (.set (.n 7) (.call 18 (.c (.call 17 (.c (.v 0) (.c (.bin .add (.int 14) (.bin .mul (.int 2) (.v 5))) .n))) (.c (.lst (.c (.int 12) (.c (.int 9) (.c (.int 1600) (.c (.int 40) .n))))) .n))))
 (.c (.set (.n 8) (.bin .sub (.bin .mod (.bi .int (.c (.call 17 (.c (.v 0) (.c (.bin .add (.int 15) (.bin .mul (.int 2) (.v 5))) .n))) .n)) (.bin .pow (.int 10) (.int 40))) (.bin .pow (.int 10) (.int 20))))
 (.c (.set (.n 6) (.call 27 (.c (.v 1) (.c (.v 3) (.c (.v 6) (.c (.v 7) (.c (.v 8) .n)))))))
 .n)))
 .n)
 .n)
def b29_c1 : Cdo := (.s (.e (.cmp .eq (.ix (.v 20) (.int 1)) (.int 0))))
def b29_e2 : Ex := (.tup (.c (.ix (.v 20) (.int 0)) .n))
def b29_c2 : Cdo := (.s (.e (.cmp .gt (.ix (.v 20) (.int 1)) (.int 0))))
def b29_e3 : Ex := (.tup (.c (.ix (.v 9) (.v 5)) (.c (.bin .mod (.ix (.v 15) (.v 5)) (.v 3)) .n)))
def b29_c3 : Cdo := (.s (.and (.e (.cmp .eq (.bin .mod (.bin .fdv (.ix (.v 15) (.int 6)) (.ix (.lst (.c (.int 1) (.c (.int 2) (.c (.int 4) (.c (.int 8) (.c (.int 16) (.c (.int 32) .n))))))) (.v 5))) (.int 2)) (.int 1))) (.e (.cmp .lt (.ix (.v 15) (.int 6)) (.int 64)))))
def b29_e4 : Ex := (.ix (.v 9) (.v 5))
def b29_c4 : Cdo := (.s (.e (.cmp .nin (.ix (.v 21) (.int 0)) (.v 17))))
/-- _law_drawn -/
def b29 : Sms := (.c (.set (.n 1) (.call 24 (.c (.call 18 (.c (.call 17 (.c (.v 0) (.c (.int 0) .n))) (.c (.lst (.c (.int 10) (.c (.int 6) (.c (.int 4) (.c (.int 3) (.c (.int 4) (.c (.int 3) (.c (.int 720) (.c (.int 12) .n))))))))) .n))) .n)))
 (.c (.set (.n 2) (.call 18 (.c (.call 17 (.c (.v 0) (.c (.int 1) .n))) (.c (.lst (.c (.int 8) (.c (.int 44) (.c (.int 6) (.c (.int 8) (.c (.int 8) (.c (.int 6) (.c (.int 6) .n)))))))) .n))))
 (.c (.set (.n 3) (.ix (.lst (.c (.bi .min (.c (.int 40) (.c (.bin .add (.int 1) (.ix (.v 2) (.int 1))) .n))) (.c (.int 1) (.c (.int 2) (.c (.int 2) (.c (.int 3) (.c (.int 3) (.c (.int 4) (.c (.int 5) .n))))))))) (.ix (.v 2) (.int 0))))
 (.c (.set (.n 4) (.lst .n))
 (.c (.for_ (.n 5) (.rng (.c (.bi .len (.c (.v 1) .n)) .n)) b29_f1)
 (.c (.set (.n 6) (.lc b29_e1 [19] (.c [19] (.n 19) (.e (.v 4)) .n .n)))
 (.c (.for_ (.n 5) (.rng (.c (.ix (.lst (.c (.int 0) (.c (.int 1) (.c (.int 1) (.c (.int 1) (.c (.int 2) (.c (.int 3) .n))))))) (.ix (.v 2) (.int 2))) .n)) b29_f2)
 (.c (.set (.n 9) (.call 22 (.c (.ix (.v 2) (.int 3)) (.c (.int 6) .n))))
 (.c (.set (.n 10) (.sl (.v 9) .n (.s (.ix (.lst (.c (.int 4) (.c (.int 3) (.c (.int 6) (.c (.int 2) (.c (.int 5) (.c (.int 3) (.c (.int 1) (.c (.int 0) .n))))))))) (.ix (.v 2) (.int 4))))))
 (.c (.set (.n 11) (.bin .add (.lst (.c (.ix (.v 9) (.int 0)) .n)) (.lc b29_e2 [20] (.c [20] (.n 20) (.e (.v 1)) b29_c1 .n))))
 (.c (.set (.n 12) (.ix (.v 11) (.bin .mod (.bi .int (.c (.ix (.v 2) (.int 1)) .n)) (.bi .len (.c (.v 11) .n)))))
 (.c (.set (.n 13) (.lc (.v 20) [20] (.c [20] (.n 20) (.e (.v 1)) b29_c2 .n)))
 (.c (.iff (.and (.e (.cmp .gt (.bi .len (.c (.v 13) .n)) (.int 0))) (.e (.cmp .eq (.ix (.v 2) (.int 5)) (.int 0))))
 (.c (.set (.n 14) (.call 18 (.c (.call 17 (.c (.v 0) (.c (.int 20) .n))) (.c (.bin .mul (.lst (.c (.int 10080) .n)) (.int 30)) .n))))
 (.c (.set (.n 12) (.call 25 (.c (.v 1) (.c (.v 10) (.c (.v 14) (.c (.bin .add (.int 1) (.bin .mod (.bi .int (.c (.bin .fdv (.ix (.v 14) (.int 0)) (.int 12)) .n)) (.int 29))) .n))))))
 .n))
 (.c (.iff (.e (.cmp .gt (.bi .len (.c (.v 13) .n)) (.int 0)))
 (.c (.set (.n 14) (.call 18 (.c (.call 17 (.c (.v 0) (.c (.int 20) .n))) (.c (.bin .mul (.lst (.c (.int 1200) .n)) (.int 15)) .n))))
 (.c (.set (.n 12) (.ix (.call 20 (.c (.v 1) (.c (.v 10) (.c (.v 14) (.c (.int 0) (.c (.ix (.lst (.c (.int 3) (.c (.int 2) (.c (.int 3) (.c (.int 3) (.c (.int 1) (.c (.int 3) .n))))))) (.ix (.v 2) (.int 5))) .n)))))) (.int 0)))
 .n))
 .n)
 .n))
 (.c (.set (.n 15) (.call 18 (.c (.call 17 (.c (.v 0) (.c (.int 21) .n))) (.c (.bin .add (.bin .mul (.lst (.c (.int 40) .n)) (.int 6)) (.lst (.c (.int 128) (.c (.int 6) .n)))) .n))))
 (.c (.set (.n 16) (.lc b29_e3 [5] (.c [5] (.n 5) (.rng (.c (.int 6) .n)) .n .n)))
 (.c (.set (.n 16) (.bin .add (.sl (.v 16) (.s (.ix (.v 15) (.int 7))) .n) (.sl (.v 16) .n (.s (.ix (.v 15) (.int 7))))))
 (.c (.set (.n 17) (.lc b29_e4 [5] (.c [5] (.n 5) (.rng (.c (.int 6) .n)) b29_c3 .n)))
 (.c (.set (.n 18) (.lc (.v 21) [21] (.c [21] (.n 21) (.e (.v 16)) b29_c4 .n)))
 (.c (.ret (.lst (.c (.v 1) (.c (.v 3) (.c (.v 4) (.c (.v 6) (.c (.v 12) (.c (.v 16) (.c (.v 18) (.c (.ix (.v 2) (.int 6)) .n))))))))))
 .n)))))))))))))))))))
def n29 : List Str := ["_law_script", "_law_symbols_here", "_law_shape", "_law_extent", "_law_boards", "_law_k", "_law_spoilt", "_law_row", "_law_number", "_law_names", "_law_shown", "_law_leaves", "_law_tree", "_law_wide", "_law_digits_here", "_law_worths", "_law_full", "_law_gone", "_law_some", "_law_table_here", "_law_symbol", "_law_entry"]
def d29 : Df := { nm := "_law_drawn", kd := .fn, ps := ["_law_script"], N := n29, fx := [], body := b29 }

def b30_e1 : Ex := (.bi .list (.c (.v 3) .n))
def b30_e2 : Ex := (.bi .tuple (.c (.v 3) .n))
def b30_e3 : Ex := (.ix (.lst (.c (.bi .list (.c (.ix (.v 0) (.v 4)) .n)) (.c (.bi .tuple (.c (.ix (.v 0) (.v 4)) .n)) .n))) (.bin .mod (.bi .int (.c (.bin .add (.v 4) (.v 1)) .n)) (.int 2)))
/-- _law_passed -/
def b30 : Sms := (.c (.set (.n 2) (.lc b30_e1 [3] (.c [3] (.n 3) (.e (.v 0)) .n .n)))
 (.c (.iff (.e (.cmp .in_ (.v 1) (.lst (.c (.int 1) (.c (.int 3) .n)))))
 (.c (.set (.n 2) (.lc b30_e2 [3] (.c [3] (.n 3) (.e (.v 0)) .n .n)))
 .n)
 .n)
 (.c (.iff (.e (.cmp .gt (.v 1) (.int 3)))
 (.c (.set (.n 2) (.lc b30_e3 [4] (.c [4] (.n 4) (.rng (.c (.bi .len (.c (.v 0) .n)) .n)) .n .n)))
 .n)
 .n)
 (.c (.iff (.e (.cmp .in_ (.v 1) (.lst (.c (.int 2) (.c (.int 3) (.c (.int 5) .n))))))
 (.c (.ret (.bi .tuple (.c (.v 2) .n)))
 .n)
 .n)
 (.c (.ret (.v 2))
 .n)))))
def n30 : List Str := ["_law_boards", "_law_form", "_law_rows", "_law_table_here", "_law_k"]
def d30 : Df := { nm := "_law_passed", kd := .fn, ps := ["_law_boards", "_law_form"], N := n30, fx := [], body := b30 }

/-- _law_made -/
def b31 : Sms := (.c (.tri (.c (.ret (.lst (.c (.str "made") (.c (.mk 0 9 (.c (.v 0) (.c (.v 1) (.c (.v 2) .n)))) .n))))
 .n)
 (some 3) (some 3) (.set 4 (.isx [(some 10), (some 19), (some 11), (some 26), (some 5), (some 0), (some 4), (some 23), (some 20)] true)
 (.set 5 (.isx [(some 12), (some 13), (some 17), (some 16), (some 2), (some 25), (some 14)] true)
 (.set 6 (.isx [(some 8), (some 18), (some 22), (some 21), (some 15), (some 9), (some 6)] true)
 (.set 7 (.isx [(some 24), (some 7)] true)
 (.iff (.and (.isx [(some 1)] false) (.and (.isx [none] false) (.and (.not (.v 4)) (.and (.not (.v 5)) (.and (.not (.v 6)) (.not (.v 7))))))) (.rets [(.str "bad"), (.fld "index")])
 (.rets [(.str "other"), (.int 0)])))))))
 .n)
def n31 : List Str := ["_law_sig", "_law_extent", "_law_passed_here", "e", "_law_early", "_law_middle", "_law_late", "_law_last"]
def d31 : Df := { nm := "_law_made", kd := .fn, ps := ["_law_sig", "_law_extent", "_law_passed_here"], N := n31, fx := [], body := b31 }

def b32_f1 : Sms := (.c (.iff (.not (.e (.call 16 (.c (.v 5) .n))))
 (.c (.ret (.bl false))
 .n)
 .n)
 .n)
def b32_f2 : Sms := (.c (.iff (.or (.not (.e (.isi (.ix (.fld (.v 0) "tables") (.v 4)) false [.tup]))) (.e (.cmp .ne (.bi .list (.c (.ix (.fld (.v 0) "tables") (.v 4)) .n)) (.bi .list (.c (.ix (.v 3) (.v 4)) .n)))))
 (.c (.ret (.bl false))
 .n)
 .n)
 (.c (.for_ (.n 5) (.e (.ix (.fld (.v 0) "tables") (.v 4))) b32_f1)
 .n))
/-- _law_fields -/
def b32 : Sms := (.c (.iff (.or (.not (.e (.isi (.v 0) false [(.cls 0)]))) (.not (.e (.cmp .eq (.fld (.v 0) "signature") (.mk 1 12 (.c (.bi .list (.c (.v 1) .n)) .n))))))
 (.c (.ret (.bl false))
 .n)
 .n)
 (.c (.iff (.or (.not (.e (.call 16 (.c (.fld (.v 0) "size") .n)))) (.e (.cmp .ne (.fld (.v 0) "size") (.v 2))))
 (.c (.ret (.bl false))
 .n)
 .n)
 (.c (.iff (.or (.not (.e (.isi (.fld (.v 0) "tables") false [.tup]))) (.e (.cmp .ne (.bi .len (.c (.fld (.v 0) "tables") .n)) (.bi .len (.c (.v 3) .n)))))
 (.c (.ret (.bl false))
 .n)
 .n)
 (.c (.for_ (.n 4) (.rng (.c (.bi .len (.c (.v 3) .n)) .n)) b32_f2)
 (.c (.ret (.bl true))
 .n)))))
def n32 : List Str := ["_law_world", "_law_symbols_here", "_law_extent", "_law_boards", "_law_k", "_law_thing"]
def d32 : Df := { nm := "_law_fields", kd := .fn, ps := ["_law_world", "_law_symbols_here", "_law_extent", "_law_boards"], N := n32, fx := [], body := b32 }

/-- _law_judged -/
def b33 : Sms := (.c (.set (.n 4) (.call 28 (.c (.v 0) (.c (.v 1) (.c (.v 2) .n)))))
 (.c (.set (.n 5) (.call 30 (.c (.v 2) (.c (.v 3) .n))))
 (.c (.set (.n 6) (.call 31 (.c (.mk 1 12 (.c (.bi .list (.c (.v 0) .n)) .n)) (.c (.v 1) (.c (.v 5) .n)))))
 (.c (.iff (.e (.cmp .ne (.v 5) (.call 30 (.c (.v 2) (.c (.v 3) .n)))))
 (.c (.ret (.bl false))
 .n)
 .n)
 (.c (.iff (.e (.cmp .lt (.v 4) (.bi .len (.c (.v 0) .n))))
 (.c (.ret (.and (.cmp .eq (.ix (.v 6) (.int 0)) (.str "bad")) (.and (.call 16 (.c (.ix (.v 6) (.int 1)) .n)) (.cmp .eq (.ix (.v 6) (.int 1)) (.v 4)))))
 .n)
 .n)
 (.c (.ret (.and (.cmp .eq (.ix (.v 6) (.int 0)) (.str "made")) (.call 32 (.c (.ix (.v 6) (.int 1)) (.c (.v 0) (.c (.v 1) (.c (.v 2) .n)))))))
 .n))))))
def n33 : List Str := ["_law_symbols_here", "_law_extent", "_law_boards", "_law_form", "_law_bad", "_law_passed_here", "_law_told_here"]
def d33 : Df := { nm := "_law_judged", kd := .fn, ps := ["_law_symbols_here", "_law_extent", "_law_boards", "_law_form"], N := n33, fx := [], body := b33 }

/-- _law_told -/
def b34 : Sms := (.c (.tri (.c (.iff (.e (.v 3))
 (.c (.ret (.lst (.c (.str "thing") (.c (.omk 0 11 (.v 0) "value" .n ["term", "values"] (.c (.v 1) (.c (.v 2) .n))) .n))))
 .n)
 .n)
 (.c (.ret (.lst (.c (.str "thing") (.c (.om 0 11 (.v 0) "value" (.c (.v 1) (.c (.v 2) .n))) .n))))
 .n))
 (some 3) (some 4) (.set 5 (.isx [(some 10), (some 19), (some 11), (some 26), (some 5), (some 0), (some 1), (some 4), (some 23)] true)
 (.set 6 (.isx [(some 20), (some 12), (some 13), (some 17), (some 16), (some 25), (some 14)] true)
 (.set 7 (.isx [(some 8), (some 18), (some 22), (some 21), (some 15), (some 9), (some 6)] true)
 (.set 8 (.isx [(some 24), (some 7)] true)
 (.iff (.and (.isx [(some 2)] false) (.and (.isx [none] false) (.and (.not (.v 5)) (.and (.not (.v 6)) (.and (.not (.v 7)) (.not (.v 8))))))) (.rets [(.str "missing"), (.fld "variable")])
 (.rets [(.str "other"), (.int 0)])))))))
 .n)
def n34 : List Str := ["_law_world", "_law_tree", "_law_entries", "_law_spelt", "e", "_law_early", "_law_middle", "_law_late", "_law_last"]
def d34 : Df := { nm := "_law_told", kd := .fn, ps := ["_law_world", "_law_tree", "_law_entries", "_law_spelt"], N := n34, fx := [], body := b34 }

def b35_f1 : Sms := (.c (.seti 6 (.ix (.v 7) (.int 0)) (.ix (.v 7) (.int 1)))
 .n)
def b35_c1 : Cdo := (.s (.e (.cmp .nin (.v 12) (.v 6))))
/-- _law_valued -/
def b35 : Sms := (.c (.set (.n 6) (.dsp .n))
 (.c (.for_ (.n 7) (.e (.v 5)) b35_f1)
 (.c (.set (.n 8) (.bi .list (.c (.v 5) .n)))
 (.c (.set (.n 9) (.call 34 (.c (.v 0) (.c (.v 4) (.c (.v 8) (.c (.bl false) .n))))))
 (.c (.iff (.or (.e (.cmp .ne (.v 8) (.bi .list (.c (.v 5) .n)))) (.e (.cmp .ne (.v 9) (.call 34 (.c (.v 0) (.c (.v 4) (.c (.bi .tuple (.c (.v 5) .n)) (.c (.bl true) .n))))))))
 (.c (.ret (.bl false))
 .n)
 .n)
 (.c (.set (.n 10) (.lc (.v 12) [12] (.c [12] (.n 12) (.e (.call 21 (.c (.v 4) .n))) b35_c1 .n)))
 (.c (.iff (.e (.cmp .gt (.bi .len (.c (.v 10) .n)) (.int 0)))
 (.c (.ret (.and (.cmp .eq (.ix (.v 9) (.int 0)) (.str "missing")) (.and (.isi (.ix (.v 9) (.int 1)) false [.str]) (.cmp .eq (.ix (.v 9) (.int 1)) (.ix (.v 10) (.int 0))))))
 .n)
 .n)
 (.c (.set (.n 11) (.call 23 (.c (.v 1) (.c (.v 2) (.c (.v 3) (.c (.v 4) (.c (.v 6) .n)))))))
 (.c (.ret (.and (.cmp .eq (.ix (.v 9) (.int 0)) (.str "thing")) (.and (.call 16 (.c (.ix (.v 9) (.int 1)) .n)) (.cmp .eq (.ix (.v 9) (.int 1)) (.v 11)))))
 .n)))))))))
def n35 : List Str := ["_law_world", "_law_symbols_here", "_law_extent", "_law_boards", "_law_tree", "_law_entries", "_law_things", "_law_entry", "_law_passed_here", "_law_told_here", "_law_missing", "_law_due", "_law_name"]
def d35 : Df := { nm := "_law_valued", kd := .fn, ps := ["_law_world", "_law_symbols_here", "_law_extent", "_law_boards", "_law_tree", "_law_entries"], N := n35, fx := [], body := b35 }

def b36_e1 : Ex := (.bin .mod (.bi .int (.c (.bin .add (.v 15) (.int 1)) .n)) (.v 3))
def b36_e2 : Ex := (.lc b36_e1 [15] (.c [15] (.n 15) (.e (.v 14)) .n .n))
def b36_e3 : Ex := (.bi .list (.c (.v 14) .n))
def b36_e4 : Ex := (.tup (.c (.ix (.v 16) (.int 0)) (.c (.bin .mod (.bi .int (.c (.bin .add (.ix (.v 16) (.int 1)) (.int 1)) .n)) (.v 3)) .n)))
def b36_f1 : Sms := (.c (.iff (.not (.e (.call 35 (.c (.v 7) (.c (.v 2) (.c (.v 3) (.c (.v 4) (.c (.v 13) (.c (.v 12) .n)))))))))
 (.c (.ret (.bl false))
 .n)
 .n)
 (.c (.iff (.not (.e (.call 35 (.c (.v 8) (.c (.v 2) (.c (.v 3) (.c (.v 5) (.c (.v 13) (.c (.v 12) .n)))))))))
 (.c (.ret (.bl false))
 .n)
 .n)
 .n))
def b36_f2 : Sms := (.c (.for_ (.n 13) (.e (.v 11)) b36_f1)
 .n)
/-- law -/
def b36 : Sms := (.c (.set (.n 1) (.call 29 (.c (.v 0) .n)))
 (.c (.set (.n 2) (.ix (.v 1) (.int 0)))
 (.c (.set (.n 3) (.ix (.v 1) (.int 1)))
 (.c (.set (.n 4) (.ix (.v 1) (.int 2)))
 (.c (.iff (.or (.not (.e (.call 33 (.c (.v 2) (.c (.v 3) (.c (.ix (.v 1) (.int 3)) (.c (.ix (.v 1) (.int 7)) .n))))))) (.not (.e (.call 33 (.c (.v 2) (.c (.v 3) (.c (.v 4) (.c (.bin .sub (.int 5) (.ix (.v 1) (.int 7))) .n))))))))
 (.c (.ret (.bl false))
 .n)
 .n)
 (.c (.set (.n 5) (.lc b36_e2 [14] (.c [14] (.n 14) (.e (.v 4)) .n .n)))
 (.c (.setN 6 (.lcn b36_e3 [14] (.c [14] (.n 14) (.e (.v 4)) .n .n)))
 (.c (.lend 7 [2, 3] 6 (.mk 0 9 (.c (.mk 1 12 (.c (.bi .list (.c (.v 2) .n)) .n)) (.c (.v 3) (.c (.v 6) .n)))))
 (.c (.set (.n 8) (.mkk 0 9 .n ["signature", "size", "tables"] (.c (.mk 1 12 (.c (.bi .list (.c (.v 2) .n)) .n)) (.c (.v 3) (.c (.call 30 (.c (.v 5) (.c (.ix (.v 1) (.int 7)) .n))) .n)))))
 (.c (.fins 9 6 3)
 (.c (.napp 6 (.lst (.c (.int 0) .n)))
 (.c (.set (.n 10) (.lc b36_e4 [16] (.c [16] (.n 16) (.e (.ix (.v 1) (.int 5))) .n .n)))
 (.c (.set (.n 11) (.lst (.c (.ix (.v 1) (.int 4)) .n)))
 (.c (.iff (.and (.not (.e (.isi (.ix (.v 1) (.int 4)) false [.str]))) (.e (.cmp .gt (.bi .len (.c (.ix (.v 1) (.int 4)) .n)) (.int 1))))
 (.c (.app 11 (.ix (.ix (.v 1) (.int 4)) (.neg (.int 1))))
 .n)
 .n)
 (.c (.for_ (.n 12) (.e (.lst (.c (.ix (.v 1) (.int 6)) (.c (.ix (.v 1) (.int 5)) (.c (.v 10) (.c (.ix (.v 1) (.int 6)) .n)))))) b36_f2)
 (.c (.ret (.and (.call 32 (.c (.v 7) (.c (.v 2) (.c (.v 3) (.c (.v 4) .n))))) (.call 32 (.c (.v 8) (.c (.v 2) (.c (.v 3) (.c (.v 5) .n)))))))
 .n))))))))))))))))
def n36 : List Str := ["_law_script", "_law_drawn_here", "_law_symbols_here", "_law_extent", "_law_boards", "_law_moved", "_law_passed_here", "_law_world", "_law_other", "_law_row", "_law_others", "_law_trees", "_law_entries", "_law_tree", "_law_table_here", "_law_thing", "_law_entry"]
def d36 : Df := { nm := "law", kd := .fn, ps := ["_law_script"], N := n36, fx := [], body := b36 }

def defs : List Df := [d0, d1, d2, d3, d4, d5, d6, d7, d8, d9, d10, d11, d12, d13, d14, d15, d16, d17, d18, d19, d20, d21, d22, d23, d24, d25, d26, d27, d28, d29, d30, d31, d32, d33, d34, d35, d36]
def ancs : List (List Nat) := [[0, 3], [1, 3], [2, 3], [3], [4, 3], [5, 3], [6, 3], [7, 3], [8, 3], [9, 3], [10, 3], [11, 3], [12, 3], [13, 3], [14, 3], [15, 3], [16, 3], [17, 3], [18, 3], [19, 3], [20, 3], [21, 3], [22, 3], [23, 3], [24, 3], [25, 3], [26, 3]]
def subT (x : Nat) (o : Option Nat) : Bool := match o with
  | none => true
  | some e => decide (e ∈ ancs.getD (x - 1000) [])
def T : Tbl := ⟨defs, [.str "abcdefghijklmnopqrstuvwxyz", .str "0123456789"], [(1, 15)], 0, 2, [["index"], ["index"], ["variable"], [], ["place"], ["place"], ["name"], ["name", "count"], ["number"], ["size"], ["index"], ["index"], ["index"], [], ["name"], [], [], [], ["index"], ["index"], ["index"], ["index"], ["index"], ["column"], ["variable"], [], ["mark"]], subT, 3, false⟩
def Γ : Gm := ⟨defs.map fun d => ⟨d.nm, d.kd, d.ps⟩, ["SMALL", "DIGITS"], ["World", "Signature"], [("BadSymbol", ["index"]), ("BadTable", ["index"]), ("MissingValue", ["variable"])], ["BadSymbol", "BadTable", "MissingValue", "TwoWayError", "BadTerm", "BadPlace", "UnknownName", "WrongCount", "NoTerm", "TooLarge", "BadAsked", "BadLine", "BadWidth", "BooksDiffer", "NoSuchSymbol", "SayingsDiffer", "HasHelpers", "FewClosedTerms", "NotAPattern", "BadKind", "BadWeight", "NotFalling", "NotClosed", "BadText", "UnknownVariable", "NoRowLeft", "BadMark"], ["bool", "enumerate", "int", "isinstance", "len", "list", "max", "min", "range", "str", "tuple"], [(9, 1, ["signature", "size", "tables"]), (11, 1, ["term", "values"])], [.bool, .cls 0, .cls 1, .int, .str, .tup], ["index", "signature", "size", "symbols", "table", "tables", "variable"], false⟩
abbrev Pr : Program := PySem.Challenge.pw_twowaysigns_k56_worlds_made
def top (i : Nat) : Stmt := Pr.main.body.getD i (.Pass ⟨0, 0, 0, 0⟩)
def clsB : Stmt → List Stmt
  | .ClassDef _ _ _ b _ _ _ _ _ _ _ => b
  | _ => []
def inC (i j : Nat) : Stmt := (clsB (top i)).getD j (.Pass ⟨0, 0, 0, 0⟩)
abbrev s0 : Stmt := top 32
abbrev s1 : Stmt := top 33
abbrev s2 : Stmt := top 35
abbrev s3 : Stmt := top 36
abbrev s4 : Stmt := top 37
abbrev s5 : Stmt := top 39
abbrev s6 : Stmt := top 40
abbrev s7 : Stmt := top 41
abbrev s8 : Stmt := top 42
abbrev s9 : Stmt := inC 43 0
abbrev s10 : Stmt := inC 43 1
abbrev s11 : Stmt := inC 43 2
abbrev s12 : Stmt := inC 45 0
abbrev s13 : Stmt := inC 45 1
abbrev s14 : Stmt := inC 45 2
abbrev s15 : Stmt := inC 45 4
abbrev s16 : Stmt := top 47
abbrev s17 : Stmt := top 48
abbrev s18 : Stmt := top 49
abbrev s19 : Stmt := top 50
abbrev s20 : Stmt := top 51
abbrev s21 : Stmt := top 52
abbrev s22 : Stmt := top 53
abbrev s23 : Stmt := top 54
abbrev s24 : Stmt := top 55
abbrev s25 : Stmt := top 56
abbrev s26 : Stmt := top 57
abbrev s27 : Stmt := top 58
abbrev s28 : Stmt := top 59
abbrev s29 : Stmt := top 60
abbrev s30 : Stmt := top 61
abbrev s31 : Stmt := top 62
abbrev s32 : Stmt := top 63
abbrev s33 : Stmt := top 64
abbrev s34 : Stmt := top 65
abbrev s35 : Stmt := top 66
abbrev s36 : Stmt := top 67
def S : Nms := ⟨["BadSymbol", "BadTable", "MissingValue", "TwoWayError", "BadTerm", "BadPlace", "UnknownName", "WrongCount", "NoTerm", "TooLarge", "BadAsked", "BadLine", "BadWidth", "BooksDiffer", "NoSuchSymbol", "SayingsDiffer", "HasHelpers", "FewClosedTerms", "NotAPattern", "BadKind", "BadWeight", "NotFalling", "NotClosed", "BadText", "UnknownVariable", "NoRowLeft", "BadMark"], ["abcdefghijklmnopqrstuvwxyz", "0123456789"]⟩
def f0 : He.DefD := ⟨atD Γ S d0, "consists_of", "consists_of", defArgs s0, defBody s0, defScope s0, [], []⟩
def f1 : He.DefD := ⟨atD Γ S d1, "is_symbol_name", "is_symbol_name", defArgs s1, defBody s1, defScope s1, [], []⟩
def f2 : He.DefD := ⟨atD Γ S d2, "occurrences", "occurrences", defArgs s2, defBody s2, defScope s2, [], []⟩
def f3 : He.DefD := ⟨atD Γ S d3, "row_variables", "row_variables", defArgs s3, defBody s3, defScope s3, [], []⟩
def f4 : He.DefD := ⟨atD Γ S d4, "variables_of", "variables_of", defArgs s4, defBody s4, defScope s4, [], []⟩
def f5 : He.DefD := ⟨atD Γ S d5, "table_length", "table_length", defArgs s5, defBody s5, defScope s5, [], []⟩
def f6 : He.DefD := ⟨atD Γ S d6, "entry_index", "entry_index", defArgs s6, defBody s6, defScope s6, [], []⟩
def f7 : He.DefD := ⟨atD Γ S d7, "is_symmetric", "is_symmetric", defArgs s7, defBody s7, defScope s7, [], []⟩
def f8 : He.DefD := ⟨atD Γ S d8, "is_table", "is_table", defArgs s8, defBody s8, defScope s8, [], []⟩
def f9 : He.DefD := ⟨atD Γ S d9, "__init__", "World.__init__", defArgs s9, defBody s9, defScope s9, [], []⟩
def f10 : He.DefD := ⟨atD Γ S d10, "thing_of", "World.thing_of", defArgs s10, defBody s10, defScope s10, [], []⟩
def f11 : He.DefD := ⟨atD Γ S d11, "value", "World.value", defArgs s11, defBody s11, defScope s11, [], []⟩
def f12 : He.DefD := ⟨atD Γ S d12, "__init__", "Signature.__init__", defArgs s12, defBody s12, defScope s12, [], []⟩
def f13 : He.DefD := ⟨atD Γ S d13, "arity", "Signature.arity", defArgs s13, defBody s13, defScope s13, [], []⟩
def f14 : He.DefD := ⟨atD Γ S d14, "rank", "Signature.rank", defArgs s14, defBody s14, defScope s14, [], []⟩
def f15 : He.DefD := ⟨atD Γ S d15, "__eq__", "Signature.__eq__", defArgs s15, defBody s15, defScope s15, [], []⟩
def f16 : He.DefD := ⟨atD Γ S d16, "_law_whole", "_law_whole", defArgs s16, defBody s16, defScope s16, [], []⟩
def f17 : He.DefD := ⟨atD Γ S d17, "_law_cell", "_law_cell", defArgs s17, defBody s17, defScope s17, [], []⟩
def f18 : He.DefD := ⟨atD Γ S d18, "_law_digits", "_law_digits", defArgs s18, defBody s18, defScope s18, [], []⟩
def f19 : He.DefD := ⟨atD Γ S d19, "_law_symbols", "_law_symbols", defArgs s19, defBody s19, defScope s19, [], []⟩
def f20 : He.DefD := ⟨atD Γ S d20, "_law_term", "_law_term", defArgs s20, defBody s20, defScope s20, [], []⟩
def f21 : He.DefD := ⟨atD Γ S d21, "_law_letters", "_law_letters", defArgs s21, defBody s21, defScope s21, [], []⟩
def f22 : He.DefD := ⟨atD Γ S d22, "_law_menu", "_law_menu", defArgs s22, defBody s22, defScope s22, [], []⟩
def f23 : He.DefD := ⟨atD Γ S d23, "_law_value", "_law_value", defArgs s23, defBody s23, defScope s23, [], []⟩
def f24 : He.DefD := ⟨atD Γ S d24, "_law_signs", "_law_signs", defArgs s24, defBody s24, defScope s24, [], []⟩
def f25 : He.DefD := ⟨atD Γ S d25, "_law_tower", "_law_tower", defArgs s25, defBody s25, defScope s25, [], []⟩
def f26 : He.DefD := ⟨atD Γ S d26, "_law_table", "_law_table", defArgs s26, defBody s26, defScope s26, [], []⟩
def f27 : He.DefD := ⟨atD Γ S d27, "_law_spoil", "_law_spoil", defArgs s27, defBody s27, defScope s27, [], []⟩
def f28 : He.DefD := ⟨atD Γ S d28, "_law_first_bad", "_law_first_bad", defArgs s28, defBody s28, defScope s28, [], []⟩
def f29 : He.DefD := ⟨atD Γ S d29, "_law_drawn", "_law_drawn", defArgs s29, defBody s29, defScope s29, [], []⟩
def f30 : He.DefD := ⟨atD Γ S d30, "_law_passed", "_law_passed", defArgs s30, defBody s30, defScope s30, [], []⟩
def f31 : He.DefD := ⟨atD Γ S d31, "_law_made", "_law_made", defArgs s31, defBody s31, defScope s31, [], []⟩
def f32 : He.DefD := ⟨atD Γ S d32, "_law_fields", "_law_fields", defArgs s32, defBody s32, defScope s32, [], []⟩
def f33 : He.DefD := ⟨atD Γ S d33, "_law_judged", "_law_judged", defArgs s33, defBody s33, defScope s33, [], []⟩
def f34 : He.DefD := ⟨atD Γ S d34, "_law_told", "_law_told", defArgs s34, defBody s34, defScope s34, [], []⟩
def f35 : He.DefD := ⟨atD Γ S d35, "_law_valued", "_law_valued", defArgs s35, defBody s35, defScope s35, [], []⟩
def f36 : He.DefD := ⟨atD Γ S d36, "law", "law", defArgs s36, defBody s36, defScope s36, [], []⟩
abbrev sx0 : Stmt := inC 3 0
def x0 : He.DefD := ⟨("BadSymbol", some "__init__"), "__init__", "BadSymbol.__init__", defArgs sx0, defBody sx0, defScope sx0, [], []⟩
abbrev sx1 : Stmt := inC 22 0
def x1 : He.DefD := ⟨("BadTable", some "__init__"), "__init__", "BadTable.__init__", defArgs sx1, defBody sx1, defScope sx1, [], []⟩
abbrev sx2 : Stmt := inC 23 0
def x2 : He.DefD := ⟨("MissingValue", some "__init__"), "__init__", "MissingValue.__init__", defArgs sx2, defBody sx2, defScope sx2, [], []⟩
def fn : List He.DefD := [f0, f1, f2, f3, f4, f5, f6, f7, f8, f9, f10, f11, f12, f13, f14, f15, f16, f17, f18, f19, f20, f21, f22, f23, f24, f25, f26, f27, f28, f29, f30, f31, f32, f33, f34, f35, f36, x0, x1, x2]
end Cr

set_option maxHeartbeats 0
/-! The head of law_k56_worlds_made, printed by gen2.py. -/
namespace Cr
open DL PySem PySem.Spec PyProof.Rows L2 PySem.W PySem.Calls HandSHeadRun
def loose0 : List PySem.Str := ["_wall", "TwoWayError", "BadSymbol", "BadTerm", "BadPlace", "UnknownName", "WrongCount", "NoTerm", "TooLarge", "BadAsked", "BadLine", "BadWidth", "BooksDiffer", "NoSuchSymbol", "SayingsDiffer", "HasHelpers", "FewClosedTerms", "NotAPattern", "BadKind", "BadWeight", "NotFalling", "BadTable", "MissingValue", "NotClosed", "BadText", "UnknownVariable", "NoRowLeft", "BadMark", "SMALL", "DIGITS"]
def loose1 : List PySem.Str := ["consists_of", "is_symbol_name", "occurrences", "row_variables", "variables_of", "table_length", "entry_index", "is_symmetric", "is_table", "World", "Signature", "_law_whole", "_law_cell", "_law_digits", "_law_symbols", "_law_term", "_law_letters", "_law_menu", "_law_value", "_law_signs", "_law_tower", "_law_table", "_law_spoil", "_law_first_bad", "_law_drawn", "_law_passed", "_law_made", "_law_fields", "_law_judged", "_law_told"]
def loose2 : List PySem.Str := ["_law_valued"]
def loose : List PySem.Str := loose0 ++ (loose1 ++ (loose2))
abbrev Row0 : PySem.W.OpenRow := PySem.W.OpenLaw.row PySem.Challenge.rw_twowaysigns_k56_worlds_made
abbrev q0 : PySem.Program := PySem.W.view Row0.prog [67]
abbrev hk : PySem.W.Hook := hookY 4 (mkFa Γ T S) fn (mkEx Γ T S)
def ob (s : PySem.W.SharedT) : AlY := obsY 4 (mkFa Γ T S) fn (mkEx Γ T S) (HandSHeadRun.getT s)
theorem ob_eq (s : PySem.W.SharedT) : ob s = hk.obs s.abs := obsY_eq (HandSHeadRun.getT_eq s)
theorem run1 (w : World) (os : PySem.OsState) : (endF (stepQ (denQ tabQ) Row0.prog w) 20000 Row0.prog w os).map (fun s => (looksF Row0.prog (boot_heap w.params) s.abs, seenQ q0 loose (importedModules Row0.prog.main.body) (fun s => xlAt q0 [] s && recOk Row0.toRowW.records s) s.abs)) = some (true, openGood q0 loose) := by
  kernel_rfl
theorem run2 (w : World) (os : PySem.OsState) : (endF (stepQ (denQ tabQ) Row0.prog w) 20000 Row0.prog w os).map (fun s => ob s) = some (hk.val w) := by
  kernel_rfl
theorem both {α β γ δ : Type} {o : Option α} {f : α → β × γ} {g : α → δ} {b : β} {c : γ} {d : δ} (h1 : o.map f = some (b, c)) (h2 : o.map g = some d) : o.map (fun s => ((f s).1, (f s).2, g s)) = some (b, c, d) := by
  cases o with
  | none => cases h1
  | some s =>
    injection h1 with h1
    injection h2 with h2
    show some ((f s).1, (f s).2, g s) = _
    rw [h1, h2]
theorem run (w : World) : HandSHeadRun.RunEq Row0 q0 hk ob 20000 loose w := by
  intro os
  have h := both (run1 w os) (run2 w os)
  exact h
end Cr

set_option maxHeartbeats 4000000
/-! DL1: data, what stands for it, environments. -/
namespace DL
open PySem PySem.Spec PyProof.Rows L2

def sOk (x : Str) : Bool := PyData.strOk x && decide (x.length ≤ 1000000)

def Le (G H : Hp) : Prop := ∀ a o, G a = some o → H a = some o
theorem Le.refl (H : Hp) : Le H H := fun _ _ h => h
theorem Le.trans {G H I : Hp} (a : Le G H) (b : Le H I) : Le G I := fun x o h => b x o (a x o h)
theorem Le.newH {H : Hp} {a : Addr} {o : HO} (h : H a = none) : Le H (upd H a o) := fun b u e => by
  rw [upd_ne (ne_of_none e h)]; exact e
theorem Le.both {G H : Hp} {a : Addr} {o : HO} (l : Le G H) : Le (upd G a o) (upd H a o) := fun b u e => by
  by_cases hb : b = a
  · subst hb; rw [upd_same] at e ⊢; exact e
  · rw [upd_ne hb] at e ⊢; exact l b u e
theorem Le.noneL {G H : Hp} (l : Le G H) {a : Addr} (h : H a = none) : G a = none := by
  cases e : G a with
  | none => rfl
  | some o => rw [l a o e] at h; cases h
theorem Le.newR {G H : Hp} {a : Addr} {o : HO} (l : Le G H) (h : G a = none) : Le G (upd H a o) := fun b u e => by
  rw [upd_ne (ne_of_none e h)]; exact l b u e

section
variable (K : PySem.W.Frag) (CA : Nat → Addr) (G : Hp)
mutual
inductive Rep : V → D → Prop
  | non : Rep .non .non
  | bl (b : Bool) : Rep (.bl b) (.bl b)
  | int (i : Int) : Rep (.int i) (.int i)
  | str {x : Str} (h : sOk x = true) : Rep (.str x) (.str x)
  | tup {a : Addr} {vs : List V} {ds : List D} (h : SqT K G a vs) (r : Reps vs ds) : Rep (.ref a) (.tup ds)
  | lst {a : Addr} {vs : List V} {ds : List D} (h : SqL K G a vs) (r : Reps vs ds) : Rep (.ref a) (.lst ds)
  | dct {a : Addr} {vs : List (Key × V)} {ds : List (Key × D)} (h : G a = some (.dK vs)) (r : RepK vs ds) : Rep (.ref a) (.dct ds)
  | ins {a dx : Addr} {c : Nat} {vs : List (Str × V)} {ds : List (Str × D)} (h : G a = some (.ins (CA c) dx vs)) (r : RepF vs ds) : Rep (.ref a) (.ins c ds)
inductive Reps : List V → List D → Prop
  | nil : Reps [] []
  | cons {v : V} {d : D} {vs : List V} {ds : List D} (r : Rep v d) (t : Reps vs ds) : Reps (v :: vs) (d :: ds)
inductive RepK : List (Key × V) → List (Key × D) → Prop
  | nil : RepK [] []
  | cons {k : Key} {v : V} {d : D} {vs : List (Key × V)} {ds : List (Key × D)} (r : Rep v d) (t : RepK vs ds) : RepK ((k, v) :: vs) ((k, d) :: ds)
inductive RepF : List (Str × V) → List (Str × D) → Prop
  | nil : RepF [] []
  | cons {k : Str} {v : V} {d : D} {vs : List (Str × V)} {ds : List (Str × D)} (r : Rep v d) (t : RepF vs ds) : RepF ((k, v) :: vs) ((k, d) :: ds)
end
end

section
variable {K : PySem.W.Frag} {CA : Nat → Addr} {G G' : Hp}
theorem sqT_le {a : Addr} {vs : List V} (l : Le G G') (h : SqT K G a vs) : SqT K G' a vs := by
  rcases h with h | h
  · rcases h with h | ⟨o, h⟩
    · exact .inl (.inl (l _ _ h))
    · exact .inl (.inr ⟨o, l _ _ h⟩)
  · exact .inr h
theorem sqL_le {a : Addr} {vs : List V} (l : Le G G') (h : SqL K G a vs) : SqL K G' a vs := by
  rcases h with h | h
  · rcases h with h | ⟨o, h⟩
    · exact .inl (.inl (l _ _ h))
    · exact .inl (.inr ⟨o, l _ _ h⟩)
  · exact .inr h
mutual
theorem Rep.le (l : Le G G') : ∀ {v : V} {d : D}, Rep K CA G v d → Rep K CA G' v d
  | _, _, .non => .non
  | _, _, .bl b => .bl b
  | _, _, .int i => .int i
  | _, _, .str h => .str h
  | _, _, .tup h r => .tup (sqT_le l h) (r.le l)
  | _, _, .lst h r => .lst (sqL_le l h) (r.le l)
  | _, _, .dct h r => .dct (l _ _ h) (r.le l)
  | _, _, .ins h r => .ins (l _ _ h) (r.le l)
theorem Reps.le (l : Le G G') : ∀ {v : List V} {d : List D}, Reps K CA G v d → Reps K CA G' v d
  | _, _, .nil => .nil
  | _, _, .cons r t => .cons (r.le l) (t.le l)
theorem RepK.le (l : Le G G') : ∀ {v : List (Key × V)} {d : List (Key × D)}, RepK K CA G v d → RepK K CA G' v d
  | _, _, .nil => .nil
  | _, _, .cons r t => .cons (r.le l) (t.le l)
theorem RepF.le (l : Le G G') : ∀ {v : List (Str × V)} {d : List (Str × D)}, RepF K CA G v d → RepF K CA G' v d
  | _, _, .nil => .nil
  | _, _, .cons r t => .cons (r.le l) (t.le l)
end
theorem Reps.length {vs : List V} {ds : List D} (r : Reps K CA G vs ds) : vs.length = ds.length := by
  induction ds generalizing vs with
  | nil => cases r; rfl
  | cons d ds ih => cases r with | cons r t => simp only [List.length_cons, ih t]
theorem Reps.get : ∀ {vs : List V} {ds : List D} {i : Nat} {d : D}, Reps K CA G vs ds → ds[i]? = some d → ∃ v, vs[i]? = some v ∧ Rep K CA G v d
  | _, _, _, _, .nil, e => by simp at e
  | _, _, 0, _, .cons r _, e => by simp at e; subst e; exact ⟨_, rfl, r⟩
  | _, _, i + 1, d, .cons _ t, e => by
    obtain ⟨v, h1, h2⟩ := Reps.get (i := i) (d := d) t (by simpa using e)
    exact ⟨v, by simpa using h1, h2⟩
theorem Reps.getV : ∀ {vs : List V} {ds : List D} {i : Nat} {v : V}, Reps K CA G vs ds → vs[i]? = some v → ∃ d, ds[i]? = some d ∧ Rep K CA G v d
  | _, _, _, _, .nil, e => by simp at e
  | _, _, 0, _, .cons r _, e => by simp at e; subst e; exact ⟨_, rfl, r⟩
  | _, _, i + 1, d, .cons _ t, e => by
    obtain ⟨v, h1, h2⟩ := Reps.getV (i := i) (v := d) t (by simpa using e)
    exact ⟨v, by simpa using h1, h2⟩
theorem Reps.append : ∀ {vs ws : List V} {ds es : List D}, Reps K CA G vs ds → Reps K CA G ws es → Reps K CA G (vs ++ ws) (ds ++ es)
  | _, _, _, _, .nil, s => s
  | _, _, _, _, .cons r t, s => .cons r (Reps.append t s)
theorem Reps.one {v : V} {d : D} (r : Rep K CA G v d) : Reps K CA G [v] [d] := .cons r .nil
theorem Reps.take : ∀ {vs : List V} {ds : List D} (n : Nat), Reps K CA G vs ds → Reps K CA G (vs.take n) (ds.take n)
  | _, _, 0, _ => .nil
  | _, _, _ + 1, .nil => .nil
  | _, _, n + 1, .cons r t => .cons r (Reps.take n t)
theorem Reps.drop : ∀ {vs : List V} {ds : List D} (n : Nat), Reps K CA G vs ds → Reps K CA G (vs.drop n) (ds.drop n)
  | _, _, 0, r => r
  | _, _, _ + 1, .nil => .nil
  | _, _, n + 1, .cons _ t => Reps.drop n t
theorem Reps.set : ∀ {vs : List V} {ds : List D} {v : V} {d : D} (n : Nat), Reps K CA G vs ds → Rep K CA G v d → Reps K CA G (vs.set n v) (ds.set n d)
  | _, _, _, _, _, .nil, _ => .nil
  | _, _, _, _, 0, .cons _ t, r => .cons r t
  | _, _, _, _, n + 1, .cons q t, r => .cons q (Reps.set n t r)
theorem Reps.eraseIdx : ∀ {vs : List V} {ds : List D} (n : Nat), Reps K CA G vs ds → Reps K CA G (vs.eraseIdx n) (ds.eraseIdx n)
  | _, _, _, .nil => .nil
  | _, _, 0, .cons _ t => t
  | _, _, n + 1, .cons q t => .cons q (Reps.eraseIdx n t)
theorem Reps.reverse : ∀ {vs : List V} {ds : List D}, Reps K CA G vs ds → Reps K CA G vs.reverse ds.reverse
  | _, _, .nil => .nil
  | _, _, .cons r t => by
    rw [List.reverse_cons, List.reverse_cons]
    exact Reps.append (Reps.reverse t) (Reps.one r)
theorem Reps.rep {vs : List V} {ds : List D} (r : Reps K CA G vs ds) : ∀ k : Nat, Reps K CA G (List.replicate k vs).flatten (List.replicate k ds).flatten
  | 0 => .nil
  | k + 1 => by
    rw [List.replicate_succ, List.replicate_succ, List.flatten_cons, List.flatten_cons]
    exact Reps.append r (Reps.rep r k)
theorem RepF.lookup : ∀ {vs : List (Str × V)} {ds : List (Str × D)} {f : Str} {d : D}, RepF K CA G vs ds → ds.lookup f = some d → ∃ v, vs.lookup f = some v ∧ Rep K CA G v d
  | _, _, _, _, .nil, e => by simp at e
  | _, _, f, d, .cons (k := k) r t, e => by
    by_cases h : f == k
    · simp only [List.lookup_cons, h] at e ⊢
      cases e; exact ⟨_, rfl, r⟩
    · have h' : (f == k) = false := by simpa using h
      simp only [List.lookup_cons, h'] at e ⊢
      exact RepF.lookup t e
theorem RepF.lookup_none : ∀ {vs : List (Str × V)} {ds : List (Str × D)} {f : Str}, RepF K CA G vs ds → ds.lookup f = none → vs.lookup f = none
  | _, _, _, .nil, _ => rfl
  | _, _, f, .cons (k := k) r t, e => by
    by_cases h : f == k
    · simp only [List.lookup_cons, h] at e; cases e
    · have h' : (f == k) = false := by simpa using h
      simp only [List.lookup_cons, h'] at e ⊢
      exact RepF.lookup_none t e
theorem RepF.length {vs : List (Str × V)} {ds : List (Str × D)} (r : RepF K CA G vs ds) : vs.length = ds.length := by
  induction ds generalizing vs with
  | nil => cases r; rfl
  | cons d ds ih => cases r with | cons r t => simp only [List.length_cons, ih t]
theorem RepK.length {vs : List (Key × V)} {ds : List (Key × D)} (r : RepK K CA G vs ds) : vs.length = ds.length := by
  induction ds generalizing vs with
  | nil => cases r; rfl
  | cons d ds ih => cases r with | cons r t => simp only [List.length_cons, ih t]
theorem RepF.put : ∀ {vs : List (Str × V)} {ds : List (Str × D)} {f : Str} {v : V} {d : D}, RepF K CA G vs ds → Rep K CA G v d → RepF K CA G (putF f v vs) (putD f d ds)
  | _, _, _, _, _, .nil, r => .cons r .nil
  | _, _, f, _, _, .cons (k := k) q t, r => by
    unfold putF putD
    by_cases h : k = f
    · rw [if_pos h, if_pos h]; exact .cons r t
    · rw [if_neg h, if_neg h]; exact .cons q (RepF.put t r)
end

/-! ### cells, environments -/
def Cell.d : Cell → D
  | .sh d => d
  | .ow d => d
  | .nst ds => .lst ds
  | .al _ _ => .non
/-- another name of a row of a nested list -/
def Cell.isAl : Cell → Bool
  | .al _ _ => true
  | _ => false
def Cell.isP : Cell → Bool
  | .sh _ => true
  | .ow _ => true
  | _ => false
section
variable (K : PySem.W.Frag) (CA : Nat → Addr) (B G H : Hp)
/-- an owned object stands at a -/
def OwnAt (a : Addr) : D → Prop
  | .lst ds => ∃ vs, H a = some (.lst vs) ∧ Reps K CA G vs ds
  | .dct ds => ∃ vs, H a = some (.dK vs) ∧ RepK K CA G vs ds
  | .ins c ds => ∃ dx vs, H a = some (.ins (CA c) dx vs) ∧ RepF K CA G vs ds
  | _ => False
/-- the rows of a nested list: each owned -/
inductive Rows : List Addr → List D → Prop
  | nil : Rows [] []
  | cons {p : Addr} {d : D} {ps : List Addr} {ds : List D} (hb : B p = none) (hg : G p = none) (ho : OwnAt K CA G H p d) (hn : p ∉ ps) (t : Rows ps ds) : Rows (p :: ps) (d :: ds)
def CRep (v : V) : Cell → Prop
  | .sh d => Rep K CA G v d
  | .ow d => ∃ a, v = .ref a ∧ B a = none ∧ G a = none ∧ OwnAt K CA G H a d
  | .nst ds => ∃ (a : Addr) (ps : List Addr), v = .ref a ∧ B a = none ∧ G a = none ∧ H a = some (.lst (ps.map V.ref)) ∧ a ∉ ps ∧ Rows K CA B G H ps ds
  | .al _ _ => False
end
/-- the objects that a cell owns -/
def Foot (H : Hp) (v : V) : Cell → Addr → Prop
  | .sh _, _ => False
  | .ow _, p => v = .ref p
  | .nst _, p => ∃ (a : Addr) (ps : List Addr), v = .ref a ∧ H a = some (.lst (ps.map V.ref)) ∧ (p = a ∨ p ∈ ps)
  | .al _ _, _ => False
theorem refs_inj : ∀ {ps qs : List Addr}, ps.map V.ref = qs.map V.ref → ps = qs
  | [], [], _ => rfl
  | [], _ :: _, h => by cases h
  | _ :: _, [], h => by cases h
  | p :: ps, q :: qs, h => by
    rw [List.map_cons, List.map_cons] at h
    injection h with h1 h2
    injection h1 with h1
    rw [h1, refs_inj h2]
section
variable {K : PySem.W.Frag} {CA : Nat → Addr} {B B' G H G' H' : Hp}
theorem OwnAt.le {a : Addr} {d : D} (h : OwnAt K CA G H a d) (l : Le G G') (lh : H' a = H a) : OwnAt K CA G' H' a d := by
  cases d with
  | lst ds => obtain ⟨vs, h1, h2⟩ := h; exact ⟨vs, lh.trans h1, h2.le l⟩
  | dct ds => obtain ⟨vs, h1, h2⟩ := h; exact ⟨vs, lh.trans h1, h2.le l⟩
  | ins c ds => obtain ⟨dx, vs, h1, h2⟩ := h; exact ⟨dx, vs, lh.trans h1, h2.le l⟩
  | _ => exact h.elim
theorem OwnAt.has {a : Addr} {d : D} (h : OwnAt K CA G H a d) : ∃ o, H a = some o := by
  cases d with
  | lst ds => obtain ⟨vs, h1, h2⟩ := h; exact ⟨_, h1⟩
  | dct ds => obtain ⟨vs, h1, h2⟩ := h; exact ⟨_, h1⟩
  | ins c ds => obtain ⟨dx, vs, h1, h2⟩ := h; exact ⟨_, h1⟩
  | _ => exact h.elim
/-- what is owned, once it is frozen -/
theorem OwnAt.froz {a : Addr} {d : D} {o : HO} (h : OwnAt K CA G H a d) (ho : H a = some o) (l : Le G G') (hg : G' a = some o) : Rep K CA G' (.ref a) d := by
  cases d with
  | lst ds => obtain ⟨vs, h1, h2⟩ := h; rw [h1] at ho; cases ho; exact .lst (SqL.of hg) (h2.le l)
  | dct ds => obtain ⟨vs, h1, h2⟩ := h; rw [h1] at ho; cases ho; exact .dct hg (h2.le l)
  | ins c ds => obtain ⟨dx, vs, h1, h2⟩ := h; rw [h1] at ho; cases ho; exact .ins hg (h2.le l)
  | _ => exact h.elim
theorem Rows.to : ∀ {ps : List Addr} {ds : List D}, Rows K CA B G H ps ds → Le G G' → (∀ p ∈ ps, B' p = none ∧ G' p = none ∧ H' p = H p) → Rows K CA B' G' H' ps ds
  | _, _, .nil, _, _ => .nil
  | _, _, .cons hb hg ho hn t, l, k => by
    obtain ⟨k1, k2, k3⟩ := k _ List.mem_cons_self
    exact .cons k1 k2 (ho.le l k3) hn (t.to l fun p hp => k p (List.mem_cons_of_mem _ hp))
theorem Rows.mem : ∀ {ps : List Addr} {ds : List D} {p : Addr}, Rows K CA B G H ps ds → p ∈ ps → B p = none ∧ G p = none ∧ ∃ o, H p = some o
  | _, _, _, .cons hb hg ho hn t, h => by
    rcases List.mem_cons.mp h with z | z
    · subst z; exact ⟨hb, hg, ho.has⟩
    · exact t.mem z
theorem Rows.length : ∀ {ps : List Addr} {ds : List D}, Rows K CA B G H ps ds → ps.length = ds.length
  | _, _, .nil => rfl
  | _, _, .cons _ _ _ _ t => by rw [List.length_cons, List.length_cons, t.length]
theorem CRep.foot {v : V} {c : Cell} {p : Addr} (h : CRep K CA B G H v c) (f : Foot H v c p) : B p = none ∧ G p = none ∧ ∃ o, H p = some o := by
  cases c with
  | sh d => exact f.elim
  | al _ _ => exact f.elim
  | ow d =>
    obtain ⟨a, ea, hb, hg, ho⟩ := h
    have f : v = .ref p := f
    rw [ea] at f; cases f
    exact ⟨hb, hg, ho.has⟩
  | nst ds =>
    obtain ⟨a, ps, ea, hb, hg, hh, hn, r⟩ := h
    obtain ⟨a', ps', ea', hh', f⟩ := f
    rw [ea] at ea'; cases ea'
    rw [hh] at hh'; injection hh' with hh'; injection hh' with hh'
    have e := refs_inj hh'; subst e
    rcases f with f | f
    · subst f; exact ⟨hb, hg, _, hh⟩
    · exact r.mem f
theorem CRep.to {v : V} {c : Cell} (h : CRep K CA B G H v c) (l : Le G G') (k : ∀ p, Foot H v c p → B' p = none ∧ G' p = none ∧ H' p = H p) : CRep K CA B' G' H' v c := by
  cases c with
  | sh d => exact Rep.le l h
  | al _ _ => exact h
  | ow d =>
    obtain ⟨a, ea, hb, hg, ho⟩ := h
    obtain ⟨k1, k2, k3⟩ := k a ea
    exact ⟨a, ea, k1, k2, ho.le l k3⟩
  | nst ds =>
    obtain ⟨a, ps, ea, hb, hg, hh, hn, r⟩ := h
    obtain ⟨k1, k2, k3⟩ := k a ⟨a, ps, ea, hh, .inl rfl⟩
    exact ⟨a, ps, ea, k1, k2, k3.trans hh, hn, r.to l fun p hp => k p ⟨a, ps, ea, hh, .inr hp⟩⟩
theorem Foot.to {v : V} {c : Cell} {p : Addr} (k : ∀ p, Foot H v c p → H' p = H p) (h : CRep K CA B G H v c) : Foot H' v c p ↔ Foot H v c p := by
  cases c with
  | sh d => exact Iff.rfl
  | al _ _ => exact Iff.rfl
  | ow d => exact Iff.rfl
  | nst ds =>
    obtain ⟨a, ps, ea, hb, hg, hh, hn, r⟩ := h
    have e := k a ⟨a, ps, ea, hh, .inl rfl⟩
    constructor
    · rintro ⟨a', ps', ea', hh', f⟩
      have ea2 := ea'
      rw [ea] at ea2; cases ea2
      exact ⟨a, ps', ea, e ▸ hh', f⟩
    · rintro ⟨a', ps', ea', hh', f⟩
      have ea2 := ea'
      rw [ea] at ea2; cases ea2
      exact ⟨a, ps', ea, e.trans hh', f⟩
/-- rows are frozen -/
theorem Rows.froz : ∀ {ps : List Addr} {ds : List D}, Rows K CA B G H ps ds → ∃ G', Le G G' ∧ Reps K CA G' (ps.map .ref) ds ∧ (∀ p, p ∉ ps → G' p = G p) ∧ ∀ p o, G' p = some o → G p = some o ∨ (p ∈ ps ∧ H p = some o)
  | _, _, .nil => ⟨G, Le.refl _, .nil, fun _ _ => rfl, fun _ _ h => .inl h⟩
  | _, _, .cons (p := p) (ps := ps) hb hg ho hn t => by
    obtain ⟨G1, l1, r1, k1, m1⟩ := Rows.froz t
    obtain ⟨o, hh⟩ := ho.has
    have hg1 : G1 p = none := (k1 p hn).trans hg
    have l2 : Le G1 (upd G1 p o) := Le.newH hg1
    refine ⟨upd G1 p o, l1.trans l2, .cons (ho.froz hh (l1.trans l2) upd_same) (r1.le l2), fun q hq => ?_, fun q u hu => ?_⟩
    · rw [upd_ne (fun z => hq (by rw [z]; exact List.mem_cons_self))]
      exact k1 q fun z => hq (List.mem_cons_of_mem _ z)
    · by_cases z : q = p
      · subst z; rw [upd_same] at hu; rw [← hu]; exact .inr ⟨List.mem_cons_self, hh⟩
      · rw [upd_ne z] at hu
        rcases m1 q u hu with h | ⟨h1, h2⟩
        · exact .inl h
        · exact .inr ⟨List.mem_cons_of_mem _ h1, h2⟩
/-- what a cell owns is frozen -/
theorem CRep.froz {v : V} {c : Cell} (h : CRep K CA B G H v c) : ∃ G', Le G G' ∧ Rep K CA G' v c.d ∧ (∀ p, ¬ Foot H v c p → G' p = G p) ∧ ∀ p o, G' p = some o → G p = some o ∨ (Foot H v c p ∧ H p = some o) := by
  cases c with
  | sh d => exact ⟨G, Le.refl _, h, fun _ _ => rfl, fun _ _ h => .inl h⟩
  | al _ _ => exact h.elim
  | ow d =>
    obtain ⟨a, ea, hb, hg, ho⟩ := h
    subst ea
    obtain ⟨o, hh⟩ := ho.has
    refine ⟨upd G a o, Le.newH hg, ho.froz hh (Le.newH hg) upd_same, fun p hp => upd_ne fun z => hp (by subst z; rfl), fun p u hu => ?_⟩
    by_cases z : p = a
    · subst z; rw [upd_same] at hu; rw [← hu]; exact .inr ⟨rfl, hh⟩
    · rw [upd_ne z] at hu; exact .inl hu
  | nst ds =>
    obtain ⟨a, ps, ea, hb, hg, hh, hn, r⟩ := h
    subst ea
    obtain ⟨G1, l1, r1, k1, m1⟩ := r.froz
    have hg1 : G1 a = none := (k1 a hn).trans hg
    have l2 : Le G1 (upd G1 a (.lst (ps.map .ref))) := Le.newH hg1
    refine ⟨upd G1 a (.lst (ps.map .ref)), l1.trans l2, .lst (SqL.of upd_same) (r1.le l2), fun p hp => ?_, fun p u hu => ?_⟩
    · rw [upd_ne fun z => hp (by subst z; exact ⟨_, ps, rfl, hh, .inl rfl⟩)]
      exact k1 p fun z => hp ⟨a, ps, rfl, hh, .inr z⟩
    · by_cases z : p = a
      · subst z; rw [upd_same] at hu; rw [← hu]; exact .inr ⟨⟨_, ps, rfl, hh, .inl rfl⟩, hh⟩
      · rw [upd_ne z] at hu
        rcases m1 p u hu with h | ⟨h1, h2⟩
        · exact .inl h
        · exact .inr ⟨⟨a, ps, rfl, hh, .inr h1⟩, h2⟩
end

/-- slots that a def never stores into keep what is known of them -/
class Frame where
  F : L2.St → Prop
  ok : Nat → Prop
  set : ∀ (i : Nat) (o : Option V) (σ : L2.St), ok i → F σ → F (σ.set i o)
/-- the heap H, of which B stood at the call's beginning and G is never changed any more; the slots σ hold what ρ says -/
structure Em [Frame] (K : PySem.W.Frag) (CA : Nat → Addr) (B G0 H G : Hp) (σ : L2.St) (ρ : Env) : Prop where
  gh : Le G H
  bh : Le B H
  g0 : Le G0 G
  gb : ∀ a o, B a = some o → G a = G0 a
  len : σ.length = ρ.length
  sl : ∀ (i : Nat) (c : Cell), ρ[i]? = some (some c) → (hc : c.isAl = false := by rfl) → ∃ v, σ[i]? = some (some v) ∧ CRep K CA B G H v c
  al : ∀ (t s i : Nat) (ds : List D) (u : V), ρ[t]? = some (some (.al s i)) → ρ[s]? = some (some (.nst ds)) → σ[s]? = some (some u) → ∃ (a : Addr) (ps : List Addr) (p : Addr), u = .ref a ∧ H a = some (.lst (ps.map V.ref)) ∧ ps[i]? = some p ∧ σ[t]? = some (some (.ref p))
  fr : Frame.F σ
  sep : ∀ (i j : Nat) (c e : Cell) (u v : V) (p : Addr), i ≠ j → ρ[i]? = some (some c) → ρ[j]? = some (some e) → σ[i]? = some (some u) → σ[j]? = some (some v) → Foot H u c p → ¬ Foot H v e p
/-- a value that no slot owns -/
def Free (H : Hp) (σ : L2.St) (ρ : Env) (v : V) : Prop := ∀ (i : Nat) (c : Cell) (u : V) (p : Addr), v = .ref p → ρ[i]? = some (some c) → σ[i]? = some (some u) → ¬ Foot H u c p
/-- what an expression hands on -/
def CAt (K : PySem.W.Frag) (CA : Nat → Addr) (B G H : Hp) (σ : L2.St) (ρ : Env) (v : V) (c : Cell) : Prop :=
  CRep K CA B G H v c ∧ ∀ p, Foot H v c p → Free H σ ρ (.ref p)

section
variable [Frame] {K : PySem.W.Frag} {CA : Nat → Addr} {B B' G0 G0' G H G' H' : Hp} {σ : L2.St} {ρ : Env}
omit [Frame] in
theorem cat_sh {v : V} {d : D} (r : Rep K CA G v d) : CAt K CA B G H σ ρ v (.sh d) := ⟨r, fun _ z => z.elim⟩
omit [Frame] in
theorem cat_ow {v : V} {d : D} (r : CRep K CA B G H v (.ow d)) (f : Free H σ ρ v) : CAt K CA B G H σ ρ v (.ow d) := ⟨r, fun p z => by
  have z : v = .ref p := z
  rw [← z]; exact f⟩
omit [Frame] in
theorem CAt.free {v : V} {d : D} (h : CAt K CA B G H σ ρ v (.ow d)) : Free H σ ρ v := by
  obtain ⟨⟨a, ea, _⟩, f⟩ := h
  rw [ea]; exact f a ea
omit [Frame] in
theorem get_set_eq {α : Type} {l : List α} {i : Nat} {x : α} (h : i < l.length) : (l.set i x)[i]? = some x := by
  simp [List.getElem?_set, h]
omit [Frame] in
theorem get_set_ne {α : Type} {l : List α} {i j : Nat} {x : α} (h : i ≠ j) : (l.set i x)[j]? = l[j]? := by
  simp [List.getElem?_set, h]
omit [Frame] in
theorem lt_of_get {α : Type} {l : List α} {i : Nat} {x : α} (h : l[i]? = some x) : i < l.length := by
  cases Nat.lt_or_ge i l.length with
  | inl q => exact q
  | inr q => rw [List.getElem?_eq_none_iff.mpr q] at h; cases h
omit [Frame] in
theorem foot_al {v : V} {c : Cell} {p : Addr} (f : Foot H v c p) : c.isAl = false := by
  cases c with
  | al _ _ => exact f.elim
  | _ => rfl
/-- the heaps change, what the slots own does not -/
theorem Em.tr (e : Em K CA B G0 H G σ ρ) (gh : Le G' H') (bh : Le B' H') (g0 : Le G0' G') (gb : ∀ a o, B' a = some o → G' a = G0' a) (lg : Le G G')
    (k : ∀ (i : Nat) (c : Cell) (v : V) (p : Addr), ρ[i]? = some (some c) → σ[i]? = some (some v) → Foot H v c p → B p = none → G p = none → (∃ o, H p = some o) → B' p = none ∧ G' p = none ∧ H' p = H p) : Em K CA B' G0' H' G' σ ρ := by
  have kk : ∀ (i : Nat) (c : Cell) (v : V), c.isAl = false → ρ[i]? = some (some c) → σ[i]? = some (some v) → CRep K CA B G H v c ∧ ∀ p, Foot H v c p → B' p = none ∧ G' p = none ∧ H' p = H p := fun i c v hc h1 h2 => by
    obtain ⟨w, h3, h4⟩ := e.sl i c h1 hc
    rw [h2] at h3; cases h3
    exact ⟨h4, fun p f => by
      obtain ⟨f1, f2, f3⟩ := h4.foot f
      exact k i c v p h1 h2 f f1 f2 f3⟩
  refine { gh := gh, bh := bh, g0 := g0, gb := gb, len := e.len, fr := e.fr, sl := fun i c h hc => ?_, al := fun t s i ds u h1 h2 h3 => ?_, sep := fun i j c d u v p hij hi hj hu hv f f2 => ?_ }
  · obtain ⟨v, h1, h2⟩ := e.sl i c h hc
    exact ⟨v, h1, h2.to lg (kk i c v hc h h1).2⟩
  · obtain ⟨a, ps, p, eu, ha, hp, ht⟩ := e.al t s i ds u h1 h2 h3
    exact ⟨a, ps, p, eu, ((kk s _ u rfl h2 h3).2 a ⟨a, ps, eu, ha, .inl rfl⟩).2.2.trans ha, hp, ht⟩
  · have c1 := foot_al f
    have c2 := foot_al f2
    obtain ⟨r1, k1⟩ := kk i c u c1 hi hu
    obtain ⟨r2, k2⟩ := kk j d v c2 hj hv
    exact e.sep i j c d u v p hij hi hj hu hv ((Foot.to (fun p f => (k1 p f).2.2) r1).mp f) ((Foot.to (fun p f => (k2 p f).2.2) r2).mp f2)
/-- .. and what nobody holds is still not held -/
theorem Em.ftr (e : Em K CA B G0 H G σ ρ) (k : ∀ (i : Nat) (c : Cell) (v : V) (p : Addr), ρ[i]? = some (some c) → σ[i]? = some (some v) → Foot H v c p → H' p = H p) {v : V} (f : Free H σ ρ v) : Free H' σ ρ v := fun i c u p ev hi hu ft => by
  obtain ⟨w, h3, h4⟩ := e.sl i c hi (foot_al ft)
  rw [hu] at h3; cases h3
  exact f i c u p ev hi hu ((Foot.to (fun p f => k i c u p hi hu f) h4).mp ft)
theorem Em.fle (e : Em K CA B G0 H G σ ρ) (l : Le H H') {v : V} (f : Free H σ ρ v) : Free H' σ ρ v := e.ftr (fun i c u p hi hu ft => by
  obtain ⟨w, h3, h4⟩ := e.sl i c hi (foot_al ft)
  rw [hu] at h3; cases h3
  obtain ⟨_, _, o, ho⟩ := h4.foot ft
  rw [ho]; exact l _ _ ho) f
/-- the heap grows -/
theorem Em.ext (e : Em K CA B G0 H G σ ρ) (l : Le H H') : Em K CA B G0 H' G σ ρ :=
  e.tr (e.gh.trans l) (e.bh.trans l) e.g0 e.gb (Le.refl _) fun i c v p _ _ _ hb hg ⟨o, ho⟩ => ⟨hb, hg, by rw [ho]; exact l _ _ ho⟩
/-- a new object that no slot holds -/
theorem Em.laid (e : Em K CA B G0 H G σ ρ) {p : Addr} {o : HO} (hp : H p = none) : Em K CA B G0 (upd H p o) G σ ρ := e.ext (Le.newH hp)
/-- an object that nobody holds is changed -/
theorem Em.chg (e : Em K CA B G0 H G σ ρ) {p : Addr} {o : HO} (hb : B p = none) (hg : G p = none) (hf : Free H σ ρ (.ref p)) : Em K CA B G0 (upd H p o) G σ ρ :=
  e.tr (fun a u q => by rw [upd_ne (ne_of_none q hg)]; exact e.gh a u q) (fun a u q => by rw [upd_ne (ne_of_none q hb)]; exact e.bh a u q) e.g0 e.gb (Le.refl _)
    fun i c v q hi hu f b g _ => ⟨b, g, upd_ne fun (z : q = p) => hf i c v p rfl hi hu (by rw [z] at f; exact f)⟩
/-- .. and still nobody holds what nobody held -/
theorem Em.chgF (e : Em K CA B G0 H G σ ρ) {p : Addr} {o : HO} (hf : Free H σ ρ (.ref p)) {v : V} (f : Free H σ ρ v) : Free (upd H p o) σ ρ v :=
  e.ftr (fun i c u q hi hu ft => upd_ne fun (z : q = p) => hf i c u p rfl hi hu (by rw [z] at ft; exact ft)) f
/-- what nobody holds is frozen -/
theorem Em.frz (e : Em K CA B G0 H G σ ρ) {p : Addr} {o : HO} (hb : B p = none) (hg : G p = none) (ho : H p = some o) (hf : Free H σ ρ (.ref p)) : Em K CA B G0 H (upd G p o) σ ρ ∧ Le G (upd G p o) := by
  have l : Le G (upd G p o) := Le.newH hg
  refine ⟨e.tr (fun a u q => ?_) e.bh (e.g0.trans l) (fun a u q => ?_) l fun i c v q hi hu f b g _ => ⟨b, ?_, rfl⟩, l⟩
  · by_cases z : a = p
    · subst z; rw [upd_same] at q; rw [← q]; exact ho
    · rw [upd_ne z] at q; exact e.gh a u q
  · rw [upd_ne (ne_of_none q hb)]; exact e.gb a u q
  · rw [upd_ne fun (z : q = p) => hf i c v p rfl hi hu (by rw [z] at f; exact f)]; exact g
/-- a value's cell is frozen -/
theorem Em.freeze (e : Em K CA B G0 H G σ ρ) {v : V} {c : Cell} (h : CAt K CA B G H σ ρ v c) : ∃ G', Le G G' ∧ Em K CA B G0 H G' σ ρ ∧ Rep K CA G' v c.d := by
  obtain ⟨h, hf⟩ := h
  obtain ⟨G', l, r, k, m⟩ := h.froz
  refine ⟨G', l, e.tr (fun a u q => ?_) e.bh (e.g0.trans l) (fun a u q => ?_) l fun i c' v' q hi hu f b g _ => ⟨b, ?_, rfl⟩, r⟩
  · rcases m a u q with z | ⟨_, z⟩
    · exact e.gh a u z
    · exact z
  · rw [k a fun z => by obtain ⟨z1, _, _⟩ := h.foot z; rw [q] at z1; cases z1]
    exact e.gb a u q
  · rw [k q fun z => hf q z i c' v' q rfl hi hu f]; exact g
/-- a slot takes a value -/
theorem Em.set (e : Em K CA B G0 H G σ ρ) {v : V} {c : Cell} {i : Nat} (ok : Frame.ok i) (h : CAt K CA B G H σ ρ v c) (hi : i < ρ.length) (hp : c.isP = true := by rfl) : Em K CA B G0 H G (σ.set i (some v)) (ρ.set i (some c)) where
  gh := e.gh
  bh := e.bh
  g0 := e.g0
  gb := e.gb
  len := by simp [e.len]
  al := fun t s k ds u h1 h2 h3 => by
    have zs : i ≠ s := fun z => by
      subst z
      have hi : i < ρ.length := by have := lt_of_get h2; simpa using this
      rw [get_set_eq hi] at h2; cases h2; cases hp
    have zt : i ≠ t := fun z => by
      subst z
      have hi : i < ρ.length := by have := lt_of_get h1; simpa using this
      rw [get_set_eq hi] at h1; cases h1; cases hp
    rw [get_set_ne zs] at h2 h3
    rw [get_set_ne zt] at h1
    obtain ⟨a, ps, p, q1, q2, q3, q4⟩ := e.al t s k ds u h1 h2 h3
    exact ⟨a, ps, p, q1, q2, q3, by rw [get_set_ne zt]; exact q4⟩
  sl := fun j c' q hc => by
    by_cases z : i = j
    · subst z
      rw [get_set_eq hi] at q
      cases q
      exact ⟨v, get_set_eq (by rw [e.len]; exact hi), h.1⟩
    · rw [get_set_ne z] at q
      obtain ⟨u, h1, h2⟩ := e.sl j c' q hc
      exact ⟨u, by rw [get_set_ne z]; exact h1, h2⟩
  sep := fun j k d d' u w p hjk hj hk hu hw => by
    by_cases zj : i = j
    · subst zj
      rw [get_set_eq hi] at hj
      rw [get_set_ne hjk] at hk hw
      rw [get_set_eq (by rw [e.len]; exact hi)] at hu
      cases hj; cases hu
      exact fun f => h.2 p f k d' w p rfl hk hw
    · rw [get_set_ne zj] at hj hu
      by_cases zk : i = k
      · subst zk
        rw [get_set_eq hi] at hk
        rw [get_set_eq (by rw [e.len]; exact hi)] at hw
        cases hk; cases hw
        exact fun f f2 => h.2 p f2 j d u p rfl hj hu f
      · rw [get_set_ne zk] at hk hw
        exact e.sep j k d d' u w p hjk hj hk hu hw
  fr := Frame.set i _ σ ok e.fr
/-- a slot is left -/
theorem Em.unset (e : Em K CA B G0 H G σ ρ) {i : Nat} {o : Option V} (ok : Frame.ok i) : Em K CA B G0 H G (σ.set i o) (ρ.set i none) where
  gh := e.gh
  bh := e.bh
  g0 := e.g0
  gb := e.gb
  len := by simp [e.len]
  al := fun t s k ds u h1 h2 h3 => by
    have zs : i ≠ s := fun z => by
      subst z
      have hi : i < ρ.length := by have := lt_of_get h2; simpa using this
      rw [get_set_eq hi] at h2; cases h2
    have zt : i ≠ t := fun z => by
      subst z
      have hi : i < ρ.length := by have := lt_of_get h1; simpa using this
      rw [get_set_eq hi] at h1; cases h1
    rw [get_set_ne zs] at h2 h3
    rw [get_set_ne zt] at h1
    obtain ⟨a, ps, p, q1, q2, q3, q4⟩ := e.al t s k ds u h1 h2 h3
    exact ⟨a, ps, p, q1, q2, q3, by rw [get_set_ne zt]; exact q4⟩
  sl := fun j c' q hc => by
    by_cases z : i = j
    · subst z
      have hi : i < ρ.length := by have := lt_of_get q; simpa using this
      rw [get_set_eq hi] at q
      cases q
    · rw [get_set_ne z] at q
      obtain ⟨u, h1, h2⟩ := e.sl j c' q hc
      exact ⟨u, by rw [get_set_ne z]; exact h1, h2⟩
  sep := fun j k d d' u w p hjk hj hk hu hw => by
    by_cases zj : i = j
    · subst zj
      have hi : i < ρ.length := by have := lt_of_get hj; simpa using this
      rw [get_set_eq hi] at hj; cases hj
    · rw [get_set_ne zj] at hj hu
      by_cases zk : i = k
      · subst zk
        have hi : i < ρ.length := by have := lt_of_get hk; simpa using this
        rw [get_set_eq hi] at hk; cases hk
      · rw [get_set_ne zk] at hk hw
        exact e.sep j k d d' u w p hjk hj hk hu hw
  fr := Frame.set i _ σ ok e.fr
/-- a slot is left, what stands in it stays -/
theorem Em.forget (e : Em K CA B G0 H G σ ρ) {i : Nat} : Em K CA B G0 H G σ (ρ.set i none) where
  gh := e.gh
  bh := e.bh
  g0 := e.g0
  gb := e.gb
  len := by simp [e.len]
  fr := e.fr
  al := fun t s k ds u h1 h2 h3 => by
    have zs : i ≠ s := fun z => by
      subst z
      have hi : i < ρ.length := by have := lt_of_get h2; simpa using this
      rw [get_set_eq hi] at h2; cases h2
    have zt : i ≠ t := fun z => by
      subst z
      have hi : i < ρ.length := by have := lt_of_get h1; simpa using this
      rw [get_set_eq hi] at h1; cases h1
    rw [get_set_ne zs] at h2
    rw [get_set_ne zt] at h1
    obtain ⟨a, ps, p, q1, q2, q3, q4⟩ := e.al t s k ds u h1 h2 h3
    exact ⟨a, ps, p, q1, q2, q3, q4⟩
  sl := fun j c' q hc => by
    by_cases z : i = j
    · subst z
      have hi : i < ρ.length := by have := lt_of_get q; simpa using this
      rw [get_set_eq hi] at q
      cases q
    · rw [get_set_ne z] at q
      exact e.sl j c' q hc
  sep := fun j k d d' u w p hjk hj hk hu hw => by
    by_cases zj : i = j
    · subst zj
      have hi : i < ρ.length := by have := lt_of_get hj; simpa using this
      rw [get_set_eq hi] at hj; cases hj
    · rw [get_set_ne zj] at hj
      by_cases zk : i = k
      · subst zk
        have hi : i < ρ.length := by have := lt_of_get hk; simpa using this
        rw [get_set_eq hi] at hk; cases hk
      · rw [get_set_ne zk] at hk
        exact e.sep j k d d' u w p hjk hj hk hu hw
/-- what stands in a slot is known again -/
theorem Em.fill (e : Em K CA B G0 H G σ ρ) {v : V} {c : Cell} {i : Nat} (hv : σ[i]? = some (some v)) (h : CAt K CA B G H σ ρ v c) (hp : c.isP = true := by rfl) : Em K CA B G0 H G σ (ρ.set i (some c)) where
  gh := e.gh
  bh := e.bh
  g0 := e.g0
  gb := e.gb
  len := by simp [e.len]
  fr := e.fr
  al := fun t s k ds u h1 h2 h3 => by
    have zs : i ≠ s := fun z => by
      subst z
      have hi : i < ρ.length := by have := lt_of_get h2; simpa using this
      rw [get_set_eq hi] at h2; cases h2; cases hp
    have zt : i ≠ t := fun z => by
      subst z
      have hi : i < ρ.length := by have := lt_of_get h1; simpa using this
      rw [get_set_eq hi] at h1; cases h1; cases hp
    rw [get_set_ne zs] at h2
    rw [get_set_ne zt] at h1
    obtain ⟨a, ps, p, q1, q2, q3, q4⟩ := e.al t s k ds u h1 h2 h3
    exact ⟨a, ps, p, q1, q2, q3, q4⟩
  sl := fun j c' q hc => by
    by_cases z : i = j
    · subst z
      have hi : i < ρ.length := by have := lt_of_get q; simpa using this
      rw [get_set_eq hi] at q
      cases q
      exact ⟨v, hv, h.1⟩
    · rw [get_set_ne z] at q
      exact e.sl j c' q hc
  sep := fun j k d d' u w p hjk hj hk hu hw => by
    by_cases zj : i = j
    · subst zj
      have hi : i < ρ.length := by have := lt_of_get hj; simpa using this
      rw [get_set_eq hi] at hj
      rw [get_set_ne hjk] at hk
      rw [hv] at hu
      cases hj; cases hu
      exact fun f => h.2 p f k d' w p rfl hk hw
    · rw [get_set_ne zj] at hj
      by_cases zk : i = k
      · subst zk
        have hi : i < ρ.length := by have := lt_of_get hk; simpa using this
        rw [get_set_eq hi] at hk
        rw [hv] at hw
        cases hk; cases hw
        exact fun f f2 => h.2 p f2 j d u p rfl hj hu f
      · rw [get_set_ne zk] at hk
        exact e.sep j k d d' u w p hjk hj hk hu hw
/-- what a slot owns, without the slot -/
theorem Em.take (e : Em K CA B G0 H G σ ρ) {i : Nat} {c : Cell} (h : ρ[i]? = some (some c)) (hc : c.isAl = false := by rfl) : ∃ v, σ[i]? = some (some v) ∧ Em K CA B G0 H G σ (ρ.set i none) ∧ CAt K CA B G H σ (ρ.set i none) v c := by
  obtain ⟨v, h1, h2⟩ := e.sl i _ h hc
  have hi := lt_of_get h
  refine ⟨v, h1, e.forget, h2, fun p f j d u q ev hj hu f2 => ?_⟩
  cases ev
  by_cases zj : i = j
  · subst zj; rw [get_set_eq hi] at hj; cases hj
  · rw [get_set_ne zj] at hj
    exact e.sep i j c d v u p zj h hj h1 hu f f2
/-- a slot is frozen -/
theorem Em.slotC (e : Em K CA B G0 H G σ ρ) {i : Nat} {c : Cell} (h : ρ[i]? = some (some c)) (hc : c.isAl = false := by rfl) : ∃ v G', σ[i]? = some (some v) ∧ Le G G' ∧ Em K CA B G0 H G' σ (ρ.set i (some (.sh c.d))) ∧ Rep K CA G' v c.d := by
  obtain ⟨v, h1, e1, h2⟩ := e.take h hc
  obtain ⟨G', l, e2, r⟩ := e1.freeze h2
  have e3 := e2.fill (i := i) (v := v) (c := .sh c.d) h1 (cat_sh r)
  rw [List.set_set] at e3
  exact ⟨v, G', h1, l, e3, r⟩
theorem Em.slot (e : Em K CA B G0 H G σ ρ) {i : Nat} {d : D} (h : ρ[i]? = some (some (.ow d))) : ∃ v G', σ[i]? = some (some v) ∧ Le G G' ∧ Em K CA B G0 H G' σ (ρ.set i (some (.sh d))) ∧ Rep K CA G' v d := e.slotC h
theorem free_new (e : Em K CA B G0 H G σ ρ) {a : Addr} (ha : H a = none) : Free H σ ρ (.ref a) := fun i c u p ev hi hu f => by
  cases ev
  obtain ⟨v, h1, h2⟩ := e.sl i c hi (foot_al f)
  rw [hu] at h1; cases h1
  obtain ⟨_, _, o, ho⟩ := h2.foot f
  rw [ha] at ho; cases ho
omit [Frame] in
theorem Rows.get : ∀ {ps : List Addr} {ds : List D} {j : Nat} {d : D}, Rows K CA B G H ps ds → ds[j]? = some d → ∃ p, ps[j]? = some p ∧ B p = none ∧ G p = none ∧ OwnAt K CA G H p d
  | _, _, _, _, .nil, e => by simp at e
  | _, _, 0, _, .cons hb hg ho hn t, e => by simp at e; subst e; exact ⟨_, rfl, hb, hg, ho⟩
  | _, _, j + 1, d, .cons hb hg ho hn t, e => by
    obtain ⟨p, h1, h2⟩ := Rows.get (j := j) (d := d) t (by simpa using e)
    exact ⟨p, by simpa using h1, h2⟩
omit [Frame] in
/-- a row is changed -/
theorem Rows.chg : ∀ {ps : List Addr} {ds : List D} {j : Nat} {p : Addr} {d : D} {o : HO}, Rows K CA B G H ps ds → ps[j]? = some p → OwnAt K CA G (upd H p o) p d → Rows K CA B G (upd H p o) ps (ds.set j d)
  | _, _, _, _, _, _, .nil, e, _ => by simp at e
  | _, _, 0, p, d, o, .cons hb hg ho hn t, e, h => by
    simp at e; subst e
    rw [List.set_cons_zero]
    exact .cons hb hg h hn (t.to (Le.refl _) fun q hq => by
      obtain ⟨q1, q2, _⟩ := t.mem hq
      exact ⟨q1, q2, upd_ne fun z => hn (z ▸ hq)⟩)
  | _, _, j + 1, p, d, o, .cons (p := q) hb hg ho hn t, e, h => by
    rw [List.set_cons_succ]
    have e' := (List.getElem?_cons_succ ▸ e : _)
    have hm : p ∈ _ := List.mem_of_getElem? e'
    exact .cons hb hg (ho.le (Le.refl _) (upd_ne fun (z : q = p) => hn (z ▸ hm))) hn (t.chg e' h)
omit [Frame] in
theorem mem_map_ref {p : Addr} {ps : List Addr} : V.ref p ∈ ps.map V.ref ↔ p ∈ ps := by
  constructor
  · intro h
    obtain ⟨q, h1, h2⟩ := List.mem_map.mp h
    cases h2; exact h1
  · exact fun h => List.mem_map.mpr ⟨p, h, rfl⟩
/-- another name of a row -/
theorem Em.row (e : Em K CA B G0 H G σ ρ) {t s j : Nat} {ds : List D} {d : D} (ht : ρ[t]? = some (some (.al s j))) (hs : ρ[s]? = some (some (.nst ds))) (hd : ds[j]? = some d) :
    ∃ p, σ[t]? = some (some (.ref p)) ∧ OwnAt K CA G H p d ∧ ∀ o d', OwnAt K CA G (upd H p o) p d' → Em K CA B G0 (upd H p o) G σ (ρ.set s (some (.nst (ds.set j d')))) := by
  obtain ⟨v, h1, h2⟩ := e.sl s _ hs
  obtain ⟨a, ps, p, ev, ha, hp, hst⟩ := e.al t s j ds v ht hs h1
  subst ev
  obtain ⟨a', ps', ea, hb, hg, ha', hn, r⟩ := h2
  cases ea
  rw [ha] at ha'; injection ha' with ha'; injection ha' with ha'
  have eps := refs_inj ha'; subst eps
  obtain ⟨p', hp', hbp, hgp, ho⟩ := r.get hd
  rw [hp] at hp'; cases hp'
  have hmem : p ∈ ps := List.mem_of_getElem? hp
  have hap : a ≠ p := fun z => hn (z ▸ hmem)
  have fp : Foot H (.ref a) (.nst ds) p := ⟨a, ps, rfl, ha, .inr hmem⟩
  refine ⟨p, hst, ho, fun o d' ho' => ?_⟩
  have hi := lt_of_get hs
  have oth : ∀ (i : Nat) (c : Cell) (u : V) (q : Addr), i ≠ s → ρ[i]? = some (some c) → σ[i]? = some (some u) → Foot H u c q → upd H p o q = H q := fun i c u q his hi hu f => upd_ne fun z => e.sep s i _ c _ u p (Ne.symm his) hs hi h1 hu fp (z ▸ f)
  refine { gh := fun b u q => by rw [upd_ne (ne_of_none q hgp)]; exact e.gh b u q, bh := fun b u q => by rw [upd_ne (ne_of_none q hbp)]; exact e.bh b u q, g0 := e.g0, gb := e.gb, len := by simp [e.len], fr := e.fr, sl := fun i c hc hal => ?_, al := fun t' s' i' ds' u q1 q2 q3 => ?_, sep := fun i k c c' u w q hik hi hk hu hw f f2 => ?_ }
  · by_cases z : s = i
    · subst z
      rw [get_set_eq hi] at hc; cases hc
      exact ⟨_, h1, a, ps, rfl, hb, hg, (upd_ne hap).trans ha, hn, r.chg hp ho'⟩
    · rw [get_set_ne z] at hc
      obtain ⟨w, g1, g2⟩ := e.sl i c hc hal
      exact ⟨w, g1, g2.to (Le.refl _) fun q f => by
        obtain ⟨f1, f2, _⟩ := g2.foot f
        exact ⟨f1, f2, oth i c w q (Ne.symm z) hc g1 f⟩⟩
  · have zt : s ≠ t' := fun z => by subst z; rw [get_set_eq hi] at q1; cases q1
    rw [get_set_ne zt] at q1
    by_cases z : s = s'
    · subst z
      rw [h1] at q3; cases q3
      obtain ⟨a2, ps2, p2, e1, e2, e3, e4⟩ := e.al t' s i' ds _ q1 hs h1
      cases e1
      exact ⟨a, ps2, p2, rfl, (upd_ne hap).trans e2, e3, e4⟩
    · rw [get_set_ne z] at q2
      obtain ⟨a2, ps2, p2, e1, e2, e3, e4⟩ := e.al t' s' i' ds' u q1 q2 q3
      exact ⟨a2, ps2, p2, e1, (oth s' _ u a2 (Ne.symm z) q2 q3 ⟨a2, ps2, e1, e2, .inl rfl⟩).trans e2, e3, e4⟩
  · -- footprints stay
    have key : ∀ (i : Nat) (c : Cell) (u : V), (ρ.set s (some (.nst (ds.set j d'))))[i]? = some (some c) → σ[i]? = some (some u) → Foot (upd H p o) u c q → ∃ c0, ρ[i]? = some (some c0) ∧ Foot H u c0 q := fun i c u hi' hu f => by
      by_cases z : s = i
      · subst z
        rw [get_set_eq (lt_of_get hs)] at hi'; cases hi'
        rw [h1] at hu; cases hu
        obtain ⟨a2, ps2, e1, e2, e3⟩ := f
        cases e1
        rw [upd_ne hap] at e2
        exact ⟨_, hs, a, ps2, rfl, e2, e3⟩
      · rw [get_set_ne z] at hi'
        have hal := foot_al f
        obtain ⟨w, g1, g2⟩ := e.sl i c hi' hal
        rw [hu] at g1; cases g1
        exact ⟨c, hi', (Foot.to (fun q f => oth i c u q (Ne.symm z) hi' hu f) g2).mp f⟩
    obtain ⟨c0, m1, m2⟩ := key i c u hi hu f
    obtain ⟨c1, m3, m4⟩ := key k c' w hk hw f2
    exact e.sep i k c0 c1 u w q hik m1 m3 hu hw m2 m4
end
end DL

set_option maxHeartbeats 4000000
/-! DL2: the core text and what it means over data. -/
namespace DL
open PySem PySem.Spec PyProof.Rows L2


/-! ### results -/
inductive R (α : Type) where
  | ok (a : α) (ρ : Env)
  | ex (x : Exn) (ρ : Env)
  | no
namespace R
variable {α β : Type}
def bind (r : R α) (f : α → Env → R β) : R β := match r with
  | ok a ρ => f a ρ
  | ex x ρ => ex x ρ
  | no => no
@[simp] theorem bind_ok {a : α} {ρ : Env} {f : α → Env → R β} : (ok a ρ).bind f = f a ρ := rfl
@[simp] theorem bind_ex {x : Exn} {ρ : Env} {f : α → Env → R β} : (ex x ρ : R α).bind f = ex x ρ := rfl
@[simp] theorem bind_no {f : α → Env → R β} : (no : R α).bind f = no := rfl
def lift (o : Option α) (ρ : Env) : R α := match o with
  | some a => ok a ρ
  | none => no
@[simp] theorem lift_some {a : α} {ρ : Env} : lift (some a) ρ = ok a ρ := rfl
@[simp] theorem lift_none {ρ : Env} : lift (none : Option α) ρ = no := rfl
/-- no error leaves -/
def calm (r : R α) : R α := match r with
  | ex _ _ => no
  | r => r
@[simp] theorem calm_ok {a : α} {ρ : Env} : (ok a ρ).calm = ok a ρ := rfl
@[simp] theorem calm_ex {x : Exn} {ρ : Env} : (ex x ρ : R α).calm = no := rfl
@[simp] theorem calm_no : (no : R α).calm = no := rfl
end R
def fz (r : R Cell) : R D := match r with
  | .ok c ρ => .ok c.d ρ
  | .ex x ρ => .ex x ρ
  | .no => .no
@[simp] theorem fz_ok {c : Cell} {ρ : Env} : fz (.ok c ρ) = .ok c.d ρ := rfl
@[simp] theorem fz_ex {x : Exn} {ρ : Env} : fz (.ex x ρ) = .ex x ρ := rfl
@[simp] theorem fz_no : fz .no = .no := rfl
@[simp] theorem Cell.d_sh (d : D) : (Cell.sh d).d = d := rfl
@[simp] theorem Cell.d_ow (d : D) : (Cell.ow d).d = d := rfl
@[simp] theorem Cell.isP_sh (d : D) : (Cell.sh d).isP = true := rfl
@[simp] theorem Cell.isP_ow (d : D) : (Cell.ow d).isP = true := rfl
@[simp] theorem Cell.d_nst (ds : List D) : (Cell.nst ds).d = .lst ds := rfl

/-! ### operations on data -/
mutual
def D.py : D → Option PyData
  | .non => some .none
  | .bl b => some (.bool b)
  | .int i => some (.int i)
  | .str x => some (.str x)
  | .tup xs => (pyAll xs).map .tuple
  | .lst xs => (pyAll xs).map .list
  | .dct _ => none
  | .ins _ _ => none
def D.pyAll : List D → Option (List PyData)
  | [] => some []
  | x :: xs => match D.py x, D.pyAll xs with
    | some p, some ps => some (p :: ps)
    | _, _ => none
end
def eqD (d e : D) : Option Bool := match d.py, e.py with
  | some p, some q => if min p.depth q.depth ≤ 190 then some (PyData.eqv p q) else none
  | _, _ => none
def inSeq (d : D) (es : List D) : Option Bool := match d.py, D.pyAll es with
  | some p, some ps => if min (PyData.depthAll ps) p.depth ≤ 190 then some (ps.any fun z => PyData.eqv z p) else none
  | _, _ => none
def cap : Nat := 16777216
def binD : Bo → D → D → Option Cell
  | .add, .int i, .int j => some (.sh (.int (i + j)))
  | .add, .str x, .str y => if x.length + y.length ≤ 1000000 then some (.sh (.str (x ++ y))) else none
  | .add, .tup xs, .tup ys => if xs.length + ys.length ≤ cap then some (.sh (.tup (xs ++ ys))) else none
  | .add, .lst xs, .lst ys => if xs.length + ys.length ≤ cap then some (.ow (.lst (xs ++ ys))) else none
  | .sub, .int i, .int j => some (.sh (.int (i - j)))
  | .mul, .int i, .int j => if (-(2 ^ 64) < i ∧ i < 2 ^ 64) ∨ (-(2 ^ 64) < j ∧ j < 2 ^ 64) then some (.sh (.int (i * j))) else none
  | .mul, .lst xs, .int k => if (-(2 ^ 63) ≤ k ∧ k < 2 ^ 63) ∧ xs.length * k.toNat ≤ cap then some (.ow (.lst (List.replicate k.toNat xs).flatten)) else none
  | .fdv, .int i, .int j => if 0 < j ∧ j < 1073741824 then some (.sh (.int (i / j))) else none
  | .mod, .int i, .int j => if 0 < j then some (.sh (.int (i % j))) else none
  | .pow, .int i, .int j => if 0 ≤ j ∧ j ≤ 1000000 ∧ i.natAbs < 2 ^ 64 then some (.sh (.int (i ^ j.toNat))) else none
  | _, _, _ => none
def trD : D → Option Bool
  | .non => some false
  | .bl b => some b
  | .int i => some (i != 0)
  | .str x => some ((x.length : Int) != 0)
  | .tup xs => some (!xs.isEmpty)
  | .lst xs => some (!xs.isEmpty)
  | .dct kvs => some (!kvs.isEmpty)
  | _ => none
def cutL {α : Type} (xs : List α) (lo hi : Option Int) : List α := (xs.drop (HT.sIx xs.length 0 lo)).take (HT.sIx xs.length xs.length hi - HT.sIx xs.length 0 lo)
def slD : D → Option Int → Option Int → Option Cell
  | .lst xs, l, h => some (.ow (.lst (cutL xs l h)))
  | .tup xs, l, h => some (.sh (.tup (cutL xs l h)))
  | .str x, l, h => some (.sh (.str ⟨(cutL x.cps.toList l h).toArray⟩))
  | _, _, _ => none
def keyD : D → Option Key
  | .int i => some (.inl i)
  | .str x => some (.inr x)
  | _ => none
def lookK (k : Key) (kvs : List (Key × D)) : Option D := (kvs.find? fun kv => decide (kv.1 = k)).map (·.2)
def ixD : D → D → Option D
  | .lst xs, .int i => atI xs i
  | .tup xs, .int i => atI xs i
  | .str x, .int i => (atI x.cps.toList i).map fun c => .str ⟨#[c]⟩
  | .dct kvs, k => (keyD k).bind fun k => lookK k kvs
  | _, _ => none
def lenD : D → Option Nat
  | .lst xs => some xs.length
  | .tup xs => some xs.length
  | .str x => some x.length
  | .dct kvs => some kvs.length
  | _ => none
def inD : D → D → Option Bool
  | d, .lst es => inSeq d es
  | d, .tup es => inSeq d es
  | .str x, .str y => match x.cps.toList with
    | [c] => some (decide (c ∈ y.cps.toList))
    | _ => none
  | k, .dct kvs => (keyD k).map fun k => (lookK k kvs).isSome
  | _, _ => none
def cmpD : Co → D → D → Option Bool
  | .eq, d, e => eqD d e
  | .ne, d, e => (eqD d e).map not
  | .lt, .int i, .int j => some (decide (i < j))
  | .le, .int i, .int j => some (decide (i ≤ j))
  | .gt, .int i, .int j => some (decide (j < i))
  | .ge, .int i, .int j => some (decide (j ≤ i))
  | .lt, .str x, .str y => some (decide (x.cps.toList < y.cps.toList))
  | .is, .non, .non => some true
  | .is, .bl a, .bl b => some (a == b)
  | .is, .non, _ => none
  | .is, _, .non => some false
  | .isn, .non, .non => some false
  | .isn, .bl a, .bl b => some (!(a == b))
  | .isn, .non, _ => none
  | .isn, _, .non => some true
  | .in_, d, e => inD d e
  | .nin, d, e => (inD d e).map not
  | _, _, _ => none
def sumD : List D → Option Int
  | [] => some 0
  | .int i :: r => (sumD r).map (i + ·)
  | _ => none
def intsD : List D → Option (List Int)
  | [] => some []
  | .int i :: r => (intsD r).map (i :: ·)
  | _ => none
def blsD : List D → Option (List Bool)
  | [] => some []
  | .bl i :: r => (blsD r).map (i :: ·)
  | _ => none
def maxL : List Int → Option Int
  | [] => none
  | i :: r => some (r.foldl max i)
def minL : List Int → Option Int
  | [] => none
  | i :: r => some (r.foldl min i)
def isShow : D → Bool
  | .str _ => true
  | .tup _ => true
  | .lst _ => true
  | _ => false
/-- how data is shown -/
def reprD (d : D) : Option Cell := (d.py).bind fun p => if (isShow d = true ∧ p.showable = true ∧ p.depth ≤ 150) ∧ sOk p.shown = true then some (.sh (.str p.shown)) else none
/-- pairs: keys, values -/
def prsD : List D → Option (List (Key × D))
  | [] => some []
  | .tup [.str k, d] :: r => (prsD r).map fun l => (.inr k, d) :: l
  | _ => none
def putDk (k : Key) (d : D) (kvs : List (Key × D)) : List (Key × D) :=
  if (kvs.any fun kv => decide (kv.1 = k)) = true then kvs.map (fun kv => if kv.1 = k then (kv.1, d) else kv) else kvs ++ [(k, d)]
def putAll (l : List (Key × D)) : List (Key × D) := l.foldl (fun acc p => putDk p.1 p.2 acc) []
def strsD : List D → Option (List Str)
  | [] => some []
  | .str i :: r => (strsD r).map (i :: ·)
  | _ => none
/-- the first one that is equal -/
def idxD (y : D) : List D → Option Nat
  | [] => none
  | x :: xs => match eqD x y with
    | some true => some 0
    | some false => (idxD y xs).map (· + 1)
    | none => none
def biD : Bi → List D → Option Cell
  | .len, [d] => (lenD d).map fun n => .sh (.int n)
  | .int, [.int i] => some (.sh (.int i))
  | .int, [.bl b] => some (.sh (.int (if b then 1 else 0)))
  | .list, [.lst xs] => some (.ow (.lst xs))
  | .list, [.tup xs] => some (.ow (.lst xs))
  | .tuple, [.lst xs] => some (.sh (.tup xs))
  | .tuple, [.tup xs] => some (.sh (.tup xs))
  | .sum, [.lst xs] => (intsD xs).map fun l => .sh (.int l.sum)
  | .max, [.int i, .int j] => some (.sh (.int (max i j)))
  | .min, [.int i, .int j] => some (.sh (.int (min i j)))
  | .max, [.lst xs] => (intsD xs).bind fun l => (maxL l).map fun i => .sh (.int i)
  | .min, [.lst xs] => (intsD xs).bind fun l => (minL l).map fun i => .sh (.int i)
  | .any, [.lst xs] => (blsD xs).map fun l => .sh (.bl (l.any id))
  | .all, [.lst xs] => (blsD xs).map fun l => .sh (.bl (l.all id))
  | .str, [.int i] => if i.natAbs.log2 < 1920 ∧ sOk (Str.ofString (toString i)) = true then some (.sh (.str (Str.ofString (toString i)))) else none
  | .str, [.str x] => some (.sh (.str x))
  | .repr, [d] => reprD d
  | _, _ => none
/-- built-ins over what is walked -/
def btD : Bi → List D → Option Cell
  | .tuple, ds => if ds.length ≤ cap then some (.sh (.tup ds)) else none
  | .list, ds => if ds.length ≤ cap then some (.ow (.lst ds)) else none
  | .dict, ds => (prsD ds).bind fun l => if l.length ≤ cap then some (.ow (.dct (putAll l))) else none
  | _, _ => none
def mtD : Mt → D → List D → Option Cell
  | .get, .dct kvs, [k] => (keyD k).map fun k => .sh ((lookK k kvs).getD .non)
  | .get, .dct kvs, [k, d] => (keyD k).map fun k => .sh ((lookK k kvs).getD d)
  | .upper, .str a, [] => if a.length ≤ 5592405 ∧ sOk (Txt.upper a) = true then some (.sh (.str (Txt.upper a))) else none
  | .join, .str a, [.lst ys] => (strsD ys).bind fun l => if (l.map (·.length)).sum + l.length * a.length ≤ 16777216 ∧ sOk (Txt.join a l) = true then some (.sh (.str (Txt.join a l))) else none
  | .join, .str a, [.tup ys] => (strsD ys).bind fun l => if (l.map (·.length)).sum + l.length * a.length ≤ 16777216 ∧ sOk (Txt.join a l) = true then some (.sh (.str (Txt.join a l))) else none
  | .startswith, .str a, [.str b] => some (.sh (.bl (Txt.startswith a b)))
  | .find, .str a, [.str b] => some (.sh (.int (Txt.find a b)))
  | .split, .str a, [.str b] => if (b.length == 0) = false ∧ (Txt.split a b).all sOk = true then some (.ow (.lst ((Txt.split a b).map .str))) else none
  | .index, .lst xs, [y] => match D.pyAll xs, y.py with
    | some ds, some d => if (SeqAt.shaped (.list ds) = true ∧ SeqAt.shaped d = true) then (idxD y xs).map fun j => .sh (.int (j : Nat)) else none
    | _, _ => none
  | _, _, _ => none
/-- what the method is asked of -/
def mtOk : Mt → D → Bool
  | .get, .dct _ => true
  | .index, .lst _ => true
  | .get, _ => false
  | .index, _ => false
  | _, .str _ => true
  | _, _ => false
/-- the places: an int of a slice -/
def intO : D → Option Int
  | .int i => some i
  | _ => none
/-- what is walked -/
def walkD : D → Option (List D)
  | .lst xs => some xs
  | .tup xs => some xs
  | .str x => some (x.cps.toList.map fun c => .str ⟨#[c]⟩)
  | _ => none
def rngD : List D → Option (List D)
  | [.int n] => if -(2 ^ 62) ≤ n ∧ n ≤ cap then some ((List.range n.toNat).map fun (k : Nat) => .int (0 + (k : Int))) else none
  | [.int a, .int b] => if (-(2 ^ 62) ≤ a ∧ a < 2 ^ 62) ∧ (-(2 ^ 62) ≤ b ∧ b < 2 ^ 62) ∧ b - a ≤ cap then some ((List.range (b - a).toNat).map fun (k : Nat) => .int (a + (k : Int))) else none
  | _ => none
def enuD (ds : List D) : List D := ds.zipIdx.map fun p => .tup [.int p.2, p.1]

/-- a starred item: a list's, a tuple's items -/
def starD : D → Option (List D)
  | .lst xs => some xs
  | .tup xs => some xs
  | _ => none
/-! ### targets -/
mutual
def Tg.bind : Tg → D → Env → Option Env
  | .n i, d, ρ => if i < ρ.length then some (ρ.set i (some (.sh d))) else none
  | .t ts, .tup ds, ρ => Tg.binds ts ds ρ
  | _, _, _ => none
def Tg.binds : Tg → List D → Env → Option Env
  | .z, [], ρ => some ρ
  | .c a b, d :: ds, ρ => (Tg.bind a d ρ).bind fun ρ => Tg.binds b ds ρ
  | _, _, _ => none
end
def wipeE (ρ : Env) : List Nat → Env
  | [] => ρ
  | v :: vs => (wipeE ρ vs).set v none
def backC : Option Cell → Option Cell
  | some (.sh d) => some (.sh d)
  | _ => none
/-- behind a comprehension: its own names as they were -/
def backE (ρ ρ' : Env) (own : List Nat) : Env := ρ'.mapIdx fun i c => if i ∈ own then backC ((ρ[i]?).getD none) else c

/-! ### the meaning -/
def FR.r (f : FR) (ρ : Env) : R Cell := match f with
  | .ok c => .ok c ρ
  | .ex x => .ex x ρ
  | .no => .no
@[simp] theorem FR.r_ok {c : Cell} {ρ : Env} : (FR.ok c).r ρ = .ok c ρ := rfl
@[simp] theorem FR.r_ex {x : Exn} {ρ : Env} : (FR.ex x).r ρ = .ex x ρ := rfl
@[simp] theorem FR.r_no {ρ : Env} : FR.no.r ρ = .no := rfl
/-- the key of an item -/
def keyP (g : List D → FR) (x : D) : Option PyData := match g [x] with
  | .ok (.sh d) => d.py
  | _ => none
def isTupC : PyData → Bool
  | .tuple (_ :: _) => true
  | _ => false
def isPlainK : PyData → Bool
  | .none => false
  | .tuple _ => false
  | _ => true
/-- keys that can be sorted -/
def keysOk (ks : List PyData) : Bool := (ks.all fun a => ks.all fun b => PySem.W.alike a b) && ((ks.all isTupC || ks.all isPlainK) && ks.all fun p => decide (p.depth ≤ 60))
def keysL (g : List D → FR) : List D → Option (List PyData)
  | [] => some []
  | x :: xs => match keyP g x, keysL g xs with
    | some k, some ks => some (k :: ks)
    | _, _ => none
def sortK (g : List D → FR) (xs : List D) : Option (List D) := (keysL g xs).bind fun ks => if keysOk ks = true ∧ xs.length ≤ cap then some (xs.mergeSort (PySem.W.dataLe false fun x => (keyP g x).getD .none)) else none
/-- the program around: what its defs do, its constants, the defs that are == of its classes, the names of the parameters -/
structure Pg where
  call : Nat → List D → FR
  con : List D
  eqs : List (Nat × Nat)
  ps : List (List Str)
  wf : Nat
  ncls : Nat
  xs : List (List Str)
  sub : Nat → Option Nat → Bool
  nx : Nat
  rep : Bool
def pk (e : Ex) (ρ : Env) (r : R Cell) : R D := match e with
  | .v i => (match ρ[i]? with
    | some (some (.sh d)) => .ok d ρ
    | some (some (.ow d)) => .ok d ρ
    | some (some (.al s j)) => (match ρ[s]? with
      | some (some (.nst ds)) => (match ds[j]? with
        | some d => .ok d ρ
        | none => .no)
      | _ => .no)
    | _ => .no)
  | _ => fz r
/-- the arguments, by the parameters' names -/
def fillK {α : Type} : List Str → List (Str × α) → Option (List α)
  | [], _ => some []
  | p :: ps, kw => match kw.lookup p, fillK ps kw with
    | some a, some r => some (a :: r)
    | _, _ => none
def arr {α : Type} (ps : List Str) (us : List α) (kn : List Str) (ws : List α) : Option (List α) := if ws.length = kn.length then (fillK (ps.drop us.length) (kn.zip ws)).map (us ++ ·) else none
def kwArr (ps : List Str) (ds : List D) (kn : List Str) (ks : List D) : Option (List D) := arr ps ds kn ks
def loopC (f : D → Env → R (List D)) : List D → Env → R (List D)
  | [], ρ => .ok [] ρ
  | d :: ds, ρ => (f d ρ).bind fun xs ρ => (loopC f ds ρ).bind fun ys ρ => if xs.length + ys.length ≤ cap then .ok (xs ++ ys) ρ else .no
def cmpR (P : Pg) (o : Co) (x y : D) (ρ : Env) : R Cell := match x, o with
  | .ins c fs, .eq => (match P.eqs.lookup c with
    | some f => (match P.call f [.ins c fs, y] with
      | .ok (.sh (.bl true)) => .ok (.sh (.bl true)) ρ
      | _ => .no)
    | none => .no)
  | x, o => (R.lift (cmpD o x y) ρ).bind fun b ρ => .ok (.sh (.bl b)) ρ
def pairsD : List D → Option (List (Key × D))
  | [] => some []
  | k :: d :: r => (keyD k).bind fun k => (pairsD r).map fun l => (k, d) :: l
  | _ => none
/-! ### nested lists -/
def killA (ρ : Env) (s : Nat) : Env := ρ.map fun c => match c with
  | some (.al t j) => if t = s then none else some (.al t j)
  | c => c
def asN : Cell → Option (List D)
  | .nst ds => some ds
  | .ow (.lst []) => some []
  | _ => none
def rowOf : Cell → Option D
  | .ow d => some d
  | _ => none
/-! no list within -/
mutual
def D.noL : D → Bool
  | .lst _ => false
  | .tup xs => D.noLs xs
  | .dct xs => D.noLk xs
  | .ins _ fs => D.noLf fs
  | _ => true
def D.noLs : List D → Bool
  | [] => true
  | x :: xs => D.noL x && D.noLs xs
def D.noLk : List (Key × D) → Bool
  | [] => true
  | (_, x) :: xs => D.noL x && D.noLk xs
def D.noLf : List (Str × D) → Bool
  | [] => true
  | (_, x) :: xs => D.noL x && D.noLf xs
end
/-- what is lent: the slots us as they are, slot s for a time, the others not -/
def lendE (ρ : Env) (us : List Nat) (s : Nat) (ds : List D) : Env := ρ.mapIdx fun k c => if k = s then some (.sh (.lst ds)) else if k ∈ us then backC c else none
section
variable (P : Pg)
mutual
def ev : Ex → Env → R Cell
  | .v i, ρ => (match ρ[i]? with
    | some (some (.sh d)) => .ok (.sh d) ρ
    | some (some (.ow d)) => .ok (.sh d) (ρ.set i (some (.sh d)))
    | some (some (.nst ds)) => .ok (.sh (.lst ds)) (ρ.set i (some (.sh (.lst ds))))
    | _ => .no)
  | .non, ρ => .ok (.sh .non) ρ
  | .bl b, ρ => .ok (.sh (.bl b)) ρ
  | .int i, ρ => .ok (.sh (.int i)) ρ
  | .str s, ρ => .ok (.sh (.str s)) ρ
  | .g n, ρ => (R.lift P.con[n]? ρ).bind fun d ρ => .ok (.sh d) ρ
  | .bin o a b, ρ => (pk a ρ (ev a ρ)).bind fun x ρ => (pk b ρ (ev b ρ)).bind fun y ρ => R.lift (binD o x y) ρ
  | .neg a, ρ => (pk a ρ (ev a ρ)).bind fun x ρ => (match x with
    | .int i => .ok (.sh (.int (-i))) ρ
    | _ => .no)
  | .cmp o a b, ρ => (pk a ρ (ev a ρ)).bind fun x ρ => (pk b ρ (ev b ρ)).bind fun y ρ => cmpR P o x y ρ
  | .chn o p a b c, ρ => (pk a ρ (ev a ρ)).bind fun x ρ => (pk b ρ (ev b ρ)).bind fun y ρ => (R.lift (cmpD o x y) ρ).bind fun k ρ =>
      if k = true then (pk c ρ (ev c ρ)).bind fun z ρ => (R.lift (cmpD p y z) ρ).bind fun k ρ => .ok (.sh (.bl k)) ρ else .ok (.sh (.bl false)) ρ
  | .and a b, ρ => (fz (ev a ρ)).bind fun x ρ => (R.lift (trD x) ρ).bind fun k ρ => if k = true then ev b ρ else .ok (.sh x) ρ
  | .or a b, ρ => (fz (ev a ρ)).bind fun x ρ => (R.lift (trD x) ρ).bind fun k ρ => if k = true then .ok (.sh x) ρ else ev b ρ
  | .not a, ρ => (pk a ρ (ev a ρ)).bind fun x ρ => (R.lift (trD x) ρ).bind fun k ρ => .ok (.sh (.bl (!k))) ρ
  | .ite c a b, ρ => (tc c ρ).bind fun k ρ => if k = true then ev a ρ else ev b ρ
  | .tup es, ρ => (evs es ρ).bind fun ds ρ => if ds.length ≤ cap then .ok (.sh (.tup ds)) ρ else .no
  | .lst es, ρ => (evs es ρ).bind fun ds ρ => if ds.length ≤ cap then .ok (.ow (.lst ds)) ρ else .no
  | .ix a b, ρ => (pk a ρ (ev a ρ)).bind fun x ρ => (pk b ρ (ev b ρ)).bind fun y ρ => (R.lift (ixD x y) ρ).bind fun d ρ => .ok (.sh d) ρ
  | .sl a l h, ρ => (pk a ρ (ev a ρ)).bind fun x ρ => (evo l ρ).bind fun l ρ => (evo h ρ).bind fun h ρ => R.lift (slD x l h) ρ
  | .rv a, ρ => (pk a ρ (ev a ρ)).bind fun x ρ => (match x with
    | .lst xs => .ok (.ow (.lst xs.reverse)) ρ
    | _ => .no)
  | .call f es, ρ => (evs es ρ).bind fun ds ρ => (P.call f ds).r ρ
  | .callk f es kn ks, ρ => (evs es ρ).bind fun ds ρ => (evs ks ρ).bind fun ys ρ => (R.lift ((P.ps[f]?).bind fun ps => kwArr ps ds kn ys) ρ).bind fun zs ρ => (P.call f zs).r ρ
  | .mk _ f es, ρ => (evs es ρ).bind fun ds ρ => (P.call f ds).r ρ
  | .mkk _ f es kn ks, ρ => (evs es ρ).bind fun ds ρ => (evs ks ρ).bind fun ys ρ => (R.lift ((P.ps[f]?).bind fun ps => kwArr (ps.drop 1) ds kn ys) ρ).bind fun zs ρ => (P.call f zs).r ρ
  | .om c f o m es, ρ => (fz (ev o ρ)).bind fun x ρ => (match x with
    | .ins c' fs => if c' = c ∧ fs.lookup m = none then (evs es ρ).bind fun ds ρ => (P.call f (.ins c' fs :: ds)).r ρ else .no
    | _ => .no)
  | .omk c f o m es kn ks, ρ => (fz (ev o ρ)).bind fun x ρ => (match x with
    | .ins c' fs => if c' = c ∧ fs.lookup m = none then (evs es ρ).bind fun ds ρ => (evs ks ρ).bind fun ys ρ => (R.lift ((P.ps[f]?).bind fun ps => kwArr ps (.ins c' fs :: ds) kn ys) ρ).bind fun zs ρ => (P.call f zs).r ρ else .no
    | _ => .no)
  | .bi b es, ρ => (evps es ρ).bind fun ds ρ => R.lift (biD b ds) ρ
  | .bit b i, ρ => (evi i ρ).bind fun ds ρ => R.lift (btD b ds) ρ
  | .isi e _ ts, ρ => (pk e ρ (ev e ρ)).bind fun x ρ => if insOk P.ncls x = true then .ok (.sh (.bl (ts.any (tyD x)))) ρ else .no
  | .mt m o es, ρ => (pk o ρ (ev o ρ)).bind fun x ρ => if mtOk m x = true then (evs es ρ).bind fun ds ρ => R.lift (mtD m x ds) ρ else .no
  | .fld o f, ρ => (pk o ρ (ev o ρ)).bind fun x ρ => (match x with
    | .ins c fs => if c < P.ncls then (R.lift (fs.lookup f) ρ).bind fun d ρ => .ok (.sh d) ρ else .no
    | _ => .no)
  | .lc e own gs, ρ => (evg gs (fun ρ => (fz (ev e ρ)).bind fun d ρ => .ok [d] ρ) ρ).calm.bind fun ds ρ' => .ok (.ow (.lst ds)) (backE ρ ρ' own)
  | .lcn e own gs, ρ => (evg gs (fun ρ => (ev e ρ).bind fun c ρ => (R.lift (rowOf c) ρ).bind fun d ρ => .ok [d] ρ) ρ).calm.bind fun ds ρ' => .ok (.nst ds) (backE ρ ρ' own)
  | .nlen s, ρ => (match ρ[s]? with
    | some (some (.nst ds)) => .ok (.sh (.int ds.length)) ρ
    | _ => .no)
  | .dc k v own gs, ρ => (evg gs (fun ρ => (fz (ev k ρ)).bind fun x ρ => (fz (ev v ρ)).bind fun y ρ => .ok [x, y] ρ) ρ).calm.bind fun ds ρ' =>
      (R.lift (pairsD ds) (backE ρ ρ' own)).bind fun l ρ => .ok (.ow (.dct (putAll l))) ρ
  | .dsp es, ρ => (evs es ρ).bind fun ds ρ => (R.lift (pairsD ds) ρ).bind fun l ρ => .ok (.ow (.dct (putAll l))) ρ
  | .srt f e, ρ => (pk e ρ (ev e ρ)).bind fun x ρ => (R.lift (starD x) ρ).bind fun xs ρ => (R.lift (sortK (P.call f) xs) ρ).bind fun ys ρ => .ok (.ow (.lst ys)) ρ
def evs : Exs → Env → R (List D)
  | .n, ρ => .ok [] ρ
  | .c e es, ρ => (fz (ev e ρ)).bind fun d ρ => (evs es ρ).bind fun ds ρ => .ok (d :: ds) ρ
  | .s e es, ρ => (pk e ρ (ev e ρ)).bind fun x ρ => (R.lift (starD x) ρ).bind fun xs ρ => (evs es ρ).bind fun ds ρ => .ok (xs ++ ds) ρ
def evps : Exs → Env → R (List D)
  | .n, ρ => .ok [] ρ
  | .c e es, ρ => (pk e ρ (ev e ρ)).bind fun d ρ => (evps es ρ).bind fun ds ρ => .ok (d :: ds) ρ
  | .s _ _, _ => .no
def evo : Exo → Env → R (Option Int)
  | .n, ρ => .ok none ρ
  | .s e, ρ => (pk e ρ (ev e ρ)).bind fun x ρ => (R.lift (intO x) ρ).bind fun i ρ => .ok (some i) ρ
def tc : Cd → Env → R Bool
  | .e e, ρ => (pk e ρ (ev e ρ)).bind fun x ρ => R.lift (trD x) ρ
  | .and a b, ρ => (tc a ρ).bind fun k ρ => if k = true then tc b ρ else .ok false ρ
  | .or a b, ρ => (tc a ρ).bind fun k ρ => if k = true then .ok true ρ else tc b ρ
  | .not a, ρ => (tc a ρ).bind fun k ρ => .ok (!k) ρ
  | .ite c a b, ρ => (tc c ρ).bind fun k ρ => if k = true then tc a ρ else tc b ρ
def tco : Cdo → Env → R Bool
  | .n, ρ => .ok true ρ
  | .s c, ρ => tc c ρ
/-- the items of what is walked -/
def evi : It → Env → R (List D)
  | .e e, ρ => (fz (ev e ρ)).bind fun x ρ => R.lift (walkD x) ρ
  | .rng es, ρ => (evs es ρ).bind fun ds ρ => R.lift (rngD ds) ρ
  | .enu e, ρ => (fz (ev e ρ)).bind fun x ρ => (match x with
    | .lst ds => .ok (enuD ds) ρ
    | .tup ds => .ok (enuD ds) ρ
    | _ => .no)
  | .zip a b, ρ => (fz (ev a ρ)).bind fun x ρ => (fz (ev b ρ)).bind fun y ρ => (match walkD x, walkD y with
    | some xs, some ys => .ok ((xs.zip ys).map fun p => .tup [p.1, p.2]) ρ
    | _, _ => .no)
  | .rvs e, ρ => (fz (ev e ρ)).bind fun x ρ => (R.lift (walkD x) ρ).bind fun xs ρ => .ok xs.reverse ρ
def evg : Gens → (Env → R (List D)) → Env → R (List D)
  | .n, k, ρ => k ρ
  | .c own t i c g, k, ρ => (evi i ρ).bind fun ds ρ => loopC (fun d ρ => (R.lift (t.bind d (wipeE ρ own)) ρ).bind fun ρ _ => (tco c ρ).bind fun b ρ => if b = true then evg g k ρ else .ok [] ρ) ds ρ
end
end
/-! ### statements -/
inductive Fl where
  | nx | rt (c : Cell) | bk | ct
def forF (f : D → Env → R Fl) : List D → Env → R Fl
  | [], ρ => .ok .nx ρ
  | d :: ds, ρ => (f d ρ).bind fun fl ρ => match fl with
    | .nx => forF f ds ρ
    | .ct => forF f ds ρ
    | .bk => .ok .nx ρ
    | .rt c => .ok (.rt c) ρ
def whlF (c : Env → R Bool) (f : Env → R Fl) : Nat → Env → R Fl
  | 0, _ => .no
  | n + 1, ρ => (c ρ).bind fun b ρ => if b = true then (f ρ).bind fun fl ρ => match fl with
    | .nx => whlF c f n ρ
    | .ct => whlF c f n ρ
    | .bk => .ok .nx ρ
    | .rt c => .ok (.rt c) ρ
    else .ok .nx ρ
/-- what a slot owns: itself, or as another name of a row -/
def curO (ρ : Env) (s : Nat) : Option D := match ρ[s]? with
  | some (some (.ow d)) => some d
  | some (some (.al t j)) => (match ρ[t]? with
    | some (some (.nst ds)) => ds[j]?
    | _ => none)
  | _ => none
def putO (ρ : Env) (s : Nat) (d : D) : Env := match ρ[s]? with
  | some (some (.al t j)) => (match ρ[t]? with
    | some (some (.nst ds)) => ρ.set t (some (.nst (ds.set j d)))
    | _ => ρ)
  | _ => ρ.set s (some (.ow d))
/-- a slot that is owned is changed -/
def chgO (ρ : Env) (s : Nat) (f : D → Option D) : Option Env := match curO ρ s with
  | some d => (f d).map fun d' => putO ρ s d'
  | none => none
def mv (e : Ex) (ρ : Env) (r : R Cell) : R Cell := match e with
  | .v i => (match ρ[i]? with
    | some (some (.sh d)) => .ok (.sh d) ρ
    | some (some (.ow d)) => .ok (.ow d) (ρ.set i none)
    | some (some (.nst ds)) => .ok (.sh (.lst ds)) (ρ.set i none)
    | _ => .no)
  | _ => r
def appD (x : D) : D → Option D
  | .lst xs => if xs.length < cap then some (.lst (xs ++ [x])) else none
  | _ => none
def extD (ys : List D) : D → Option D
  | .lst xs => if xs.length + ys.length ≤ cap then some (.lst (xs ++ ys)) else none
  | _ => none
def setD (i x : D) : D → Option D
  | .lst xs => (match i with
    | .int k => (ixN xs.length k).map fun j => .lst (xs.set j x)
    | _ => none)
  | .dct kvs => if kvs.length < cap then (keyD i).map fun k => .dct (putDk k x kvs) else none
  | _ => none
def fldD (n : Nat) (f : Str) (x : D) : D → Option D
  | .ins c fs => if c < n ∧ fs.length < 1000 then some (.ins c (putD f x fs)) else none
  | _ => none
/-- a slot that owns a list -/
def isL (ρ : Env) (s : Nat) : Bool := match curO ρ s with
  | some (.lst _) => true
  | _ => false
def isO (ρ : Env) (s : Nat) : Bool := (curO ρ s).isSome
def insD (i : Int) (x : D) : D → Option D
  | .lst xs => if xs.length < cap ∧ 0 ≤ i ∧ i < 2 ^ 63 then some (.lst (xs.take i.toNat ++ [x] ++ xs.drop i.toNat)) else none
  | _ => none
/-- what pop takes, what it leaves -/
def popD (d : D) (i : Option Int) : Option (D × D) := match d with
  | .lst xs => (match i with
    | none => (xs[xs.length - 1]?).map fun y => (y, .lst xs.dropLast)
    | some i => if -(2 ^ 63) ≤ i ∧ i < 2 ^ 63 then (seqIndex? i xs.length).bind fun k => (xs[k]?).map fun y => (y, .lst (xs.eraseIdx k)) else none)
  | _ => none
def popK (ρ : Env) (s : Nat) (i : Option Int) (k : D → Env → R Fl) : R Fl := match curO ρ s with
  | some d => (R.lift (popD d i) ρ).bind fun p ρ => k p.1 (putO ρ s p.2)
  | none => .no
def isTupD : D → Bool
  | .tup _ => true
  | _ => false
/-- x put in front of every row -/
def insRow (x : D) : D → D
  | .lst xs => .lst (x :: xs)
  | d => d
def rowFew : D → Bool
  | .lst xs => decide (xs.length < cap)
  | _ => false
def isLs : D → Bool
  | .lst _ => true
  | _ => false
/-! ### a handler -/
section
variable (sub : Nat → Option Nat → Bool) (x : Exn)
def hxB : Hx → Env → Option Bool
  | .isx cs _, _ => some (cs.any (sub x.cls))
  | .v i, ρ => (match ρ[i]? with
    | some (some (.sh (.bl b))) => some b
    | _ => none)
  | .and a b, ρ => (hxB a ρ).bind fun k => if k = true then hxB b ρ else some false
  | .or a b, ρ => (hxB a ρ).bind fun k => if k = true then some true else hxB b ρ
  | .not a, ρ => (hxB a ρ).map not
def hvD : Hv → Env → Option D
  | .non, _ => some .non
  | .bl b, _ => some (.bl b)
  | .int i, _ => some (.int i)
  | .str s, _ => some (.str s)
  | .v i, ρ => (match ρ[i]? with
    | some (some (.sh d)) => some d
    | _ => none)
  | .fld f, _ => x.fs.lookup f
  | .b y, ρ => (hxB sub x y ρ).map .bl
def hvL : List Hv → Env → Option (List D)
  | [], _ => some []
  | v :: vs, ρ => (hvD sub x v ρ).bind fun d => (hvL vs ρ).map fun ds => d :: ds
def hsR : Hst → Env → R Fl
  | .set i y t, ρ => (match hxB sub x y ρ with
    | some k => if i < ρ.length then hsR t (ρ.set i (some (.sh (.bl k)))) else .no
    | none => .no)
  | .iff y a t, ρ => (match hxB sub x y ρ with
    | some true => hsR a ρ
    | some false => hsR t ρ
    | none => .no)
  | .ret v, ρ => (match hvD sub x v ρ with
    | some d => .ok (.rt (.sh d)) ρ
    | none => .no)
  | .rets vs, ρ => (match hvL sub x vs ρ with
    | some ds => if ds.length ≤ cap then .ok (.rt (.ow (.lst ds))) ρ else .no
    | none => .no)
end
def okS (s : Option Nat) (ρ : Env) : Bool := match s with
  | some i => decide (i < ρ.length)
  | none => true
def unset (ρ : Env) : Option Nat → Env
  | some i => ρ.set i none
  | none => ρ
section
variable (P : Pg)
/-- how errors are made: the fields' names of each class -/
def mkX (xs : List (List Str)) (c : Nat) (ds : List D) : Option Exn := (xs[c]?).bind fun fs => if fs.length = ds.length then some ⟨1000 + c, (fs.zip ds).reverse⟩ else none
mutual
def exS : Sm → Env → R Fl
  | .set (.n i) e, ρ => (ev P e ρ).bind fun c ρ => if i < ρ.length ∧ c.isP = true then .ok .nx (ρ.set i (some c)) else .no
  | .set t e, ρ => (fz (ev P e ρ)).bind fun d ρ => (R.lift (t.bind d ρ) ρ).bind fun ρ _ => .ok .nx ρ
  | .seti s i e, ρ => (fz (ev P e ρ)).bind fun x ρ => if isO ρ s = true then (pk i ρ (ev P i ρ)).bind fun k ρ => (R.lift (chgO ρ s (setD k x)) ρ).bind fun ρ _ => .ok .nx ρ else .no
  | .setf s f e, ρ => (fz (ev P e ρ)).bind fun x ρ => (R.lift (chgO ρ s (fldD P.ncls f x)) ρ).bind fun ρ _ => .ok .nx ρ
  | .app s e, ρ => if isL ρ s = true then (fz (ev P e ρ)).bind fun x ρ => (R.lift (chgO ρ s (appD x)) ρ).bind fun ρ _ => .ok .nx ρ else .no
  | .ext s e, ρ => if isL ρ s = true then (pk e ρ (ev P e ρ)).bind fun x ρ => (match x with
    | .lst ys => (R.lift (chgO ρ s (extD ys)) ρ).bind fun ρ _ => .ok .nx ρ
    | _ => .no) else .no
  | .insr s i e, ρ => if isL ρ s = true then (fz (ev P i ρ)).bind fun k ρ => (fz (ev P e ρ)).bind fun x ρ => (match k with
    | .int k => (R.lift (chgO ρ s (insD k x)) ρ).bind fun ρ _ => .ok .nx ρ
    | _ => .no) else .no
  | .pop t s e, ρ => if isL ρ s = true then (evo P e ρ).bind fun i ρ => popK ρ s i fun d ρ => if t < ρ.length then .ok .nx (ρ.set t (some (.sh d))) else .no else .no
  | .popx s e, ρ => if isL ρ s = true then (evo P e ρ).bind fun i ρ => popK ρ s i fun _ ρ => .ok .nx ρ else .no
  | .expr e, ρ => (ev P e ρ).bind fun _ ρ => .ok .nx ρ
  | .iff c a b, ρ => (tc P c ρ).bind fun k ρ => if k = true then exB a ρ else exB b ρ
  | .for_ t i b, ρ => (evi P i ρ).bind fun ds ρ => forF (fun d ρ => (R.lift (t.bind d ρ) ρ).bind fun ρ _ => exB b ρ) ds ρ
  | .whl c b, ρ => whlF (tc P c) (exB b) P.wf ρ
  | .ret e, ρ => (mv e ρ (ev P e ρ)).bind fun c ρ => .ok (.rt c) ρ
  | .retn, ρ => .ok (.rt (.sh .non)) ρ
  | .pass, ρ => .ok .nx ρ
  | .brk, ρ => .ok .bk ρ
  | .cnt, ρ => .ok .ct ρ
  | .setN i e, ρ => (ev P e ρ).bind fun c ρ => (match asN c with
    | some ds => if i < ρ.length then .ok .nx ((killA ρ i).set i (some (.nst ds))) else .no
    | none => .no)
  | .nal t s i, ρ => (match ρ[s]? with
    | some (some (.nst _)) => (pk i ρ (ev P i ρ)).bind fun k ρ => (match k, ρ[s]? with
      | .int k, some (some (.nst ds)) => (match ixN ds.length k with
        | some j => if t ≠ s ∧ t < ρ.length then .ok .nx (ρ.set t (some (.al s j))) else .no
        | none => .no)
      | _, _ => .no)
    | _ => .no)
  | .nrow s i e, ρ => (ev P e ρ).bind fun c ρ => (match rowOf c, ρ[i]?, ρ[s]? with
    | some d, some (some (.sh (.int k))), some (some (.nst ds)) => (match ixN ds.length k with
      | some j => .ok .nx ((killA ρ s).set s (some (.nst (ds.set j d))))
      | none => .no)
    | _, _, _ => .no)
  | .napp s e, ρ => (match ρ[s]? with
    | some (some (.nst _)) => (ev P e ρ).bind fun c ρ => (match rowOf c, ρ[s]? with
      | some d, some (some (.nst ds)) => if ds.length < cap then .ok .nx ((killA ρ s).set s (some (.nst (ds ++ [d])))) else .no
      | _, _ => .no)
    | _ => .no)
  | .npt i s, ρ => (match ρ[s]? with
    | some (some (.nst ds)) => (match ds[ds.length - 1]? with
      | some (.lst xs) => if i < ρ.length ∧ i ≠ s then .ok .nx (((killA ρ s).set s (some (.nst ds.dropLast))).set i (some (.sh (.tup xs)))) else .no
      | _ => .no)
    | _ => .no)
  | .fins t s v, ρ => (match ρ[s]?, ρ[v]? with
    | some (some (.nst ds)), some (some (.sh x)) => if (t ≠ s ∧ t ≠ v ∧ t < ρ.length) ∧ ds.all rowFew = true then .ok .nx (((killA ρ s).set s (some (.nst (ds.map (insRow x))))).set t none) else .no
    | _, _ => .no)
  | .lend i us s e, ρ => (match ρ[s]? with
    | some (some (.nst ds)) => (match ev P e (lendE ρ us s ds) with
      | .ok c _ => if (c.isP = true ∧ c.d.noL = true) ∧ (i < ρ.length ∧ i ≠ s) ∧ ds.all isLs = true then .ok .nx (ρ.set i (some c)) else .no
      | _ => .no)
    | _ => .no)
  | .rse c es, ρ => (evs P es ρ).bind fun ds ρ => (match mkX P.xs c ds with
    | some x => .ex x ρ
    | none => .no)
  | .tri b c s h, ρ => (match exB b ρ with
    | .ex x ρ' => if (1000 ≤ x.cls ∧ x.cls < 1000 + P.nx) ∧ okS s ρ' = true then (if P.sub x.cls c = true then hsR P.sub x h (unset ρ' s) else .ex x ρ') else .no
    | r => r)
  | .stu w i e, ρ => (fz (ev P e ρ)).bind fun d ρ => (match starD d with
    | some (x :: xs) => if (w < ρ.length ∧ i < ρ.length) ∧ (w ≠ i ∧ isTupD d = true) then .ok .nx ((ρ.set w (some (.sh x))).set i (some (.ow (.lst xs)))) else .no
    | _ => .no)
  | .mch s ms, ρ => (match ρ[s]? with
    | some (some (.sh d)) => exM ms d ρ
    | _ => .no)
def exM : Mcs → D → Env → R Fl
  | .n, _, ρ => .ok .nx ρ
  | .d b, _, ρ => exB b ρ
  | .c x g b r, d, ρ => (R.lift (eqD d (.str x)) ρ).bind fun k ρ => if k = true then (tco P g ρ).bind fun k ρ => if k = true then exB b ρ else exM r d ρ else exM r d ρ
def exB : Sms → Env → R Fl
  | .n, ρ => .ok .nx ρ
  | .c s t, ρ => (exS s ρ).bind fun fl ρ => match fl with
    | .nx => exB t ρ
    | fl => .ok fl ρ
end
end
end DL

set_option maxHeartbeats 4000000
/-! DL3: the meaning of expressions is what the machine does. -/
namespace DL
open PySem PySem.Spec PyProof.Rows L2

/-- an error that flies -/
def XR (K : PySem.W.Frag) (CA : Nat → Addr) (G : Hp) (cl : Value) (dd : Option Addr) (x : Exn) : Prop :=
  cl = .ref (CA x.cls) ∧ ((x.fs = [] ∧ dd = none) ∨ ∃ a vs, dd = some a ∧ G a = some (.xd vs) ∧ RepF K CA G vs x.fs)
theorem XR.le {K : PySem.W.Frag} {CA : Nat → Addr} {G G' : Hp} {cl : Value} {dd : Option Addr} {x : Exn} (h : XR K CA G cl dd x) (l : Le G G') : XR K CA G' cl dd x := by
  obtain ⟨h1, h2⟩ := h
  refine ⟨h1, ?_⟩
  rcases h2 with h2 | ⟨a, vs, h2, h3, h4⟩
  · exact .inl h2
  · exact .inr ⟨a, vs, h2, l _ _ h3, h4.le l⟩
/-- what is looked at: frozen, or owned by a slot -/
def PRep (K : PySem.W.Frag) (CA : Nat → Addr) (H G : Hp) (v : V) (d : D) : Prop := Rep K CA G v d ∨ ∃ a, v = .ref a ∧ OwnAt K CA G H a d

section
variable [Frame] (K : PySem.W.Frag) (CA : Nat → Addr) (W : WX)
section
variable [Frame] {α : Type} (Rl : Hp → Hp → Hp → L2.St → Env → V → α → Prop) (B G0 H G : Hp) (σ : L2.St) (Q : VK)
def PostV : R α → Prop
  | .ok a ρ => ∀ v H' G', Le H H' → Le G G' → Em K CA B G0 H' G' σ ρ → Rl B H' G' σ ρ v a → Q v H'
  | .ex x ρ => ∀ H' G' cl dd, Le H H' → Le G G' → Em K CA B G0 H' G' σ ρ → XR K CA G' cl dd x → W cl dd σ H'
  | .no => False
end
def TV {α : Type} (Rl : Hp → Hp → Hp → L2.St → Env → V → α → Prop) (m : Env → R α) : TE := fun σ H Q => ∃ B G0 G ρ, Em K CA B G0 H G σ ρ ∧ PostV K CA W Rl B G0 H G σ Q (m ρ)
def rlC : Hp → Hp → Hp → L2.St → Env → V → Cell → Prop := fun B H G σ ρ v c => CAt K CA B G H σ ρ v c
def rlD : Hp → Hp → Hp → L2.St → Env → V → D → Prop := fun _ _ G _ _ v d => Rep K CA G v d
def rlP : Hp → Hp → Hp → L2.St → Env → V → D → Prop := fun _ H G _ _ v d => PRep K CA H G v d
abbrev TC (m : Env → R Cell) : TE := TV K CA W (rlC K CA) m
abbrev TD (m : Env → R D) : TE := TV K CA W (rlD K CA) m
abbrev TP (m : Env → R D) : TE := TV K CA W (rlP K CA) m
def PostT (B G0 H G : Hp) (σ : L2.St) (Q : Bool → Hp → Prop) : R Bool → Prop
  | .ok b ρ => ∀ H' G', Le H H' → Le G G' → Em K CA B G0 H' G' σ ρ → Q b H'
  | .ex x ρ => ∀ H' G' cl dd, Le H H' → Le G G' → Em K CA B G0 H' G' σ ρ → XR K CA G' cl dd x → W cl dd σ H'
  | .no => False
def TTt (m : Env → R Bool) : TT := fun σ H Q => ∃ B G0 G ρ, Em K CA B G0 H G σ ρ ∧ PostT K CA W B G0 H G σ Q (m ρ)
def PostA (Rl : Hp → Hp → List V → List D → Prop) (B G0 H G : Hp) (σ : L2.St) (Q : List V → Hp → Prop) : R (List D) → Prop
  | .ok ds ρ => ∀ vs H' G', Le H H' → Le G G' → Em K CA B G0 H' G' σ ρ → Rl H' G' vs ds → Q vs H'
  | .ex x ρ => ∀ H' G' cl dd, Le H H' → Le G G' → Em K CA B G0 H' G' σ ρ → XR K CA G' cl dd x → W cl dd σ H'
  | .no => False
def TAa (Rl : Hp → Hp → List V → List D → Prop) (m : Env → R (List D)) : TA := fun σ H Q => ∃ B G0 G ρ, Em K CA B G0 H G σ ρ ∧ PostA K CA W Rl B G0 H G σ Q (m ρ)
inductive PReps (H G : Hp) : List V → List D → Prop
  | nil : PReps H G [] []
  | cons {v : V} {d : D} {vs : List V} {ds : List D} (r : PRep K CA H G v d) (t : PReps H G vs ds) : PReps H G (v :: vs) (d :: ds)
abbrev TAD (m : Env → R (List D)) : TA := TAa K CA W (fun _ G vs ds => Reps K CA G vs ds) m
abbrev TAP (m : Env → R (List D)) : TA := TAa K CA W (fun H G vs ds => PReps K CA H G vs ds) m
end

section
variable [Frame] {K : PySem.W.Frag} {CA : Nat → Addr} {W : WX} {X : Cx}
omit [Frame] in
theorem PE.weak {e : Expr} {t t' : TE} (h : PE X e t) (w : ∀ σ H Q, t' σ H Q → t σ H Q) : PE X e t' := ⟨fun pins s σ H Q I q => h.run pins s σ H Q I (w σ H Q q)⟩
omit [Frame] in
theorem PT.weak {e : Expr} {t t' : TT} (h : PT X e t) (w : ∀ σ H Q, t' σ H Q → t σ H Q) : PT X e t' := ⟨fun pins s σ H Q I q => h.run pins s σ H Q I (w σ H Q q)⟩
omit [Frame] in
theorem PA.weak {e : List Expr} {t t' : TA} (h : PA X e t) (w : ∀ σ H Q, t' σ H Q → t σ H Q) : PA X e t' := ⟨fun pos pins s σ H Q I q => h.run pos pins s σ H Q I (w σ H Q q)⟩
omit [Frame] in
theorem PS.weak {e : Stmt} {t t' : TS} (h : PS X e t) (w : ∀ D σ H, t' D σ H → t D σ H) : PS X e t' := ⟨fun pins s σ H D I q => h.run pins s σ H D I (w D σ H q)⟩
omit [Frame] in
theorem PSs.weak {e : List Stmt} {t t' : TS} (h : PSs X e t) (w : ∀ D σ H, t' D σ H → t D σ H) : PSs X e t' := ⟨fun pins s σ H D I q => h.run pins s σ H D I (w D σ H q)⟩
theorem PRep.le {H G H' G' : Hp} {v : V} {d : D} (h : PRep K CA H G v d) (lh : Le H H') (lg : Le G G') : PRep K CA H' G' v d := by
  rcases h with h | ⟨a, e, h⟩
  · exact .inl (h.le lg)
  · refine .inr ⟨a, e, ?_⟩
    obtain ⟨o, ho⟩ := h.has
    exact h.le lg ((lh _ _ ho).trans ho.symm)
theorem PReps.le {H G H' G' : Hp} : ∀ {v : List V} {d : List D}, PReps K CA H G v d → Le H H' → Le G G' → PReps K CA H' G' v d
  | _, _, .nil, _, _ => .nil
  | _, _, .cons r t, lh, lg => .cons (r.le lh lg) (t.le lh lg)
/-- a list, a tuple that is looked at -/
theorem PRep.lst {H G : Hp} {v : V} {ds : List D} (h : PRep K CA H G v (.lst ds)) (l : Le G H) : ∃ a vs, v = .ref a ∧ SqL K H a vs ∧ Reps K CA G vs ds := by
  rcases h with h | ⟨a, e, vs, h1, h2⟩
  · cases h with | lst h r => exact ⟨_, _, rfl, sqL_le l h, r⟩
  · exact ⟨a, vs, e, SqL.of h1, h2⟩
theorem PRep.tup {H G : Hp} {v : V} {ds : List D} (h : PRep K CA H G v (.tup ds)) (l : Le G H) : ∃ a vs, v = .ref a ∧ SqT K H a vs ∧ Reps K CA G vs ds := by
  rcases h with h | ⟨a, e, h1⟩
  · cases h with | tup h r => exact ⟨_, _, rfl, sqT_le l h, r⟩
  · exact h1.elim
theorem PRep.dct {H G : Hp} {v : V} {ds : List (Key × D)} (h : PRep K CA H G v (.dct ds)) (l : Le G H) : ∃ a vs, v = .ref a ∧ H a = some (.dK vs) ∧ RepK K CA G vs ds := by
  rcases h with h | ⟨a, e, vs, h1, h2⟩
  · cases h with | dct h r => exact ⟨_, _, rfl, l _ _ h, r⟩
  · exact ⟨a, vs, e, h1, h2⟩
theorem PRep.ins {H G : Hp} {v : V} {c : Nat} {ds : List (Str × D)} (h : PRep K CA H G v (.ins c ds)) (l : Le G H) : ∃ a dx vs, v = .ref a ∧ H a = some (.ins (CA c) dx vs) ∧ RepF K CA G vs ds := by
  rcases h with h | ⟨a, e, dx, vs, h1, h2⟩
  · cases h with | ins h r => exact ⟨_, _, _, rfl, l _ _ h, r⟩
  · exact ⟨a, dx, vs, e, h1, h2⟩
theorem PRep.int {H G : Hp} {v : V} {i : Int} (h : PRep K CA H G v (.int i)) : v = .int i := by
  rcases h with h | ⟨a, e, h1⟩
  · cases h; rfl
  · exact h1.elim
theorem PRep.bl {H G : Hp} {v : V} {i : Bool} (h : PRep K CA H G v (.bl i)) : v = .bl i := by
  rcases h with h | ⟨a, e, h1⟩
  · cases h; rfl
  · exact h1.elim
theorem PRep.non {H G : Hp} {v : V} (h : PRep K CA H G v .non) : v = .non := by
  rcases h with h | ⟨a, e, h1⟩
  · cases h; rfl
  · exact h1.elim
theorem PRep.str {H G : Hp} {v : V} {x : Str} (h : PRep K CA H G v (.str x)) : v = .str x ∧ sOk x = true := by
  rcases h with h | ⟨a, e, h1⟩
  · cases h with | str h => exact ⟨rfl, h⟩
  · exact h1.elim
theorem sOk_len {x : Str} (h : sOk x = true) : x.length ≤ 1000000 := of_decide_eq_true (Bool.and_eq_true_iff.mp h).2
theorem sOk_line {x : Str} (h : sOk x = true) : x.length ≤ sizeLine := Nat.le_trans (sOk_len h) (by rw [sizeLine_eq]; decide)
theorem cap_line : cap = sizeLine := by rw [sizeLine_eq]; rfl
/-- frozen where it stands -/
theorem de_fz {e : Expr} {m : Env → R Cell} (h : PE X e (TC K CA W m)) : PE X e (TD K CA W fun ρ => fz (m ρ)) := PE.weak h fun σ H Q ⟨B, G0, G, ρ, em, p⟩ => by
  dsimp only at p
  refine ⟨B, G0, G, ρ, em, ?_⟩
  cases hm : m ρ with
  | ok c ρ' =>
    rw [hm] at p
    intro v H' G' lh lg em' r
    obtain ⟨G2, l2, em2, r2⟩ := em'.freeze r
    exact p v H' G2 lh (lg.trans l2) em2 r2
  | ex x ρ' => rw [hm] at p; exact p
  | no => rw [hm] at p; exact p.elim
theorem de_pfz {e : Expr} {m : Env → R Cell} (h : PE X e (TC K CA W m)) : PE X e (TP K CA W fun ρ => fz (m ρ)) := PE.weak (de_fz h) fun σ H Q ⟨B, G0, G, ρ, em, p⟩ => by
  dsimp only at p
  refine ⟨B, G0, G, ρ, em, ?_⟩
  dsimp only
  cases hm : fz (m ρ) with
  | ok c ρ' => rw [hm] at p; exact fun v H' G' lh lg em' r => p v H' G' lh lg em' (.inl r)
  | ex x ρ' => rw [hm] at p; exact p
  | no => rw [hm] at p; exact p.elim
/-- a slot is looked at -/
theorem de_peek {e : Expr} {i : Nat} (h : PE X e (tVar i)) : PE X e (TP K CA W fun ρ => match ρ[i]? with
    | some (some (.sh d)) => .ok d ρ
    | some (some (.ow d)) => .ok d ρ
    | some (some (.al s j)) => (match ρ[s]? with
      | some (some (.nst ds)) => (match ds[j]? with
        | some d => .ok d ρ
        | none => .no)
      | _ => .no)
    | _ => .no) := PE.weak h fun σ H Q ⟨B, G0, G, ρ, em, p⟩ => by
  dsimp only at p
  cases hc : ρ[i]? with
  | none => rw [hc] at p; exact p.elim
  | some o =>
    cases o with
    | none => rw [hc] at p; exact p.elim
    | some c =>
      rw [hc] at p
      cases c with
      | sh d =>
        obtain ⟨v, h1, h2⟩ := em.sl i _ hc
        exact ⟨v, h1, p v H G (Le.refl _) (Le.refl _) em (.inl h2)⟩
      | ow d =>
        obtain ⟨v, h1, h2⟩ := em.sl i _ hc
        obtain ⟨a, ea, _, _, ho⟩ := h2; exact ⟨v, h1, p v H G (Le.refl _) (Le.refl _) em (.inr ⟨a, ea, ho⟩)⟩
      | nst ds => exact p.elim
      | al s j =>
        dsimp only at p
        split at p
        · rename_i ds hs
          split at p
          · rename_i d hd
            obtain ⟨a, h1, ho, _⟩ := em.row hc hs hd
            exact ⟨_, h1, p _ H G (Le.refl _) (Le.refl _) em (.inr ⟨_, rfl, ho⟩)⟩
          · exact p.elim
        · exact p.elim
/-- a slot is read -/
theorem de_slot {e : Expr} {i : Nat} (h : PE X e (tVar i)) : PE X e (TC K CA W fun ρ => match ρ[i]? with
    | some (some (.sh d)) => .ok (.sh d) ρ
    | some (some (.ow d)) => .ok (.sh d) (ρ.set i (some (.sh d)))
    | some (some (.nst ds)) => .ok (.sh (.lst ds)) (ρ.set i (some (.sh (.lst ds))))
    | _ => .no) := PE.weak h fun σ H Q ⟨B, G0, G, ρ, em, p⟩ => by
  dsimp only at p
  cases hc : ρ[i]? with
  | none => rw [hc] at p; exact p.elim
  | some o =>
    cases o with
    | none => rw [hc] at p; exact p.elim
    | some c =>
      cases c with
      | sh d =>
        rw [hc] at p
        obtain ⟨v, h1, h2⟩ := em.sl i _ hc
        exact ⟨v, h1, p v H G (Le.refl _) (Le.refl _) em ⟨h2, fun _ q => by cases q⟩⟩
      | ow d =>
        rw [hc] at p
        obtain ⟨v, G', h1, l, em', r⟩ := em.slot hc
        exact ⟨v, h1, p v H G' (Le.refl _) l em' ⟨r, fun _ q => by cases q⟩⟩
      | nst ds =>
        rw [hc] at p
        obtain ⟨v, G', h1, l, em', r⟩ := em.slotC hc
        exact ⟨v, h1, p v H G' (Le.refl _) l em' ⟨r, fun _ q => by cases q⟩⟩
      | al s j => rw [hc] at p; exact p.elim
/-- a slot is moved out -/
theorem de_move {e : Expr} {i : Nat} (h : PE X e (tVar i)) : PE X e (TC K CA W fun ρ => match ρ[i]? with
    | some (some (.sh d)) => .ok (.sh d) ρ
    | some (some (.ow d)) => .ok (.ow d) (ρ.set i none)
    | some (some (.nst ds)) => .ok (.sh (.lst ds)) (ρ.set i none)
    | _ => .no) := PE.weak h fun σ H Q ⟨B, G0, G, ρ, em, p⟩ => by
  dsimp only at p
  cases hc : ρ[i]? with
  | none => rw [hc] at p; exact p.elim
  | some o =>
    cases o with
    | none => rw [hc] at p; exact p.elim
    | some c =>
      cases c with
      | sh d =>
        rw [hc] at p
        obtain ⟨v, h1, h2⟩ := em.sl i _ hc
        exact ⟨v, h1, p v H G (Le.refl _) (Le.refl _) em ⟨h2, fun _ q => by cases q⟩⟩
      | ow d =>
        rw [hc] at p
        obtain ⟨v, h1, e1, h2⟩ := em.take hc
        exact ⟨v, h1, p v H G (Le.refl _) (Le.refl _) e1 h2⟩
      | nst ds =>
        rw [hc] at p
        obtain ⟨v, h1, e1, h2⟩ := em.take hc
        obtain ⟨G', l, e2, r⟩ := e1.freeze h2
        exact ⟨v, h1, p v H G' (Le.refl _) l e2 (cat_sh r)⟩
      | al s j => rw [hc] at p; exact p.elim
/-- a constant -/
theorem de_con {e : Expr} {v : V} {d : D} (h : PE X e (tC v)) (r : ∀ G, Rep K CA G v d) : PE X e (TC K CA W fun ρ => .ok (.sh d) ρ) := PE.weak h fun σ H Q ⟨B, G0, G, ρ, em, p⟩ =>
  p v H G (Le.refl _) (Le.refl _) em ⟨r G, fun _ q => by cases q⟩
/-- two operands that are looked at -/
theorem de_op {op : R2} {ma mb : Env → R D} {g : D → D → Env → R Cell} {e : Expr} (he : PE X e (tOp op (TP K CA W ma) (TP K CA W mb)))
    (hg : ∀ x y ρ v u H G B G0 σ Q, PRep K CA H G v x → PRep K CA H G u y → Em K CA B G0 H G σ ρ → PostV K CA W (rlC K CA) B G0 H G σ Q (g x y ρ) → op v u H Q) :
    PE X e (TC K CA W fun ρ => (ma ρ).bind fun x ρ => (mb ρ).bind fun y ρ => g x y ρ) := PE.weak he fun σ H Q ⟨B, G0, G, ρ, em, p⟩ => by
  dsimp only at p
  refine ⟨B, G0, G, ρ, em, ?_⟩
  cases hm : ma ρ with
  | no => rw [hm] at p; exact p.elim
  | ex x ρ' => rw [hm] at p; exact p
  | ok x ρ1 =>
    rw [hm] at p
    simp only [R.bind_ok] at p
    intro v H1 G1 l1 k1 em1 r1
    refine ⟨B, G0, G1, ρ1, em1, ?_⟩
    cases hn : mb ρ1 with
    | no => rw [hn] at p; exact p.elim
    | ex x ρ' => rw [hn] at p; exact fun H' G' cl dd lh lg => p H' G' cl dd (l1.trans lh) (k1.trans lg)
    | ok y ρ2 =>
      rw [hn] at p
      simp only [R.bind_ok] at p
      intro u H2 G2 l2 k2 em2 r2
      refine hg x y ρ2 v u H2 G2 B G0 σ Q (r1.le l2 k2) r2 em2 ?_
      cases hk : g x y ρ2 with
      | no => rw [hk] at p; exact p.elim
      | ex x ρ' => rw [hk] at p; exact fun H' G' cl dd lh lg => p H' G' cl dd ((l1.trans l2).trans lh) ((k1.trans k2).trans lg)
      | ok z ρ' => rw [hk] at p; exact fun v' H' G' lh lg => p v' H' G' ((l1.trans l2).trans lh) ((k1.trans k2).trans lg)
/-- one operand -/
theorem de_un {α : Type} {Rl : Hp → Hp → Hp → L2.St → Env → V → α → Prop} {op : V → Hp → VK → Prop} {ma : Env → R α} {g : α → Env → R Cell} {e : Expr} (he : PE X e (tUn op (TV K CA W Rl ma)))
    (hg : ∀ x ρ v H G B G0 σ Q, Rl B H G σ ρ v x → Em K CA B G0 H G σ ρ → PostV K CA W (rlC K CA) B G0 H G σ Q (g x ρ) → op v H Q) :
    PE X e (TC K CA W fun ρ => (ma ρ).bind fun x ρ => g x ρ) := PE.weak he fun σ H Q ⟨B, G0, G, ρ, em, p⟩ => by
  dsimp only at p
  refine ⟨B, G0, G, ρ, em, ?_⟩
  cases hm : ma ρ with
  | no => rw [hm] at p; exact p.elim
  | ex x ρ' => rw [hm] at p; exact p
  | ok x ρ1 =>
    rw [hm] at p
    simp only [R.bind_ok] at p
    intro v H1 G1 l1 k1 em1 r1
    refine hg x ρ1 v H1 G1 B G0 σ Q r1 em1 ?_
    cases hk : g x ρ1 with
    | no => rw [hk] at p; exact p.elim
    | ex x ρ' => rw [hk] at p; exact fun H' G' cl dd lh lg => p H' G' cl dd (l1.trans lh) (k1.trans lg)
    | ok z ρ' => rw [hk] at p; exact fun v' H' G' lh lg => p v' H' G' (l1.trans lh) (k1.trans lg)
/-- what is handed on: shared, the heap as it is -/
theorem post_sh {B G0 H G : Hp} {σ : L2.St} {ρ : Env} {Q : VK} {d : D} {v : V} (em : Em K CA B G0 H G σ ρ) (p : PostV K CA W (rlC K CA) B G0 H G σ Q (.ok (.sh d) ρ)) (r : Rep K CA G v d) : Q v H :=
  p v H G (Le.refl _) (Le.refl _) em ⟨r, fun _ q => by cases q⟩
/-- a new object is owned -/
theorem post_ow {B G0 H G : Hp} {σ : L2.St} {ρ : Env} {Q : VK} {d : D} {o : HO} {a : Addr} (em : Em K CA B G0 H G σ ρ) (p : PostV K CA W (rlC K CA) B G0 H G σ Q (.ok (.ow d) ρ)) (ha : H a = none) (r : OwnAt K CA G (upd H a o) a d) : Q (.ref a) (upd H a o) :=
  p _ _ G (Le.newH ha) (Le.refl _) (em.laid ha) (cat_ow ⟨a, rfl, em.bh.noneL ha, em.gh.noneL ha, r⟩ (em.fle (Le.newH ha) (free_new em ha)))
/-- a new object is shared at once -/
theorem post_new {B G0 H G : Hp} {σ : L2.St} {ρ : Env} {Q : VK} {d : D} {o : HO} {a : Addr} (em : Em K CA B G0 H G σ ρ) (p : PostV K CA W (rlC K CA) B G0 H G σ Q (.ok (.sh d) ρ)) (ha : H a = none) (r : Rep K CA (upd G a o) (.ref a) d) : Q (.ref a) (upd H a o) := by
  have em1 := em.laid (o := o) ha
  obtain ⟨em2, l2⟩ := em1.frz (em.bh.noneL ha) (em.gh.noneL ha) upd_same (em.fle (Le.newH ha) (free_new em ha))
  exact p _ _ _ (Le.newH ha) l2 em2 ⟨r, fun _ q => by cases q⟩
end
end DL

set_option maxHeartbeats 4000000
/-! DL4: operators, comparisons, truth, subscripts. -/
namespace DL
open PySem PySem.Spec PyProof.Rows L2

section
variable [Frame] {K : PySem.W.Frag} {CA : Nat → Addr} {G H : Hp}
mutual
theorem rep_dp (l : Le G H) : ∀ (d : D) (v : V) (p : PyData), Rep K CA G v d → d.py = some p → Dp K H v p ∧ p.canLay0 = true
  | .non, _, p, r, e => by cases r; cases e; exact ⟨.non, by simp only [PyData.canLay0]⟩
  | .bl b, _, p, r, e => by cases r; cases e; exact ⟨.bl b, by simp only [PyData.canLay0]⟩
  | .int i, _, p, r, e => by cases r; cases e; exact ⟨.int i, by simp only [PyData.canLay0]⟩
  | .str x, _, p, r, e => by
    cases r with | str h =>
    cases e; exact ⟨.str x, by simp only [PyData.canLay0]; exact (Bool.and_eq_true_iff.mp h).1⟩
  | .tup xs, _, p, r, e => by
    cases r with | tup h r =>
    have e' : (D.pyAll xs).map PyData.tuple = some p := by simpa only [D.py] using e
    cases q : D.pyAll xs with
    | none => rw [q] at e'; cases e'
    | some ps =>
      rw [q] at e'; cases e'
      obtain ⟨h1, h2⟩ := reps_dp l xs _ ps r q
      exact ⟨.tup (sqT_le l h) h1, by simp only [PyData.canLay0]; exact h2⟩
  | .lst xs, _, p, r, e => by
    cases r with | lst h r =>
    have e' : (D.pyAll xs).map PyData.list = some p := by simpa only [D.py] using e
    cases q : D.pyAll xs with
    | none => rw [q] at e'; cases e'
    | some ps =>
      rw [q] at e'; cases e'
      obtain ⟨h1, h2⟩ := reps_dp l xs _ ps r q
      exact ⟨.lst (sqL_le l h) h1, by simp only [PyData.canLay0]; exact h2⟩
  | .dct _, _, p, r, e => by simp only [D.py] at e; cases e
  | .ins _ _, _, p, r, e => by simp only [D.py] at e; cases e
theorem reps_dp (l : Le G H) : ∀ (ds : List D) (vs : List V) (ps : List PyData), Reps K CA G vs ds → D.pyAll ds = some ps → DpAll K H vs ps ∧ PyData.canLayAll0 ps = true
  | [], _, ps, r, e => by cases r; simp only [D.pyAll] at e; cases e; exact ⟨.nil, by simp only [PyData.canLayAll0]⟩
  | d :: ds, _, ps, r, e => by
    cases r with | cons r t =>
    simp only [D.pyAll] at e
    cases q1 : d.py with
    | none => rw [q1] at e; cases e
    | some p =>
      cases q2 : D.pyAll ds with
      | none => rw [q1, q2] at e; cases e
      | some ps' =>
        rw [q1, q2] at e; cases e
        obtain ⟨h1, h2⟩ := rep_dp l d _ p r q1
        obtain ⟨h3, h4⟩ := reps_dp l ds _ ps' t q2
        exact ⟨.cons h1 h3, by simp only [PyData.canLayAll0, h2, h4, Bool.and_self]⟩
end
theorem prep_dp (l : Le G H) {d : D} {v : V} {p : PyData} (r : PRep K CA H G v d) (e : d.py = some p) : Dp K H v p ∧ p.canLay0 = true := by
  rcases r with r | ⟨a, ea, r⟩
  · exact rep_dp l d v p r e
  · subst ea
    cases d with
    | lst xs =>
      obtain ⟨vs, h1, h2⟩ := r
      have e' : (D.pyAll xs).map PyData.list = some p := by simpa only [D.py] using e
      cases q : D.pyAll xs with
      | none => rw [q] at e'; cases e'
      | some ps =>
        rw [q] at e'; cases e'
        obtain ⟨h3, h4⟩ := reps_dp l xs _ ps h2 q
        exact ⟨.lst (SqL.of h1) h3, by simp only [PyData.canLay0]; exact h4⟩
    | dct _ => simp only [D.py] at e; cases e
    | ins _ _ => simp only [D.py] at e; cases e
    | _ => exact r.elim
end

section
variable [Frame] {K : PySem.W.Frag} {CA : Nat → Addr} {W : WX} {X : Cx} {a b c e : Expr} {ma mb mc : Env → R D} {pos : Pos} {k : Nat}
/-! ### lists joined, repeated, whatever holds them -/
def rCatS (K : PySem.W.Frag) : R2 := fun x y H Q => ∃ l b xs zs, x = .ref l ∧ y = .ref b ∧ SqL K H l xs ∧ SqL K H b zs ∧ xs.length + zs.length ≤ sizeLine ∧ ∀ p, H p = none → Q (.ref p) (upd H p (.lst (xs ++ zs)))
theorem op_catS : OpR X (binaryOp .Add) (rCatS X.K) := by
  intro pins s σ H x y v u Q I rx ry h
  obtain ⟨l, b, xs, zs, rfl, rfl, hH, hB, hz, q⟩ := h
  cases rx
  cases ry
  obtain ⟨its, r, ⟨⟨c1, d1, t1, s1⟩, n, e, hc, hd, ht⟩, hl⟩ := I.list hH
  obtain ⟨its2, r2, ⟨⟨c2, d2, t2, s2⟩, n2, e2, hc2, hd2, ht2⟩, hl2⟩ := I.list hB
  subst hc hd ht hc2 hd2 ht2
  have z1 := r.length
  have z2 := r2.length
  refine concat_meets ⟨_, e, rfl⟩ ⟨_, e2, rfl⟩ noFill_list_add seq_list_add F.slot_list_add F.entry_list_add (F.args_list_add_2 _ _) (list_addW l b its.toArray its2.toArray n n2 none none s1 s2 (by rw [List.size_toArray, List.size_toArray]; omega)) ⟨e, e2, ?_⟩
  have ea : its.toArray ++ its2.toArray = (its ++ its2).toArray := by simp
  rw [ea]
  exact ⟨.ref _, _, I.lnew (t' := s.toks) (r.append r2) (by rw [List.length_append]; omega), rfl, q _ I.fresh⟩
def rRepS (K : PySem.W.Frag) : R2 := fun x y H Q => ∃ l k xs, x = .ref l ∧ y = .int k ∧ SqL K H l xs ∧ -(2 ^ 63) ≤ k ∧ k < 2 ^ 63 ∧ xs.length * k.toNat ≤ sizeLine ∧
  ∀ p, H p = none → Q (.ref p) (upd H p (.lst (List.replicate k.toNat xs).flatten))
theorem op_repS : OpR X (binaryOp .Mult) (rRepS X.K) := by
  intro pins s σ H x y v u Q I rx ry h
  obtain ⟨l, k, xs, rfl, rfl, hH, h1, h2, hz, q⟩ := h
  cases rx
  obtain ⟨t, rfl⟩ := ry
  obtain ⟨its, r, ⟨⟨c1, d1, t1, s1⟩, n, e, hc, hd, ht⟩, hl⟩ := I.list hH
  subst hc hd ht
  have z1 := r.length
  have hlen : its.toArray.size * k.toNat ≤ sizeLine := by rw [List.size_toArray, ← z1]; exact hz
  have hcap : ¬ its.toArray.size * k.toNat > (2 ^ 63 - 1) / 8 := by
    have : (sizeLine : Nat) ≤ (2 ^ 63 - 1) / 8 := by decide
    omega
  have hfit : ¬ (!Builtin.List.listFitsIndex k) = true := by
    rw [fitsIndex_both h1 h2]
    exact Bool.false_ne_true
  have hlong : ¬ Builtin.List.listTooLong (its.toArray.size * k.toNat) = true := by
    rw [notLongL hlen]
    exact Bool.false_ne_true
  have hnew : List.foldl (fun x1 x2 => x1 ++ x2) #[] (List.replicate (if its.toArray.isEmpty = true then 0 else k.toNat) its.toArray) = (List.replicate k.toNat its).flatten.toArray := by
    have f0 : ∀ m : Nat, List.foldl (fun x1 x2 => x1 ++ x2) #[] (List.replicate m its.toArray) = (List.replicate m its).flatten.toArray := fun m => by
      have := foldl_rep its m []
      rw [List.nil_append] at this
      exact this
    rw [f0]
    cases its with
    | nil => simp
    | cons a r' => rw [if_neg (by simp)]
  refine wpAny_binaryOp_repeat_ref (T := "list") (U := "int") (by decide) ⟨_, e, rfl⟩ (fun s' => typeIs_int s' k t) noFill_list_mul F.fills_int_mul F.slot_int_rmul repeat_list F.slot_int_index.lookup
    (call_meets F.slot_int_rmul (typeIs_int s k t) F.entry_int_rmul (F.args_int_rmul_2 _ _) (lm_int_rmul_list_any k t l its.toArray n none s1)
      ⟨e, rfl, ⟨_, e, rfl⟩, call_meets F.slot_list_mul ⟨_, e, rfl⟩ F.entry_list_mul (F.args_list_mul_2 _ _) (lm_list_mul_any l its.toArray n none s1 k t hfit hcap hlong) ⟨e, ?_⟩⟩)
  rw [hnew]
  exact ⟨.ref _, _, I.lnew (t' := s.toks) (r.rep k.toNat) (by rw [PyProof.Rows.lm_len_rep_flat, Nat.mul_comm]; exact hz), rfl, q _ I.fresh⟩
/-! ### equality, membership of data -/
def rEqW (K : PySem.W.Frag) (neg : Bool) : R2 := fun x y H Q => ∃ d e, Dp K H x d ∧ Dp K H y e ∧ d.canLay0 = true ∧ e.canLay0 = true ∧ min d.depth e.depth ≤ 190 ∧ Q (.bl (if neg then !PyData.eqv d e else PyData.eqv d e)) H
theorem op_eqW (hu : X.A.units + 200 < cLine) : OpR X (compareOp .Eq) (rEqW X.K false) := by
  intro pins s σ H x y v u Q I rx ry h
  obtain ⟨d, e, hd, he, cd, ce, hm, q⟩ := h
  obtain ⟨as, ra⟩ := Dp.reads I d x v hd rx
  obtain ⟨bs, rb⟩ := Dp.reads I e y u he ry
  exact SeqAt.compareEq_reads ra rb cd ce (by omega) ⟨.bl _, H, I, rfl, q⟩
theorem op_neW (hu : X.A.units + 200 < cLine) : OpR X (compareOp .NotEq) (rEqW X.K true) := by
  intro pins s σ H x y v u Q I rx ry h
  obtain ⟨d, e, hd, he, cd, ce, hm, q⟩ := h
  obtain ⟨as, ra⟩ := Dp.reads I d x v hd rx
  obtain ⟨bs, rb⟩ := Dp.reads I e y u he ry
  exact SeqAt.compareNe_reads ra rb cd ce (by omega) ⟨.bl _, H, I, rfl, q⟩
theorem op_inW (hu : X.A.units + 200 < cLine) : OpR X (compareOp .In) (fun x y H Q => ∃ d ds, Dp X.K H x d ∧ (Dp X.K H y (.list ds) ∨ Dp X.K H y (.tuple ds)) ∧ d.canLay0 = true ∧ PyData.canLayAll0 ds = true ∧ min (PyData.depthAll ds) d.depth ≤ 190 ∧ Q (.bl (ds.any fun z => PyData.eqv z d)) H) := by
  intro pins s σ H x y v u Q I rx ry h
  obtain ⟨d, ds, hd, he, cd, ce, hm, q⟩ := h
  obtain ⟨as, r1⟩ := Dp.reads I d x v hd rx
  rcases he with he | he
  · obtain ⟨bs, r2⟩ := Dp.reads I _ y u he ry
    exact SeqAt.in_list_reads r2 r1 ce cd (by omega) ⟨.bl _, H, I, rfl, q⟩
  · obtain ⟨bs, r2⟩ := Dp.reads I _ y u he ry
    exact SeqAt.in_tuple_reads r2 r1 ce cd (by omega) ⟨.bl _, H, I, rfl, q⟩
theorem op_ninW (hu : X.A.units + 200 < cLine) : OpR X (compareOp .NotIn) (fun x y H Q => ∃ d ds, Dp X.K H x d ∧ (Dp X.K H y (.list ds) ∨ Dp X.K H y (.tuple ds)) ∧ d.canLay0 = true ∧ PyData.canLayAll0 ds = true ∧ min (PyData.depthAll ds) d.depth ≤ 190 ∧ Q (.bl (!ds.any fun z => PyData.eqv z d)) H) := by
  intro pins s σ H x y v u Q I rx ry h
  obtain ⟨d, ds, hd, he, cd, ce, hm, q⟩ := h
  obtain ⟨as, r1⟩ := Dp.reads I d x v hd rx
  rcases he with he | he
  · obtain ⟨bs, r2⟩ := Dp.reads I _ y u he ry
    exact SeqAt.notIn_list_reads r2 r1 ce cd (by omega) ⟨.bl _, H, I, rfl, q⟩
  · obtain ⟨bs, r2⟩ := Dp.reads I _ y u he ry
    exact SeqAt.notIn_tuple_reads r2 r1 ce cd (by omega) ⟨.bl _, H, I, rfl, q⟩
/-! ### dicts -/
theorem op_inDk (hu : X.A.units + 1 < cLine) : OpR X (compareOp .In) (fun x y H Q => ∃ a o, y = .ref a ∧ DGet H a x o ∧ Q (.bl o.isSome) H) := by
  intro pins s σ H x y v u Q I rx ry h
  obtain ⟨a, o, rfl, g, q⟩ := h
  cases ry
  exact d_in hu I g rx fun s' I' => ⟨.bl _, H, I', rfl, q⟩
theorem op_ninDk (hu : X.A.units + 1 < cLine) : OpR X (compareOp .NotIn) (fun x y H Q => ∃ a o, y = .ref a ∧ DGet H a x o ∧ Q (.bl (!o.isSome)) H) := by
  intro pins s σ H x y v u Q I rx ry h
  obtain ⟨a, o, rfl, g, q⟩ := h
  cases ry
  exact d_notIn hu I g rx fun s' I' => ⟨.bl _, H, I', rfl, q⟩
theorem ix_dct (hu : X.A.units + 1 < cLine) : IxR X (fun x y H Q => ∃ a v, x = .ref a ∧ DGet H a y (some v) ∧ Q v H) := by
  intro value slice pins s σ H x y v u Q I rx ry h hs
  obtain ⟨a, z, rfl, g, q⟩ := h
  cases rx
  exact tail_any (dict_typeIs I g) F.slot_dict_getitem.lookup (d_getItem hu I g ry fun w' s' I' r' => ⟨z, H, I', r', q⟩) hs
theorem repK_look {K : PySem.W.Frag} {CA : Nat → Addr} {G : Hp} {k : Key} : ∀ {vs : List (Key × V)} {ds : List (Key × D)}, RepK K CA G vs ds →
    (valV vs k = none ∧ lookK k ds = none) ∨ ∃ v d, valV vs k = some v ∧ lookK k ds = some d ∧ Rep K CA G v d
  | _, _, .nil => .inl ⟨rfl, rfl⟩
  | _, _, .cons (k := j) (v := v) (d := d) r t => by
    by_cases h : j = k
    · refine .inr ⟨v, d, ?_, ?_, r⟩
      · simp [valV, List.find?_cons, h]
      · simp [lookK, List.find?_cons, h]
    · have e1 : ∀ l : List (Key × V), valV ((j, v) :: l) k = valV l k := fun l => by simp [valV, List.find?_cons, h]
      have e2 : ∀ l : List (Key × D), lookK k ((j, d) :: l) = lookK k l := fun l => by simp [lookK, List.find?_cons, h]
      rw [e1, e2]
      exact repK_look t
theorem keyD_rep {K : PySem.W.Frag} {CA : Nat → Addr} {H G : Hp} {d : D} {v : V} {k : Key} (r : PRep K CA H G v d) (h : keyD d = some k) : v = kV k := by
  cases d with
  | int i => cases h; exact r.int
  | str x => cases h; exact r.str.1
  | _ => cases h
/-! ### ints, texts: what is handed on -/
theorem sOk_append {x y : Str} (hx : sOk x = true) (hy : sOk y = true) (hl : x.length + y.length ≤ 1000000) : sOk (x ++ y) = true := by
  obtain ⟨h1, _⟩ := Bool.and_eq_true_iff.mp hx
  obtain ⟨h2, _⟩ := Bool.and_eq_true_iff.mp hy
  refine Bool.and_eq_true_iff.mpr ⟨?_, decide_eq_true ?_⟩
  · show ((x.cps ++ y.cps).all fun c => decide (c < 0x110000)) = true
    rw [Array.all_append]
    exact Bool.and_eq_true_iff.mpr ⟨h1, h2⟩
  · show (x.cps ++ y.cps).size ≤ 1000000
    rw [Array.size_append]
    exact hl
def Bo.op : Bo → Operator
  | .add => .Add | .sub => .Sub | .mul => .Mult | .fdv => .FloorDiv | .mod => .Mod | .pow => .Pow
def rAddAll (K : PySem.W.Frag) : R2 := fun x y H Q => rI0 (fun i j => .int (i + j)) x y H Q ∨ (∃ i j, x = .str i ∧ y = .str j ∧ i.length + j.length ≤ sizeLine ∧ Q (.str (i ++ j)) H) ∨ rCatA K x y H Q ∨ rCatS K x y H Q
theorem op_addAll : OpR X (binaryOp .Add) (rAddAll X.K) := op_add.or (op_add_str.or (op_catA.or op_catS))
def rMulAll (K : PySem.W.Frag) : R2 := fun x y H Q => rI CMul (fun i j => .int (i * j)) x y H Q ∨ rRepS K x y H Q
theorem op_mulAll : OpR X (binaryOp .Mult) (rMulAll X.K) := op_mul.or op_repS
theorem de_bin (o : Bo) (ha : PE X a (TP X.K CA W ma)) (hb : PE X b (TP X.K CA W mb)) : PE X (.BinOp a o.op b pos) (TC X.K CA W fun ρ => (ma ρ).bind fun x ρ => (mb ρ).bind fun y ρ => R.lift (binD o x y) ρ) := by
  cases o with
  | add =>
    refine de_op (pe_op op_addAll ha hb) fun x y ρ v u H G B G0 σ Q rx ry em p => ?_
    cases x with
    | int i => cases y with
      | int j => exact .inl ⟨i, j, rx.int, ry.int, post_sh em p (.int _)⟩
      | _ => exact p.elim
    | str i => cases y with
      | str j =>
        obtain ⟨e1, s1⟩ := rx.str
        obtain ⟨e2, s2⟩ := ry.str
        by_cases hl : i.length + j.length ≤ 1000000
        · refine .inr (.inl ⟨i, j, e1, e2, Nat.le_trans hl (by rw [sizeLine_eq]; decide), ?_⟩)
          have p' := p
          simp only [binD, if_pos hl, R.lift_some] at p'
          exact post_sh em p' (.str (sOk_append s1 s2 hl))
        · simp only [binD, if_neg hl, R.lift_none] at p; exact p.elim
      | _ => exact p.elim
    | tup xs => cases y with
      | tup ys =>
        by_cases hl : xs.length + ys.length ≤ cap
        · simp only [binD, if_pos hl, R.lift_some] at p
          obtain ⟨l, vs, rfl, h1, r1⟩ := rx.tup em.gh
          obtain ⟨l2, ws, rfl, h2, r2⟩ := ry.tup em.gh
          have z1 := r1.length
          have z2 := r2.length
          refine .inr (.inr (.inl ⟨l, l2, vs, ws, rfl, rfl, h1, h2, by rw [z1, z2, ← cap_line]; exact hl, fun h0 => ?_, fun h0 h3 => ?_, fun h0 h3 q hq => ?_⟩))
          · subst h0
            cases r1
            rcases ry with ry | ⟨_, _, ry⟩
            · exact post_sh em p ry
            · exact ry.elim
          · subst h3
            cases r2
            rw [List.append_nil] at p
            rcases rx with rx | ⟨_, _, rx⟩
            · exact post_sh em p rx
            · exact rx.elim
          · exact post_new em p hq (.tup (SqT.of upd_same) ((r1.append r2).le (Le.newH (em.gh.noneL hq))))
        · simp only [binD, if_neg hl, R.lift_none] at p; exact p.elim
      | _ => exact p.elim
    | lst xs => cases y with
      | lst ys =>
        by_cases hl : xs.length + ys.length ≤ cap
        · simp only [binD, if_pos hl, R.lift_some] at p
          obtain ⟨l, vs, rfl, h1, r1⟩ := rx.lst em.gh
          obtain ⟨l2, ws, rfl, h2, r2⟩ := ry.lst em.gh
          have z1 := r1.length
          have z2 := r2.length
          refine .inr (.inr (.inr ⟨l, l2, vs, ws, rfl, rfl, h1, h2, by rw [z1, z2, ← cap_line]; exact hl, fun q hq => ?_⟩))
          exact post_ow em p hq ⟨_, upd_same, r1.append r2⟩
        · simp only [binD, if_neg hl, R.lift_none] at p; exact p.elim
      | _ => exact p.elim
    | _ => cases y <;> exact p.elim
  | sub =>
    refine de_op (pe_op op_sub ha hb) fun x y ρ v u H G B G0 σ Q rx ry em p => ?_
    cases x with
    | int i => cases y with
      | int j => exact ⟨i, j, rx.int, ry.int, post_sh em p (.int _)⟩
      | _ => exact p.elim
    | _ => cases y <;> exact p.elim
  | mul =>
    refine de_op (pe_op op_mulAll ha hb) fun x y ρ v u H G B G0 σ Q rx ry em p => ?_
    cases x with
    | int i => cases y with
      | int j =>
        by_cases hl : (-(2 ^ 64) < i ∧ i < 2 ^ 64) ∨ (-(2 ^ 64) < j ∧ j < 2 ^ 64)
        · simp only [binD, if_pos hl, R.lift_some] at p
          exact .inl ⟨i, j, rx.int, ry.int, hl, post_sh em p (.int _)⟩
        · simp only [binD, if_neg hl, R.lift_none] at p; exact p.elim
      | _ => exact p.elim
    | lst xs => cases y with
      | int k =>
        by_cases hl : (-(2 ^ 63) ≤ k ∧ k < 2 ^ 63) ∧ xs.length * k.toNat ≤ cap
        · simp only [binD, if_pos hl, R.lift_some] at p
          obtain ⟨l, vs, rfl, h1, r1⟩ := rx.lst em.gh
          have z1 := r1.length
          exact .inr ⟨l, k, vs, rfl, ry.int, h1, hl.1.1, hl.1.2, by rw [z1, ← cap_line]; exact hl.2, fun q hq => post_ow em p hq ⟨_, upd_same, r1.rep _⟩⟩
        · simp only [binD, if_neg hl, R.lift_none] at p; exact p.elim
      | _ => exact p.elim
    | _ => cases y <;> exact p.elim
  | fdv =>
    refine de_op (pe_op op_fdiv ha hb) fun x y ρ v u H G B G0 σ Q rx ry em p => ?_
    cases x with
    | int i => cases y with
      | int j =>
        by_cases hl : 0 < j ∧ j < 1073741824
        · simp only [binD, if_pos hl, R.lift_some] at p
          exact ⟨i, j, rx.int, ry.int, hl, post_sh em p (.int _)⟩
        · simp only [binD, if_neg hl, R.lift_none] at p; exact p.elim
      | _ => exact p.elim
    | _ => cases y <;> exact p.elim
  | mod =>
    refine de_op (pe_op op_mod ha hb) fun x y ρ v u H G B G0 σ Q rx ry em p => ?_
    cases x with
    | int i => cases y with
      | int j =>
        by_cases hl : 0 < j
        · simp only [binD, if_pos hl, R.lift_some] at p
          exact ⟨i, j, rx.int, ry.int, hl, post_sh em p (.int _)⟩
        · simp only [binD, if_neg hl, R.lift_none] at p; exact p.elim
      | _ => exact p.elim
    | _ => cases y <;> exact p.elim
  | pow =>
    refine de_op (pe_op op_pow ha hb) fun x y ρ v u H G B G0 σ Q rx ry em p => ?_
    cases x with
    | int i => cases y with
      | int j =>
        by_cases hl : 0 ≤ j ∧ j ≤ 1000000 ∧ i.natAbs < 2 ^ 64
        · simp only [binD, if_pos hl, R.lift_some] at p
          exact ⟨i, j, rx.int, ry.int, hl, post_sh em p (.int _)⟩
        · simp only [binD, if_neg hl, R.lift_none] at p; exact p.elim
      | _ => exact p.elim
    | _ => cases y <;> exact p.elim
/-! ### comparisons -/
def Co.op : Co → CmpOp
  | .eq => .Eq | .ne => .NotEq | .lt => .Lt | .le => .LtE | .gt => .Gt | .ge => .GtE | .is => .Is | .isn => .IsNot | .in_ => .In | .nin => .NotIn
/-- a comparison's answer is the data's -/
def CmpOk (X : Cx) (CA : Nat → Addr) (o : Co) (r : R2) : Prop := OpR X (compareOp o.op) r ∧ ∀ x y b v u H G Q, cmpD o x y = some b → PRep X.K CA H G v x → PRep X.K CA H G u y → Le G H → Q (.bl b) H → r v u H Q
theorem eqD_rep {x y : D} {b : Bool} {v u : V} {H G : Hp} (h : eqD x y = some b) (rx : PRep K CA H G v x) (ry : PRep K CA H G u y) (l : Le G H) :
    ∃ d e, Dp K H v d ∧ Dp K H u e ∧ d.canLay0 = true ∧ e.canLay0 = true ∧ min d.depth e.depth ≤ 190 ∧ b = PyData.eqv d e := by
  unfold eqD at h
  cases q1 : x.py with
  | none => rw [q1] at h; cases h
  | some d =>
    cases q2 : y.py with
    | none => rw [q1, q2] at h; cases h
    | some e =>
      rw [q1, q2] at h
      by_cases hm : min d.depth e.depth ≤ 190
      · simp only [if_pos hm] at h
        cases h
        obtain ⟨h1, h2⟩ := prep_dp l rx q1
        obtain ⟨h3, h4⟩ := prep_dp l ry q2
        exact ⟨d, e, h1, h3, h2, h4, hm, rfl⟩
      · simp only [if_neg hm] at h; cases h
theorem inSeq_rep {x : D} {ys : List D} {b : Bool} {v u : V} {H G : Hp} (h : inSeq x ys = some b) (rx : PRep K CA H G v x) (ry : PRep K CA H G u (.lst ys) ∨ PRep K CA H G u (.tup ys)) (l : Le G H) :
    ∃ d ds, Dp K H v d ∧ (Dp K H u (.list ds) ∨ Dp K H u (.tuple ds)) ∧ d.canLay0 = true ∧ PyData.canLayAll0 ds = true ∧ min (PyData.depthAll ds) d.depth ≤ 190 ∧ b = ds.any fun z => PyData.eqv z d := by
  unfold inSeq at h
  cases q1 : x.py with
  | none => rw [q1] at h; cases h
  | some d =>
    cases q2 : D.pyAll ys with
    | none => rw [q1, q2] at h; cases h
    | some ds =>
      rw [q1, q2] at h
      by_cases hm : min (PyData.depthAll ds) d.depth ≤ 190
      · simp only [if_pos hm] at h
        cases h
        obtain ⟨h1, h2⟩ := prep_dp l rx q1
        rcases ry with ry | ry
        · obtain ⟨h3, h4⟩ := prep_dp (p := .list ds) l ry (by simp only [D.py, q2, Option.map_some])
          exact ⟨d, ds, h1, .inl h3, h2, by simpa only [PyData.canLay0] using h4, hm, rfl⟩
        · obtain ⟨h3, h4⟩ := prep_dp (p := .tuple ds) l ry (by simp only [D.py, q2, Option.map_some])
          exact ⟨d, ds, h1, .inr h3, h2, by simpa only [PyData.canLay0] using h4, hm, rfl⟩
      · simp only [if_neg hm] at h; cases h
end
end DL

set_option maxHeartbeats 4000000
/-! DL5: comparisons, truth, displays, subscripts. -/
namespace DL
open PySem PySem.Spec PyProof.Rows L2

section
variable [Frame] {CA : Nat → Addr} {W : WX} {X : Cx} {a b c e : Expr} {ma mb mc : Env → R D} {pos : Pos} {k : Nat} {rest : List Expr}
theorem not_none_of {K : PySem.W.Frag} {H G : Hp} {d : D} {v : V} (r : PRep K CA H G v d) (h : d ≠ .non) : v ≠ .non := by
  rcases r with r | ⟨a, e, _⟩
  · cases r <;> first | exact absurd rfl h | (intro q; cases q)
  · subst e; intro q; cases q
def rCmp (X : Cx) : Co → R2
  | .eq => rEqW X.K false
  | .ne => rEqW X.K true
  | .lt => fun x y H Q => rI0 (fun i j => .bl (decide (i < j))) x y H Q ∨ ∃ i j, x = .str i ∧ y = .str j ∧ Q (.bl (decide (i.cps.toList < j.cps.toList))) H
  | .le => rI0 fun i j => .bl (decide (i ≤ j))
  | .gt => rI0 fun i j => .bl (decide (j < i))
  | .ge => rI0 fun i j => .bl (decide (j ≤ i))
  | .is => fun x y H Q => (y = .non ∧ Q (.bl (decide (x = .non))) H) ∨ ∃ a b, x = .bl a ∧ y = .bl b ∧ Q (.bl (decide (a = b))) H
  | .isn => fun x y H Q => (y = .non ∧ Q (.bl (!decide (x = .non))) H) ∨ ∃ a b, x = .bl a ∧ y = .bl b ∧ Q (.bl (!decide (a = b))) H
  | .in_ => fun x y H Q => (∃ d ds, Dp X.K H x d ∧ (Dp X.K H y (.list ds) ∨ Dp X.K H y (.tuple ds)) ∧ d.canLay0 = true ∧ PyData.canLayAll0 ds = true ∧ min (PyData.depthAll ds) d.depth ≤ 190 ∧ Q (.bl (ds.any fun z => PyData.eqv z d)) H) ∨
      (∃ (c : Nat) (z : Str), x = .str ⟨#[c]⟩ ∧ y = .str z ∧ Q (.bl (decide (c ∈ z.cps.toList))) H) ∨ ∃ a o, y = .ref a ∧ DGet H a x o ∧ Q (.bl o.isSome) H
  | .nin => fun x y H Q => (∃ d ds, Dp X.K H x d ∧ (Dp X.K H y (.list ds) ∨ Dp X.K H y (.tuple ds)) ∧ d.canLay0 = true ∧ PyData.canLayAll0 ds = true ∧ min (PyData.depthAll ds) d.depth ≤ 190 ∧ Q (.bl (!ds.any fun z => PyData.eqv z d)) H) ∨
      (∃ (c : Nat) (z : Str), x = .str ⟨#[c]⟩ ∧ y = .str z ∧ Q (.bl (!decide (c ∈ z.cps.toList))) H) ∨ ∃ a o, y = .ref a ∧ DGet H a x o ∧ Q (.bl (!o.isSome)) H
theorem op_cmp (hr : Room k X.A) : ∀ o : Co, OpR X (compareOp o.op) (rCmp X o)
  | .eq => op_eqW (by have := hr.un; omega)
  | .ne => op_neW (by have := hr.un; omega)
  | .lt => op_lt.or op_lt_str
  | .le => op_le
  | .gt => op_gt
  | .ge => op_ge
  | .is => op_isN.or op_is_bl
  | .isn => op_notN.or op_isnot_bl
  | .in_ => (op_inW (by have := hr.un; omega)).or (op_in_sign.or (op_inDk (by have := hr.un; omega)))
  | .nin => (op_ninW (by have := hr.un; omega)).or (op_notIn_sign.or (op_ninDk (by have := hr.un; omega)))
theorem inD_rep {K : PySem.W.Frag} {x y : D} {b : Bool} {v u : V} {H G : Hp} (h : inD x y = some b) (rx : PRep K CA H G v x) (ry : PRep K CA H G u y) (l : Le G H) :
    (∃ d ds, Dp K H v d ∧ (Dp K H u (.list ds) ∨ Dp K H u (.tuple ds)) ∧ d.canLay0 = true ∧ PyData.canLayAll0 ds = true ∧ min (PyData.depthAll ds) d.depth ≤ 190 ∧ b = ds.any fun z => PyData.eqv z d) ∨
      (∃ (c : Nat) (z : Str), v = .str ⟨#[c]⟩ ∧ u = .str z ∧ b = decide (c ∈ z.cps.toList)) ∨ ∃ a o, u = .ref a ∧ DGet H a v o ∧ b = o.isSome := by
  cases y with
  | lst es => exact .inl (inSeq_rep (by cases x <;> exact h) rx (.inl ry) l)
  | tup es => exact .inl (inSeq_rep (by cases x <;> exact h) rx (.inr ry) l)
  | str z =>
    cases x with
    | str x =>
      obtain ⟨e1, _⟩ := rx.str
      obtain ⟨e2, _⟩ := ry.str
      have h' : (match x.cps.toList with
        | [c] => some (decide (c ∈ z.cps.toList))
        | _ => none) = some b := h
      split at h'
      · rename_i c hc
        cases h'
        refine .inr (.inl ⟨c, z, ?_, e2, rfl⟩)
        rw [e1]
        obtain ⟨⟨l⟩⟩ := x
        have : l = [c] := hc
        subst this
        rfl
      · cases h'
    | _ => cases h
  | dct kvs =>
    have h' : (keyD x).map (fun k => (lookK k kvs).isSome) = some b := by cases x <;> exact h
    cases hk : keyD x with
    | none => rw [hk] at h'; cases h'
    | some k =>
      rw [hk] at h'; cases h'
      have ev := keyD_rep rx hk
      subst ev
      obtain ⟨a, vs, rfl, ha, r⟩ := ry.dct l
      refine .inr (.inr ⟨a, valV vs k, rfl, DGet.k ha, ?_⟩)
      rcases repK_look (k := k) r with ⟨h1, h2⟩ | ⟨v, d, h1, h2, _⟩
      · show (lookK k kvs).isSome = _; rw [h1, h2]; rfl
      · show (lookK k kvs).isSome = _; rw [h1, h2]; rfl
  | _ => cases x <;> cases h
theorem cmp_ok {o : Co} {x y : D} {b : Bool} {v u : V} {H G : Hp} {Q : VK} (h : cmpD o x y = some b) (rx : PRep X.K CA H G v x) (ry : PRep X.K CA H G u y) (l : Le G H) (q : Q (.bl b) H) : rCmp X o v u H Q := by
  cases o with
  | eq =>
    obtain ⟨d, e, h1, h2, h3, h4, h5, rfl⟩ := eqD_rep (by cases x <;> cases y <;> exact h) rx ry l
    exact ⟨d, e, h1, h2, h3, h4, h5, q⟩
  | ne =>
    have h' : (eqD x y).map not = some b := by cases x <;> cases y <;> exact h
    cases he : eqD x y with
    | none => rw [he] at h'; cases h'
    | some b' =>
      rw [he] at h'; cases h'
      obtain ⟨d, e, h1, h2, h3, h4, h5, rfl⟩ := eqD_rep he rx ry l
      exact ⟨d, e, h1, h2, h3, h4, h5, q⟩
  | lt =>
    cases x with
    | int i => cases y with
      | int j => cases h; exact .inl ⟨i, j, rx.int, ry.int, q⟩
      | _ => cases h
    | str i => cases y with
      | str j => cases h; exact .inr ⟨i, j, rx.str.1, ry.str.1, q⟩
      | _ => cases h
    | _ => cases y <;> cases h
  | le =>
    cases x with
    | int i => cases y with
      | int j => cases h; exact ⟨i, j, rx.int, ry.int, q⟩
      | _ => cases h
    | _ => cases y <;> cases h
  | gt =>
    cases x with
    | int i => cases y with
      | int j => cases h; exact ⟨i, j, rx.int, ry.int, q⟩
      | _ => cases h
    | _ => cases y <;> cases h
  | ge =>
    cases x with
    | int i => cases y with
      | int j => cases h; exact ⟨i, j, rx.int, ry.int, q⟩
      | _ => cases h
    | _ => cases y <;> cases h
  | is =>
    cases y with
    | non =>
      refine .inl ⟨ry.non, ?_⟩
      cases x with
      | non => cases h; rw [rx.non]; exact q
      | _ => cases h; rw [decide_eq_false (not_none_of rx (by intro z; cases z))]; exact q
    | bl j => cases x with
      | bl i => cases h; refine .inr ⟨i, j, rx.bl, ry.bl, ?_⟩; rw [show decide (i = j) = (i == j) by cases i <;> cases j <;> rfl]; exact q
      | _ => cases h
    | _ => cases x <;> cases h
  | isn =>
    cases y with
    | non =>
      refine .inl ⟨ry.non, ?_⟩
      cases x with
      | non => cases h; rw [rx.non]; exact q
      | _ => cases h; rw [decide_eq_false (not_none_of rx (by intro z; cases z))]; exact q
    | bl j => cases x with
      | bl i => cases h; refine .inr ⟨i, j, rx.bl, ry.bl, ?_⟩; rw [show decide (i = j) = (i == j) by cases i <;> cases j <;> rfl]; exact q
      | _ => cases h
    | _ => cases x <;> cases h
  | in_ =>
    rcases inD_rep (by cases x <;> cases y <;> exact h) rx ry l with ⟨d, ds, h1, h2, h3, h4, h5, rfl⟩ | ⟨c, z, h1, h2, rfl⟩ | ⟨a, o, h1, h2, rfl⟩
    · exact .inl ⟨d, ds, h1, h2, h3, h4, h5, q⟩
    · exact .inr (.inl ⟨c, z, h1, h2, q⟩)
    · exact .inr (.inr ⟨a, o, h1, h2, q⟩)
  | nin =>
    have h' : (inD x y).map not = some b := by cases x <;> cases y <;> exact h
    cases he : inD x y with
    | none => rw [he] at h'; cases h'
    | some b' =>
      rw [he] at h'; cases h'
      rcases inD_rep he rx ry l with ⟨d, ds, h1, h2, h3, h4, h5, rfl⟩ | ⟨c, z, h1, h2, rfl⟩ | ⟨a, o, h1, h2, rfl⟩
      · exact .inl ⟨d, ds, h1, h2, h3, h4, h5, q⟩
      · exact .inr (.inl ⟨c, z, h1, h2, q⟩)
      · exact .inr (.inr ⟨a, o, h1, h2, q⟩)
/-- a comparison of data -/
theorem post_lift {α : Type} {B G0 H G : Hp} {σ : L2.St} {ρ : Env} {Q : VK} {o : Option α} {f : α → Env → R Cell} (p : PostV X.K CA W (rlC X.K CA) B G0 H G σ Q ((R.lift o ρ).bind f)) :
    ∃ x, o = some x ∧ PostV X.K CA W (rlC X.K CA) B G0 H G σ Q (f x ρ) := by
  cases o with
  | none => exact p.elim
  | some x => exact ⟨x, rfl, p⟩
/-- a chain of two -/
theorem de_chn (hr : Room k X.A) (o p : Co) (ha : PE X a (TP X.K CA W ma)) (hb : PE X b (TP X.K CA W mb)) (hc : PE X c (TP X.K CA W mc)) (hm : lastMarks [o.op, p.op] [b, c] = false) :
    PE X (.Compare a [o.op, p.op] [b, c] pos) (TC X.K CA W fun ρ => (ma ρ).bind fun x ρ => (mb ρ).bind fun y ρ => (R.lift (cmpD o x y) ρ).bind fun k ρ =>
      if k = true then (mc ρ).bind fun z ρ => (R.lift (cmpD p y z) ρ).bind fun k ρ => .ok (.sh (.bl k)) ρ else .ok (.sh (.bl false)) ρ) :=
  PE.weak (pe_chain (op_cmp hr o) (op_cmp hr p) ha hb hc hm) fun σ H Q ⟨B, G0, G, ρ, em, q⟩ => by
    dsimp only at q
    refine ⟨B, G0, G, ρ, em, ?_⟩
    cases h1 : ma ρ with
    | no => rw [h1] at q; exact q.elim
    | ex x ρ' => rw [h1] at q; exact q
    | ok x ρ1 =>
      rw [h1] at q; simp only [R.bind_ok] at q
      intro v H1 G1 l1 k1 em1 r1
      refine ⟨B, G0, G1, ρ1, em1, ?_⟩
      cases h2 : mb ρ1 with
      | no => rw [h2] at q; exact q.elim
      | ex x ρ' => rw [h2] at q; exact fun H' G' cl dd lh lg => q H' G' cl dd (l1.trans lh) (k1.trans lg)
      | ok y ρ2 =>
        rw [h2] at q; simp only [R.bind_ok] at q
        intro u H2 G2 l2 k2 em2 r2
        obtain ⟨t, ht, q⟩ := post_lift q
        refine cmp_ok ht (r1.le l2 k2) r2 em2.gh ⟨t, rfl, ?_⟩
        cases t with
        | false =>
          rw [if_neg Bool.false_ne_true]
          rw [if_neg Bool.false_ne_true] at q
          exact q _ H2 G2 (l1.trans l2) (k1.trans k2) em2 ⟨.bl _, fun _ z => by cases z⟩
        | true =>
          rw [if_pos rfl]
          rw [if_pos rfl] at q
          refine ⟨B, G0, G2, ρ2, em2, ?_⟩
          cases h3 : mc ρ2 with
          | no => rw [h3] at q; exact q.elim
          | ex x ρ' => rw [h3] at q; exact fun H' G' cl dd lh lg => q H' G' cl dd ((l1.trans l2).trans lh) ((k1.trans k2).trans lg)
          | ok z ρ3 =>
            rw [h3] at q; simp only [R.bind_ok] at q
            intro w H3 G3 l3 k3 em3 r3
            obtain ⟨t, ht, q⟩ := post_lift q
            exact cmp_ok ht (r2.le l3 k3) r3 em3.gh (q _ H3 G3 ((l1.trans l2).trans l3) ((k1.trans k2).trans k3) em3 ⟨.bl _, fun _ z => by cases z⟩)
/-! ### truth -/
theorem isEmpty_len {α β : Type} {l : List α} {m : List β} (h : l.length = m.length) : l.isEmpty = m.isEmpty := by
  cases l <;> cases m <;> first | rfl | cases h
theorem tru_rep {K : PySem.W.Frag} {d : D} {b : Bool} {v : V} {H G : Hp} (h : trD d = some b) (r : PRep K CA H G v d) (l : Le G H) : TruV K v H b := by
  cases d with
  | non => cases h; rw [r.non]; rfl
  | bl i => cases h; rw [r.bl]; rfl
  | int i => cases h; rw [r.int]; rfl
  | str x => cases h; obtain ⟨e, s⟩ := r.str; rw [e]; exact ⟨sOk_line s, rfl⟩
  | tup xs => cases h; obtain ⟨a, vs, rfl, h1, r1⟩ := r.tup l; exact .inr (.inl ⟨vs, h1, by rw [isEmpty_len r1.length]⟩)
  | lst xs => cases h; obtain ⟨a, vs, rfl, h1, r1⟩ := r.lst l; exact .inl ⟨vs, h1, by rw [isEmpty_len r1.length]⟩
  | dct xs => cases h; obtain ⟨a, vs, rfl, h1, r1⟩ := r.dct l; exact .inr (.inr ⟨vs, h1, by rw [isEmpty_len r1.length]⟩)
  | ins _ _ => cases h
theorem de_not (ha : PE X a (TP X.K CA W ma)) : PE X (.UnaryOp .Not a pos) (TC X.K CA W fun ρ => (ma ρ).bind fun x ρ => (R.lift (trD x) ρ).bind fun k ρ => .ok (.sh (.bl (!k))) ρ) :=
  de_un (op := fun x H Q => ∃ k, TruV X.K x H k ∧ Q (.bl (!k)) H) (pe_notT ha) fun x ρ v H G B G0 σ Q r em p => by
    obtain ⟨t, ht, q⟩ := post_lift p
    exact ⟨t, tru_rep ht r em.gh, post_sh em q (.bl _)⟩
theorem de_neg (ha : PE X a (TP X.K CA W ma)) : PE X (.UnaryOp .USub a pos) (TC X.K CA W fun ρ => (ma ρ).bind fun x ρ => match x with
    | .int i => .ok (.sh (.int (-i))) ρ
    | _ => .no) :=
  de_un (op := rU fun i => .int (-i)) (pe_un un_neg ha) fun x ρ v H G B G0 σ Q r em p => by
    cases x with
    | int i => exact ⟨i, r.int, post_sh em p (.int _)⟩
    | _ => exact p.elim
theorem de_and {mb : Env → R Cell} {ma : Env → R D} (ha : PE X a (TD X.K CA W ma)) (hb : PE X (.BoolOp .And (b :: rest) pos) (TC X.K CA W mb)) :
    PE X (.BoolOp .And (a :: b :: rest) pos) (TC X.K CA W fun ρ => (ma ρ).bind fun x ρ => (R.lift (trD x) ρ).bind fun k ρ => if k = true then mb ρ else .ok (.sh x) ρ) :=
  PE.weak (pe_andT ha hb) fun σ H Q ⟨B, G0, G, ρ, em, q⟩ => by
    dsimp only at q
    refine ⟨B, G0, G, ρ, em, ?_⟩
    cases h1 : ma ρ with
    | no => rw [h1] at q; exact q.elim
    | ex x ρ' => rw [h1] at q; exact q
    | ok x ρ1 =>
      rw [h1] at q; simp only [R.bind_ok] at q
      intro v H1 G1 l1 k1 em1 r1
      obtain ⟨t, ht, q⟩ := post_lift q
      refine ⟨t, tru_rep ht (.inl r1) em1.gh, ?_⟩
      cases t with
      | false =>
        rw [if_neg Bool.false_ne_true]
        rw [if_neg Bool.false_ne_true] at q
        exact q v H1 G1 l1 k1 em1 ⟨r1, fun _ z => by cases z⟩
      | true =>
        rw [if_pos rfl]
        rw [if_pos rfl] at q
        refine ⟨B, G0, G1, ρ1, em1, ?_⟩
        cases h2 : mb ρ1 with
        | no => rw [h2] at q; exact q.elim
        | ex x ρ' => rw [h2] at q; exact fun H' G' cl dd lh lg => q H' G' cl dd (l1.trans lh) (k1.trans lg)
        | ok y ρ2 => rw [h2] at q; exact fun v' H' G' lh lg => q v' H' G' (l1.trans lh) (k1.trans lg)
theorem de_or {mb : Env → R Cell} {ma : Env → R D} (ha : PE X a (TD X.K CA W ma)) (hb : PE X (.BoolOp .Or (b :: rest) pos) (TC X.K CA W mb)) :
    PE X (.BoolOp .Or (a :: b :: rest) pos) (TC X.K CA W fun ρ => (ma ρ).bind fun x ρ => (R.lift (trD x) ρ).bind fun k ρ => if k = true then .ok (.sh x) ρ else mb ρ) :=
  PE.weak (pe_orT ha hb) fun σ H Q ⟨B, G0, G, ρ, em, q⟩ => by
    dsimp only at q
    refine ⟨B, G0, G, ρ, em, ?_⟩
    cases h1 : ma ρ with
    | no => rw [h1] at q; exact q.elim
    | ex x ρ' => rw [h1] at q; exact q
    | ok x ρ1 =>
      rw [h1] at q; simp only [R.bind_ok] at q
      intro v H1 G1 l1 k1 em1 r1
      obtain ⟨t, ht, q⟩ := post_lift q
      refine ⟨t, tru_rep ht (.inl r1) em1.gh, ?_⟩
      cases t with
      | true =>
        rw [if_pos rfl]
        rw [if_pos rfl] at q
        exact q v H1 G1 l1 k1 em1 ⟨r1, fun _ z => by cases z⟩
      | false =>
        rw [if_neg Bool.false_ne_true]
        rw [if_neg Bool.false_ne_true] at q
        refine ⟨B, G0, G1, ρ1, em1, ?_⟩
        cases h2 : mb ρ1 with
        | no => rw [h2] at q; exact q.elim
        | ex x ρ' => rw [h2] at q; exact fun H' G' cl dd lh lg => q H' G' cl dd (l1.trans lh) (k1.trans lg)
        | ok y ρ2 => rw [h2] at q; exact fun v' H' G' lh lg => q v' H' G' (l1.trans lh) (k1.trans lg)
/-! ### tests -/
theorem dt_val (ha : PE X a (TP X.K CA W ma)) (he : ∀ whole, isTrue a X.env whole = (do let v ← whole; standAt a.pos; holding [v] (truthy v))) : PT X a (TTt X.K CA W fun ρ => (ma ρ).bind fun x ρ => R.lift (trD x) ρ) :=
  PT.weak (pt_truth ha he) fun σ H Q ⟨B, G0, G, ρ, em, q⟩ => by
    dsimp only at q
    refine ⟨B, G0, G, ρ, em, ?_⟩
    cases h1 : ma ρ with
    | no => rw [h1] at q; exact q.elim
    | ex x ρ' => rw [h1] at q; exact q
    | ok x ρ1 =>
      rw [h1] at q; simp only [R.bind_ok] at q
      intro v H1 G1 l1 k1 em1 r1
      cases ht : trD x with
      | none => rw [ht] at q; exact q.elim
      | some t =>
        rw [ht] at q
        exact ⟨t, tru_rep ht r1 em1.gh, q H1 G1 l1 k1 em1⟩
theorem PW.weak {e : Expr} {t t' : TT} (h : PW X e t) (w : ∀ σ H Q, t' σ H Q → t σ H Q) : PW X e t' := ⟨fun wh pins s σ H Q I q => h.run wh pins s σ H Q I (w σ H Q q)⟩
variable {na nb nc : Env → R Bool}
theorem postT_le {B G0 H G H1 G1 : Hp} {σ : L2.St} {Q : Bool → Hp → Prop} {r : R Bool} (l : Le H H1) (k : Le G G1) (p : PostT X.K CA W B G0 H G σ Q r) : PostT X.K CA W B G0 H1 G1 σ Q r := by
  cases r with
  | no => exact p
  | ex x ρ => exact fun H' G' cl dd lh lg => p H' G' cl dd (l.trans lh) (k.trans lg)
  | ok x ρ => exact fun H' G' lh lg => p H' G' (l.trans lh) (k.trans lg)
theorem postV_le {α : Type} {Rl : Hp → Hp → Hp → L2.St → Env → V → α → Prop} {B G0 H G H1 G1 : Hp} {σ : L2.St} {Q : VK} {r : R α} (l : Le H H1) (k : Le G G1) (p : PostV X.K CA W Rl B G0 H G σ Q r) : PostV X.K CA W Rl B G0 H1 G1 σ Q r := by
  cases r with
  | no => exact p
  | ex x ρ => exact fun H' G' cl dd lh lg => p H' G' cl dd (l.trans lh) (k.trans lg)
  | ok x ρ => exact fun v H' G' lh lg => p v H' G' (l.trans lh) (k.trans lg)
theorem dt_and (ha : PT X a (TTt X.K CA W na)) (hb : PW X (.BoolOp .And (b :: rest) pos) (TTt X.K CA W nb)) : PW X (.BoolOp .And (a :: b :: rest) pos) (TTt X.K CA W fun ρ => (na ρ).bind fun k ρ => if k = true then nb ρ else .ok false ρ) :=
  PW.weak (pw_and ha hb) fun σ H Q ⟨B, G0, G, ρ, em, q⟩ => by
    dsimp only at q
    refine ⟨B, G0, G, ρ, em, ?_⟩
    cases h1 : na ρ with
    | no => rw [h1] at q; exact q.elim
    | ex x ρ' => rw [h1] at q; exact q
    | ok t ρ1 =>
      rw [h1] at q; simp only [R.bind_ok] at q
      intro H1 G1 l1 k1 em1
      cases t with
      | true => rw [if_pos rfl]; rw [if_pos rfl] at q; exact ⟨B, G0, G1, ρ1, em1, postT_le l1 k1 q⟩
      | false => rw [if_neg Bool.false_ne_true]; rw [if_neg Bool.false_ne_true] at q; exact q H1 G1 l1 k1 em1
theorem dt_or (ha : PT X a (TTt X.K CA W na)) (hb : PW X (.BoolOp .Or (b :: rest) pos) (TTt X.K CA W nb)) : PW X (.BoolOp .Or (a :: b :: rest) pos) (TTt X.K CA W fun ρ => (na ρ).bind fun k ρ => if k = true then .ok true ρ else nb ρ) :=
  PW.weak (pw_or ha hb) fun σ H Q ⟨B, G0, G, ρ, em, q⟩ => by
    dsimp only at q
    refine ⟨B, G0, G, ρ, em, ?_⟩
    cases h1 : na ρ with
    | no => rw [h1] at q; exact q.elim
    | ex x ρ' => rw [h1] at q; exact q
    | ok t ρ1 =>
      rw [h1] at q; simp only [R.bind_ok] at q
      intro H1 G1 l1 k1 em1
      cases t with
      | true => rw [if_pos rfl]; rw [if_pos rfl] at q; exact q H1 G1 l1 k1 em1
      | false => rw [if_neg Bool.false_ne_true]; rw [if_neg Bool.false_ne_true] at q; exact ⟨B, G0, G1, ρ1, em1, postT_le l1 k1 q⟩
theorem dt_not (ha : PT X a (TTt X.K CA W na)) : PT X (.UnaryOp .Not a pos) (TTt X.K CA W fun ρ => (na ρ).bind fun k ρ => .ok (!k) ρ) :=
  PT.weak (pt_not ha) fun σ H Q ⟨B, G0, G, ρ, em, q⟩ => by
    dsimp only at q
    refine ⟨B, G0, G, ρ, em, ?_⟩
    cases h1 : na ρ with
    | no => rw [h1] at q; exact q.elim
    | ex x ρ' => rw [h1] at q; exact q
    | ok t ρ1 =>
      rw [h1] at q; simp only [R.bind_ok] at q
      exact fun H1 G1 l1 k1 em1 => q H1 G1 l1 k1 em1
/-- one or the other -/
theorem de_ite {ma mb : Env → R Cell} (hc : PT X c (TTt X.K CA W nc)) (ha : PE X a (TC X.K CA W ma)) (hb : PE X b (TC X.K CA W mb)) : PE X (.IfExp c a b pos) (TC X.K CA W fun ρ => (nc ρ).bind fun k ρ => if k = true then ma ρ else mb ρ) :=
  PE.weak (pe_ifExp hc ha hb) fun σ H Q ⟨B, G0, G, ρ, em, q⟩ => by
    dsimp only at q
    refine ⟨B, G0, G, ρ, em, ?_⟩
    cases h1 : nc ρ with
    | no => rw [h1] at q; exact q.elim
    | ex x ρ' => rw [h1] at q; exact q
    | ok t ρ1 =>
      rw [h1] at q; simp only [R.bind_ok] at q
      intro H1 G1 l1 k1 em1
      cases t with
      | true => rw [if_pos rfl]; rw [if_pos rfl] at q; exact ⟨B, G0, G1, ρ1, em1, postV_le l1 k1 q⟩
      | false => rw [if_neg Bool.false_ne_true]; rw [if_neg Bool.false_ne_true] at q; exact ⟨B, G0, G1, ρ1, em1, postV_le l1 k1 q⟩
end
end DL

set_option maxHeartbeats 4000000
/-! DL6: arguments, displays, subscripts, slices, fields. -/
namespace DL
open PySem PySem.Spec PyProof.Rows L2

section
variable [Frame] {CA : Nat → Addr} {W : WX} {X : Cx} {a b c e : Expr} {es : List Expr} {ma mb mc : Env → R D} {pos p1 p2 p3 : Pos} {k : Nat}
theorem postA_le {Rl : Hp → Hp → List V → List D → Prop} {B G0 H G H1 G1 : Hp} {σ : L2.St} {Q : List V → Hp → Prop} {r : R (List D)} (l : Le H H1) (k : Le G G1) (p : PostA X.K CA W Rl B G0 H G σ Q r) : PostA X.K CA W Rl B G0 H1 G1 σ Q r := by
  cases r with
  | no => exact p
  | ex x ρ => exact fun H' G' cl dd lh lg => p H' G' cl dd (l.trans lh) (k.trans lg)
  | ok x ρ => exact fun vs H' G' lh lg => p vs H' G' (l.trans lh) (k.trans lg)
theorem da_nil : PA X [] (TAD X.K CA W fun ρ => .ok [] ρ) := PA.weak pa_nil fun σ H Q ⟨B, G0, G, ρ, em, q⟩ => q [] H G (Le.refl _) (Le.refl _) em .nil
theorem dp_nil : PA X [] (TAP X.K CA W fun ρ => .ok [] ρ) := PA.weak pa_nil fun σ H Q ⟨B, G0, G, ρ, em, q⟩ => q [] H G (Le.refl _) (Le.refl _) em .nil
theorem da_cons {m : Env → R D} {ms : Env → R (List D)} (he : PE X e (TD X.K CA W m)) (hr : PA X es (TAD X.K CA W ms)) (hs : starEach (e :: es) X.env = (false, eval e X.env) :: starEach es X.env) :
    PA X (e :: es) (TAD X.K CA W fun ρ => (m ρ).bind fun d ρ => (ms ρ).bind fun ds ρ => .ok (d :: ds) ρ) := PA.weak (pa_cons he hr hs) fun σ H Q ⟨B, G0, G, ρ, em, q⟩ => by
  dsimp only at q
  refine ⟨B, G0, G, ρ, em, ?_⟩
  cases h1 : m ρ with
  | no => rw [h1] at q; exact q.elim
  | ex x ρ' => rw [h1] at q; exact q
  | ok d ρ1 =>
    rw [h1] at q; simp only [R.bind_ok] at q
    intro v H1 G1 l1 k1 em1 r1
    refine ⟨B, G0, G1, ρ1, em1, ?_⟩
    cases h2 : ms ρ1 with
    | no => rw [h2] at q; exact q.elim
    | ex x ρ' => rw [h2] at q; exact fun H' G' cl dd lh lg => q H' G' cl dd (l1.trans lh) (k1.trans lg)
    | ok ds ρ2 =>
      rw [h2] at q; simp only [R.bind_ok] at q
      intro vs H2 G2 l2 k2 em2 r2
      exact q _ H2 G2 (l1.trans l2) (k1.trans k2) em2 (.cons (r1.le k2) r2)
theorem dp_cons {m : Env → R D} {ms : Env → R (List D)} (he : PE X e (TP X.K CA W m)) (hr : PA X es (TAP X.K CA W ms)) (hs : starEach (e :: es) X.env = (false, eval e X.env) :: starEach es X.env) :
    PA X (e :: es) (TAP X.K CA W fun ρ => (m ρ).bind fun d ρ => (ms ρ).bind fun ds ρ => .ok (d :: ds) ρ) := PA.weak (pa_cons he hr hs) fun σ H Q ⟨B, G0, G, ρ, em, q⟩ => by
  dsimp only at q
  refine ⟨B, G0, G, ρ, em, ?_⟩
  cases h1 : m ρ with
  | no => rw [h1] at q; exact q.elim
  | ex x ρ' => rw [h1] at q; exact q
  | ok d ρ1 =>
    rw [h1] at q; simp only [R.bind_ok] at q
    intro v H1 G1 l1 k1 em1 r1
    refine ⟨B, G0, G1, ρ1, em1, ?_⟩
    cases h2 : ms ρ1 with
    | no => rw [h2] at q; exact q.elim
    | ex x ρ' => rw [h2] at q; exact fun H' G' cl dd lh lg => q H' G' cl dd (l1.trans lh) (k1.trans lg)
    | ok ds ρ2 =>
      rw [h2] at q; simp only [R.bind_ok] at q
      intro vs H2 G2 l2 k2 em2 r2
      exact q _ H2 G2 (l1.trans l2) (k1.trans k2) em2 (.cons (r1.le l2 k2) r2)
theorem walk_rep {K : PySem.W.Frag} {d : D} {ds : List D} {v : V} {H G : Hp} (h : walkD d = some ds) (hs : ∀ x, d ≠ .str x) (r : PRep K CA H G v d) (l : Le G H) : ∃ a vs, v = .ref a ∧ (SqL K H a vs ∨ SqT K H a vs) ∧ Reps K CA G vs ds := by
  cases d with
  | lst xs => cases h; obtain ⟨a, vs, e, h1, h2⟩ := r.lst l; exact ⟨a, vs, e, .inl h1, h2⟩
  | tup xs => cases h; obtain ⟨a, vs, e, h1, h2⟩ := r.tup l; exact ⟨a, vs, e, .inr h1, h2⟩
  | str x => exact absurd rfl (hs x)
  | _ => cases h
theorem da_star {m : Env → R D} {ms : Env → R (List D)} (he : PE X e (TP X.K CA W m)) (hr : PA X es (TAD X.K CA W ms)) (hs : starEach (.Starred e p1 :: es) X.env = (true, eval e X.env) :: starEach es X.env) :
    PA X (.Starred e p1 :: es) (TAD X.K CA W fun ρ => (m ρ).bind fun x ρ => (R.lift (starD x) ρ).bind fun xs ρ => (ms ρ).bind fun ds ρ => .ok (xs ++ ds) ρ) := PA.weak (StX.pa_star he hr hs) fun σ H Q ⟨B, G0, G, ρ, em, q⟩ => by
  dsimp only at q
  refine ⟨B, G0, G, ρ, em, ?_⟩
  cases h1 : m ρ with
  | no => rw [h1] at q; exact q.elim
  | ex x ρ' => rw [h1] at q; exact q
  | ok d ρ1 =>
    rw [h1] at q; simp only [R.bind_ok] at q
    intro v H1 G1 l1 k1 em1 r1
    cases hw : starD d with
    | none => rw [hw] at q; exact q.elim
    | some xs =>
      rw [hw] at q; simp only [R.lift_some, R.bind_ok] at q
      obtain ⟨a, vs, ea, hsq, rs⟩ := walk_rep (ds := xs) (by cases d <;> first | exact hw | cases hw) (by intro x z; subst z; cases hw) r1 em1.gh
      refine ⟨a, vs, ea, hsq.symm, B, G0, G1, ρ1, em1, ?_⟩
      cases h2 : ms ρ1 with
      | no => rw [h2] at q; exact q.elim
      | ex x ρ' => rw [h2] at q; exact fun H' G' cl dd lh lg => q H' G' cl dd (l1.trans lh) (k1.trans lg)
      | ok ds ρ2 =>
        rw [h2] at q; simp only [R.bind_ok] at q
        intro vs H2 G2 l2 k2 em2 r2
        exact q _ H2 G2 (l1.trans l2) (k1.trans k2) em2 ((rs.le k2).append r2)
theorem de_tup {ms : Env → R (List D)} {n : Nat} (h : PA X es (TAD X.K CA W ms)) : PE X (.Tuple es n pos) (TC X.K CA W fun ρ => (ms ρ).bind fun ds ρ => if ds.length ≤ cap then .ok (.sh (.tup ds)) ρ else .no) :=
  PE.weak (pe_tup h) fun σ H Q ⟨B, G0, G, ρ, em, q⟩ => by
    dsimp only at q
    refine ⟨B, G0, G, ρ, em, ?_⟩
    cases h1 : ms ρ with
    | no => rw [h1] at q; exact q.elim
    | ex x ρ' => rw [h1] at q; exact q
    | ok ds ρ1 =>
      rw [h1] at q; simp only [R.bind_ok] at q
      intro vs H1 G1 l1 k1 em1 r1
      by_cases hl : ds.length ≤ cap
      · rw [if_pos hl] at q
        exact ⟨by rw [r1.length, ← cap_line]; exact hl, fun p hp => post_new (W := W) em1 (postV_le l1 k1 q) hp (.tup (SqT.of upd_same) (r1.le (Le.newH (em1.gh.noneL hp))))⟩
      · rw [if_neg hl] at q; exact q.elim
theorem de_lst {ms : Env → R (List D)} (h : PA X es (TAD X.K CA W ms)) : PE X (.List es pos) (TC X.K CA W fun ρ => (ms ρ).bind fun ds ρ => if ds.length ≤ cap then .ok (.ow (.lst ds)) ρ else .no) :=
  PE.weak (pe_lst h) fun σ H Q ⟨B, G0, G, ρ, em, q⟩ => by
    dsimp only at q
    refine ⟨B, G0, G, ρ, em, ?_⟩
    cases h1 : ms ρ with
    | no => rw [h1] at q; exact q.elim
    | ex x ρ' => rw [h1] at q; exact q
    | ok ds ρ1 =>
      rw [h1] at q; simp only [R.bind_ok] at q
      intro vs H1 G1 l1 k1 em1 r1
      by_cases hl : ds.length ≤ cap
      · rw [if_pos hl] at q
        exact ⟨by rw [r1.length, ← cap_line]; exact hl, fun p hp => post_ow (W := W) em1 (postV_le l1 k1 q) hp ⟨vs, upd_same, r1⟩⟩
      · rw [if_neg hl] at q; exact q.elim
/-! ### subscripts -/
theorem atI_rep {K : PySem.W.Frag} {G : Hp} {vs : List V} {ds : List D} {i : Int} {d : D} (r : Reps K CA G vs ds) (h : atI ds i = some d) : ∃ v, atI vs i = some v ∧ Rep K CA G v d := by
  unfold atI at h ⊢
  rw [r.length]
  cases hx : ixN ds.length i with
  | none => rw [hx] at h; cases h
  | some j =>
    rw [hx] at h
    exact r.get h
theorem sOk_sub {x : Str} {l : List Nat} (h : sOk x = true) (hs : ∀ c ∈ l, c ∈ x.cps.toList) (hl : l.length ≤ x.length) : sOk ⟨l.toArray⟩ = true := by
  obtain ⟨h1, h2⟩ := Bool.and_eq_true_iff.mp h
  refine Bool.and_eq_true_iff.mpr ⟨?_, decide_eq_true ?_⟩
  · show (l.toArray.all fun c => decide (c < 0x110000)) = true
    rw [List.all_toArray, List.all_eq_true]
    intro c hc
    have h3 : (x.cps.all fun c => decide (c < 0x110000)) = true := h1
    rw [← Array.all_toList, List.all_eq_true] at h3
    exact h3 c (hs c hc)
  · show l.toArray.size ≤ 1000000
    rw [List.size_toArray]
    exact Nat.le_trans hl (of_decide_eq_true h2)
theorem atI_mem {α : Type} {l : List α} {i : Int} {x : α} (h : atI l i = some x) : x ∈ l := by
  unfold atI at h
  cases hx : ixN l.length i with
  | none => rw [hx] at h; cases h
  | some j => rw [hx] at h; exact List.mem_of_getElem? h
theorem sOk_one {x : Str} {c : Nat} (h : sOk x = true) (hc : c ∈ x.cps.toList) : sOk ⟨#[c]⟩ = true := by
  refine sOk_sub (l := [c]) h (fun d hd => by cases List.mem_singleton.mp hd; exact hc) ?_
  show 1 ≤ x.cps.size
  rw [← Array.length_toList]
  exact List.length_pos_of_mem hc
theorem de_ix (hr : Room k X.A) (ha : PE X a (TP X.K CA W ma)) (hb : PE X b (TP X.K CA W mb)) (hs : PlainIx b) :
    PE X (.Subscript a b pos) (TC X.K CA W fun ρ => (ma ρ).bind fun x ρ => (mb ρ).bind fun y ρ => (R.lift (ixD x y) ρ).bind fun d ρ => .ok (.sh d) ρ) := by
  refine de_op (pe_ix (ix_seq.or (ix_dct (by have := hr.un; omega))) ha hb hs) fun x y ρ v u H G B G0 σ Q rx ry em p => ?_
  obtain ⟨d, hd, q⟩ := post_lift p
  clear p
  cases x with
  | lst xs => cases y with
    | int i =>
      obtain ⟨l, vs, rfl, h1, r1⟩ := rx.lst em.gh
      obtain ⟨z, h2, r2⟩ := atI_rep r1 hd
      exact .inl (.inl ⟨l, vs, i, z, rfl, ry.int, h1, h2, post_sh em q r2⟩)
    | _ => cases hd
  | tup xs => cases y with
    | int i =>
      obtain ⟨l, vs, rfl, h1, r1⟩ := rx.tup em.gh
      obtain ⟨z, h2, r2⟩ := atI_rep r1 hd
      exact .inl (.inr (.inl ⟨l, vs, i, z, rfl, ry.int, h1, h2, post_sh em q r2⟩))
    | _ => cases hd
  | str x => cases y with
    | int i =>
      obtain ⟨e1, s1⟩ := rx.str
      have hd' : (atI x.cps.toList i).map (fun c => D.str ⟨#[c]⟩) = some d := hd
      cases hc : atI x.cps.toList i with
      | none => rw [hc] at hd'; cases hd'
      | some c =>
        rw [hc] at hd'; cases hd'
        exact .inl (.inr (.inr ⟨x, i, c, e1, ry.int, sOk_line s1, hc, post_sh em q (.str (sOk_one s1 (atI_mem hc)))⟩))
    | _ => cases hd
  | dct kvs =>
    have hd' : (keyD y).bind (fun k => lookK k kvs) = some d := by cases y <;> exact hd
    cases hk : keyD y with
    | none => rw [hk] at hd'; cases hd'
    | some k' =>
      rw [hk] at hd'
      have ev := keyD_rep ry hk
      subst ev
      obtain ⟨l, vs, rfl, h1, r1⟩ := rx.dct em.gh
      rcases repK_look (k := k') r1 with ⟨h2, h3⟩ | ⟨z, d', h2, h3, r2⟩
      · have h4 : lookK k' kvs = some d := hd'
        rw [h3] at h4; cases h4
      · have h4 : lookK k' kvs = some d := hd'
        rw [h3] at h4; cases h4
        exact .inr ⟨l, z, rfl, by rw [← h2]; exact DGet.k h1, post_sh em q r2⟩
  | _ => cases y <;> cases hd
/-! ### slices -/
theorem do_none : PO X none tNoPart := po_none
/-- a slice's bound -/
def TOo (K : PySem.W.Frag) (CA : Nat → Addr) (W : WX) (m : Env → R (Option Int)) : TO := fun σ H Q => ∃ B G0 G ρ, Em K CA B G0 H G σ ρ ∧ match m ρ with
  | .ok i ρ => ∀ H' G', Le H H' → Le G G' → Em K CA B G0 H' G' σ ρ → Q i H'
  | .ex x ρ => ∀ H' G' cl dd, Le H H' → Le G G' → Em K CA B G0 H' G' σ ρ → XR K CA G' cl dd x → W cl dd σ H'
  | .no => False
theorem PO.weak {e : Option Expr} {t t' : TO} (h : PO X e t) (w : ∀ σ H Q, t' σ H Q → t σ H Q) : PO X e t' := ⟨fun pins s σ H Q I q => h.run pins s σ H Q I (w σ H Q q)⟩
theorem dO_none : PO X none (TOo X.K CA W fun ρ => .ok none ρ) := PO.weak po_none fun σ H Q ⟨B, G0, G, ρ, em, q⟩ => q H G (Le.refl _) (Le.refl _) em
theorem dO_some {m : Env → R D} (h : PE X e (TP X.K CA W m)) : PO X (some e) (TOo X.K CA W fun ρ => (m ρ).bind fun x ρ => (R.lift (intO x) ρ).bind fun i ρ => .ok (some i) ρ) := PO.weak (po_some h) fun σ H Q ⟨B, G0, G, ρ, em, q⟩ => by
  dsimp only at q
  refine ⟨B, G0, G, ρ, em, ?_⟩
  cases h1 : m ρ with
  | no => rw [h1] at q; exact q.elim
  | ex x ρ' => rw [h1] at q; exact q
  | ok d ρ1 =>
    rw [h1] at q; simp only [R.bind_ok] at q
    intro v H1 G1 l1 k1 em1 r1
    cases d with
    | int i => exact ⟨i, r1.int, q H1 G1 l1 k1 em1⟩
    | _ => exact q.elim
theorem cutL_eq (xs : List V) (l h : Option Int) : cutL xs l h = cutV xs l h := rfl
theorem Reps.cut {K : PySem.W.Frag} {G : Hp} {vs : List V} {ds : List D} (r : Reps K CA G vs ds) (l h : Option Int) : Reps K CA G (cutV vs l h) (cutL ds l h) := by
  unfold cutV cutL
  rw [r.length]
  exact (r.drop _).take _
theorem cut_mem {α : Type} {xs : List α} {l h : Option Int} {x : α} (hx : x ∈ cutL xs l h) : x ∈ xs := List.mem_of_mem_drop (List.mem_of_mem_take hx)
theorem cut_length {α : Type} (xs : List α) (l h : Option Int) : (cutL xs l h).length ≤ xs.length := by
  unfold cutL
  rw [List.length_take, List.length_drop]
  omega
def rSlAll (K : PySem.W.Frag) : V → Option Int → Option Int → Hp → VK → Prop := fun x lo hi H Q => rSlL K x lo hi H Q ∨ rSlA K x lo hi H Q ∨ rSlS x lo hi H Q
theorem sl_all : SlR X (rSlAll X.K) := sl_list.or (sl_tupA.or sl_str)
theorem de_sl {lo hi : Option Expr} {ml mh : Env → R (Option Int)} (ha : PE X a (TP X.K CA W ma)) (hl : PO X lo (TOo X.K CA W ml)) (hh : PO X hi (TOo X.K CA W mh)) :
    PE X (.Subscript a (.Slice lo hi none p2) pos) (TC X.K CA W fun ρ => (ma ρ).bind fun x ρ => (ml ρ).bind fun l ρ => (mh ρ).bind fun h ρ => R.lift (slD x l h) ρ) :=
  PE.weak (pe_slice sl_all ha hl hh) fun σ H Q ⟨B, G0, G, ρ, em, q⟩ => by
    dsimp only at q
    refine ⟨B, G0, G, ρ, em, ?_⟩
    cases h1 : ma ρ with
    | no => rw [h1] at q; exact q.elim
    | ex x ρ' => rw [h1] at q; exact q
    | ok d ρ1 =>
      rw [h1] at q; simp only [R.bind_ok] at q
      intro v H1 G1 l1 k1 em1 r1
      refine ⟨B, G0, G1, ρ1, em1, ?_⟩
      cases h2 : ml ρ1 with
      | no => rw [h2] at q; exact q.elim
      | ex x ρ' => rw [h2] at q; exact fun H' G' cl dd lh lg => q H' G' cl dd (l1.trans lh) (k1.trans lg)
      | ok l ρ2 =>
        rw [h2] at q; simp only [R.bind_ok] at q
        intro H2 G2 l2 k2 em2
        refine ⟨B, G0, G2, ρ2, em2, ?_⟩
        cases h3 : mh ρ2 with
        | no => rw [h3] at q; exact q.elim
        | ex x ρ' => rw [h3] at q; exact fun H' G' cl dd lh lg => q H' G' cl dd ((l1.trans l2).trans lh) ((k1.trans k2).trans lg)
        | ok h ρ3 =>
          rw [h3] at q; simp only [R.bind_ok] at q
          intro H3 G3 l3 k3 em3
          have r3 := r1.le (l2.trans l3) (k2.trans k3)
          have q3 := postV_le (X := X) ((l1.trans l2).trans l3) ((k1.trans k2).trans k3) q
          cases d with
          | lst xs =>
            obtain ⟨p, vs, rfl, h4, r4⟩ := r3.lst em3.gh
            exact .inl ⟨p, vs, rfl, h4, fun z hz => post_ow em3 q3 hz ⟨_, upd_same, r4.cut l h⟩⟩
          | tup xs =>
            obtain ⟨p, vs, rfl, h4, r4⟩ := r3.tup em3.gh
            refine .inr (.inl ⟨p, vs, rfl, h4, fun hw => ?_, fun hw z hz => post_new em3 q3 hz (.tup (SqT.of upd_same) ((r4.cut l h).le (Le.newH (em3.gh.noneL hz))))⟩)
            have e : cutL xs l h = xs := by
              unfold cutL
              rw [← r4.length, hw.1, hw.2, List.drop_zero, Nat.sub_zero]
              exact List.take_of_length_le (by rw [r4.length]; exact Nat.le_refl _)
            have q4 : PostV X.K CA W (rlC X.K CA) B G0 H3 G3 σ Q (R.ok (.sh (.tup (cutL xs l h))) ρ3) := q3
            rw [e] at q4
            rcases r3 with r3 | ⟨_, _, r3⟩
            · exact post_sh em3 q4 r3
            · exact r3.elim
          | str x =>
            obtain ⟨e1, s1⟩ := r3.str
            refine .inr (.inr ⟨x, e1, sOk_line s1, ?_⟩)
            have hx : cutS x l h = ⟨(cutL x.cps.toList l h).toArray⟩ := by
              unfold cutS cutL
              rw [Array.length_toList] <;> rfl
            rw [hx]
            exact post_sh em3 q3 (.str (sOk_sub s1 (fun c hc => cut_mem hc) (by
              have z := cut_length x.cps.toList l h
              rw [Array.length_toList] at z
              exact z)))
          | _ => exact q3.elim
theorem de_rv {n : Nat} (ha : PE X a (TP X.K CA W ma)) : PE X (.Subscript a (.Slice none none (some (.UnaryOp .USub (.Constant (.int 1) n p1) p2)) p3) pos) (TC X.K CA W fun ρ => (ma ρ).bind fun x ρ => match x with
    | .lst xs => .ok (.ow (.lst xs.reverse)) ρ
    | _ => .no) :=
  de_un (op := fun x H Q => ∃ a xs, x = .ref a ∧ SqL X.K H a xs ∧ ∀ p, H p = none → Q (.ref p) (upd H p (.lst xs.reverse))) (pe_revL ha) fun x ρ v H G B G0 σ Q r em p => by
    cases x with
    | lst xs =>
      obtain ⟨l, vs, rfl, h1, r1⟩ := r.lst em.gh
      exact ⟨l, vs, rfl, h1, fun z hz => post_ow em p hz ⟨_, upd_same, r1.reverse⟩⟩
    | _ => exact p.elim
/-! ### fields -/
theorem de_fld {f : Str} {n : Nat} (hc : ∀ c, c < n → Cls X.K (CA c)) (hn : ∀ c, c < n → NoAttr X.K (CA c) f) (ha : PE X a (TP X.K CA W ma)) (hb : attributeBase a f X.env (eval a X.env) = eval a X.env) :
    PE X (.Attribute a f pos) (TC X.K CA W fun ρ => (ma ρ).bind fun x ρ => match x with
    | .ins c fs => if c < n then (R.lift (fs.lookup f) ρ).bind fun d ρ => .ok (.sh d) ρ else .no
    | _ => .no) :=
  de_un (op := fun x H Q => ∃ a C dx fs v, x = .ref a ∧ H a = some (.ins C dx fs) ∧ Cls X.K C ∧ NoAttr X.K C f ∧ fs.lookup f = some v ∧ Q v H) (pe_fld ha hb) fun x ρ v H G B G0 σ Q r em p => by
    cases x with
    | ins c fs =>
      by_cases hlt : c < n
      · simp only [if_pos hlt] at p
        obtain ⟨d, hd, q⟩ := post_lift p
        obtain ⟨l, dx, vs, rfl, h1, r1⟩ := r.ins em.gh
        obtain ⟨z, h2, r2⟩ := r1.lookup hd
        exact ⟨l, CA c, dx, vs, z, rfl, h1, hc c hlt, hn c hlt, h2, post_sh em q r2⟩
      · simp only [if_neg hlt] at p; exact p.elim
    | _ => exact p.elim
end
end DL

set_option maxHeartbeats 4000000
/-! DLv: defs that may lean on what the stack of guards is (b: they do). -/
namespace DL
open PySem PySem.Spec PyProof.Rows L2
/-- no guard stands on the stack, where that is asked -/
def Gok (b : Bool) (A : Around) : Prop := b = true → A.guards = some []
def RmG (b : Bool) (k : Nat) (A : Around) : Prop := Room k A ∧ Gok b A
theorem RmG.mono {b : Bool} {j k : Nat} {A : Around} (h : RmG b k A) (l : j ≤ k) : RmG b j A := ⟨h.1.mono l, h.2⟩
theorem guards_make {A : Around} {C : Addr} {us : List Value} {kw : List (Str × Value)} : (A.under (.builtin "type.__call__" ⟨.ref C :: us, kw⟩)).guards = A.guards := by
  cases hg : A.guards with
  | none => simp [Around.under, Code.guards, Code.isGuard, guardIds, pushGuards, hg]
  | some g => simp [Around.under, Code.guards, Code.isGuard, guardIds, pushGuards, hg]
theorem RmG.make {b : Bool} {k : Nat} {A : Around} (h : RmG b (k + 1) A) (C : Addr) (us : List Value) (kw : List (Str × Value)) : RmG b k (A.under (.builtin "type.__call__" ⟨.ref C :: us, kw⟩)) := ⟨h.1.make C us kw, fun z => guards_make.trans (h.2 z)⟩
/-- what a def promises, where it may ask of the guards -/
structure FnG (b : Bool) (P : Program) (w : World) (K : PySem.W.Frag) (mg : Str → Option Value) (base : Heap) (CX : CXT) (k : Nat) (f : Addr) (fd : FuncData) (ps : List Str) (sp : Sp) : Prop where
  len : ∀ vs H Q E, sp vs H Q E → vs.length = ps.length
  run : ∀ (A : Around) (out : List PySem.Env) (s : Shared) (H : Hp) (args : Args) (us : List Value) (vs : List V) (Q : VK) (E : XK), RmG b k A → Env0 P w K mg base A out s H → BindsTo s fd args (ps.zip us) → Vals vs us → sp vs H Q E →
    codeAny (model P w) A (.call (.ref f) args) (CR CX out P w H s Q E) s
section
variable {b : Bool} {P : Program} {w : World} {K : PySem.W.Frag} {mg : Str → Option Value} {base : Heap} {CX : CXT} {j k : Nat} {f : Addr} {fd : FuncData} {ps : List Str} {sp : Sp}
theorem FnG.mono (F : FnG b P w K mg base CX j f fd ps sp) (l : j ≤ k) : FnG b P w K mg base CX k f fd ps sp := ⟨F.len, fun A out s H args us vs Q E r => F.run A out s H args us vs Q E (r.mono l)⟩
theorem FnG.toOk (F : FnG false P w K mg base CX k f fd ps sp) : FnOk P w K mg base CX k f fd ps sp := ⟨F.len, fun A out s H args us vs Q E r => F.run A out s H args us vs Q E ⟨r, fun z => by cases z⟩⟩
theorem FnG.ofOk (F : FnOk P w K mg base CX k f fd ps sp) : FnG b P w K mg base CX k f fd ps sp := ⟨F.len, fun A out s H args us vs Q E r => F.run A out s H args us vs Q E r.1⟩
/-- a def of the text, by its body -/
theorem FnG.body {x qual : Str} {params : Arguments} {body : List Stmt} {scope : Scope} {dvs : List V} {kws : List (Str × V)} {N : List Str} (F : FunD K x qual params body scope dvs kws f fd) (S : FnScope N ps scope) (len : ∀ vs H Q E, sp vs H Q E → vs.length = ps.length)
    (hb : ∀ (cd : Value) (A : Around) (out : List PySem.Env) (s : Shared) (H : Hp) (vs : List V) (Q : VK) (E : XK), RmG b k (A.deeper (envOfC qual scope s.heap.objs.size f cd)) → sp vs H Q E →
      ∃ t, PSs (cxOf CX P w K mg base N qual scope f cd A out s H E) body t ∧ t { nx := fun _ H' => Q .non H', rt := Q } (L2.start N vs) H) : FnG b P w K mg base CX (k + 1) f fd ps sp := by
  obtain ⟨o1, o2, dV, kV, doc, pm, an, cd, ct, sl, rfl, atK, hcd, _, _⟩ := F.ex
  constructor
  · exact len
  intro A out s H args us vs Q E hr e0 bnd rel hsp
  have inK : K.In s.heap := e0.mod.kin.keeps (fun q o z => (e0.bs q o z).1)
  have noLim : s.heap.NoLimit := e0.mod.nolimit.keeps (fun q o z => (e0.bs q o z).1)
  have kinds : ∀ q ∈ ps.zip us, scope.names.lookup q.1 = some .local ∨ (scope.names.lookup q.1 = some .cell ∧ ((cellsFrom (s.heap.objs.size + 1) scope.names []).lookup q.1).isSome = true) := by
    rintro ⟨n, v⟩ hq
    cases S.par n (List.of_mem_zip hq).1 with
    | inl z => exact Or.inl z
    | inr z => exact Or.inr ⟨z, PySem.W.cellsFrom_some scope.names _ [] (Or.inl z)⟩
  apply codeAny_call_function hr.1.depth (inK f _ atK) rfl S.co S.gen rfl (PySem.W.codeRec_of inK hcd)
  apply bnd
  apply wpAny_newFunctionEnv_cells S.kind kinds
  intro env he s1 x
  subst he
  constructor
  · exact noLim.keeps x.toInCall.keep
  apply codeAny_func
  obtain ⟨t, ht, q0⟩ := hb cd A out s H vs Q E ⟨hr.1.deeper _, fun z => hr.2 z⟩ hsp
  have I0 : Inv (cxOf CX P w K mg base N qual scope f cd A out s H E) [] (L2.start N vs) H s1 := inv_start S hr.1.hd e0 (len _ _ _ _ hsp) rel x
  have done : ∀ {σ' : L2.St} {H' : Hp} {v : V} {u : Value} {s' : Shared}, Inv (cxOf CX P w K mg base N qual scope f cd A out s H E) [] σ' H' s' → RelV v u → Q v H' → CE out P w H s Q u s' := by
    intro σ' H' v u s' J rv q
    exact ⟨v, H', J.os, J.bare, J.base, J.hok, rv, q⟩
  refine wpAny_mono (ht.run [] s1 (L2.start N vs) H _ I0 q0) ?_ (fun _ _ z => z)
  intro fl s' z
  match fl, z with
  | .ret u, ⟨v, σ', H', J, rv, q⟩ => exact done J rv q
  | .next, ⟨σ', H', J, q⟩ => exact done (v := V.non) (u := Value.none) J rfl q
  | .brk, ⟨_, _, _, q⟩ => exact q.elim
  | .cont, ⟨_, _, _, q⟩ => exact q.elim
end
end DL

set_option maxHeartbeats 4000000
/-! DL7: calls of the program's own defs. -/
namespace DL
open PySem PySem.Spec PyProof.Rows L2

/-- what a def promises: what its meaning says -/
def spD (K : PySem.W.Frag) (CA : Nat → Addr) (n : Nat) (g : List D → FR) : Sp := fun vs H Q E => vs.length = n ∧ ∃ G ds, Le G H ∧ Reps K CA G vs ds ∧ match g ds with
  | .ok c => ∀ v H' G', Le H H' → Le G G' → Le G' H' → (∀ a o, H a = some o → G' a = G a) → CRep K CA H G' H' v c → Q v H'
  | .ex x => ∀ H' G' cl dd, Le H H' → Le G G' → Le G' H' → (∀ a o, H a = some o → G' a = G a) → XR K CA G' cl dd x → E cl dd H'
  | .no => False
/-- what an __init__ promises -/
def spI (K : PySem.W.Frag) (CA : Nat → Addr) (c n : Nat) (g : List D → FR) : Sp := fun vs H Q E => vs.length = n ∧ ∃ x dx H1 ws G ds, vs = .ref x :: ws ∧ H = upd (upd H1 dx (.own x)) x (.ins (CA c) dx []) ∧ H1 x = none ∧ H1 dx = none ∧ dx ≠ x ∧ Le G H1 ∧ Reps K CA G ws ds ∧ match g ds with
  | .ok cl => ∀ H' G', Le H1 H' → Le G G' → Le G' H' → (∀ a o, H1 a = some o → G' a = G a) → CRep K CA H1 G' H' (.ref x) cl → Q .non H'
  | .ex e => ∀ H' G' cl dd, Le H1 H' → Le G G' → Le G' H' → (∀ a o, H1 a = some o → G' a = G a) → XR K CA G' cl dd e → E cl dd H'
  | .no => False

section
variable [Frame] {rp : Bool} {K : PySem.W.Frag} {CA : Nat → Addr} {W : WX} {X : Cx} {a b c e o : Expr} {es : List Expr} {ma mb mc : Env → R D} {pos p p1 p2 p3 apos : Pos} {k : Nat} {f : Addr} {fd : FuncData} {ps : List Str} {g : List D → FR} {x m : Str} {B G0 G H G' H' : Hp} {σ : L2.St} {ρ : Env} {Q : VK}
theorem Em.after (e : Em K CA B G0 H G σ ρ) (lh : Le H H') (lg : Le G G') (lk : Le G' H') (st : ∀ a o, H a = some o → G' a = G a) : Em K CA B G0 H' G' σ ρ :=
  e.tr lk (e.bh.trans lh) (e.g0.trans lg) (fun a o h => (st a o (e.bh a o h)).trans (e.gb a o h)) lg fun i c v p _ _ _ hb hg ⟨o, ho⟩ => ⟨hb, (st p o ho).trans hg, (lh _ _ ho).trans ho.symm⟩
/-- a callee's value is the caller's -/
theorem Em.got (e : Em K CA B G0 H G σ ρ) (lh : Le H H') {v : V} {c : Cell} (h : CRep K CA H G' H' v c) : CAt K CA B G' H' σ ρ v c := by
  refine ⟨h.to (Le.refl _) fun p f => ?_, fun p f => ?_⟩
  · obtain ⟨h1, h2, _⟩ := h.foot f
    exact ⟨e.bh.noneL h1, h2, rfl⟩
  · obtain ⟨h1, h2, _⟩ := h.foot f
    exact e.fle lh (free_new e h1)
theorem spD_of {vs : List V} {ds : List D} {n : Nat} (em : Em K CA B G0 H G σ ρ) (r : Reps K CA G vs ds) (hn : ds.length = n) (p : PostV K CA W (rlC K CA) B G0 H G σ Q ((g ds).r ρ)) : spD K CA n g vs H Q (WE W σ) := by
  refine ⟨r.length.trans hn, G, ds, em.gh, r, ?_⟩
  cases hg : g ds with
  | ok c => rw [hg] at p; exact fun v H' G' lh lg lk st h => p v H' G' lh lg (em.after lh lg lk st) (em.got lh h)
  | ex x => rw [hg] at p; exact fun H' G' cl dd lh lg lk st h => p H' G' cl dd lh lg (em.after lh lg lk st) h
  | no => rw [hg] at p; exact p.elim
theorem spI_of {ci : Nat} {vs : List V} {ds : List D} {x dx : Addr} {n : Nat} (em : Em K CA B G0 H G σ ρ) (r : Reps K CA G vs ds) (hn : ds.length + 1 = n) (hx : H x = none) (hdx : H dx = none) (hne : dx ≠ x) (hgo : ∀ d c, g d = .ok c → ∃ fs, c = .ow (.ins ci fs)) (p : PostV K CA W (rlC K CA) B G0 H G σ Q ((g ds).r ρ)) :
    spI K CA ci n g (.ref x :: vs) (upd (upd H dx (.own x)) x (.ins (CA ci) dx [])) (fun v H2 => v = .non ∧ Q (.ref x) H2) (WE W σ) := by
  refine ⟨by show vs.length + 1 = n; rw [r.length]; exact hn, x, dx, H, vs, G, ds, rfl, rfl, hx, hdx, hne, em.gh, r, ?_⟩
  cases hg : g ds with
  | ok c => rw [hg] at p; exact fun H' G' lh lg lk st h => ⟨rfl, p _ H' G' lh lg (em.after lh lg lk st) (em.got lh h)⟩
  | ex x => rw [hg] at p; exact fun H' G' cl dd lh lg lk st h => p H' G' cl dd lh lg (em.after lh lg lk st) h
  | no => rw [hg] at p; exact p.elim
variable {n : Nat} {sp : Sp}
/-- a def is called -/
theorem run_at {pins : List (Addr × Obj)} {H : Hp} {s : Shared} {us us' : List Value} {kw : List (Str × Value)} {vs : List V} (F : FnG rp X.prog X.w X.K X.mg X.base (L2.CX X.prog X.w) k f fd ps sp) (hr : RmG rp k X.A) (tk : Takes X W)
    (I : Inv X pins σ H s) (b : BindsTo s fd ⟨us', kw⟩ (ps.zip us)) (r : Vals vs us) (h : sp vs H Q (WE W σ)) : wpAny (model X.prog X.w) X.A (call (.ref f) us' kw) (EP X pins σ Q) X.xe s := by
  refine wpAny_call (codeAny_mono (F.run X.A X.stack s H ⟨us', kw⟩ us vs Q (WE W σ) hr I.env0 b r h) fun r s' hq => ?_)
  cases r with
  | error e => exact passAt tk σ pins H s e s' I hq
  | ok fl =>
    cases fl with
    | ret u => exact I.after hq
    | next => exact False.elim hq
    | brk => exact False.elim hq
    | cont => exact False.elim hq
theorem make_at {pins : List (Addr × Obj)} {H : Hp} {s : Shared} {us us' : List Value} {kw : List (Str × Value)} {vs : List V} {C : Addr} (M : Mk X.K C f) (F : FnG rp X.prog X.w X.K X.mg X.base (L2.CX X.prog X.w) k f fd ps sp) (hr : RmG rp (k + 1) X.A) (tk : Takes X W)
    (I : Inv X pins σ H s) (b : ∀ (s : Shared) (x : Value), X.K.In s.heap → BindsTo s fd ⟨x :: us', kw⟩ (ps.zip (x :: us))) (r : Vals vs us)
    (h : ∀ x dx, H x = none → H dx = none → dx ≠ x → sp (.ref x :: vs) (upd (upd H dx (.own x)) x (.ins C dx [])) (fun v H2 => v = .non ∧ Q (.ref x) H2) (WE W σ)) : wpAny (model X.prog X.w) X.A (call (.ref C) us' kw) (EP X pins σ Q) X.xe s := by
  have hq := h (s.heap.objs.size + 1) s.heap.objs.size (I.hok.fresh (Nat.le_succ _)) (I.hok.fresh (Nat.le_refl _)) (Nat.ne_of_lt (Nat.lt_succ_self _))
  have I2 := Inv.made (C := C) I
  have r2 : Vals (V.ref (s.heap.objs.size + 1) :: vs) (Value.ref (s.heap.objs.size + 1) :: us) := .cons rfl r
  refine wpAny_call (make_map (f := f) I.kIn M.makes M.init (beq_iff_eq.mp M.fn) (codeAny_mono (F.run _ X.stack _ _ ⟨Value.ref (s.heap.objs.size + 1) :: us', kw⟩ (Value.ref (s.heap.objs.size + 1) :: us) _ _ (WE W σ) (hr.make C us' kw)
    (I2.env0.make C us' kw) (b _ (Value.ref (s.heap.objs.size + 1)) I2.kIn) r2 hq) fun r s' hq' => ?_))
  cases r with
  | error e => exact passAt tk σ pins _ _ e s' I2 hq'
  | ok fl =>
    cases fl with
    | ret u =>
      obtain ⟨v, H', I3, rv, ev, q3⟩ := I2.after hq'
      subst ev
      exact ⟨rv, ⟨V.ref (s.heap.objs.size + 1), H', I3, rfl, q3⟩⟩
    | next => exact False.elim hq'
    | brk => exact False.elim hq'
    | cont => exact False.elim hq'
/-! ### positional arguments -/
theorem de_call {ms : Env → R (List D)} (F : FnG rp X.prog X.w X.K X.mg X.base (L2.CX X.prog X.w) k f fd ps (spD X.K CA ps.length g)) (hr : RmG rp k X.A) (tk : Takes X W) (hg : Gl X x) (hm : X.mg x = some (.ref f)) (hk : PySem.W.keepIn X.K (.ref f) = true) (hb : Binds X.K fd ps [])
    (hgn : ∀ ds, g ds ≠ .no → ds.length = ps.length) (ha : PA X (e :: es) (TAD X.K CA W ms)) (hdb : (x == ("__debug__" : Str)) = false) (he : starEach (e :: es) X.env = (false, eval e X.env) :: starEach es X.env) (hpl : (backTo pos (starEach es X.env)).any (·.1) = false) :
    PE X (.Call (.Name x p) (e :: es) [] pos) (TC X.K CA W fun ρ => (ms ρ).bind fun ds ρ => (g ds).r ρ) := by
  refine ⟨fun pins s σ H Q I h => ?_⟩
  refine wpAny_Call_Name_kw (ld_glob I hg hm ?_ hdb)
  obtain ⟨B, G0, G, ρ, em, q⟩ := h
  refine PySem.W.callWith_K (h₀ := X.base) I.ok.mod.kin hk (thn (ha.run pos pins s σ H (fun vs H1 => spD X.K CA ps.length g vs H1 Q (WE W σ)) I ⟨B, G0, G, ρ, em, ?_⟩) fun us s1 ⟨vs, H1, I1, r, q⟩ => ⟨I1.kIn, ?_⟩) he hpl
  · dsimp only at q
    cases h1 : ms ρ with
    | no => rw [h1] at q; exact q.elim
    | ex x ρ' => rw [h1] at q; exact q
    | ok ds ρ1 =>
      rw [h1] at q; simp only [R.bind_ok] at q
      refine fun vs H1 G1 l1 k1 em1 r1 => spD_of em1 r1 (hgn ds fun z => ?_) (postV_le l1 k1 q)
      rw [z] at q; exact q.elim
  · have hl : us.length = ps.length := by rw [← r.length]; exact q.1
    have b := hb s1 us I1.kIn (by rw [List.append_nil]; exact hl)
    rw [List.append_nil] at b
    exact run_at F hr tk I1 b r q
theorem de_make {ms : Env → R (List D)} {ci : Nat} (M : Mk X.K (CA ci) f) (F : FnG rp X.prog X.w X.K X.mg X.base (L2.CX X.prog X.w) k f fd ps (spI X.K CA ci ps.length g)) (hr : RmG rp (k + 1) X.A) (tk : Takes X W) (hg : Gl X x) (hm : X.mg x = some (.ref (CA ci))) (hb : Binds X.K fd ps [])
    (hgn : ∀ ds, g ds ≠ .no → ds.length + 1 = ps.length) (hgo : ∀ d c, g d = .ok c → ∃ fs, c = .ow (.ins ci fs)) (ha : PA X (e :: es) (TAD X.K CA W ms)) (hdb : (x == ("__debug__" : Str)) = false) (he : starEach (e :: es) X.env = (false, eval e X.env) :: starEach es X.env) (hpl : (backTo pos (starEach es X.env)).any (·.1) = false) :
    PE X (.Call (.Name x p) (e :: es) [] pos) (TC X.K CA W fun ρ => (ms ρ).bind fun ds ρ => (g ds).r ρ) := by
  refine ⟨fun pins s σ H Q I h => ?_⟩
  refine wpAny_Call_Name_kw (ld_glob I hg hm ?_ hdb)
  obtain ⟨B, G0, G, ρ, em, q⟩ := h
  refine PySem.W.callWith_K (h₀ := X.base) I.ok.mod.kin M.kp (thn (ha.run pos pins s σ H (fun vs H1 => vs.length + 1 = ps.length ∧ ∀ x dx, H1 x = none → H1 dx = none → dx ≠ x → spI X.K CA ci ps.length g (.ref x :: vs) (upd (upd H1 dx (.own x)) x (.ins (CA ci) dx [])) (fun v H2 => v = .non ∧ Q (.ref x) H2) (WE W σ)) I ⟨B, G0, G, ρ, em, ?_⟩) fun us s1 ⟨vs, H1, I1, r, ql, q⟩ => ⟨I1.kIn, ?_⟩) he hpl
  · dsimp only at q
    cases h1 : ms ρ with
    | no => rw [h1] at q; exact q.elim
    | ex x ρ' => rw [h1] at q; exact q
    | ok ds ρ1 =>
      rw [h1] at q; simp only [R.bind_ok] at q
      intro vs H1 G1 l1 k1 em1 r1
      have hn : ds.length + 1 = ps.length := hgn ds fun z => by rw [z] at q; exact q.elim
      exact ⟨by rw [r1.length]; exact hn, fun x dx h2 h3 h4 => spI_of em1 r1 hn h2 h3 h4 hgo (postV_le l1 k1 q)⟩
  · refine make_at M F hr tk I1 (fun s x hs => ?_) r q
    have b := hb s (x :: us) hs (by rw [List.append_nil]; show us.length + 1 = _; rw [← r.length]; exact ql)
    rw [List.append_nil] at b
    exact b
theorem de_meth {mo : Env → R D} {ms : Env → R (List D)} {ci : Nat} {pl : Sem Bool} (cl : Cls X.K (CA ci)) (hm : Meth X.K (CA ci) m f) (F : FnG rp X.prog X.w X.K X.mg X.base (L2.CX X.prog X.w) k f fd ps (spD X.K CA ps.length g)) (hr : RmG rp k X.A) (tk : Takes X W) (hb : Binds X.K fd ps [])
    (hgn : ∀ ds, g ds ≠ .no → ds.length = ps.length) (ho : PE X o (TD X.K CA W mo)) (ha : PA X (e :: es) (TAD X.K CA W ms)) (hst : starEach (e :: es) X.env = (false, eval e X.env) :: starEach es X.env) (hpl : (backTo pos (starEach es X.env)).any (·.1) = false)
    (ht : eval (.Call (.Attribute o m apos) (e :: es) [] pos) X.env = (do
      let ov ← eval o X.env
      standAt apos.atName
      let (f, first) ← holding [ov] (getMethod ov m pl)
      callWith pos f first (backTo pos (starEach (e :: es) X.env)) (backToKw pos (keywordEach [] X.env)))) :
    PE X (.Call (.Attribute o m apos) (e :: es) [] pos) (TC X.K CA W fun ρ => (mo ρ).bind fun x ρ => match x with
      | .ins c' fs => if c' = ci ∧ fs.lookup m = none then (ms ρ).bind fun ds ρ => (g (.ins c' fs :: ds)).r ρ else .no
      | _ => .no) := by
  refine ⟨fun pins s σ H Q I h => ?_⟩
  obtain ⟨B, G0, G, ρ, em, q⟩ := h
  refine PySem.W.methodCall_KW (pl := pl) (thn (ho.run pins s σ H (fun v H1 => ∃ a dx vs fs G1 ρ1, v = .ref a ∧ H1 a = some (.ins (CA ci) dx vs) ∧ vs.lookup m = none ∧ Em X.K CA B G0 H1 G1 σ ρ1 ∧ Rep X.K CA G1 (.ref a) (.ins ci fs) ∧ PostV X.K CA W (rlC X.K CA) B G0 H1 G1 σ Q ((ms ρ1).bind fun ds ρ => (g (.ins ci fs :: ds)).r ρ)) I ⟨B, G0, G, ρ, em, ?_⟩)
    fun u s1 ⟨x, H1, I1, rx, a, dx, vs, fs, G1, ρ1, ex, ea, l, em1, r1, q⟩ => ?_) ht
  · dsimp only at q
    cases h1 : mo ρ with
    | no => rw [h1] at q; exact q.elim
    | ex x ρ' => rw [h1] at q; exact q
    | ok d ρ1 =>
      rw [h1] at q; simp only [R.bind_ok] at q
      intro v H1 G1 l1 k1 em1 r1
      cases d with
      | ins c' fs =>
        by_cases hc : c' = ci ∧ fs.lookup m = none
        · simp only [if_pos hc] at q
          obtain ⟨hc1, hc2⟩ := hc
          subst hc1
          have r1' := r1
          cases r1 with | ins h2 r2 =>
          exact ⟨_, _, _, fs, G1, ρ1, rfl, em1.gh _ _ h2, r2.lookup_none hc2, em1, r1', postV_le l1 k1 q⟩
        · simp only [if_neg hc] at q; exact q.elim
      | _ => exact q.elim
  · subst ex
    obtain rfl : u = Value.ref a := rx
    refine getmeth_ok I1 ea cl hm l ?_
    refine PySem.W.callWith_K (first := [.ref a]) (h₀ := X.base) I.ok.mod.kin hm.kp (thn (ha.run pos pins s1 σ H1 (fun vs H2 => spD X.K CA ps.length g (.ref a :: vs) H2 Q (WE W σ)) I1 ⟨B, G0, G1, ρ1, em1, ?_⟩) fun us s2 ⟨vs, H2, I2, r, q2⟩ => ⟨I2.kIn, ?_⟩) hst hpl
    · cases h1 : ms ρ1 with
      | no => rw [h1] at q; exact q.elim
      | ex x ρ' => rw [h1] at q; exact q
      | ok ds ρ2 =>
        rw [h1] at q; simp only [R.bind_ok] at q
        refine fun vs H2 G2 l2 k2 em2 r2 => spD_of em2 (.cons (r1.le k2) r2) (hgn _ fun z => ?_) (postV_le l2 k2 q)
        rw [z] at q; exact q.elim
    · have b := hb s2 (.ref a :: us) I2.kIn (by rw [List.append_nil]; show us.length + 1 = _; rw [← r.length]; exact q2.1)
      rw [List.append_nil] at b
      exact run_at (vs := V.ref a :: vs) F hr tk I2 b (.cons rfl r) q2
end
end DL

set_option maxHeartbeats 4000000
/-! DL8: the text's side conditions, keywords, built-ins, isinstance. -/
namespace DL
open PySem PySem.Spec PyProof.Rows L2

/-! ### the text -/
def notStar : Expr → Bool
  | .Starred _ _ => false
  | _ => true
def notSuper : Expr → Bool
  | .Call (.Name _ _) [] [] _ => false
  | _ => true
theorem star_cons {e : Expr} {es : List Expr} {env : PySem.Env} (h : notStar e = true) : starEach (e :: es) env = (false, eval e env) :: starEach es env := by
  cases e <;> first | rfl | cases h
theorem star_star {e : Expr} {es : List Expr} {env : PySem.Env} {p : Pos} : starEach (.Starred e p :: es) env = (true, eval e env) :: starEach es env := rfl
theorem star_none {pos : Pos} {env : PySem.Env} : ∀ {es : List Expr}, es.all notStar = true → (backTo pos (starEach es env)).any (·.1) = false
  | [], _ => rfl
  | e :: es, h => by
    obtain ⟨h1, h2⟩ := Bool.and_eq_true_iff.mp (show (notStar e && es.all notStar) = true by simpa using h)
    rw [star_cons h1]
    show (false || (backTo pos (starEach es env)).any (·.1)) = false
    rw [star_none h2] <;> rfl
theorem star_all {pos : Pos} {env : PySem.Env} : ∀ {es : List Expr}, es.all notStar = true → (backTo pos (starEach es env)).all (!·.1) = true
  | [], _ => rfl
  | e :: es, h => by
    obtain ⟨h1, h2⟩ := Bool.and_eq_true_iff.mp (show (notStar e && es.all notStar) = true by simpa using h)
    rw [star_cons h1]
    show (true && (backTo pos (starEach es env)).all (!·.1)) = true
    rw [star_all h2] <;> rfl
theorem super_not {o : Expr} {f : Str} {env : PySem.Env} {w : Sem Value} (h : notSuper o = true) : attributeBase o f env w = w := by
  unfold attributeBase
  split
  · cases h
  · rfl
/-- keywords that are named -/
def kwNames (kws : List Keyword) : Option (List Str) := match kws with
  | [] => some []
  | ⟨some n, _, _⟩ :: r => (kwNames r).map (n :: ·)
  | _ => none
theorem kw_all {pos : Pos} {env : PySem.Env} : ∀ {kws : List Keyword} {ks : List Str}, kwNames kws = some ks → (backToKw pos (keywordEach kws env)).all (·.1.isSome) = true ∧ (backToKw pos (keywordEach kws env)).filterMap (·.1) = ks ∧ (backToKw pos (keywordEach kws env)).any (·.1.isNone) = false
  | [], _, h => by cases h; exact ⟨rfl, rfl, rfl⟩
  | ⟨none, _, _⟩ :: r, _, h => by cases h
  | ⟨some n, v, p⟩ :: r, ks, h => by
    have h' : (kwNames r).map (n :: ·) = some ks := h
    cases q : kwNames r with
    | none => rw [q] at h'; cases h'
    | some l =>
      rw [q] at h'; cases h'
      obtain ⟨h1, h2, h3⟩ := kw_all (pos := pos) (env := env) q
      refine ⟨?_, ?_, ?_⟩
      · show (true && _) = true; exact h1
      · show n :: _ = _; rw [← h2] <;> rfl
      · show (false || _) = false; exact h3
theorem meth_ev {o : Expr} {m : Str} {apos pos : Pos} {args : List Expr} {kws : List Keyword} {ks : List Str} {env : PySem.Env} (h1 : notSuper o = true) (h2 : args.all notStar = true) (h3 : kwNames kws = some ks) (h4 : (apos.endLine == pos.line) = true) (h5 : args.length + kws.length + 1 < 30) :
    eval (.Call (.Attribute o m apos) args kws pos) env = (do
      let ov ← eval o env
      standAt apos.atName
      let (f, first) ← holding [ov] (getMethod ov m (plainOf o env))
      callWith pos f first (backTo pos (starEach args env)) (backToKw pos (keywordEach kws env))) := by
  have e : eval (.Call (.Attribute o m apos) args kws pos) env = (do
    let ov ← attributeBase o m env (eval o env)
    standAt apos.atName
    methodCall o m apos pos env ov (args.length + kws.length) (backTo pos (starEach args env)) (backToKw pos (keywordEach kws env))) := by
    cases o <;> rfl
  rw [e, super_not h1]
  have hf : methodCallForm (args.length + kws.length) (backTo pos (starEach args env)) (backToKw pos (keywordEach kws env)) = true := by
    unfold methodCallForm
    rw [star_all h2, (kw_all h3).1, Bool.true_and, Bool.true_and, decide_eq_true_iff]
    split <;> omega
  refine congrArg _ (funext fun ov => congrArg _ (funext fun _ => ?_))
  exact mcall_line hf h4
/-- a subscript that is no slice -/
def notSlice : Expr → Bool
  | .Slice _ _ _ _ => false
  | _ => true
theorem plain_ix {b : Expr} (h : notSlice b = true) : PlainIx b := fun o i => by
  cases b <;> first | rfl | cases h
def notSet : Expr → Bool
  | .Set _ _ _ => false
  | _ => true
theorem set_marks {b : Expr} {o : CmpOp} (h : notSet b = true) : behindInMarks o b = false := by
  cases b <;> first | rfl | cases h
theorem set_marks2 {b c : Expr} {o p : CmpOp} (h : notSet c = true) : lastMarks [o, p] [b, c] = false := set_marks h
theorem set_fold {e : Expr} {env : PySem.Env} (h : notSet e = true) : ∀ x, foldedSetIterable e env x = pure x := fun x => by
  cases e <;> first | rfl | cases h
def notComp : Expr → Bool
  | .ListComp _ _ _ _ => false
  | .SetComp _ _ _ _ => false
  | .DictComp _ _ _ _ _ => false
  | _ => true
theorem comp_swaps {e : Expr} {t : Option Expr} {l : Nat} {env : PySem.Env} (h : notComp e = true) : swapsWith e t l env = pure false := by
  cases e <;> first | rfl | cases h
/-- an expression whose truth is its value's -/
def valTest : Expr → Bool
  | .UnaryOp .Not _ _ => false
  | .BoolOp _ _ _ => false
  | .IfExp _ _ _ _ => false
  | .Compare _ _ _ _ => false
  | _ => true
theorem val_test {e : Expr} {env : PySem.Env} (h : valTest e = true) : ∀ whole, isTrue e env whole = (do let v ← whole; standAt e.pos; holding [v] (truthy v)) := fun whole => by
  cases e with
  | UnaryOp op _ _ => cases op <;> first | rfl | cases h
  | BoolOp _ _ _ => cases h
  | IfExp _ _ _ _ => cases h
  | Compare _ _ _ _ => cases h
  | _ => rfl

section
variable [Frame] {rp : Bool} {K : PySem.W.Frag} {CA : Nat → Addr} {W : WX} {X : Cx} {a b c e o : Expr} {es : List Expr} {kws : List Keyword} {ma mb mc : Env → R D} {pos p p1 p2 p3 apos : Pos} {k : Nat} {f : Addr} {fd : FuncData} {ps kn : List Str} {g : List D → FR} {x m : Str} {B G0 G H G' H' : Hp} {σ : L2.St} {ρ : Env} {Q : VK}
/-! ### keywords -/
theorem PK.weak {e : List Keyword} {t t' : TA} (h : PK X e t) (w : ∀ σ H Q, t' σ H Q → t σ H Q) : PK X e t' := ⟨fun pos pins s σ H Q I q => h.run pos pins s σ H Q I (w σ H Q q)⟩
theorem dk_nil : PK X [] (TAD X.K CA W fun ρ => .ok [] ρ) := PK.weak pk_nil fun σ H Q ⟨B, G0, G, ρ, em, q⟩ => q [] H G (Le.refl _) (Le.refl _) em .nil
theorem dk_cons {m : Env → R D} {ms : Env → R (List D)} {nm : Option Str} (he : PE X e (TD X.K CA W m)) (hr : PK X kws (TAD X.K CA W ms)) : PK X (⟨nm, e, p⟩ :: kws) (TAD X.K CA W fun ρ => (m ρ).bind fun d ρ => (ms ρ).bind fun ds ρ => .ok (d :: ds) ρ) := PK.weak (pk_cons he hr) fun σ H Q ⟨B, G0, G, ρ, em, q⟩ => by
  dsimp only at q
  refine ⟨B, G0, G, ρ, em, ?_⟩
  cases h1 : m ρ with
  | no => rw [h1] at q; exact q.elim
  | ex x ρ' => rw [h1] at q; exact q
  | ok d ρ1 =>
    rw [h1] at q; simp only [R.bind_ok] at q
    intro v H1 G1 l1 k1 em1 r1
    refine ⟨B, G0, G1, ρ1, em1, ?_⟩
    cases h2 : ms ρ1 with
    | no => rw [h2] at q; exact q.elim
    | ex x ρ' => rw [h2] at q; exact fun H' G' cl dd lh lg => q H' G' cl dd (l1.trans lh) (k1.trans lg)
    | ok ds ρ2 =>
      rw [h2] at q; simp only [R.bind_ok] at q
      intro vs H2 G2 l2 k2 em2 r2
      exact q _ H2 G2 (l1.trans l2) (k1.trans k2) em2 (.cons (r1.le k2) r2)
theorem lookup_zip_rep {q : Str} : ∀ {kn : List Str} {vs : List V} {ds : List D} {d : D}, Reps K CA G vs ds → (kn.zip ds).lookup q = some d → ∃ v, (kn.zip vs).lookup q = some v ∧ Rep K CA G v d
  | [], _, _, _, _, h => by simp at h
  | n :: kn, _, _, _, .nil, h => by simp at h
  | n :: kn, _, _, d, .cons (v := v) r t, h => by
    by_cases e : q == n
    · simp only [List.zip_cons_cons, List.lookup_cons, e] at h ⊢
      cases h; exact ⟨v, rfl, r⟩
    · have e' : (q == n) = false := by simpa using e
      simp only [List.zip_cons_cons, List.lookup_cons, e'] at h ⊢
      exact lookup_zip_rep t h
theorem lookup_zip_val {q : Str} : ∀ {kn : List Str} {us : List Value} {vs : List V} {v : V}, Vals vs us → (kn.zip vs).lookup q = some v → ∃ u, (kn.zip us).lookup q = some u ∧ RelV v u
  | [], _, _, _, _, h => by simp at h
  | n :: kn, _, _, _, .nil, h => by simp at h
  | n :: kn, _, _, d, .cons (b := v) r t, h => by
    by_cases e : q == n
    · simp only [List.zip_cons_cons, List.lookup_cons, e] at h ⊢
      cases h; exact ⟨v, rfl, r⟩
    · have e' : (q == n) = false := by simpa using e
      simp only [List.zip_cons_cons, List.lookup_cons, e'] at h ⊢
      exact lookup_zip_val t h
theorem fill_rep {kn : List Str} {vs : List V} {ds : List D} (r : Reps K CA G vs ds) : ∀ {ps : List Str} {zs : List D}, fillK ps (kn.zip ds) = some zs → ∃ ys, fillK ps (kn.zip vs) = some ys ∧ Reps K CA G ys zs
  | [], _, h => by cases h; exact ⟨[], rfl, .nil⟩
  | q :: ps, zs, h => by
    unfold fillK at h ⊢
    cases h1 : (kn.zip ds).lookup q with
    | none => rw [h1] at h; cases h
    | some d =>
      cases h2 : fillK ps (kn.zip ds) with
      | none => rw [h1, h2] at h; cases h
      | some l =>
        rw [h1, h2] at h; cases h
        obtain ⟨v, e1, r1⟩ := lookup_zip_rep r h1
        obtain ⟨ys, e2, r2⟩ := fill_rep r h2
        rw [e1, e2]
        exact ⟨_, rfl, .cons r1 r2⟩
theorem fill_val {kn : List Str} {us : List Value} {vs : List V} (r : Vals vs us) : ∀ {ps : List Str} {zs : List V}, fillK ps (kn.zip vs) = some zs → ∃ ys, fillK ps (kn.zip us) = some ys ∧ Vals zs ys
  | [], _, h => by cases h; exact ⟨[], rfl, .nil⟩
  | q :: ps, zs, h => by
    unfold fillK at h ⊢
    cases h1 : (kn.zip vs).lookup q with
    | none => rw [h1] at h; cases h
    | some d =>
      cases h2 : fillK ps (kn.zip vs) with
      | none => rw [h1, h2] at h; cases h
      | some l =>
        rw [h1, h2] at h; cases h
        obtain ⟨v, e1, r1⟩ := lookup_zip_val r h1
        obtain ⟨ys, e2, r2⟩ := fill_val r h2
        rw [e1, e2]
        exact ⟨_, rfl, .cons r1 r2⟩
theorem arr_rep {ws vs : List V} {es ds zs : List D} (r0 : Reps K CA G ws es) (r : Reps K CA G vs ds) (h : arr ps es kn ds = some zs) : ∃ ys, arr ps ws kn vs = some ys ∧ Reps K CA G ys zs := by
  unfold arr at h ⊢
  by_cases hl : ds.length = kn.length
  · rw [if_pos hl] at h
    rw [if_pos (r.length.trans hl), r0.length]
    cases h2 : fillK (ps.drop es.length) (kn.zip ds) with
    | none => rw [h2] at h; cases h
    | some l =>
      rw [h2] at h; cases h
      obtain ⟨ys, e, r2⟩ := fill_rep r h2
      rw [e]
      exact ⟨_, rfl, r0.append r2⟩
  · rw [if_neg hl] at h; cases h
theorem arr_val {us ts : List Value} {vs ws zs : List V} (r0 : Vals ws ts) (r : Vals vs us) (h : arr ps ws kn vs = some zs) : ∃ ys, arr ps ts kn us = some ys ∧ Vals zs ys := by
  unfold arr at h ⊢
  by_cases hl : vs.length = kn.length
  · rw [if_pos hl] at h
    rw [if_pos (r.length.symm.trans hl), ← r0.length]
    cases h2 : fillK (ps.drop ws.length) (kn.zip vs) with
    | none => rw [h2] at h; cases h
    | some l =>
      rw [h2] at h; cases h
      obtain ⟨ys, e, r2⟩ := fill_val r h2
      rw [e]
      exact ⟨_, rfl, r0.append r2⟩
  · rw [if_neg hl] at h; cases h
omit [Frame] in
/-- how positional and named arguments come to a def's parameters -/
def KwTo (K : PySem.W.Frag) (fd : FuncData) (ps : List Str) (n : Nat) (kn : List Str) : Prop := ∀ (s : Shared) (us ws zs : List Value), K.In s.heap → us.length = n → arr ps us kn ws = some zs → BindsTo s fd ⟨us, kn.zip ws⟩ (ps.zip zs)
/-- f(k = v, ..) -/
theorem de_callk0 {ms : Env → R (List D)} (F : FnG rp X.prog X.w X.K X.mg X.base (L2.CX X.prog X.w) k f fd ps (spD X.K CA ps.length g)) (hr : RmG rp k X.A) (tk : Takes X W) (hg : Gl X x) (hm : X.mg x = some (.ref f)) (hk : PySem.W.keepIn X.K (.ref f) = true) (hb : KwTo X.K fd ps 0 kn)
    (hgn : ∀ ds, g ds ≠ .no → ds.length = ps.length) (hks : kwNames kws = some kn) (ha : PK X kws (TAD X.K CA W ms)) (hdb : (x == ("__debug__" : Str)) = false) :
    PE X (.Call (.Name x p) [] kws pos) (TC X.K CA W fun ρ => (ms ρ).bind fun ys ρ => (R.lift (arr ps [] kn ys) ρ).bind fun zs ρ => (g zs).r ρ) := by
  refine ⟨fun pins s σ H Q I h => ?_⟩
  obtain ⟨q1, q2, q3⟩ := kw_all (pos := pos) (env := X.env) hks
  refine wpAny_Call_Name_kw (ld_glob I hg hm ?_ hdb)
  obtain ⟨B, G0, G, ρ, em, q⟩ := h
  refine PySem.W.callWith_KW0 (h₀ := X.base) I.ok.mod.kin hk q1 (thn (ha.run pos pins s σ H (fun vs H1 => ∃ zs, arr ps [] kn vs = some zs ∧ spD X.K CA ps.length g zs H1 Q (WE W σ)) I ⟨B, G0, G, ρ, em, ?_⟩) fun us s1 ⟨vs, H1, I1, r, zs, hz, q⟩ => ⟨I1.kIn, ?_⟩) (by rw [star_none rfl, q3] <;> rfl)
  · dsimp only at q
    cases h1 : ms ρ with
    | no => rw [h1] at q; exact q.elim
    | ex x ρ' => rw [h1] at q; exact q
    | ok ds ρ1 =>
      rw [h1] at q; simp only [R.bind_ok] at q
      intro vs H1 G1 l1 k1 em1 r1
      obtain ⟨zs, hz, q⟩ := post_lift q
      obtain ⟨ys, hy, r2⟩ := arr_rep .nil r1 hz
      have hn : zs.length = ps.length := hgn zs fun z => by rw [z] at q; exact q.elim
      exact ⟨ys, hy, spD_of em1 r2 hn (postV_le l1 k1 q)⟩
  · rw [q2]
    obtain ⟨ys, hy, r2⟩ := arr_val .nil r hz
    exact run_at F hr tk I1 (hb s1 [] us ys I1.kIn rfl hy) r2 q
/-- C(k = v, ..) -/
theorem de_makek0 {ms : Env → R (List D)} {ci : Nat} (M : Mk X.K (CA ci) f) (F : FnG rp X.prog X.w X.K X.mg X.base (L2.CX X.prog X.w) k f fd ps (spI X.K CA ci ps.length g)) (hr : RmG rp (k + 1) X.A) (tk : Takes X W) (hg : Gl X x) (hm : X.mg x = some (.ref (CA ci))) (hb : KwTo X.K fd ps 1 kn) (hp : 0 < ps.length)
    (hgn : ∀ ds, g ds ≠ .no → ds.length + 1 = ps.length) (hgo : ∀ d c, g d = .ok c → ∃ fs, c = .ow (.ins ci fs)) (hks : kwNames kws = some kn) (ha : PK X kws (TAD X.K CA W ms)) (hdb : (x == ("__debug__" : Str)) = false) :
    PE X (.Call (.Name x p) [] kws pos) (TC X.K CA W fun ρ => (ms ρ).bind fun ys ρ => (R.lift (arr (ps.drop 1) [] kn ys) ρ).bind fun zs ρ => (g zs).r ρ) := by
  refine ⟨fun pins s σ H Q I h => ?_⟩
  obtain ⟨q1, q2, q3⟩ := kw_all (pos := pos) (env := X.env) hks
  refine wpAny_Call_Name_kw (ld_glob I hg hm ?_ hdb)
  obtain ⟨B, G0, G, ρ, em, q⟩ := h
  refine PySem.W.callWith_KW0 (h₀ := X.base) I.ok.mod.kin M.kp q1 (thn (ha.run pos pins s σ H (fun vs H1 => ∃ zs, arr (ps.drop 1) [] kn vs = some zs ∧ ∀ x dx, H1 x = none → H1 dx = none → dx ≠ x → spI X.K CA ci ps.length g (.ref x :: zs) (upd (upd H1 dx (.own x)) x (.ins (CA ci) dx [])) (fun v H2 => v = .non ∧ Q (.ref x) H2) (WE W σ)) I ⟨B, G0, G, ρ, em, ?_⟩) fun us s1 ⟨vs, H1, I1, r, zs, hz, q⟩ => ⟨I1.kIn, ?_⟩) (by rw [star_none rfl, q3] <;> rfl)
  · dsimp only at q
    cases h1 : ms ρ with
    | no => rw [h1] at q; exact q.elim
    | ex x ρ' => rw [h1] at q; exact q
    | ok ds ρ1 =>
      rw [h1] at q; simp only [R.bind_ok] at q
      intro vs H1 G1 l1 k1 em1 r1
      obtain ⟨zs, hz, q⟩ := post_lift q
      obtain ⟨ys, hy, r2⟩ := arr_rep .nil r1 hz
      have hn : zs.length + 1 = ps.length := hgn zs fun z => by rw [z] at q; exact q.elim
      exact ⟨ys, hy, fun x dx h2 h3 h4 => spI_of em1 r2 hn h2 h3 h4 hgo (postV_le l1 k1 q)⟩
  · rw [q2]
    obtain ⟨ys, hy, r2⟩ := arr_val .nil r hz
    refine make_at M F hr tk I1 (fun s x hs => hb s [x] us (x :: ys) hs rfl ?_) r2 q
    unfold arr at hy ⊢
    by_cases hl : us.length = kn.length
    · rw [if_pos hl] at hy ⊢
      have e : ps.drop [x].length = (ps.drop 1).drop ([] : List Value).length := by rw [List.drop_drop] <;> rfl
      rw [e]
      cases h2 : fillK ((ps.drop 1).drop ([] : List Value).length) (kn.zip us) with
      | none => rw [h2] at hy; cases hy
      | some l => rw [h2] at hy; cases hy; rfl
    · rw [if_neg hl] at hy; cases hy
/-- o.m(k = v, ..) -/
theorem de_methk0 {mo : Env → R D} {ms : Env → R (List D)} {ci : Nat} {pl : Sem Bool} (cl : Cls X.K (CA ci)) (hm : Meth X.K (CA ci) m f) (F : FnG rp X.prog X.w X.K X.mg X.base (L2.CX X.prog X.w) k f fd ps (spD X.K CA ps.length g)) (hr : RmG rp k X.A) (tk : Takes X W) (hb : KwTo X.K fd ps 1 kn)
    (hgn : ∀ ds, g ds ≠ .no → ds.length = ps.length) (hks : kwNames kws = some kn) (ho : PE X o (TD X.K CA W mo)) (ha : PK X kws (TAD X.K CA W ms))
    (ht : eval (.Call (.Attribute o m apos) [] kws pos) X.env = (do
      let ov ← eval o X.env
      standAt apos.atName
      let (f, first) ← holding [ov] (getMethod ov m pl)
      callWith pos f first (backTo pos (starEach [] X.env)) (backToKw pos (keywordEach kws X.env)))) :
    PE X (.Call (.Attribute o m apos) [] kws pos) (TC X.K CA W fun ρ => (mo ρ).bind fun x ρ => match x with
      | .ins c' fs => if c' = ci ∧ fs.lookup m = none then (ms ρ).bind fun ys ρ => (R.lift (arr ps [.ins c' fs] kn ys) ρ).bind fun zs ρ => (g zs).r ρ else .no
      | _ => .no) := by
  refine ⟨fun pins s σ H Q I h => ?_⟩
  obtain ⟨q1, q2, q3⟩ := kw_all (pos := pos) (env := X.env) hks
  obtain ⟨B, G0, G, ρ, em, q⟩ := h
  refine PySem.W.methodCall_KW (pl := pl) (thn (ho.run pins s σ H (fun v H1 => ∃ a dx vs fs G1 ρ1, v = .ref a ∧ H1 a = some (.ins (CA ci) dx vs) ∧ vs.lookup m = none ∧ Em X.K CA B G0 H1 G1 σ ρ1 ∧ Rep X.K CA G1 (.ref a) (.ins ci fs) ∧ PostV X.K CA W (rlC X.K CA) B G0 H1 G1 σ Q ((ms ρ1).bind fun ys ρ => (R.lift (arr ps [.ins ci fs] kn ys) ρ).bind fun zs ρ => (g zs).r ρ)) I ⟨B, G0, G, ρ, em, ?_⟩)
    fun u s1 ⟨x, H1, I1, rx, a, dx, vs, fs, G1, ρ1, ex, ea, l, em1, r1, q⟩ => ?_) ht
  · dsimp only at q
    cases h1 : mo ρ with
    | no => rw [h1] at q; exact q.elim
    | ex x ρ' => rw [h1] at q; exact q
    | ok d ρ1 =>
      rw [h1] at q; simp only [R.bind_ok] at q
      intro v H1 G1 l1 k1 em1 r1
      cases d with
      | ins c' fs =>
        by_cases hc : c' = ci ∧ fs.lookup m = none
        · simp only [if_pos hc] at q
          obtain ⟨hc1, hc2⟩ := hc
          subst hc1
          have r1' := r1
          cases r1 with | ins h2 r2 =>
          exact ⟨_, _, _, fs, G1, ρ1, rfl, em1.gh _ _ h2, r2.lookup_none hc2, em1, r1', postV_le l1 k1 q⟩
        · simp only [if_neg hc] at q; exact q.elim
      | _ => exact q.elim
  · subst ex
    obtain rfl : u = Value.ref a := rx
    refine getmeth_ok I1 ea cl hm l ?_
    refine PySem.W.callWith_KW0 (first := [.ref a]) (h₀ := X.base) I.ok.mod.kin hm.kp q1 (thn (ha.run pos pins s1 σ H1 (fun vs H2 => ∃ zs, arr ps [.ref a] kn vs = some zs ∧ spD X.K CA ps.length g zs H2 Q (WE W σ)) I1 ⟨B, G0, G1, ρ1, em1, ?_⟩) fun us s2 ⟨vs, H2, I2, r, zs, hz, q9⟩ => ⟨I2.kIn, ?_⟩) (by rw [star_none rfl, q3] <;> rfl)
    · cases h1 : ms ρ1 with
      | no => rw [h1] at q; exact q.elim
      | ex x ρ' => rw [h1] at q; exact q
      | ok ds ρ2 =>
        rw [h1] at q; simp only [R.bind_ok] at q
        intro vs H2 G2 l2 k2 em2 r2
        obtain ⟨zs, hz, q⟩ := post_lift q
        obtain ⟨ys, hy, r3⟩ := arr_rep (.one (r1.le k2)) r2 hz
        have hn : zs.length = ps.length := hgn zs fun z => by rw [z] at q; exact q.elim
        exact ⟨ys, hy, spD_of em2 r3 hn (postV_le l2 k2 q)⟩
    · rw [q2]
      obtain ⟨ys, hy, r2⟩ := arr_val (ws := [V.ref a]) (ts := [.ref a]) (.cons rfl .nil) r hz
      exact run_at F hr tk I2 (hb s2 [.ref a] us ys I2.kIn rfl hy) r2 q9
/-! ### built-ins -/
theorem de_arg {ms : Env → R (List D)} {h : List D → Env → R Cell} {r : List V → Hp → VK → Prop} (he : PE X e (tCB r (TAP X.K CA W ms)))
    (hg : ∀ ds ρ vs H G B G0 σ Q, PReps X.K CA H G vs ds → Em X.K CA B G0 H G σ ρ → PostV X.K CA W (rlC X.K CA) B G0 H G σ Q (h ds ρ) → r vs H Q) : PE X e (TC X.K CA W fun ρ => (ms ρ).bind fun ds ρ => h ds ρ) := PE.weak he fun σ H Q ⟨B, G0, G, ρ, em, q⟩ => by
  dsimp only at q
  refine ⟨B, G0, G, ρ, em, ?_⟩
  cases h1 : ms ρ with
  | no => rw [h1] at q; exact q.elim
  | ex x ρ' => rw [h1] at q; exact q
  | ok ds ρ1 =>
    rw [h1] at q; simp only [R.bind_ok] at q
    exact fun vs H1 G1 l1 k1 em1 r1 => hg ds ρ1 vs H1 G1 B G0 σ Q r1 em1 (postV_le l1 k1 q)
theorem intsD_rep {vs : List V} {ds : List D} {ns : List Int} (r : Reps K CA G vs ds) (h : intsD ds = some ns) : vs = ns.map V.int := by
  induction ds generalizing vs ns with
  | nil => cases r; cases h; rfl
  | cons d ds ih =>
    cases r with | cons r t =>
    cases d with
    | int i =>
      have h' : (intsD ds).map (i :: ·) = some ns := h
      cases q : intsD ds with
      | none => rw [q] at h'; cases h'
      | some l =>
        rw [q] at h'; cases h'
        cases r
        rw [ih t q] <;> rfl
    | _ => cases h
theorem blsD_rep {vs : List V} {ds : List D} {ns : List Bool} (r : Reps K CA G vs ds) (h : blsD ds = some ns) : vs = ns.map V.bl := by
  induction ds generalizing vs ns with
  | nil => cases r; cases h; rfl
  | cons d ds ih =>
    cases r with | cons r t =>
    cases d with
    | bl i =>
      have h' : (blsD ds).map (i :: ·) = some ns := h
      cases q : blsD ds with
      | none => rw [q] at h'; cases h'
      | some l =>
        rw [q] at h'; cases h'
        cases r
        rw [ih t q] <;> rfl
    | _ => cases h
theorem foldl_max_ge : ∀ (l : List Int) (i : Int), i ≤ l.foldl max i
  | [], i => Int.le_refl _
  | j :: l, i => Int.le_trans (Int.le_max_left i j) (foldl_max_ge l (max i j))
theorem foldl_max_mem : ∀ (l : List Int) (i j : Int), j ∈ l → j ≤ l.foldl max i
  | k :: l, i, j, h => by
    rcases List.mem_cons.mp h with rfl | h
    · exact Int.le_trans (Int.le_max_right i j) (foldl_max_ge l _)
    · exact foldl_max_mem l _ j h
theorem foldl_max_in : ∀ (l : List Int) (i : Int), l.foldl max i = i ∨ l.foldl max i ∈ l
  | [], i => .inl rfl
  | j :: l, i => by
    rcases foldl_max_in l (max i j) with h | h
    · have h' : (j :: l).foldl max i = max i j := h
      rw [h']
      rcases Int.le_total i j with q | q
      · right; rw [Int.max_eq_right q]; exact List.mem_cons_self
      · left; exact Int.max_eq_left q
    · right; exact List.mem_cons_of_mem _ h
theorem foldl_min_le : ∀ (l : List Int) (i : Int), l.foldl min i ≤ i
  | [], i => Int.le_refl _
  | j :: l, i => Int.le_trans (foldl_min_le l (min i j)) (Int.min_le_left i j)
theorem foldl_min_mem : ∀ (l : List Int) (i j : Int), j ∈ l → l.foldl min i ≤ j
  | k :: l, i, j, h => by
    rcases List.mem_cons.mp h with rfl | h
    · exact Int.le_trans (foldl_min_le l _) (Int.min_le_right i j)
    · exact foldl_min_mem l _ j h
theorem foldl_min_in : ∀ (l : List Int) (i : Int), l.foldl min i = i ∨ l.foldl min i ∈ l
  | [], i => .inl rfl
  | j :: l, i => by
    rcases foldl_min_in l (min i j) with h | h
    · have h' : (j :: l).foldl min i = min i j := h
      rw [h']
      rcases Int.le_total i j with q | q
      · left; exact Int.min_eq_left q
      · right; rw [Int.min_eq_right q]; exact List.mem_cons_self
    · right; exact List.mem_cons_of_mem _ h
theorem maxL_eq {l : List Int} {m n : Int} (h : maxL l = some m) (hm : n ∈ l) (hn : ∀ y ∈ l, y ≤ n) : n = m := by
  cases l with
  | nil => cases h
  | cons i r =>
    cases h
    have h1 : n ≤ r.foldl max i := by
      rcases List.mem_cons.mp hm with rfl | q
      · exact foldl_max_ge r n
      · exact foldl_max_mem r i n q
    have h2 : r.foldl max i ≤ n := by
      rcases foldl_max_in r i with q | q
      · rw [q]; exact hn i List.mem_cons_self
      · exact hn _ (List.mem_cons_of_mem _ q)
    exact Int.le_antisymm h1 h2
theorem minL_eq {l : List Int} {m n : Int} (h : minL l = some m) (hm : n ∈ l) (hn : ∀ y ∈ l, n ≤ y) : n = m := by
  cases l with
  | nil => cases h
  | cons i r =>
    cases h
    have h1 : r.foldl min i ≤ n := by
      rcases List.mem_cons.mp hm with rfl | q
      · exact foldl_min_le r n
      · exact foldl_min_mem r i n q
    have h2 : n ≤ r.foldl min i := by
      rcases foldl_min_in r i with q | q
      · rw [q]; exact hn i List.mem_cons_self
      · exact hn _ (List.mem_cons_of_mem _ q)
    exact Int.le_antisymm h2 h1
/-- what a built-in asks -/
def rBi (X : Cx) : Bi → List V → Hp → VK → Prop
  | .len => fun xs H Q => (∃ x n, xs = [x] ∧ LenV X.K x H n ∧ Q (.int n) H) ∨ ∃ p kvs, xs = [.ref p] ∧ H p = some (.dK kvs) ∧ Q (.int kvs.length) H
  | .int => fun xs H Q => (∃ i, xs = [.int i] ∧ Q (.int i) H) ∨ ∃ k, xs = [.bl k] ∧ Q (.int (if k then 1 else 0)) H
  | .list => fun xs H Q => ∃ p ys, xs = [.ref p] ∧ (SqL X.K H p ys ∨ SqT X.K H p ys) ∧ ∀ l, H l = none → Q (.ref l) (upd H l (.lst ys))
  | .tuple => fun xs H Q => ∃ p ys, xs = [.ref p] ∧ ((SqL X.K H p ys ∧ ∀ l, H l = none → Q (.ref l) (upd H l (.tup ys))) ∨ (SqT X.K H p ys ∧ Q (.ref p) H))
  | .sum => rSum X.K
  | .max => fun xs H Q => rMax X.K xs H Q ∨ ∃ i j, xs = [.int i, .int j] ∧ Q (.int (if j > i then j else i)) H
  | .min => fun xs H Q => rMin X.K xs H Q ∨ ∃ i j, xs = [.int i, .int j] ∧ Q (.int (if j < i then j else i)) H
  | .any => rAny X.K
  | .all => rAll X.K
  | .str => fun xs H Q => (∃ i, xs = [.int i] ∧ i.natAbs.log2 < 1920 ∧ Q (.str (toString i)) H) ∨ ∃ a, xs = [.str a] ∧ Q (.str a) H
  | .repr => fun xs H Q => ∃ x d, xs = [x] ∧ Dp X.K H x d ∧ ((∃ z, x = .str z) ∨ ∃ a, x = .ref a) ∧ (d.showable = true ∧ d.canLay0 = true) ∧ d.depth ≤ 150 ∧ d.shown.length ≤ sizeLine ∧ Q (.str d.shown) H
  | _ => fun _ _ _ => False
theorem one_peek {d : D} {vs : List V} (r : PReps K CA H G vs [d]) : ∃ v, vs = [v] ∧ PRep K CA H G v d := by
  cases r with | cons r t => cases t; exact ⟨_, rfl, r⟩
theorem two_peek {d e : D} {vs : List V} (r : PReps K CA H G vs [d, e]) : ∃ v u, vs = [v, u] ∧ PRep K CA H G v d ∧ PRep K CA H G u e := by
  cases r with | cons r t => cases t with | cons r2 t => cases t; exact ⟨_, _, rfl, r, r2⟩
theorem bi_ok {b : Bi} {ds : List D} {vs : List V} (rs : PReps X.K CA H G vs ds) (em : Em X.K CA B G0 H G σ ρ) (p : PostV X.K CA W (rlC X.K CA) B G0 H G σ Q (R.lift (biD b ds) ρ)) : rBi X b vs H Q := by
  cases hb : biD b ds with
  | none => rw [hb] at p; exact p.elim
  | some c =>
    rw [hb] at p
    match b, ds, hb with
    | .len, [d], hb =>
      obtain ⟨v, rfl, r⟩ := one_peek rs
      have hb' : (lenD d).map (fun n => Cell.sh (.int n)) = some c := hb
      cases hl : lenD d with
      | none => rw [hl] at hb'; cases hb'
      | some n =>
        rw [hl] at hb'; cases hb'
        cases d with
        | lst xs => cases hl; obtain ⟨a, vs, rfl, h1, r1⟩ := r.lst em.gh; exact .inl ⟨.ref a, xs.length, rfl, .inl ⟨vs, h1, r1.length.symm⟩, post_sh em p (.int _)⟩
        | tup xs => cases hl; obtain ⟨a, vs, rfl, h1, r1⟩ := r.tup em.gh; exact .inl ⟨.ref a, xs.length, rfl, .inr ⟨vs, h1, r1.length.symm⟩, post_sh em p (.int _)⟩
        | str x => cases hl; obtain ⟨e, s⟩ := r.str; exact .inl ⟨.str x, x.length, by rw [e], ⟨sOk_line s, rfl⟩, post_sh em p (.int _)⟩
        | dct kvs => cases hl; obtain ⟨a, vs, rfl, h1, r1⟩ := r.dct em.gh; exact .inr ⟨a, vs, rfl, h1, by rw [r1.length]; exact post_sh em p (.int _)⟩
        | _ => cases hl
    | .int, [.int i], hb => obtain ⟨v, rfl, r⟩ := one_peek rs; cases hb; exact .inl ⟨i, by rw [r.int], post_sh em p (.int _)⟩
    | .int, [.bl i], hb => obtain ⟨v, rfl, r⟩ := one_peek rs; cases hb; exact .inr ⟨i, by rw [r.bl], post_sh em p (.int _)⟩
    | .list, [.lst xs], hb =>
      obtain ⟨v, rfl, r⟩ := one_peek rs; cases hb
      obtain ⟨a, vs, rfl, h1, r1⟩ := r.lst em.gh
      exact ⟨a, vs, rfl, .inl h1, fun l hl => post_ow em p hl ⟨_, upd_same, r1⟩⟩
    | .list, [.tup xs], hb =>
      obtain ⟨v, rfl, r⟩ := one_peek rs; cases hb
      obtain ⟨a, vs, rfl, h1, r1⟩ := r.tup em.gh
      exact ⟨a, vs, rfl, .inr h1, fun l hl => post_ow em p hl ⟨_, upd_same, r1⟩⟩
    | .tuple, [.lst xs], hb =>
      obtain ⟨v, rfl, r⟩ := one_peek rs; cases hb
      obtain ⟨a, vs, rfl, h1, r1⟩ := r.lst em.gh
      exact ⟨a, vs, rfl, .inl ⟨h1, fun l hl => post_new em p hl (.tup (SqT.of upd_same) (r1.le (Le.newH (em.gh.noneL hl))))⟩⟩
    | .tuple, [.tup xs], hb =>
      obtain ⟨v, rfl, r⟩ := one_peek rs; cases hb
      obtain ⟨a, vs, ea, h1, r1⟩ := r.tup em.gh
      subst ea
      rcases r with r | ⟨_, _, r⟩
      · exact ⟨a, vs, rfl, .inr ⟨h1, post_sh em p r⟩⟩
      · exact r.elim
    | .sum, [.lst xs], hb =>
      obtain ⟨v, rfl, r⟩ := one_peek rs
      have hb' : (intsD xs).map (fun l => Cell.sh (.int l.sum)) = some c := hb
      cases hl : intsD xs with
      | none => rw [hl] at hb'; cases hb'
      | some ns =>
        rw [hl] at hb'; cases hb'
        obtain ⟨a, vs, rfl, h1, r1⟩ := r.lst em.gh
        rw [intsD_rep r1 hl] at h1
        exact ⟨a, ns, rfl, h1, post_sh em p (.int _)⟩
    | .max, [.int i, .int j], hb =>
      obtain ⟨v, u, rfl, r1, r2⟩ := two_peek rs; cases hb
      refine .inr ⟨i, j, by rw [r1.int, r2.int], ?_⟩
      rw [show (if j > i then j else i) = max i j by omega]
      exact post_sh em p (.int _)
    | .min, [.int i, .int j], hb =>
      obtain ⟨v, u, rfl, r1, r2⟩ := two_peek rs; cases hb
      refine .inr ⟨i, j, by rw [r1.int, r2.int], ?_⟩
      rw [show (if j < i then j else i) = min i j by omega]
      exact post_sh em p (.int _)
    | .max, [.lst xs], hb =>
      obtain ⟨v, rfl, r⟩ := one_peek rs
      have hb' : (intsD xs).bind (fun l => (maxL l).map fun i => Cell.sh (.int i)) = some c := hb
      cases hl : intsD xs with
      | none => rw [hl] at hb'; cases hb'
      | some ns =>
        rw [hl, Option.bind_some] at hb'
        cases hm : maxL ns with
        | none => rw [hm] at hb'; cases hb'
        | some m =>
          rw [hm] at hb'; cases hb'
          obtain ⟨a, vs, rfl, h1, r1⟩ := r.lst em.gh
          rw [intsD_rep r1 hl] at h1
          refine .inl ⟨a, ns, rfl, h1, (by cases ns with
            | nil => cases hm
            | cons _ _ => exact Nat.succ_pos _), fun n h2 h3 => ?_⟩
          rw [maxL_eq hm h2 h3]
          exact post_sh em p (.int _)
    | .min, [.lst xs], hb =>
      obtain ⟨v, rfl, r⟩ := one_peek rs
      have hb' : (intsD xs).bind (fun l => (minL l).map fun i => Cell.sh (.int i)) = some c := hb
      cases hl : intsD xs with
      | none => rw [hl] at hb'; cases hb'
      | some ns =>
        rw [hl, Option.bind_some] at hb'
        cases hm : minL ns with
        | none => rw [hm] at hb'; cases hb'
        | some m =>
          rw [hm] at hb'; cases hb'
          obtain ⟨a, vs, rfl, h1, r1⟩ := r.lst em.gh
          rw [intsD_rep r1 hl] at h1
          refine .inl ⟨a, ns, rfl, h1, (by cases ns with
            | nil => cases hm
            | cons _ _ => exact Nat.succ_pos _), fun n h2 h3 => ?_⟩
          rw [minL_eq hm h2 h3]
          exact post_sh em p (.int _)
    | .any, [.lst xs], hb =>
      obtain ⟨v, rfl, r⟩ := one_peek rs
      have hb' : (blsD xs).map (fun l => Cell.sh (.bl (l.any id))) = some c := hb
      cases hl : blsD xs with
      | none => rw [hl] at hb'; cases hb'
      | some ns =>
        rw [hl] at hb'; cases hb'
        obtain ⟨a, vs, rfl, h1, r1⟩ := r.lst em.gh
        rw [blsD_rep r1 hl] at h1
        exact ⟨a, ns, rfl, h1, post_sh em p (.bl _)⟩
    | .all, [.lst xs], hb =>
      obtain ⟨v, rfl, r⟩ := one_peek rs
      have hb' : (blsD xs).map (fun l => Cell.sh (.bl (l.all id))) = some c := hb
      cases hl : blsD xs with
      | none => rw [hl] at hb'; cases hb'
      | some ns =>
        rw [hl] at hb'; cases hb'
        obtain ⟨a, vs, rfl, h1, r1⟩ := r.lst em.gh
        rw [blsD_rep r1 hl] at h1
        exact ⟨a, ns, rfl, h1, post_sh em p (.bl _)⟩
    | .str, [.int i], hb =>
      obtain ⟨v, rfl, r⟩ := one_peek rs
      have hb' : (if i.natAbs.log2 < 1920 ∧ sOk (Str.ofString (toString i)) = true then some (Cell.sh (.str (Str.ofString (toString i)))) else none) = some c := hb
      by_cases hz : i.natAbs.log2 < 1920 ∧ sOk (Str.ofString (toString i)) = true
      · rw [if_pos hz] at hb'; cases hb'
        exact .inl ⟨i, by rw [r.int], hz.1, post_sh em p (.str hz.2)⟩
      · rw [if_neg hz] at hb'; cases hb'
    | .str, [.str x], hb =>
      obtain ⟨v, rfl, r⟩ := one_peek rs; cases hb
      obtain ⟨e, s⟩ := r.str
      exact .inr ⟨x, by rw [e], post_sh em p (.str s)⟩
    | .repr, [d], hb =>
      obtain ⟨v, rfl, r⟩ := one_peek rs
      have hb' : reprD d = some c := hb
      unfold reprD at hb'
      cases hp : d.py with
      | none => rw [hp] at hb'; cases hb'
      | some q =>
        rw [hp, Option.bind_some] at hb'
        by_cases hz : (isShow d = true ∧ q.showable = true ∧ q.depth ≤ 150) ∧ sOk q.shown = true
        · rw [if_pos hz] at hb'; cases hb'
          obtain ⟨h1, h2⟩ := prep_dp em.gh r hp
          refine ⟨v, q, rfl, h1, ?_, ⟨hz.1.2.1, h2⟩, hz.1.2.2, sOk_line hz.2, post_sh em p (.str hz.2)⟩
          cases d with
          | str x => exact .inl ⟨x, r.str.1⟩
          | tup xs => obtain ⟨a, vs, e, _⟩ := r.tup em.gh; exact .inr ⟨a, e⟩
          | lst xs => obtain ⟨a, vs, e, _⟩ := r.lst em.gh; exact .inr ⟨a, e⟩
          | _ => cases hz.1.1
        · rw [if_neg hz] at hb'; cases hb'
omit [Frame] in
theorem call_strAll : CallR X (.type "str") (rBi X .str) := call_str_int.or SkE.call_str_str
omit [Frame] in
theorem call_repr (hg : X.A.guards = some []) (hu : X.A.units + 200 < cLine) : CallR X (.builtin "repr") (rBi X .repr) := by
  intro pins s σ H xs us Q I r h
  obtain ⟨x, d, rfl, hd, hx, ⟨hs, hc⟩, hp, hl, q⟩ := h
  obtain ⟨u, rfl, rx⟩ := vals1 r
  rcases hx with ⟨z, rfl⟩ | ⟨a, rfl⟩
  · cases hd
    obtain ⟨t, rfl⟩ := rx
    exact PySem.P.repr_of_str ⟨.str _, H, I.tok _, ⟨_, rfl⟩, q⟩ hl
  · obtain rfl : u = Value.ref a := rx
    obtain ⟨as, rd⟩ := Dp.reads I d _ _ hd (show RelV (.ref a) (.ref a) from rfl)
    exact repr_of_reads' rd hs (fun z => by rw [PyData.hasDict_of_canLay d hc] at z; cases z) hg (by omega) (fun _ _ e => e) (fun h' u tk hk => ⟨.str _, H, I.kept (t' := tk) hk, ⟨u, rfl⟩, q⟩) hl
theorem call_len_any : CallR X (.builtin "len") (rBi X .len) := call_len.or call_lenD
theorem de_biB {b : Bi} {id : String} {ms : Env → R (List D)} (hc : CallR X (.builtin id) (rBi X b)) (hg : Gl X x) (hm : X.mg x = none) (hv : bootBuiltins x = some (.builtin id)) (ha : PA X (e :: es) (TAP X.K CA W ms)) (hn : x ≠ "__name__") (hdb : (x == ("__debug__" : Str)) = false)
    (he : starEach (e :: es) X.env = (false, eval e X.env) :: starEach es X.env) (hpl : (backTo pos (starEach es X.env)).any (·.1) = false) : PE X (.Call (.Name x p) (e :: es) [] pos) (TC X.K CA W fun ρ => (ms ρ).bind fun ds ρ => R.lift (biD b ds) ρ) :=
  de_arg (pe_callB hc hg hm hv ha hn hdb he hpl) fun ds ρ vs H G B G0 σ Q rs em p => bi_ok rs em p
theorem de_biT {b : Bi} {id : String} {ms : Env → R (List D)} (hc : CallR X (.type id) (rBi X b)) (hg : Gl X x) (hm : X.mg x = none) (hv : bootBuiltins x = some (.type id)) (ha : PA X (e :: es) (TAP X.K CA W ms)) (hn : x ≠ "__name__") (hdb : (x == ("__debug__" : Str)) = false)
    (he : starEach (e :: es) X.env = (false, eval e X.env) :: starEach es X.env) (hpl : (backTo pos (starEach es X.env)).any (·.1) = false) : PE X (.Call (.Name x p) (e :: es) [] pos) (TC X.K CA W fun ρ => (ms ρ).bind fun ds ρ => R.lift (biD b ds) ρ) :=
  de_arg (pe_callTy hc hg hm hv ha hn hdb he hpl) fun ds ρ vs H G B G0 σ Q rs em p => bi_ok rs em p
/-! ### isinstance -/
omit [Frame] in
/-- what is asked of a class C that stands at an own object: enough for isinstance -/
structure ClsX (K : PySem.W.Frag) (C : Addr) : Prop where
  cl : Cls K C
  ha : PySem.W.findIn K (.ref C) "__class__" = some (some (.builtin "object.__class__"))
  hn : PySem.W.specialIn K (.builtin "object.__class__") "__get__" = some (some (.builtin "getset_descriptor.__get__"))
  htk : PySem.W.takesIn K (.builtin "object.__class__") = some true
  hm : PySem.W.mroIn K C (.type "object") = some true
omit [Frame] in
theorem seqT_ty {a : Addr} {vs : List V} (h : SqT K H a vs) : TyX K H (.ref a) (.type "tuple") := by
  rcases h with (h | ⟨o, h⟩) | ⟨o, its, n, h1, h2, _⟩
  · exact .base (.tup h)
  · exact .fTuple h
  · exact .kTuple h1 h2
theorem seqL_ty {a : Addr} {vs : List V} (h : SqL K H a vs) : TyX K H (.ref a) (.type "list") := by
  rcases h with (h | ⟨o, h⟩) | ⟨o, its, n, h1, h2, _⟩
  · exact .base (.lst h)
  · exact .base (.frz h)
  · exact .kList h1 h2
theorem ty_rep {d : D} {v : V} (r : PRep K CA H G v d) (l : Le G H) (hc : ∀ c fs, d = .ins c fs → ClsX K (CA c)) : TyX K H v (tyVal CA d) := by
  cases d with
  | non => rw [r.non]; exact .base .non
  | bl b => rw [r.bl]; exact .base (.bl b)
  | int i => rw [r.int]; exact .base (.int i)
  | str x => rw [r.str.1]; exact .base (.str x)
  | tup xs => obtain ⟨a, vs, rfl, h1, _⟩ := r.tup l; exact seqT_ty h1
  | lst xs => obtain ⟨a, vs, rfl, h1, _⟩ := r.lst l; exact seqL_ty h1
  | dct xs => obtain ⟨a, vs, rfl, h1, _⟩ := r.dct l; exact .base (.dK h1)
  | ins c fs =>
    obtain ⟨a, dx, vs, rfl, h1, _⟩ := r.ins l
    have q := hc c fs rfl
    exact .base (.ins h1 q.cl q.ha q.hn q.htk q.hm)
omit [Frame] in
/-- isinstance tells what the data tells -/
def KitOk (K : PySem.W.Frag) (CA : Nat → Addr) (n : Nat) (t : Ty) (u : Value) : Prop := ∀ d, insOk n d = true → PySem.W.kitOne K (tyVal CA d) u = some (tyD d t)
theorem de_isi {T : Expr} {c : V} {u : Value} {n : Nat} {t : Ty} (hT : PE X T (tC c)) (hu : ClsV c u) (hk : KitOk X.K CA n t u) (hcl : ∀ c, c < n → ClsX X.K (CA c)) (ha : PE X e (TP X.K CA W ma)) (hg : Gl X "isinstance") (hm : X.mg "isinstance" = none)
    (hs1 : notStar e = true) (hs2 : notStar T = true) : PE X (.Call (.Name "isinstance" p) [e, T] [] pos) (TC X.K CA W fun ρ => (ma ρ).bind fun x ρ => if insOk n x = true then .ok (.sh (.bl ([t].any (tyD x)))) ρ else .no) := by
  refine PE.weak (pe_callB call_isi hg hm (by decide +kernel) (pa_cons ha (pa_cons hT pa_nil (star_cons hs2)) (star_cons hs1)) (by decide) (by decide) (star_cons hs1) (star_none (by simp [hs2]))) fun σ H Q ⟨B, G0, G, ρ, em, q⟩ => ?_
  dsimp only at q
  refine ⟨B, G0, G, ρ, em, ?_⟩
  cases h1 : ma ρ with
  | no => rw [h1] at q; exact q.elim
  | ex x ρ' => rw [h1] at q; exact q
  | ok d ρ1 =>
    rw [h1] at q; simp only [R.bind_ok] at q
    intro v H1 G1 l1 k1 em1 r1
    by_cases hi : insOk n d = true
    · rw [if_pos hi] at q
      refine ⟨v, c, tyVal CA d, u, tyD d t, rfl, hu, ty_rep r1 em1.gh (fun c' fs z => hcl c' (by subst z; exact of_decide_eq_true hi)), hk d hi, ?_⟩
      have e1 : [t].any (tyD d) = tyD d t := by simp
      rw [e1] at q
      exact post_sh em1 (postV_le l1 k1 q) (.bl _)
    · rw [if_neg hi] at q; exact q.elim
end
end DL

set_option maxHeartbeats 4000000
/-! DL9: what is walked. -/
namespace PySem
open Builtin
set_option maxHeartbeats 1000000 in
theorem meets_enumerate_new1 {v : Value} {o : Obj} {H : Heap → Prop} (B : Begins v o H) :
    Meets (Builtin.«enumerate.__new__» ⟨[.type "enumerate", v], []⟩) (fun _ R s => H s.heap ∧
      R (.ok (.ret (.ref (s.heap.push o).objs.size))) { s with heap := (s.heap.push o).push { cls := .type "enumerate", data := .fields #[.none, .bool false, .ref s.heap.objs.size, rawInt 0, .none, .none] } }) :=
  .of_wp fun prog w A R s h => by
    obtain ⟨hp, g, d, tk, os⟩ := s; obtain ⟨h1, h⟩ := h
    have hsub := sub_enumerate
    have q1 : ∀ {A' : Around} {E : Value → Shared → Prop} {Q : Value → Shared → Prop}, Q (.ref hp.objs.size) ⟨hp.push o, g, d, tk, os⟩ → wpAny (model prog w) A' (pyIter v) Q E ⟨hp, g, d, tk, os⟩ :=
      fun hq => B.iter prog w _ _ _ _ h1 hq
    wp_walk using q1
    refine wpAny_stack_any fun st => wpAny_pure ?_
    split
    · rename_i c _ _ _ _ _
      cases (c == Value.type "enumerate")
      · wp_walk using q1
        exact ⟨_, rfl, h⟩
      · wp_walk using q1
        exact ⟨_, rfl, h⟩
    · wp_walk using q1
      exact ⟨_, rfl, h⟩
section
variable {prog : Program} {w : World} {A : Around} {E : Value → Shared → Prop} {s : Shared}
theorem call_enumerate_any {v : Value} {o : Obj} {H : Heap → Prop} {Q : Value → Shared → Prop} (B : Begins v o H) (h1 : H s.heap)
    (h : ∀ h', IsEnum h' (s.heap.objs.size + 1) s.heap.objs.size 0 .none → h'.get? s.heap.objs.size = some o → h'.objs.size = s.heap.objs.size + 2 →
      (∀ b o, s.heap.get? b = some o → h'.get? b = some o) → Q (.ref (s.heap.objs.size + 1)) { s with heap := h' }) :
    wpAny (model prog w) A (call (.type "enumerate") [v]) Q E s := by
  refine callType_new F.called_enumerate (by decide) (F.typeCall_enumerate_1 _) (F.newCall_enumerate_1 _) (fun obj => F.args_object_init_2 obj _) F.entry_enumerate_new
    (meets_enumerate_new1 B) ⟨h1, ?_⟩
  have hz : (s.heap.push o).objs.size = s.heap.objs.size + 1 := Heap.size_push ..
  show _ ∧ _
  rw [hz]
  have he : IsEnum ((s.heap.push o).push { cls := .type "enumerate", data := .fields #[.none, .bool false, .ref s.heap.objs.size, rawInt 0, .none, .none] }) (s.heap.objs.size + 1) s.heap.objs.size 0 .none := by
    have := Heap.get?_push_size (s.heap.push o) (o := { cls := .type "enumerate", data := .fields #[.none, .bool false, .ref s.heap.objs.size, rawInt 0, .none, .none] }) rfl
    rw [hz] at this; exact this
  refine ⟨⟨_, he, rfl⟩, h _ he (Heap.get?_push_of_some _ (Heap.get?_push_size _ B.free)) (by rw [Heap.size_push, hz]) fun b o x => Heap.get?_push_of_some _ (Heap.get?_push_of_some _ x)⟩
end
end PySem
namespace DL
open PySem PySem.Spec PyProof.Rows L2
/-- enumerate of a tuple -/
def IteT (K : PySem.W.Frag) (a : Addr) : L2.It :=
  ⟨fun i H => ∃ (xs : List V) (x : V), SqT K H a xs ∧ xs[i]? = some x, fun i H v H' => ∃ T x, v = .ref T ∧ H T = none ∧ H' = upd H T (.tup [.int (i : Nat), x]) ∧ ∀ xs, SqT K H a xs → xs[i]? = some x, fun i H => ∃ xs : List V, SqT K H a xs ∧ xs.length = i⟩
theorem turn_enumT {P : Program} {w : World} {K : PySem.W.Frag} {elts : List Expr} {kk : Nat} {tpos : Pos} (a e it : Addr) :
    Turn P w K (.Tuple elts kk tpos) (IteT K a) [e, it] e (fun i h => (∃ old, IsEnum h e it ((i : Nat) : Int) old) ∧ h.IsTupleIter it a i ∧ e ≠ it ∧ a ≠ it ∧ a ≠ e) where
  mem := by simp
  obj := fun i h st b hb => by
    obtain ⟨⟨old, he⟩, ⟨o, ho, hc, hd⟩, _⟩ := st
    have e' : b = e ∨ b = it := by simpa using hb
    rcases e' with z | z
    · rw [z]; exact ⟨_, he, fun v q => nomatch q⟩
    · rw [z]; exact ⟨o, ho, fun v q => by rw [hd] at q; cases q⟩
  keep := fun i h h' st k => let ⟨⟨old, he⟩, hi, hne⟩ := st; ⟨⟨old, k e (by simp) _ he⟩, hi.at fun o q => k it (by simp) o q, hne⟩
  item := by
    intro X hP hw hK hc i pins s σ H E I hf st hg
    subst hP hw hK
    obtain ⟨⟨old, he⟩, hit, hne, hai, hae⟩ := st
    obtain ⟨xs, x, hq, hx⟩ := hg
    obtain ⟨its, rv, p, hz⟩ := I.tuple hq
    obtain ⟨u, hu, ru⟩ := rv.get hx
    have hel : e < s.heap.objs.size := Heap.lt_size he
    have hil : it < s.heap.objs.size := by obtain ⟨_, q, _⟩ := hit; exact Heap.lt_size q
    have D := Draws.tuple (prog := X.prog) (w := X.w) (A := X.A.in1) (I.ok.hd hc) it a hai its.toArray
    have hlt : i < its.toArray.size := by have := lt_of_get hu; simpa using this
    refine wpAny_pyNext_enum_itemD D he ⟨hit, show s.heap.IsTuple a its.toArray from p⟩ hlt hne (by simp [hne, Ne.symm hae]) fun y h' tk hy ho hst hT hsz hk => ?_
    obtain rfl : u = y := by
      have : its.toArray[i]? = some u := by simpa using hu
      rw [this] at hy; exact Option.some.inj hy
    refine ⟨_, rfl, wpAny_letOwnedTupleGo_enum (s := { s with heap := h', toks := tk + 1 }) ho fun h'' he' sb => ?_⟩
    have hT2 : h''.get? s.heap.objs.size = some { cls := .type "tuple", data := .seq #[.int i tk, u] } := (sb.2 _ (Nat.ne_of_gt hel)).trans hT
    have new : ObjOk X.prog X.w (upd H s.heap.objs.size (.tup [.int (i : Nat), x])) h'' s.heap.objs.size (.tup [.int (i : Nat), x]) :=
      ⟨by show 2 ≤ sizeLine; decide, [.int i tk, u], .cons ⟨_, rfl⟩ (.cons ru .nil), ⟨_, hT2, rfl, _, rfl⟩⟩
    have I1 : Inv X pins σ (upd H s.heap.objs.size (.tup [.int (i : Nat), x])) { s with heap := h'', toks := tk + 1 } :=
      I.turnedNew (ch := [e, it]) (fun b ob hb q => (sb.2 b (fun z => hb (by simp [z]))).trans (hk b ob (fun z => hb (by simp [z])) (fun z => hb (by simp [z])) q)) hf (Nat.le_refl _) new
    refine ⟨.ref s.heap.objs.size, _, I1, rfl, ⟨_, x, rfl, I.hok.fresh (Nat.le_refl _), rfl, fun ys hy => by rw [I.tuple_inj hy hq]; exact hx⟩, ⟨⟨u, ?_⟩, hst.1.at fun o q => (sb.2 it (Ne.symm hne)).trans q, hne, hai, hae⟩, fun b hb => ?_⟩
    · have e1 : ((i + 1 : Nat) : Int) = (i : Int) + 1 := by omega
      rw [e1]; exact he'
    · have hb' : b < s.heap.objs.size := by
        have e' : b = e ∨ b = it := by simpa using hb
        rcases e' with z | z
        · rw [z]; exact hel
        · rw [z]; exact hil
      rw [upd_ne (Nat.ne_of_lt hb')]
      exact (hf b hb).1
  done := by
    intro X hP hw hK hc i pins s σ H E I hf st hg
    subst hP hw hK
    obtain ⟨⟨old, he⟩, hit, hne, hai, hae⟩ := st
    obtain ⟨xs, hq, hx⟩ := hg
    obtain ⟨its, rv, p, hz⟩ := I.tuple hq
    obtain ⟨f0, f1, f2, f3, f4, f5⟩ := hf it (by simp)
    have hl := rv.length
    have hlast : its.toArray.size = i := by simp; omega
    subst hlast
    have D := Draws.tuple (prog := X.prog) (w := X.w) (A := X.A.in1) (I.ok.hd hc) it a hai its.toArray
    exact wpAny_pyNext_enum_endD D he ⟨hit, show s.heap.IsTuple a its.toArray from p⟩ fun h' eb => ⟨rfl, I.turned (t' := s.toks) (fun b o hb q => eb b o hb q) f0 f1 f3 f4 f5⟩
  self := fun A i s Q E st h => let ⟨⟨_, he⟩, _⟩ := st; wpAny_pyIter_enum he h
end DL

set_option maxHeartbeats 4000000
/-! DL10: loops. -/
namespace DL
open PySem PySem.Spec PyProof.Rows L2
section
variable [Frame] {X : Cx} {tg : Expr}
/-- a list, a tuple, a text -/
def iAny (K : PySem.W.Frag) (tl : TE) : TI := fun σ H R => tl σ H fun x H1 => (∃ a xs, x = .ref a ∧ SqL K H1 a xs ∧ R (Itl K a) H1) ∨ (∃ a xs, x = .ref a ∧ SqT K H1 a xs ∧ R (Itt K a) H1) ∨ ∃ y, x = .str y ∧ R (Its y) H1
theorem pi_any {l : Expr} {tl : TE} (hl : PE X l tl) : PI X tg l (iAny X.K tl) := by
  refine ⟨fun pins s σ H R I h => ?_⟩
  refine thn (hl.run pins s σ H _ I h) fun v s1 ⟨x, H1, I1, r1, q1⟩ => ?_
  rcases q1 with ⟨a, xs, e, hq, q⟩ | ⟨a, xs, e, hq, q⟩ | ⟨y, e, q⟩
  · subst e
    cases r1
    obtain ⟨its, rv, p, hz⟩ := I1.list hq
    refine wpAny_pyIter_list p.isList ?_
    refine ⟨s1.heap.objs.size, [s1.heap.objs.size], _, _, H1, rfl, I1.kept (t' := s1.toks) fun b o e => Heap.get?_push_of_some _ e, turn_list a _, ⟨_, Heap.get?_push_size _ rfl, rfl, rfl⟩, fun b hb => ?_, q⟩
    have e : b = s1.heap.objs.size := by simpa using hb
    subst e
    exact I1.fpOk (Nat.le_refl _) (I1.hok.fresh (Nat.le_refl _))
  · subst e
    cases r1
    obtain ⟨its, rv, p, hz⟩ := I1.tuple hq
    refine wpAny_pyIter_tuple (show s1.heap.IsTuple a its.toArray from p) ?_
    refine ⟨s1.heap.objs.size, [s1.heap.objs.size], _, _, H1, rfl, I1.kept (t' := s1.toks) fun b o e => Heap.get?_push_of_some _ e, turn_tuple a _, ⟨_, Heap.get?_push_size _ rfl, rfl, rfl⟩, fun b hb => ?_, q⟩
    have e : b = s1.heap.objs.size := by simpa using hb
    subst e
    exact I1.fpOk (Nat.le_refl _) (I1.hok.fresh (Nat.le_refl _))
  · subst e
    obtain ⟨t, rfl⟩ := r1
    cases ha : y.cps.all (· < 128)
    · exact wpAny_pyIter_wide ha (pi_one (tk := s1.toks) I1 _ (turn_str _ y t "str_iterator" (.inr rfl)) ⟨_, Heap.get?_push_size _ rfl, rfl, rfl⟩ q)
    · exact wpAny_pyIter_ascii ha (pi_one (tk := s1.toks) I1 _ (turn_str _ y t "str_ascii_iterator" (.inl rfl)) ⟨_, Heap.get?_push_size _ rfl, rfl, rfl⟩ q)
def iEnuAny (K : PySem.W.Frag) (ta : TA) : TI := fun σ H R => ta σ H fun vs H1 => (∃ a xs, vs = [.ref a] ∧ SqL K H1 a xs ∧ R (Ite K a) H1) ∨ ∃ a xs, vs = [.ref a] ∧ SqT K H1 a xs ∧ R (IteT K a) H1
theorem pi_enuAny {e : Expr} {ta : TA} {p pos tpos : Pos} {elts : List Expr} {kk : Nat} (hg : Gl X "enumerate") (hm : X.mg "enumerate" = none) (ha : PA X [e] ta) (hs : starEach [e] X.env = [(false, eval e X.env)]) :
    PI X (.Tuple elts kk tpos) (.Call (.Name "enumerate" p) [e] [] pos) (iEnuAny X.K ta) := by
  refine ⟨fun pins s σ H R I h => ?_⟩
  refine Call_ (ld_blt I hg hm boot_enumerate (PyProof.Rows.callWith_type1 (thn (ha.run pos pins s σ H _ I h) fun us s1 ⟨vs, H1, I1, r1, q1⟩ => ?_) hs rfl))
  rcases q1 with ⟨a, xs, ex, hq, q⟩ | ⟨a, xs, ex, hq, q⟩
  · subst ex
    cases r1 with
    | cons r rr =>
      cases rr
      cases r
      obtain ⟨its, rv, p', hz⟩ := I1.list hq
      refine call_enumerate_list p'.isList fun h' he hit hsz hk => wpAny_pyIter_enum he ?_
      have I2 : Inv X pins σ H1 { s1 with heap := h' } := I1.kept (t' := s1.toks) hk
      refine ⟨s1.heap.objs.size + 1, [s1.heap.objs.size + 1, s1.heap.objs.size], _, _, H1, rfl, I2, turn_enum a (s1.heap.objs.size + 1) s1.heap.objs.size, ⟨⟨.none, he⟩, hit, Nat.succ_ne_self _⟩, fun b hb => ?_, q⟩
      have e' : b = s1.heap.objs.size + 1 ∨ b = s1.heap.objs.size := by simpa using hb
      have hle : s1.heap.objs.size ≤ b := by
        rcases e' with z | z
        · rw [z]; exact Nat.le_add_right _ _
        · rw [z]; exact Nat.le_refl _
      exact I1.fpOk hle (I1.hok.fresh hle)
  · subst ex
    cases r1 with
    | cons r rr =>
      cases rr
      cases r
      obtain ⟨its, rv, p', hz⟩ := I1.tuple hq
      refine call_enumerate_any (begins_tuple a its.toArray) (show s1.heap.IsTuple a its.toArray from p') fun h' he hit hsz hk => wpAny_pyIter_enum he ?_
      have I2 : Inv X pins σ H1 { s1 with heap := h' } := I1.kept (t' := s1.toks) hk
      have hal : a < s1.heap.objs.size := by obtain ⟨_, q, _⟩ := p'; exact Heap.lt_size q
      refine ⟨s1.heap.objs.size + 1, [s1.heap.objs.size + 1, s1.heap.objs.size], _, _, H1, rfl, I2, turn_enumT a (s1.heap.objs.size + 1) s1.heap.objs.size, ⟨⟨.none, he⟩, ⟨_, hit, rfl, rfl⟩, Nat.succ_ne_self _, Nat.ne_of_lt hal, Nat.ne_of_lt (Nat.lt_succ_of_lt hal)⟩, fun b hb => ?_, q⟩
      have e' : b = s1.heap.objs.size + 1 ∨ b = s1.heap.objs.size := by simpa using hb
      have hle : s1.heap.objs.size ≤ b := by
        rcases e' with z | z
        · rw [z]; exact Nat.le_add_right _ _
        · rw [z]; exact Nat.le_refl _
      exact I1.fpOk hle (I1.hok.fresh hle)
end

/-- the iterator hands out just these -/
def Feeds [Frame] (K : PySem.W.Frag) (CA : Nat → Addr) (G1 : Hp) (J : L2.It) (ds : List D) : Prop :=
  ∀ (i : Nat) (B G0 H G : Hp) (σ : L2.St) (ρ : Env), Le G1 G → Em K CA B G0 H G σ ρ → (i = ds.length → J.stop i H) ∧ ∀ d, ds[i]? = some d → J.go i H ∧ ∀ x H', J.yld i H x H' → ∃ G', Le H H' ∧ Le G G' ∧ Em K CA B G0 H' G' σ ρ ∧ Rep K CA G' x d
theorem Em.newT [Frame] {K : PySem.W.Frag} {CA : Nat → Addr} {B G0 H G : Hp} {σ : L2.St} {ρ : Env} (em : Em K CA B G0 H G σ ρ) {a : Addr} {o : HO} (ha : H a = none) : Le H (upd H a o) ∧ Le G (upd G a o) ∧ Em K CA B G0 (upd H a o) (upd G a o) σ ρ := by
  have em1 := em.laid (o := o) ha
  obtain ⟨em2, l2⟩ := em1.frz (em.bh.noneL ha) (em.gh.noneL ha) upd_same (em.fle (Le.newH ha) (free_new em ha))
  exact ⟨Le.newH ha, l2, em2⟩
section
variable [Frame] {K : PySem.W.Frag} {CA : Nat → Addr} {G1 : Hp}
theorem feeds_list {a : Addr} {vs : List V} {ds : List D} (h : SqL K G1 a vs) (r : Reps K CA G1 vs ds) : Feeds K CA G1 (Itl K a) ds := fun i B G0 H G σ ρ l em => by
  have hq : SqL K H a vs := sqL_le (l.trans em.gh) h
  refine ⟨fun e => ⟨vs, hq, by rw [r.length, e]; exact Nat.le_refl _⟩, fun d hd => ?_⟩
  obtain ⟨v, hv, rv⟩ := r.get hd
  refine ⟨⟨vs, v, hq, hv⟩, fun x H' hx => ?_⟩
  obtain ⟨e, hx⟩ := hx
  subst e
  have e2 := hx vs hq
  rw [hv] at e2; cases e2
  exact ⟨G, Le.refl _, Le.refl _, em, rv.le l⟩
theorem feeds_tup {a : Addr} {vs : List V} {ds : List D} (h : SqT K G1 a vs) (r : Reps K CA G1 vs ds) : Feeds K CA G1 (Itt K a) ds := fun i B G0 H G σ ρ l em => by
  have hq : SqT K H a vs := sqT_le (l.trans em.gh) h
  refine ⟨fun e => ⟨vs, hq, by rw [r.length, e]; exact Nat.le_refl _⟩, fun d hd => ?_⟩
  obtain ⟨v, hv, rv⟩ := r.get hd
  refine ⟨⟨vs, v, hq, hv⟩, fun x H' hx => ?_⟩
  obtain ⟨e, hx⟩ := hx
  subst e
  have e2 := hx vs hq
  rw [hv] at e2; cases e2
  exact ⟨G, Le.refl _, Le.refl _, em, rv.le l⟩
theorem feeds_str {x : Str} (h : sOk x = true) : Feeds K CA G1 (Its x) (x.cps.toList.map fun c => .str ⟨#[c]⟩) := fun i B G0 H G σ ρ l em => by
  refine ⟨fun e => ?_, fun d hd => ?_⟩
  · rw [List.length_map, Array.length_toList] at e
    exact Nat.le_of_eq e.symm
  · rw [List.getElem?_map] at hd
    cases hc : x.cps.toList[i]? with
    | none => rw [hc] at hd; cases hd
    | some c =>
      rw [hc] at hd; cases hd
      have hlt := lt_of_get hc
      rw [Array.length_toList] at hlt
      refine ⟨hlt, fun y H' hy => ?_⟩
      obtain ⟨e, c', hc', ey⟩ := hy
      subst e
      have e3 : c' = c := by
        rw [Array.getElem?_toList] at hc
        rw [hc] at hc'; cases hc'; rfl
      rw [ey, e3]
      exact ⟨G, Le.refl _, Le.refl _, em, .str (sOk_one h (List.mem_of_getElem? hc))⟩
theorem feeds_range (lo : Int) (n : Nat) : Feeds K CA G1 (Itr lo n) ((List.range n).map fun (k : Nat) => .int (lo + (k : Int))) := fun i B G0 H G σ ρ l em => by
  refine ⟨fun e => ?_, fun d hd => ?_⟩
  · rw [List.length_map, List.length_range] at e
    exact Nat.le_of_eq e.symm
  · rw [List.getElem?_map] at hd
    cases hc : (List.range n)[i]? with
    | none => rw [hc] at hd; cases hd
    | some c =>
      rw [hc] at hd; cases hd
      have hlt := lt_of_get hc
      rw [List.length_range] at hlt
      rw [List.getElem?_range hlt] at hc; cases hc
      refine ⟨hlt, fun y H' hy => ?_⟩
      obtain ⟨e, ey⟩ := hy
      subst e
      rw [ey]
      exact ⟨G, Le.refl _, Le.refl _, em, .int _⟩
theorem enuD_get {ds : List D} {i : Nat} {d : D} (h : (enuD ds)[i]? = some d) : ∃ x, ds[i]? = some x ∧ d = .tup [.int i, x] := by
  unfold enuD at h
  rw [List.getElem?_map, List.getElem?_zipIdx] at h
  cases hx : ds[i]? with
  | none => rw [hx] at h; cases h
  | some x => rw [hx] at h; cases h; exact ⟨x, rfl, by simp⟩
theorem enuD_length (ds : List D) : (enuD ds).length = ds.length := by simp [enuD]
theorem feeds_enu {a : Addr} {vs : List V} {ds : List D} (h : SqL K G1 a vs) (r : Reps K CA G1 vs ds) : Feeds K CA G1 (Ite K a) (enuD ds) := fun i B G0 H G σ ρ l em => by
  have hq : SqL K H a vs := sqL_le (l.trans em.gh) h
  refine ⟨fun e => ⟨vs, hq, by rw [r.length, e, enuD_length]; exact Nat.le_refl _⟩, fun d hd => ?_⟩
  obtain ⟨x, hx, rfl⟩ := enuD_get hd
  obtain ⟨v, hv, rv⟩ := r.get hx
  refine ⟨⟨vs, v, hq, hv⟩, fun y H' hy => ?_⟩
  obtain ⟨T, z, ey, hT, e, hz⟩ := hy
  subst e ey
  have e2 := hz vs hq
  rw [hv] at e2; cases e2
  obtain ⟨l1, l2, em2⟩ := em.newT (o := .tup [.int (i : Nat), v]) hT
  exact ⟨_, l1, l2, em2, .tup (SqT.of upd_same) (.cons (.int _) (.one ((rv.le l).le l2)))⟩
theorem feeds_enuT {a : Addr} {vs : List V} {ds : List D} (h : SqT K G1 a vs) (r : Reps K CA G1 vs ds) : Feeds K CA G1 (IteT K a) (enuD ds) := fun i B G0 H G σ ρ l em => by
  have hq : SqT K H a vs := sqT_le (l.trans em.gh) h
  refine ⟨fun e => ⟨vs, hq, by rw [r.length, e, enuD_length]⟩, fun d hd => ?_⟩
  obtain ⟨x, hx, rfl⟩ := enuD_get hd
  obtain ⟨v, hv, rv⟩ := r.get hx
  refine ⟨⟨vs, v, hq, hv⟩, fun y H' hy => ?_⟩
  obtain ⟨T, z, ey, hT, e, hz⟩ := hy
  subst e ey
  have e2 := hz vs hq
  rw [hv] at e2; cases e2
  obtain ⟨l1, l2, em2⟩ := em.newT (o := .tup [.int (i : Nat), v]) hT
  exact ⟨_, l1, l2, em2, .tup (SqT.of upd_same) (.cons (.int _) (.one ((rv.le l).le l2)))⟩
end

/-- what is walked, by its items -/
def TIf [Frame] (K : PySem.W.Frag) (CA : Nat → Addr) (W : WX) (m : Env → R (List D)) : TI := fun σ H R => ∃ B G0 G ρ, Em K CA B G0 H G σ ρ ∧ match m ρ with
  | .ok ds ρ => ∀ J H' G', Le H H' → Le G G' → Em K CA B G0 H' G' σ ρ → Feeds K CA G' J ds → R J H'
  | .ex x ρ => ∀ H' G' cl dd, Le H H' → Le G G' → Em K CA B G0 H' G' σ ρ → XR K CA G' cl dd x → W cl dd σ H'
  | .no => False
section
variable [Frame] {CA : Nat → Addr} {W : WX} {X : Cx} {tg e a b : Expr} {es : List Expr} {pos p tpos : Pos}
theorem PI.weak {t t' : TI} (h : PI X tg e t) (w : ∀ σ H R, t' σ H R → t σ H R) : PI X tg e t' := ⟨fun pins s σ H R I q => h.run pins s σ H R I (w σ H R q)⟩
theorem dI_any {m : Env → R D} (h : PE X e (TD X.K CA W m)) : PI X tg e (TIf X.K CA W fun ρ => (m ρ).bind fun x ρ => R.lift (walkD x) ρ) := PI.weak (pi_any h) fun σ H Z ⟨B, G0, G, ρ, em, q⟩ => by
  dsimp only at q
  refine ⟨B, G0, G, ρ, em, ?_⟩
  cases h1 : m ρ with
  | no => rw [h1] at q; exact q.elim
  | ex x ρ' => rw [h1] at q; exact q
  | ok d ρ1 =>
    rw [h1] at q; simp only [R.bind_ok] at q
    intro v H1 G1 l1 k1 em1 r1
    cases d with
    | lst xs => cases r1 with | lst h r => exact .inl ⟨_, _, rfl, sqL_le em1.gh h, q _ H1 G1 l1 k1 em1 (feeds_list h r)⟩
    | tup xs => cases r1 with | tup h r => exact .inr (.inl ⟨_, _, rfl, sqT_le em1.gh h, q _ H1 G1 l1 k1 em1 (feeds_tup h r)⟩)
    | str x => cases r1 with | str h => exact .inr (.inr ⟨x, rfl, q _ H1 G1 l1 k1 em1 (feeds_str h)⟩)
    | _ => exact q.elim
theorem dI_rng1 {ms : Env → R (List D)} (hg : Gl X "range") (hm : X.mg "range" = none) (ha : PA X [a] (TAD X.K CA W ms)) (hs : notStar a = true) : PI X tg (.Call (.Name "range" p) [a] [] pos) (TIf X.K CA W fun ρ => (ms ρ).bind fun ds ρ => match ds with
    | [_] => R.lift (rngD ds) ρ
    | _ => .no) := PI.weak (pi_range1 hg hm ha (star_cons hs)) fun σ H Z ⟨B, G0, G, ρ, em, q⟩ => by
  dsimp only at q
  refine ⟨B, G0, G, ρ, em, ?_⟩
  cases h1 : ms ρ with
  | no => rw [h1] at q; exact q.elim
  | ex x ρ' => rw [h1] at q; exact q
  | ok ds ρ1 =>
    rw [h1] at q; simp only [R.bind_ok] at q
    intro vs H1 G1 l1 k1 em1 r1
    match ds, r1, q with
    | [d], .cons r .nil, q =>
      cases d with
      | int n =>
        by_cases hn : -(2 ^ 62) ≤ n ∧ n ≤ cap
        · simp only [rngD, if_pos hn, R.lift_some] at q
          cases r
          exact ⟨n, rfl, hn.1, Int.lt_of_le_of_lt hn.2 (by decide), q _ H1 G1 l1 k1 em1 (feeds_range 0 n.toNat)⟩
        · simp only [rngD, if_neg hn, R.lift_none] at q
      | _ => exact q.elim
    | [], _, q => exact q.elim
    | _ :: _ :: _, _, q => exact q.elim
theorem dI_rng2 {ms : Env → R (List D)} (hg : Gl X "range") (hm : X.mg "range" = none) (ha : PA X [a, b] (TAD X.K CA W ms)) (hs : notStar a = true) (hs2 : notStar b = true) : PI X tg (.Call (.Name "range" p) [a, b] [] pos) (TIf X.K CA W fun ρ => (ms ρ).bind fun ds ρ => match ds with
    | [_, _] => R.lift (rngD ds) ρ
    | _ => .no) := PI.weak (pi_range2 hg hm ha (by rw [star_cons hs, star_cons hs2] <;> rfl) (star_cons hs2)) fun σ H Z ⟨B, G0, G, ρ, em, q⟩ => by
  dsimp only at q
  refine ⟨B, G0, G, ρ, em, ?_⟩
  cases h1 : ms ρ with
  | no => rw [h1] at q; exact q.elim
  | ex x ρ' => rw [h1] at q; exact q
  | ok ds ρ1 =>
    rw [h1] at q; simp only [R.bind_ok] at q
    intro vs H1 G1 l1 k1 em1 r1
    match ds, r1, q with
    | [d, e], .cons r (.cons r' .nil), q =>
      cases d with
      | int n =>
        cases e with
        | int m =>
          by_cases hn : (-(2 ^ 62) ≤ n ∧ n < 2 ^ 62) ∧ (-(2 ^ 62) ≤ m ∧ m < 2 ^ 62) ∧ m - n ≤ cap
          · simp only [rngD, if_pos hn, R.lift_some] at q
            cases r
            cases r'
            exact ⟨n, m, rfl, ⟨hn.1.1, hn.1.2, hn.2.1.1, hn.2.1.2⟩, q _ H1 G1 l1 k1 em1 (feeds_range n (m - n).toNat)⟩
          · simp only [rngD, if_neg hn, R.lift_none] at q
        | _ => exact q.elim
      | _ => exact q.elim
    | [], _, q => exact q.elim
    | [_], _, q => exact q.elim
    | _ :: _ :: _ :: _, _, q => exact q.elim
theorem dI_enu {m : Env → R D} {elts : List Expr} {kk : Nat} (hg : Gl X "enumerate") (hm : X.mg "enumerate" = none) (ha : PE X a (TD X.K CA W m)) (hs : notStar a = true) : PI X (.Tuple elts kk tpos) (.Call (.Name "enumerate" p) [a] [] pos) (TIf X.K CA W fun ρ => (m ρ).bind fun x ρ => match x with
    | .lst ds => .ok (enuD ds) ρ
    | .tup ds => .ok (enuD ds) ρ
    | _ => .no) := PI.weak (pi_enuAny hg hm (pa_cons ha pa_nil (star_cons hs)) (star_cons hs)) fun σ H Z ⟨B, G0, G, ρ, em, q⟩ => by
  dsimp only at q
  refine ⟨B, G0, G, ρ, em, ?_⟩
  cases h1 : m ρ with
  | no => rw [h1] at q; exact q.elim
  | ex x ρ' => rw [h1] at q; exact q
  | ok d ρ1 =>
    rw [h1] at q; simp only [R.bind_ok] at q
    intro v H1 G1 l1 k1 em1 r1
    cases d with
    | lst xs => cases r1 with | lst h r => exact .inl ⟨_, _, rfl, sqL_le em1.gh h, q _ H1 G1 l1 k1 em1 (feeds_enu h r)⟩
    | tup xs => cases r1 with | tup h r => exact .inr ⟨_, _, rfl, sqT_le em1.gh h, q _ H1 G1 l1 k1 em1 (feeds_enuT h r)⟩
    | _ => exact q.elim
end
end DL

set_option maxHeartbeats 4000000
/-! DL11: statements. -/
namespace DL
open PySem PySem.Spec PyProof.Rows L2

section
variable [Frame] (K : PySem.W.Frag) (CA : Nat → Addr) (W : WX) (B G0 : Hp)
def FlP (B H G : Hp) (D : Ends) (σ : L2.St) : Fl → Prop
  | .nx => D.nx σ H
  | .bk => D.bk σ H
  | .ct => D.ct σ H
  | .rt c => ∀ v, CRep K CA B G H v c → D.rt v H
def PostS (G : Hp) (D : Ends) : R Fl → Prop
  | .ok fl ρ => ∀ σ H G', Le G G' → Em K CA B G0 H G' σ ρ → FlP K CA B H G' D σ fl
  | .ex x ρ => ∀ σ H G' cl dd, Le G G' → Em K CA B G0 H G' σ ρ → XR K CA G' cl dd x → W cl dd σ H
  | .no => False
end
def TSf [Frame] (K : PySem.W.Frag) (CA : Nat → Addr) (W : WX) (m : Env → R Fl) : TS := fun D σ H => ∃ B G0 G ρ, Em K CA B G0 H G σ ρ ∧ PostS K CA W B G0 G D (m ρ)

section
variable [Frame] {CA : Nat → Addr} {W : WX} {X : Cx} {a b c e i tg : Expr} {es : List Expr} {st : Stmt} {sts body a1 b1 : List Stmt} {ma mb mc : Env → R D} {pos p p1 p2 apos : Pos} {B G0 G H G' H' : Hp} {σ : L2.St} {ρ : Env} {D : Ends} {Q : VK}
theorem postS_le {K : PySem.W.Frag} {r : R Fl} (l : Le G G') (p : PostS K CA W B G0 G D r) : PostS K CA W B G0 G' D r := by
  cases r with
  | ok fl ρ => exact fun σ H G2 l2 em => p σ H G2 (l.trans l2) em
  | ex x ρ => exact fun σ H G2 cl dd l2 em => p σ H G2 cl dd (l.trans l2) em
  | no => exact p
/-- an expression, then the rest of a statement -/
theorem tv_bind {K : PySem.W.Frag} {α : Type} {Rl : Hp → Hp → Hp → L2.St → Env → V → α → Prop} {m : Env → R α} {k : α → Env → R Fl} (em : Em K CA B G0 H G σ ρ) (p : PostS K CA W B G0 G D ((m ρ).bind k))
    (hq : ∀ a ρ v H' G', Le H H' → Le G G' → Em K CA B G0 H' G' σ ρ → Rl B H' G' σ ρ v a → PostS K CA W B G0 G' D (k a ρ) → Q v H') : TV K CA W Rl m σ H Q := by
  refine ⟨B, G0, G, ρ, em, ?_⟩
  cases h : m ρ with
  | ok a ρ1 => rw [h] at p; simp only [R.bind_ok] at p; exact fun v H' G' lh lg em' r => hq a ρ1 v H' G' lh lg em' r (postS_le lg p)
  | ex x ρ1 => rw [h] at p; exact fun H' G' cl dd lh lg em' xr => p σ H' G' cl dd lg em' xr
  | no => rw [h] at p; exact p.elim
theorem tt_bind {K : PySem.W.Frag} {m : Env → R Bool} {k : Bool → Env → R Fl} {Q : Bool → Hp → Prop} (em : Em K CA B G0 H G σ ρ) (p : PostS K CA W B G0 G D ((m ρ).bind k))
    (hq : ∀ a ρ H' G', Le H H' → Le G G' → Em K CA B G0 H' G' σ ρ → PostS K CA W B G0 G' D (k a ρ) → Q a H') : TTt K CA W m σ H Q := by
  refine ⟨B, G0, G, ρ, em, ?_⟩
  cases h : m ρ with
  | ok a ρ1 => rw [h] at p; simp only [R.bind_ok] at p; exact fun H' G' lh lg em' => hq a ρ1 H' G' lh lg em' (postS_le lg p)
  | ex x ρ1 => rw [h] at p; exact fun H' G' cl dd lh lg em' xr => p σ H' G' cl dd lg em' xr
  | no => rw [h] at p; exact p.elim
theorem ta_bind {K : PySem.W.Frag} {Rl : Hp → Hp → List V → List DL.D → Prop} {m : Env → R (List DL.D)} {k : List DL.D → Env → R Fl} {Q : List V → Hp → Prop} (em : Em K CA B G0 H G σ ρ) (p : PostS K CA W B G0 G D ((m ρ).bind k))
    (hq : ∀ a ρ v H' G', Le H H' → Le G G' → Em K CA B G0 H' G' σ ρ → Rl H' G' v a → PostS K CA W B G0 G' D (k a ρ) → Q v H') : TAa K CA W Rl m σ H Q := by
  refine ⟨B, G0, G, ρ, em, ?_⟩
  cases h : m ρ with
  | ok a ρ1 => rw [h] at p; simp only [R.bind_ok] at p; exact fun v H' G' lh lg em' r => hq a ρ1 v H' G' lh lg em' r (postS_le lg p)
  | ex x ρ1 => rw [h] at p; exact fun H' G' cl dd lh lg em' xr => p σ H' G' cl dd lg em' xr
  | no => rw [h] at p; exact p.elim
/-! ### what is owned is changed -/
theorem Em.put {K : PySem.W.Frag} {s : Nat} {d : DL.D} (em : Em K CA B G0 H G σ ρ) (h : ρ[s]? = some (some (.ow d))) :
    ∃ a, σ[s]? = some (some (.ref a)) ∧ OwnAt K CA G H a d ∧ ∀ o d', OwnAt K CA G (upd H a o) a d' → Em K CA B G0 (upd H a o) G σ (ρ.set s (some (.ow d'))) := by
  obtain ⟨v, h1, e1, h2⟩ := em.take h
  have hf := h2.free
  obtain ⟨a, ea, hb, hg, ho⟩ := h2.1
  subst ea
  refine ⟨a, h1, ho, fun o d' ho' => ?_⟩
  have e3 := (e1.chg (o := o) hb hg hf).fill (i := s) (v := .ref a) (c := .ow d') h1 (cat_ow ⟨a, rfl, hb, hg, ho'⟩ (e1.chgF hf hf))
  rw [List.set_set] at e3
  exact e3
theorem Em.putC {K : PySem.W.Frag} {s : Nat} {d : DL.D} (em : Em K CA B G0 H G σ ρ) (h : curO ρ s = some d) :
    ∃ a, σ[s]? = some (some (.ref a)) ∧ OwnAt K CA G H a d ∧ ∀ o d', OwnAt K CA G (upd H a o) a d' → Em K CA B G0 (upd H a o) G σ (putO ρ s d') := by
  unfold curO at h
  unfold putO
  split at h
  · rename_i d0 hs
    cases h
    rw [hs]
    exact em.put hs
  · rename_i t j ht
    split at h
    · rename_i ds hs
      rw [ht]
      dsimp only
      rw [hs]
      exact em.row ht hs h
    · cases h
  · cases h
theorem isO_of {K : PySem.W.Frag} {s : Nat} (em : Em K CA B G0 H G σ ρ) (h : isO ρ s = true) : ∃ o, σ[s]? = some (some o) := by
  unfold isO at h
  obtain ⟨d, hd⟩ := Option.isSome_iff_exists.mp h
  obtain ⟨a, ha, _⟩ := em.putC hd
  exact ⟨_, ha⟩
theorem isL_of {K : PySem.W.Frag} {s : Nat} (em : Em K CA B G0 H G σ ρ) (h : isL ρ s = true) : ∃ a, σ[s]? = some (some (.ref a)) ∧ tyV K "list" (.ref a) H := by
  unfold isL at h
  split at h
  · rename_i xs q
    obtain ⟨a, h2, ⟨vs, ho, _⟩, _⟩ := em.putC q
    exact ⟨a, h2, .inl ⟨rfl, vs, SqL.of ho⟩⟩
  · cases h
/-! ### targets -/
def TGb (K : PySem.W.Frag) (CA : Nat → Addr) (ws : List Nat) (f : DL.D → Env → Option Env) : TG := fun v σ H Q => ∃ B G0 G ρ d, Em K CA B G0 H G σ ρ ∧ Rep K CA G v d ∧ ∃ ρ', f d ρ = some ρ' ∧ ∀ σ', σ'.length = σ.length → (∀ j, j ∉ ws → σ'[j]? = σ[j]?) → Em K CA B G0 H G σ' ρ' → Q σ' H
def TGbs (K : PySem.W.Frag) (CA : Nat → Addr) (ws : List Nat) (f : List DL.D → Env → Option Env) : TGs := fun vs σ H Q => ∃ B G0 G ρ ds, Em K CA B G0 H G σ ρ ∧ Reps K CA G vs ds ∧ ∃ ρ', f ds ρ = some ρ' ∧ ∀ σ', σ'.length = σ.length → (∀ j, j ∉ ws → σ'[j]? = σ[j]?) → Em K CA B G0 H G σ' ρ' → Q σ' H
theorem PG.weak {t t' : TG} (h : PG X tg t) (w : ∀ v σ H Q, t' v σ H Q → t v σ H Q) : PG X tg t' := ⟨fun pins s σ H v u Q I r q => h.run pins s σ H v u Q I r (w v σ H Q q)⟩
theorem PGs.weak {t t' : TGs} (h : PGs X es t) (w : ∀ v σ H Q, t' v σ H Q → t v σ H Q) : PGs X es t' := ⟨fun pins s σ H v u Q I r q => h.run pins s σ H v u Q I r (w v σ H Q q)⟩
theorem dg_name {i : Nat} {x : Str} {ws : List Nat} (ok : Frame.ok i) (hw : i ∈ ws) (hN : X.N.Nodup) (hi : X.N[i]? = some x) (hx : Loc X.env.scope x) (hf : X.fn x = true ∨ X.env.scope.names.lookup x = some .local) : PG X (.Name x pos) (TGb X.K CA ws (Tg.bind (.n i))) :=
  PG.weak (pg_name hN hi hx hf) fun v σ H Q ⟨B, G0, G, ρ, d, em, r, ρ', e, q⟩ => by
    unfold Tg.bind at e
    by_cases hl : i < ρ.length
    · rw [if_pos hl] at e; cases e
      exact q _ (by simp) (fun j hj => get_set_ne fun z => hj (z ▸ hw)) (em.set ok ⟨r, fun _ z => by cases z⟩ hl)
    · rw [if_neg hl] at e; cases e
theorem dgs_nil {ws : List Nat} : PGs X [] (TGbs X.K CA ws (Tg.binds .z)) := PGs.weak pgs_nil fun vs σ H Q ⟨B, G0, G, ρ, ds, em, r, ρ', e, q⟩ => by
  cases r with
  | nil => unfold Tg.binds at e; cases e; exact ⟨rfl, q _ rfl (fun _ _ => rfl) em⟩
  | cons _ _ => unfold Tg.binds at e; cases e
theorem each_cons {env : PySem.Env} (h : notStar e = true) : (assignEach (e :: es) env).map (·.2) = assign e env :: (assignEach es env).map (·.2) := by
  cases e <;> first | rfl | cases h
theorem each_len {env : PySem.Env} : ∀ es : List Expr, (assignEach es env).length = es.length
  | [] => rfl
  | e :: es => by
    have := each_len (env := env) es
    cases e <;> simp only [assignEach, List.length_cons, this]
theorem each_none {env : PySem.Env} : ∀ {es : List Expr}, es.all notStar = true → (assignEach es env).findIdx? (·.1) = none
  | [], _ => rfl
  | e :: es, h => by
    rw [List.all_cons, Bool.and_eq_true_iff] at h
    have := each_none (env := env) h.2
    have h1 := h.1
    cases e <;> first | (simp only [assignEach, List.findIdx?_cons, this]; rfl) | cases h1
theorem dgs_cons {t u : Tg} {ws : List Nat} (h1 : PG X e (TGb X.K CA ws (Tg.bind t))) (h2 : PGs X es (TGbs X.K CA ws (Tg.binds u))) (hs : notStar e = true) : PGs X (e :: es) (TGbs X.K CA ws (Tg.binds (.c t u))) := PGs.weak (pgs_cons h1 h2 (each_cons hs)) fun vs σ H Q ⟨B, G0, G, ρ, ds, em, r, ρ', ez, q⟩ => by
  cases r with
  | nil => unfold Tg.binds at ez; cases ez
  | cons r rs =>
    unfold Tg.binds at ez
    obtain ⟨ρ1, h1, h2⟩ := Option.bind_eq_some_iff.mp ez
    exact ⟨_, _, rfl, B, G0, G, ρ, _, em, r, ρ1, h1, fun σ1 hl hj em1 => ⟨B, G0, G, ρ1, _, em1, rs, ρ', h2, fun σ2 hl2 hj2 em2 => q σ2 (hl2.trans hl) (fun j z => (hj2 j z).trans (hj j z)) em2⟩⟩
theorem binds_len : ∀ {t : Tg} {ds : List DL.D} {ρ ρ' : Env} {n : Nat}, Tg.binds t ds ρ = some ρ' → (∀ ds ρ ρ', Tg.binds t ds ρ = some ρ' → ds.length = n) → ds.length = n := fun h k => k _ _ _ h
def Tg.len : Tg → Nat
  | .c _ b => Tg.len b + 1
  | _ => 0
theorem binds_length : ∀ (t : Tg) (ds : List DL.D) (ρ ρ' : Env), Tg.binds t ds ρ = some ρ' → ds.length = t.len
  | .z, [], _, _, _ => rfl
  | .z, _ :: _, _, _, h => by unfold Tg.binds at h; cases h
  | .c a b, [], _, _, h => by unfold Tg.binds at h; cases h
  | .c a b, d :: ds, ρ, ρ', h => by
    unfold Tg.binds at h
    obtain ⟨ρ1, h1, h2⟩ := Option.bind_eq_some_iff.mp h
    have := binds_length b ds ρ1 ρ' h2
    simp only [List.length_cons, this, Tg.len]
  | .n i, ds, _, _, h => by unfold Tg.binds at h; cases h
  | .t ts, ds, _, _, h => by unfold Tg.binds at h; cases h
theorem dg_tup {t : Tg} {k : Nat} {ws : List Nat} (hc : X.calm = true) (h : PGs X es (TGbs X.K CA ws (Tg.binds t))) (hs : es.all notStar = true) (hl : es.length = t.len) : PG X (.Tuple es k pos) (TGb X.K CA ws (Tg.bind (.t t))) :=
  PG.weak (pg_tup hc h (each_len es) (each_none hs)) fun v σ H Q ⟨B, G0, G, ρ, d, em, r, ρ', e, q⟩ => by
    cases d with
    | tup ds =>
      unfold Tg.bind at e
      cases r with | tup h1 rs =>
      exact ⟨_, _, rfl, sqT_le em.gh h1, by rw [rs.length, binds_length _ _ _ _ e, hl], B, G0, G, ρ, ds, em, rs, ρ', e, q⟩
    | _ => unfold Tg.bind at e; cases e
/-! ### assignments -/
theorem ds_set {i : Nat} {x : Str} {m : Env → R Cell} (ok : Frame.ok i) (hN : X.N.Nodup) (hi : X.N[i]? = some x) (hx : Loc X.env.scope x) (hf : X.fn x = true ∨ X.env.scope.names.lookup x = some .local) (he : PE X e (TC X.K CA W m)) (hs : swapsWith e (some (.Name x p1)) pos.line X.env = pure false) :
    PS X (.Assign [.Name x p1] e pos) (TSf X.K CA W fun ρ => (m ρ).bind fun c ρ => if i < ρ.length ∧ c.isP = true then .ok .nx (ρ.set i (some c)) else .no) :=
  PS.weak (ps_set hN hi hx he hs hf) fun D σ H ⟨B, G0, G, ρ, em, p⟩ => tv_bind (ρ := ρ) em p fun c ρ v H' G' lh lg em' r q => by
    by_cases hl : i < ρ.length ∧ c.isP = true
    · simp only [if_pos hl] at q
      exact q _ _ G' (Le.refl _) (em'.set ok r hl.1 hl.2)
    · simp only [if_neg hl] at q; exact q.elim
theorem sole_swaps {l : Nat} {env : PySem.Env} (h : notComp e = true) : swapsWithSole [tg] e l env = pure false := comp_swaps h
def notTup : Expr → Bool
  | .Tuple _ _ _ => false
  | _ => true
theorem swapped_none {k : Nat} {env : PySem.Env} (h : notTup e = true) : swappedStores [.Tuple es k p1] e env = pure none := by
  unfold swappedStores
  cases e <;> first | rfl | cases h
theorem ds_setT {t : Tg} {k : Nat} {ws : List Nat} {m : Env → R DL.D} (hg : PG X (.Tuple es k p1) (TGb X.K CA ws (Tg.bind t))) (he : PE X e (TD X.K CA W m)) (hs : notComp e = true) (ht : notTup e = true) :
    PS X (.Assign [.Tuple es k p1] e pos) (TSf X.K CA W fun ρ => (m ρ).bind fun d ρ => (R.lift (t.bind d ρ) ρ).bind fun ρ _ => .ok .nx ρ) :=
  PS.weak (ps_asg he hg (sole_swaps hs) (swapped_none ht) rfl) fun D σ H ⟨B, G0, G, ρ, em, p⟩ => tv_bind (ρ := ρ) em p fun d ρ v H' G' lh lg em' r q => by
    cases hb : t.bind d ρ with
    | none => rw [hb] at q; exact q.elim
    | some ρ' =>
      rw [hb] at q
      exact ⟨B, G0, G', ρ, d, em', r, ρ', hb, fun σ' _ _ em2 => q σ' H' G' (Le.refl _) em2⟩
/-! ### stores -/
theorem PSet.or {t u : TSet} (h : PSet X t) (h' : PSet X u) : PSet X fun o i v H Q => t o i v H Q ∨ u o i v H Q := fun pins s σ H o i v ov iv uu Q I ro ri rv q => by
  rcases q with q | q
  · exact h pins s σ H o i v ov iv uu Q I ro ri rv q
  · exact h' pins s σ H o i v ov iv uu Q I ro ri rv q
theorem sub_swaps {l : Nat} {env : PySem.Env} {o j : Expr} {q : Pos} : swapsWithSole [.Subscript o j q] e l env = pure false := by
  cases e <;> rfl
omit [Frame] in
theorem att_swaps {l : Nat} {env : PySem.Env} {o : Expr} {f : Str} {q : Pos} : swapsWith e (some (.Attribute o f q)) l env = pure false := by
  cases e <;> rfl
theorem sub_swapped {env : PySem.Env} {o j : Expr} {q : Pos} : swappedStores [.Subscript o j q] e env = pure none := by
  unfold swappedStores
  cases e <;> rfl
theorem sub_assign {env : PySem.Env} {o j : Expr} {q : Pos} (h : notSlice j = true) : ∀ v, assign (.Subscript o j q) env v = (do
      let ov ← holding [v] (eval o env)
      let iv ← holding [v, ov] (eval j env)
      standAt q
      holding [v, ov, iv] (setItem ov iv v)
      release [v, ov, iv] []) := by
  intro v
  cases j <;> first | rfl | cases h
theorem Reps.setN {K : PySem.W.Frag} {vs : List V} {ds : List DL.D} {v : V} {d : DL.D} (n : Nat) (r : Reps K CA G vs ds) (q : Rep K CA G v d) : Reps K CA G (vs.set n v) (ds.set n d) := r.set n q
theorem RepK.any {K : PySem.W.Frag} {k : Key} : ∀ {vs : List (Key × V)} {ds : List (Key × DL.D)}, RepK K CA G vs ds → (vs.any fun kv => decide (kv.1 = k)) = (ds.any fun kv => decide (kv.1 = k))
  | _, _, .nil => rfl
  | _, _, .cons r t => by rw [List.any_cons, List.any_cons, RepK.any t]
theorem RepK.mapPut {K : PySem.W.Frag} {k : Key} {v : V} {d : DL.D} (q : Rep K CA G v d) : ∀ {vs : List (Key × V)} {ds : List (Key × DL.D)}, RepK K CA G vs ds → RepK K CA G (vs.map fun kv => if kv.1 = k then (kv.1, v) else kv) (ds.map fun kv => if kv.1 = k then (kv.1, d) else kv)
  | _, _, .nil => .nil
  | _, _, .cons (k := k') r t => by
    rw [List.map_cons, List.map_cons]
    by_cases h : k' = k
    · simp only [h, if_true]; exact .cons q (RepK.mapPut q t)
    · simp only [h, if_false]; exact .cons r (RepK.mapPut q t)
theorem RepK.snoc {K : PySem.W.Frag} {k : Key} {v : V} {d : DL.D} (q : Rep K CA G v d) : ∀ {vs : List (Key × V)} {ds : List (Key × DL.D)}, RepK K CA G vs ds → RepK K CA G (vs ++ [(k, v)]) (ds ++ [(k, d)])
  | _, _, .nil => .cons q .nil
  | _, _, .cons r t => .cons r (RepK.snoc q t)
theorem RepK.put {K : PySem.W.Frag} {k : Key} {v : V} {d : DL.D} {vs : List (Key × V)} {ds : List (Key × DL.D)} (r : RepK K CA G vs ds) (q : Rep K CA G v d) : RepK K CA G (putK vs k v) (putDk k d ds) := by
  unfold putK putDk
  rw [RepK.any r]
  cases (ds.any fun kv => decide (kv.1 = k)) with
  | true => rw [if_pos rfl, if_pos rfl]; exact RepK.mapPut q r
  | false => rw [if_neg Bool.false_ne_true, if_neg Bool.false_ne_true]; exact RepK.snoc q r
theorem ds_seti {s : Nat} {m : Env → R DL.D} {mi : Env → R DL.D} (hu : X.A.units + 1 < cLine) (ho : PE X a (tVar s)) (hi : PE X i (TP X.K CA W mi)) (he : PE X e (TD X.K CA W m)) (hs : notSlice i = true) :
    PS X (.Assign [.Subscript a i p1] e pos) (TSf X.K CA W fun ρ => (m ρ).bind fun x ρ => if isO ρ s = true then (mi ρ).bind fun k ρ => (R.lift (chgO ρ s (setD k x)) ρ).bind fun ρ _ => .ok .nx ρ else .no) :=
  PS.weak (ps_asg he (pg_sub ho hi (PSet.or set_list (set_dict hu)) (sub_assign hs)) sub_swaps sub_swapped rfl) fun D σ H ⟨B, G0, G, ρ, em, p⟩ => tv_bind (ρ := ρ) em p fun x ρ v H' G' lh lg em' r q => by
    cases hO : isO ρ s with
    | false => simp only [hO, if_neg Bool.false_ne_true] at q; exact q.elim
    | true =>
    simp only [hO, if_true] at q
    show ∃ o, σ[s]? = some (some o) ∧ _
    have hz : ∃ o, σ[s]? = some (some o) := isO_of em' hO
    obtain ⟨o, ho⟩ := hz
    refine ⟨o, ho, tv_bind (ρ := ρ) em' q fun k ρ1 w H1 G1 lh1 lg1 em1 r1 q1 => ?_⟩
    unfold chgO at q1
    cases h1 : curO ρ1 s with
    | none => rw [h1] at q1; exact q1.elim
    | some d =>
    rw [h1] at q1
    obtain ⟨a, ha, hown, hput⟩ := em1.putC h1
    rw [ho] at ha; cases ha
    cases d with
    | lst xs =>
      obtain ⟨vs, hl, rs⟩ := hown
      cases k with
      | int j =>
        cases hj : ixN xs.length j with
        | none => simp only [setD, hj, Option.map_none, R.lift_none] at q1; exact q1.elim
        | some n =>
          simp only [setD, hj, Option.map_some, R.lift_some] at q1
          have hw := r1.int
          refine .inl ⟨a, vs, j, n, rfl, hw, hl, by rw [rs.length]; exact hj, ?_⟩
          exact q1 _ _ G1 (Le.refl _) (hput _ _ ⟨_, upd_same, rs.setN n (r.le lg1)⟩)
      | _ => exact q1.elim
    | dct xs =>
      obtain ⟨vs, hl, rs⟩ := hown
      by_cases hc : xs.length < cap
      · cases hk : keyD k with
        | none => simp only [setD, if_pos hc, hk, Option.map_none, R.lift_none] at q1; exact q1.elim
        | some k' =>
          simp only [setD, if_pos hc, hk, Option.map_some, R.lift_some] at q1
          refine .inr ⟨a, _, rfl, .inl ⟨vs, k', hl, keyD_rep r1 hk, by rw [rs.length, ← cap_line]; exact hc, rfl⟩, ?_⟩
          exact q1 _ _ G1 (Le.refl _) (hput _ _ ⟨_, upd_same, rs.put (r.le lg1)⟩)
      · simp only [setD, if_neg hc, Option.map_none, R.lift_none] at q1; exact q1.elim
    | _ => exact q1.elim
end
end DL

set_option maxHeartbeats 4000000
/-! DL12: more statements. -/
namespace DL
open PySem PySem.Spec PyProof.Rows L2
theorem R.bind_assoc {α β γ : Type} (r : R α) (f : α → DL.Env → R β) (g : β → DL.Env → R γ) : (r.bind f).bind g = r.bind fun a ρ => (f a ρ).bind g := by cases r <;> rfl
/-! ### list.extend of any list -/
theorem list_extendW (l : Addr) (items : Array Value) (n : Nat) (b : Addr) (items2 : Array Value) (n2 : Nat) (sl2 : Array (Option Value)) (hc0 : ¬(!items.isEmpty && Builtin.List.listTooLong (items.size + items2.size)) = true) (hc1 : items.size ≤ sizeLine) (hs2 : items.size + items2.size ≤ sizeLine + 1) :
    Meets (Builtin.«list.extend» ⟨[.ref l, .ref b], []⟩) (fun _ R s => s.heap.get? l = some { cls := .type "list", dict := none, data := .seq items n, slots := #[] } ∧ s.heap.get? b = some { cls := .type "list", dict := none, data := .seq items2 n2, slots := sl2 } ∧ R (.ok (.ret Value.none)) { s with heap := s.heap.update l (Obj.mapSeq fun x => x ++ items2), toks := s.toks }) :=
  .of_wp fun prog w A R s h => by
    obtain ⟨hp, g, d, tk, os⟩ := s; obtain ⟨hl, hb, h⟩ := h; have f1 := AutoSeq1.idx_int; have f2 := AutoSeq1.sub_tuple_tuple; have f3 := AutoSeq1.sub_list_list; have f4 := AutoSeq1.sub_tuple_list; have f5 := AutoSeq1.sub_list_tuple;
    have hz' : (items ++ items2).size ≤ sizeLine + 1 := by rw [Array.size_append]; exact hs2
    wp_walk using (wpAny_updateSeq hl rfl (hz := hc1) (_hz' := hz')), wpAny_loadPart' hl, wpAny_loadPart' hb; exact ⟨_, rfl, h⟩
def rExtendS (K : PySem.W.Frag) : V → List V → Hp → VK → Prop := fun x vs H Q => ∃ l b xs zs, x = .ref l ∧ vs = [.ref b] ∧ H l = some (.lst xs) ∧ SqL K H b zs ∧ xs.length + zs.length ≤ sizeLine ∧ Q .non (upd H l (.lst (xs ++ zs)))
theorem mt_extendS {X : Cx} : MtM X "list.extend" (rExtendS X.K) := by
  intro pins s σ H x vs v us Q I rx rv h
  obtain ⟨l, b, xs, zs, rfl, rfl, hH, hB, hz, q⟩ := h
  cases rx
  obtain ⟨u, rfl, ru⟩ := rv.one
  cases ru
  obtain ⟨z, its, n, r, hl, e⟩ := I.lstM hH
  obtain ⟨its2, r2, ⟨⟨c2, d2, t2, s2⟩, n2, e2, hc2, hd2, ht2⟩, hl2⟩ := I.list hB
  have hl2' := r2.length
  subst hc2 hd2 ht2
  have hsz : its.toArray.size + its2.toArray.size ≤ sizeLine := by rw [List.size_toArray, List.size_toArray]; omega
  have hlong : ¬ (!its.toArray.isEmpty && Builtin.List.listTooLong (its.toArray.size + its2.toArray.size)) = true := by
    rw [notLongL hsz, Bool.and_false]
    exact Bool.false_ne_true
  refine call_meets F.slot_list_extend ⟨_, e, rfl⟩ F.entry_list_extend (F.args_list_extend_2 _ _)
    (list_extendW l its.toArray n b its2.toArray n2 s2 hlong (by rw [List.size_toArray]; omega) (by omega)) ⟨e, e2, ?_⟩
  refine ⟨.non, _, I.lset (its' := its ++ its2) hH e (by simp) (r.append r2) ?_, rfl, q⟩
  rw [List.length_append]
  omega
section
variable [Frame] {CA : Nat → Addr} {W : WX} {X : Cx} {a b c e i tg : Expr} {es : List Expr} {st : Stmt} {sts body a1 b1 : List Stmt} {ma mb mc : Env → R D} {pos p p1 p2 apos : Pos} {B G0 G H G' H' : Hp} {σ : L2.St} {ρ : Env} {D : Ends} {Q : VK} {s : Nat}
/-- what is owned in slot s, changed -/
theorem chg_of {K : PySem.W.Frag} {f : DL.D → Option DL.D} {D : Ends} {o : V} (em : Em K CA B G0 H G σ ρ) (hs : σ[s]? = some (some o)) (q : PostS K CA W B G0 G D ((R.lift (chgO ρ s f) ρ).bind fun ρ _ => .ok .nx ρ)) :
    ∃ a d d', o = .ref a ∧ OwnAt K CA G H a d ∧ f d = some d' ∧ ∀ u, OwnAt K CA G (upd H a u) a d' → D.nx σ (upd H a u) := by
  unfold chgO at q
  cases h1 : curO ρ s with
  | none => rw [h1] at q; exact q.elim
  | some d =>
    rw [h1] at q
    obtain ⟨a, ha, hown, hput⟩ := em.putC h1
    rw [hs] at ha; cases ha
    cases hf : f d with
    | none => simp only [hf, Option.map_none, R.lift_none] at q; exact q.elim
    | some d' =>
      simp only [hf, Option.map_some, R.lift_some] at q
      exact ⟨a, d, d', rfl, hown, hf, fun u hu => q _ _ G (Le.refl _) (hput _ _ hu)⟩
theorem ds_setf {f : Str} {n : Nat} {m : Env → R DL.D} (hc : ∀ c, c < n → Cls X.K (CA c)) (hn : ∀ c, c < n → NoAttr X.K (CA c) f) (ho : PE X a (tVar s)) (he : PE X e (TD X.K CA W m)) :
    PS X (.Assign [.Attribute a f p1] e pos) (TSf X.K CA W fun ρ => (m ρ).bind fun x ρ => (R.lift (chgO ρ s (fldD n f x)) ρ).bind fun ρ _ => .ok .nx ρ) :=
  PS.weak (ps_fld ho he att_swaps) fun D σ H ⟨B, G0, G, ρ, em, p⟩ => tv_bind (ρ := ρ) em p fun x ρ v H' G' lh lg em' r q => by
    have hO : isO ρ s = true := by
      unfold chgO at q
      unfold isO
      split at q
      · rename_i h; rw [h]; rfl
      · exact q.elim
    obtain ⟨o, ho⟩ := isO_of em' hO
    obtain ⟨a, d, d', ea, hown, hf, hq⟩ := chg_of em' ho q
    cases d with
    | ins c fs =>
      unfold fldD at hf
      dsimp only at hf
      by_cases hz : c < n ∧ fs.length < 1000
      · rw [if_pos hz] at hf; cases hf
        obtain ⟨dx, vs, h1, h2⟩ := hown
        refine ⟨o, ho, a, CA c, dx, vs, ea, h1, hc c hz.1, hn c hz.1, by rw [h2.length]; exact hz.2, ?_⟩
        exact hq _ ⟨dx, _, upd_same, h2.put r⟩
      · rw [if_neg hz] at hf; cases hf
    | _ => cases hf
/-! ### methods of lists -/
theorem few {pos : Pos} {env : PySem.Env} (h : es.all notStar = true) (hl : es.length < 30) : ((backTo pos (starEach es env)).all (fun x => !x.1) && (backToKw pos (keywordEach [] env)).all (fun x => x.1.isSome)
      && decide (es.length + ([] : List Keyword).length + (if ([] : List Keyword).isEmpty then 0 else 1) < 30)) = true := by
  rw [star_all h]
  have : decide (es.length + ([] : List Keyword).length + (if ([] : List Keyword).isEmpty then 0 else 1) < 30) = true := by
    rw [decide_eq_true_iff]; simpa using hl
  rw [this]; rfl
theorem notSuper_var {x : Str} {q : Pos} : notSuper (.Name x q) = true := rfl
theorem pe_lm1 {o' : Expr} {name : Str} {id : String} {r : V → List V → Hp → VK → Prop} {to : TE} {t : TA} (slot : Slot "list" name id) (hty : typeOf (.builtin id) = pure (.type "method_descriptor")) (hm : MtR X id r) (ho : PE X o' to) (ha : PA X (e :: es) t)
    (h1 : notSuper o' = true) (h2 : notStar e = true) (h2' : es.all notStar = true) (h3 : (e :: es).length < 30) (h4 : (apos.endLine == pos.line) = true) : PE X (.Call (.Attribute o' name apos) (e :: es) [] pos) (tBM X.K "list" r to t) :=
  pe_bm PySem.F.plainAttrs_list slot hty hm ho ha (super_not h1) (few (by rw [List.all_cons, h2, h2']; rfl) h3) h4 (star_cons h2) (star_none h2')
theorem ds_app {m : Env → R DL.D} (ho : PE X a (tVar s)) (he : PE X e (TD X.K CA W m)) (h1 : notSuper a = true) (h2 : notStar e = true) (h4 : (apos.endLine == p1.line) = true) :
    PS X (.Expr (.Call (.Attribute a "append" apos) [e] [] p1) pos) (TSf X.K CA W fun ρ => if isL ρ s = true then (m ρ).bind fun x ρ => (R.lift (chgO ρ s (appD x)) ρ).bind fun ρ _ => .ok .nx ρ else .no) :=
  PS.weak (ps_expr (pe_lm1 F.slot_list_append F.type_list_append mt_append ho (pa_cons he pa_nil (star_cons h2)) h1 h2 rfl (Nat.lt_of_sub_eq_succ rfl) h4) rfl) fun D σ H ⟨B, G0, G, ρ, em, p⟩ => by
    dsimp only at p
    cases hO : isL ρ s with
    | false => simp only [hO, if_neg Bool.false_ne_true] at p; exact p.elim
    | true =>
    simp only [hO, if_true] at p
    obtain ⟨a, ha, ty⟩ := isL_of em hO
    refine ⟨.ref a, ha, ty, tv_bind em p fun x ρ v H' G' lh lg em' r q => ?_⟩
    obtain ⟨a', d, d', ea, hown, hf, hq⟩ := chg_of em' ha q
    cases d with
    | lst xs =>
      obtain ⟨vs, h3, rs⟩ := hown
      unfold appD at hf; dsimp only at hf
      by_cases hz : xs.length < cap
      · rw [if_pos hz] at hf; cases hf; cases ea
        exact ⟨_, vs, v, rfl, rfl, h3, by rw [rs.length, ← cap_line]; exact hz, hq _ ⟨_, upd_same, rs.append (.one r)⟩⟩
      · rw [if_neg hz] at hf; cases hf
    | _ => cases hf
theorem ds_ext {m : Env → R DL.D} (ho : PE X a (tVar s)) (he : PE X e (TP X.K CA W m)) (h1 : notSuper a = true) (h2 : notStar e = true) (h4 : (apos.endLine == p1.line) = true) :
    PS X (.Expr (.Call (.Attribute a "extend" apos) [e] [] p1) pos) (TSf X.K CA W fun ρ => if isL ρ s = true then (m ρ).bind fun x ρ => (match x with
      | .lst ys => (R.lift (chgO ρ s (extD ys)) ρ).bind fun ρ _ => .ok .nx ρ
      | _ => .no) else .no) :=
  PS.weak (ps_expr (pe_lm1 F.slot_list_extend F.type_list_extend mt_extendS ho (pa_cons he pa_nil (star_cons h2)) h1 h2 rfl (Nat.lt_of_sub_eq_succ rfl) h4) rfl) fun D σ H ⟨B, G0, G, ρ, em, p⟩ => by
    dsimp only at p
    cases hO : isL ρ s with
    | false => simp only [hO, if_neg Bool.false_ne_true] at p; exact p.elim
    | true =>
    simp only [hO, if_true] at p
    obtain ⟨a, ha, ty⟩ := isL_of em hO
    refine ⟨.ref a, ha, ty, tv_bind em p fun x ρ v H' G' lh lg em' r q => ?_⟩
    cases x with
    | lst ys =>
      obtain ⟨a', d, d', ea, hown, hf, hq⟩ := chg_of em' ha q
      obtain ⟨b, ws, eb, hb, rb⟩ := PRep.lst r em'.gh
      cases d with
      | lst xs =>
        obtain ⟨vs, h3, rs⟩ := hown
        unfold extD at hf; dsimp only at hf
        by_cases hz : xs.length + ys.length ≤ cap
        · rw [if_pos hz] at hf; cases hf; cases ea
          exact ⟨_, b, vs, ws, rfl, by rw [eb], h3, hb, by rw [rs.length, rb.length, ← cap_line]; exact hz, hq _ ⟨_, upd_same, rs.append rb⟩⟩
        · rw [if_neg hz] at hf; cases hf
      | _ => cases hf
    | _ => exact q.elim
theorem ds_insr {m mi : Env → R DL.D} (ho : PE X a (tVar s)) (hi : PE X i (TD X.K CA W mi)) (he : PE X e (TD X.K CA W m)) (h1 : notSuper a = true) (h2 : notStar i = true) (h3 : notStar e = true) (h4 : (apos.endLine == p1.line) = true) :
    PS X (.Expr (.Call (.Attribute a "insert" apos) [i, e] [] p1) pos) (TSf X.K CA W fun ρ => if isL ρ s = true then (mi ρ).bind fun k ρ => (m ρ).bind fun x ρ => (match k with
    | .int k => (R.lift (chgO ρ s (insD k x)) ρ).bind fun ρ _ => .ok .nx ρ
    | _ => .no) else .no) :=
  PS.weak (ps_expr (pe_lm1 F.slot_list_insert F.type_list_insert mt_insert ho (pa_cons hi (pa_cons he pa_nil (star_cons h3)) (star_cons h2)) h1 h2 (by rw [List.all_cons, h3]; rfl) (Nat.lt_of_sub_eq_succ rfl) h4) rfl) fun D σ H ⟨B, G0, G, ρ, em, p⟩ => by
    dsimp only at p
    cases hO : isL ρ s with
    | false => simp only [hO, if_neg Bool.false_ne_true] at p; exact p.elim
    | true =>
    simp only [hO, if_true] at p
    obtain ⟨a, ha, ty⟩ := isL_of em hO
    refine ⟨.ref a, ha, ty, tv_bind em p fun k ρ u H1 G1 lh1 lg1 em1 r1 p1 => tv_bind em1 p1 fun x ρ v H' G' lh lg em' r q => ?_⟩
    cases k with
    | int k =>
      obtain ⟨a', d, d', ea, hown, hf, hq⟩ := chg_of em' ha q
      cases d with
      | lst xs =>
        obtain ⟨vs, h3, rs⟩ := hown
        unfold insD at hf; dsimp only at hf
        by_cases hz : xs.length < cap ∧ 0 ≤ k ∧ k < 2 ^ 63
        · rw [if_pos hz] at hf; cases hf; cases ea
          cases r1
          exact ⟨_, vs, k, v, rfl, rfl, h3, by rw [rs.length, ← cap_line]; exact hz.1, hz.2.1, hz.2.2, hq _ ⟨_, upd_same, ((rs.take _).append (.one r)).append (rs.drop _)⟩⟩
        · rw [if_neg hz] at hf; cases hf
      | _ => cases hf
    | _ => exact q.elim
theorem pop_of {K : PySem.W.Frag} {D : Ends} {o : V} {i : Option Int} {k : DL.D → Env → R Fl} (em : Em K CA B G0 H G σ ρ) (hs : σ[s]? = some (some o)) (q : PostS K CA W B G0 G D (popK ρ s i k)) :
    ∃ a xs vs n v d, o = .ref a ∧ H a = some (.lst vs) ∧ Reps K CA G vs xs ∧ vs[n]? = some v ∧ (match i with
      | none => n = vs.length - 1
      | some i => -(2 ^ 63) ≤ i ∧ i < 2 ^ 63 ∧ seqIndex? i vs.length = some n) ∧ Rep K CA G v d ∧
      let ws := match i with
        | none => vs.dropLast
        | some _ => vs.eraseIdx n
      ∃ ρ', Em K CA B G0 (upd H a (.lst ws)) G σ ρ' ∧ PostS K CA W B G0 G D (k d ρ') := by
  unfold popK at q
  cases h1 : curO ρ s with
  | none => rw [h1] at q; exact q.elim
  | some d =>
    rw [h1] at q
    obtain ⟨a, ha, hown, hput⟩ := em.putC h1
    rw [hs] at ha; cases ha
    dsimp only at q
    cases d with
    | lst xs =>
      obtain ⟨vs, h3, rs⟩ := hown
      cases i with
      | none =>
        cases hg : xs[xs.length - 1]? with
        | none => simp only [popD, hg, Option.map_none, R.lift_none] at q; exact q.elim
        | some d =>
          simp only [popD, hg, Option.map_some, R.lift_some] at q
          obtain ⟨v, hv, rv⟩ := rs.get hg
          refine ⟨a, xs, vs, _, v, d, rfl, h3, rs, hv, by rw [rs.length], rv, _, hput _ (.lst xs.dropLast) ⟨_, upd_same, ?_⟩, q⟩
          rw [List.dropLast_eq_take, List.dropLast_eq_take, rs.length]
          exact rs.take _
      | some i =>
        by_cases hz : -(2 ^ 63) ≤ i ∧ i < 2 ^ 63
        · cases hk : seqIndex? i xs.length with
          | none => simp only [popD, if_pos hz, hk, Option.bind_none, R.lift_none] at q; exact q.elim
          | some n =>
            cases hg : xs[n]? with
            | none => simp only [popD, if_pos hz, hk, Option.bind_some, hg, Option.map_none, R.lift_none] at q; exact q.elim
            | some d =>
              simp only [popD, if_pos hz, hk, Option.bind_some, hg, Option.map_some, R.lift_some] at q
              obtain ⟨v, hv, rv⟩ := rs.get hg
              exact ⟨a, xs, vs, n, v, d, rfl, h3, rs, hv, ⟨hz.1, hz.2, by rw [rs.length]; exact hk⟩, rv, _, hput _ (.lst (xs.eraseIdx n)) ⟨_, upd_same, rs.eraseIdx n⟩, q⟩
        · simp only [popD, if_neg hz, R.lift_none] at q; exact q.elim
    | _ => exact q.elim
/-- what pop's place is -/
inductive PPop (X : Cx) (CA : Nat → Addr) (W : WX) : List Expr → (Env → R (Option Int)) → Prop
  | non : PPop X CA W [] fun ρ => .ok none ρ
  | one {e : Expr} {m : Env → R DL.D} (he : PE X e (TP X.K CA W m)) (hs : notStar e = true) : PPop X CA W [e] fun ρ => (m ρ).bind fun x ρ => (R.lift (intO x) ρ).bind fun i ρ => .ok (some i) ρ
def tPop (K : PySem.W.Frag) (CA : Nat → Addr) (W : WX) (s : Nat) (mi : Env → R (Option Int)) : TE := fun σ H Q => ∃ D k B G0 G ρ, Em K CA B G0 H G σ ρ ∧ isL ρ s = true ∧ PostS K CA W B G0 G D ((mi ρ).bind fun i ρ => popK ρ s i k) ∧
  ∀ v d H' G' ρ', Le G G' → Em K CA B G0 H' G' σ ρ' → Rep K CA G' v d → PostS K CA W B G0 G' D (k d ρ') → Q v H'
theorem pe_pop {es : List Expr} {mi : Env → R (Option Int)} (hp : PPop X CA W es mi) (ho : PE X a (tVar s)) (h1 : notSuper a = true) (h4 : (apos.endLine == p1.line) = true) : PE X (.Call (.Attribute a "pop" apos) es [] p1) (tPop X.K CA W s mi) := by
  cases hp with
  | non =>
    refine PE.weak (pe_bm0 PySem.F.plainAttrs_list F.slot_list_pop F.type_list_pop mt_pop ho (super_not h1) h4) fun σ H Q ⟨D, k, B, G0, G, ρ, em, hO, p, hq⟩ => ?_
    simp only [R.bind_ok] at p
    obtain ⟨a, ha, ty⟩ := isL_of em hO
    obtain ⟨a', xs, vs, n, v, d, ea, h3, rs, hv, hn, rv, ρ', em', q⟩ := pop_of em ha p
    cases ea
    dsimp only at hn; subst hn
    exact ⟨.ref a, ha, ty, a, vs, v, rfl, rfl, h3, hv, hq _ _ _ _ _ (Le.refl _) em' rv q⟩
  | one he hs =>
    refine PE.weak (pe_lm1 F.slot_list_pop F.type_list_pop mt_popAt ho (pa_cons he pa_nil (star_cons hs)) h1 hs rfl (Nat.lt_of_sub_eq_succ rfl) h4) fun σ H Q ⟨D, k, B, G0, G, ρ, em, hO, p, hq⟩ => ?_
    obtain ⟨a, ha, ty⟩ := isL_of em hO
    dsimp only at p
    rw [R.bind_assoc] at p
    refine ⟨.ref a, ha, ty, tv_bind em (D := D) (k := fun x ρ => ((R.lift (intO x) ρ).bind fun i ρ => .ok (some i) ρ).bind fun i ρ => popK ρ s i k) p fun x ρ u H1 G1 lh1 lg1 em1 r1 p1 => ?_⟩
    cases x with
    | int i =>
      simp only [intO, R.lift_some, R.bind_ok] at p1
      obtain ⟨a', xs, vs, n, v, d, ea, h3, rs, hv, hn, rv, ρ', em', q⟩ := pop_of em1 ha p1
      cases ea
      exact ⟨a, vs, i, n, v, rfl, by rw [PRep.int r1], h3, hn.1, hn.2.1, hn.2.2, hv, hq _ _ _ _ _ lg1 em' rv q⟩
    | _ => exact p1.elim
theorem ds_popx {es : List Expr} {mi : Env → R (Option Int)} (hp : PPop X CA W es mi) (ho : PE X a (tVar s)) (h1 : notSuper a = true) (h4 : (apos.endLine == p1.line) = true) : PS X (.Expr (.Call (.Attribute a "pop" apos) es [] p1) pos) (TSf X.K CA W fun ρ => if isL ρ s = true then (mi ρ).bind fun i ρ => popK ρ s i fun _ ρ => .ok .nx ρ else .no) :=
  PS.weak (ps_expr (pe_pop hp ho h1 h4) rfl) fun D σ H ⟨B, G0, G, ρ, em, p⟩ => by
    dsimp only at p
    cases hO : isL ρ s with
    | false => simp only [hO, if_neg Bool.false_ne_true] at p; exact p.elim
    | true =>
    simp only [hO, if_true] at p
    exact ⟨D, _, B, G0, G, ρ, em, hO, p, fun v d H' G' ρ' lg em' r q => q _ _ _ (Le.refl _) em'⟩
theorem ds_pop {es : List Expr} {mi : Env → R (Option Int)} {t : Nat} {x : Str} (ok : Frame.ok t) (hN : X.N.Nodup) (ht : X.N[t]? = some x) (hx : Loc X.env.scope x) (hf : X.fn x = true ∨ X.env.scope.names.lookup x = some .local) (hp : PPop X CA W es mi) (ho : PE X a (tVar s)) (h1 : notSuper a = true) (h4 : (apos.endLine == p1.line) = true) :
    PS X (.Assign [.Name x p2] (.Call (.Attribute a "pop" apos) es [] p1) pos) (TSf X.K CA W fun ρ => if isL ρ s = true then (mi ρ).bind fun i ρ => popK ρ s i fun d ρ => if t < ρ.length then .ok .nx (ρ.set t (some (.sh d))) else .no else .no) :=
  PS.weak (ps_set hN ht hx (pe_pop hp ho h1 h4) rfl hf) fun D σ H ⟨B, G0, G, ρ, em, p⟩ => by
    dsimp only at p
    cases hO : isL ρ s with
    | false => simp only [hO, if_neg Bool.false_ne_true] at p; exact p.elim
    | true =>
    simp only [hO, if_true] at p
    refine ⟨D, _, B, G0, G, ρ, em, hO, p, fun v d H' G' ρ' lg em' r q => ?_⟩
    by_cases hl : t < ρ'.length
    · simp only [if_pos hl] at q
      exact q _ _ G' (Le.refl _) (em'.set ok ⟨r, fun _ z => by cases z⟩ hl)
    · simp only [if_neg hl] at q; exact q.elim
/-! ### flow -/
theorem ds_expr {m : Env → R Cell} (he : PE X e (TC X.K CA W m)) (hs : notComp e = true) : PS X (.Expr e pos) (TSf X.K CA W fun ρ => (m ρ).bind fun _ ρ => .ok .nx ρ) :=
  PS.weak (ps_expr he (comp_swaps hs)) fun D σ H ⟨B, G0, G, ρ, em, p⟩ => tv_bind em p fun c ρ v H' G' lh lg em' r q => q _ _ G' (Le.refl _) em'
theorem ds_pass : PS X (.Pass pos) (TSf X.K CA W fun ρ => .ok .nx ρ) := PS.weak ps_pass fun D σ H ⟨B, G0, G, ρ, em, p⟩ => p _ _ G (Le.refl _) em
theorem ds_brk : PS X (.Break pos) (TSf X.K CA W fun ρ => .ok .bk ρ) := PS.weak ps_break fun D σ H ⟨B, G0, G, ρ, em, p⟩ => p _ _ G (Le.refl _) em
theorem ds_cnt : PS X (.Continue pos) (TSf X.K CA W fun ρ => .ok .ct ρ) := PS.weak ps_continue fun D σ H ⟨B, G0, G, ρ, em, p⟩ => p _ _ G (Le.refl _) em
theorem ds_retn : PS X (.Return none pos) (TSf X.K CA W fun ρ => .ok (.rt (.sh .non)) ρ) := PS.weak ps_retN fun D σ H ⟨B, G0, G, ρ, em, p⟩ => p _ _ G (Le.refl _) em .non .non
theorem ds_ret {m : Env → R Cell} (he : PE X e (TC X.K CA W m)) : PS X (.Return (some e) pos) (TSf X.K CA W fun ρ => (m ρ).bind fun c ρ => .ok (.rt c) ρ) :=
  PS.weak (ps_ret he) fun D σ H ⟨B, G0, G, ρ, em, p⟩ => tv_bind em p fun c ρ v H' G' lh lg em' r q => q _ _ G' (Le.refl _) em' v r.1
def seqF (fl : Fl) (k : Env → R Fl) (ρ : Env) : R Fl := match fl with
  | .nx => k ρ
  | fl => .ok fl ρ
theorem dss_nil : PSs X [] (TSf X.K CA W fun ρ => .ok .nx ρ) := PSs.weak pss_nil fun D σ H ⟨B, G0, G, ρ, em, p⟩ => p _ _ G (Le.refl _) em
theorem dss_cons {m k : Env → R Fl} (h1 : PS X st (TSf X.K CA W m)) (h2 : PSs X sts (TSf X.K CA W k)) : PSs X (st :: sts) (TSf X.K CA W fun ρ => (m ρ).bind fun fl ρ => match fl with
    | .nx => k ρ
    | fl => .ok fl ρ) := PSs.weak (pss_cons h1 h2) fun D σ H ⟨B, G0, G, ρ, em, p⟩ => by
  refine ⟨B, G0, G, ρ, em, ?_⟩
  dsimp only at p
  cases hm : m ρ with
  | no => rw [hm] at p; exact p.elim
  | ex x ρ' => rw [hm] at p; exact p
  | ok fl ρ' =>
    rw [hm] at p; simp only [R.bind_ok] at p
    cases fl with
    | nx => exact fun σ' H' G' lg em' => ⟨B, G0, G', ρ', em', postS_le lg p⟩
    | bk => exact p
    | ct => exact p
    | rt c => exact p
theorem ds_if {m : Env → R Bool} {k l : Env → R Fl} (hc : PT X c (TTt X.K CA W m)) (ha : PSs X a1 (TSf X.K CA W k)) (hb : PSs X b1 (TSf X.K CA W l)) : PS X (.If c a1 b1 pos) (TSf X.K CA W fun ρ => (m ρ).bind fun b ρ => if b = true then k ρ else l ρ) :=
  PS.weak (ps_if hc ha hb) fun D σ H ⟨B, G0, G, ρ, em, p⟩ => tt_bind em p fun b ρ H' G' lh lg em' q => by
    cases b with
    | true => exact ⟨B, G0, G', ρ, em', q⟩
    | false => exact ⟨B, G0, G', ρ, em', q⟩
theorem ds_for {mi : Env → R (List DL.D)} {f : DL.D → Env → Option Env} {k : Env → R Fl} (hp : PassesOwn (model X.prog X.w) X.A X.env X.xe) (hc : X.calm = true) (hi : PI X tg i (TIf X.K CA W mi)) {ws : List Nat} (hg : PG X tg (TGb X.K CA ws f)) (hb : PSs X body (TSf X.K CA W k)) (hs : notSet i = true) :
    PS X (.For tg i body [] pos) (TSf X.K CA W fun ρ => (mi ρ).bind fun ds ρ => forF (fun d ρ => (R.lift (f d ρ) ρ).bind fun ρ _ => k ρ) ds ρ) :=
  PS.weak (ps_for hp hc hi hg hb (set_fold hs)) fun D σ H ⟨B, G0, G, ρ, em, p⟩ => by
    refine ⟨B, G0, G, ρ, em, ?_⟩
    dsimp only at p
    cases hm : mi ρ with
    | no => rw [hm] at p; exact p.elim
    | ex x ρ' => rw [hm] at p; exact fun H' G' cl dd lh lg em' xr => p σ H' G' cl dd lg em' xr
    | ok ds ρ' =>
      rw [hm] at p; simp only [R.bind_ok] at p
      intro J H1 G1 lh lg em1 fd
      refine ⟨fun n m σ H => ∃ G ρ, Le G1 G ∧ Em X.K CA B G0 H G σ ρ ∧ n ≤ ds.length ∧ m = ds.length - n ∧ PostS X.K CA W B G0 G D (forF (fun d ρ => (R.lift (f d ρ) ρ).bind fun ρ _ => k ρ) (ds.drop n) ρ), ⟨_, G1, ρ', Le.refl _, em1, Nat.zero_le _, rfl, postS_le lg p⟩, ?_⟩
      rintro n m σ H ⟨G2, ρ2, l2, em2, hn, hm, q⟩
      obtain ⟨f1, f2⟩ := fd n B G0 H G2 σ ρ2 l2 em2
      by_cases hl : n = ds.length
      · refine .inl ⟨f1 hl, ?_⟩
        rw [hl, List.drop_length] at q
        exact q _ _ _ (Le.refl _) em2
      · have hlt : n < ds.length := by omega
        obtain ⟨g1, g2⟩ := f2 _ (List.getElem?_eq_getElem hlt)
        rw [List.drop_eq_getElem_cons hlt] at q
        unfold forF at q
        refine .inr ⟨g1, fun σ' H' => ∃ m', m' < m ∧ ∃ G ρ, Le G1 G ∧ Em X.K CA B G0 H' G σ' ρ ∧ n + 1 ≤ ds.length ∧ m' = ds.length - (n + 1) ∧ PostS X.K CA W B G0 G D (forF (fun d ρ => (R.lift (f d ρ) ρ).bind fun ρ _ => k ρ) (ds.drop (n + 1)) ρ), fun σ' H' h => h, fun x H' hy => ?_⟩
        obtain ⟨G3, lh3, lg3, em3, r3⟩ := g2 x H' hy
        cases hf : f ds[n] ρ2 with
        | none => rw [hf] at q; exact q.elim
        | some ρ3 =>
          rw [hf] at q; simp only [R.lift_some, R.bind_ok] at q
          refine ⟨B, G0, G3, ρ2, _, em3, r3, ρ3, hf, fun σ4 _ _ em4 => ⟨B, G0, G3, ρ3, em4, ?_⟩⟩
          cases hk : k ρ3 with
          | no => rw [hk] at q; exact q.elim
          | ex x ρ5 => rw [hk] at q; exact fun σ H G cl dd lg => q σ H G cl dd (lg3.trans lg)
          | ok fl ρ5 =>
            rw [hk] at q; simp only [R.bind_ok] at q
            cases fl with
            | nx => exact fun σ H G lg em => ⟨_, by omega, G, ρ5, (l2.trans lg3).trans lg, em, hlt, rfl, postS_le (lg3.trans lg) q⟩
            | ct => exact fun σ H G lg em => ⟨_, by omega, G, ρ5, (l2.trans lg3).trans lg, em, hlt, rfl, postS_le (lg3.trans lg) q⟩
            | bk => exact fun σ H G lg em => q σ H G (lg3.trans lg) em
            | rt c => exact fun σ H G lg em => q σ H G (lg3.trans lg) em
theorem ds_whl {mc : Env → R Bool} {k : Env → R Fl} {N : Nat} (hp : PassesOwn (model X.prog X.w) X.A X.env X.xe) (hc : PT X c (TTt X.K CA W mc)) (hb : PSs X body (TSf X.K CA W k)) : PS X (.While c body [] pos) (TSf X.K CA W (whlF mc k N)) :=
  PS.weak (ps_while hp hc hb) fun D σ H ⟨B, G0, G, ρ, em, p⟩ => by
    refine ⟨fun n σ H => ∃ G ρ, Em X.K CA B G0 H G σ ρ ∧ PostS X.K CA W B G0 G D (whlF mc k n ρ), ⟨N, G, ρ, em, p⟩, ?_⟩
    rintro n σ H ⟨G2, ρ2, em2, q⟩
    cases n with
    | zero => exact q.elim
    | succ n =>
      unfold whlF at q
      refine tt_bind em2 q fun b ρ3 H3 G3 lh3 lg3 em3 q3 => ?_
      cases b with
      | false => simp only [if_neg Bool.false_ne_true] at q3 ⊢; exact q3 _ _ _ (Le.refl _) em3
      | true =>
        simp only [if_true] at q3 ⊢
        refine ⟨fun σ' H' => ∃ m', m' < n + 1 ∧ ∃ G ρ, Em X.K CA B G0 H' G σ' ρ ∧ PostS X.K CA W B G0 G D (whlF mc k m' ρ), fun σ' H' h => h, B, G0, G3, ρ3, em3, ?_⟩
        cases hk : k ρ3 with
        | no => rw [hk] at q3; exact q3.elim
        | ex x ρ5 => rw [hk] at q3; exact q3
        | ok fl ρ5 =>
          rw [hk] at q3; simp only [R.bind_ok] at q3
          cases fl with
          | nx => exact fun σ H G lg em => ⟨n, Nat.lt_succ_self _, G, ρ5, em, postS_le lg q3⟩
          | ct => exact fun σ H G lg em => ⟨n, Nat.lt_succ_self _, G, ρ5, em, postS_le lg q3⟩
          | bk => exact fun σ H G lg em => q3 σ H G lg em
          | rt c => exact fun σ H G lg em => q3 σ H G lg em
end
end DL

set_option maxHeartbeats 4000000
/-! DL13: comprehensions. -/
namespace DL
open PySem PySem.Spec PyProof.Rows L2
def WF : WX := fun _ _ _ _ => False
theorem wipe_in {σ : L2.St} {j : Nat} : ∀ {vs : List Nat}, j ∈ vs → j < σ.length → (wipe σ vs)[j]? = some none
  | v :: vs, h, hl => by
    show ((wipe σ vs).set v none)[j]? = _
    by_cases z : v = j
    · subst z; exact get_set_eq (by rw [wipe_length]; exact hl)
    · rw [get_set_ne z]
      exact wipe_in (by simpa [Ne.symm z] using h) hl
theorem wipe_same {σ σ' : L2.St} {vs : List Nat} (hl : σ'.length = σ.length) (h : ∀ j, j ∉ vs → σ'[j]? = σ[j]?) : wipe σ' vs = wipe σ vs := by
  apply List.ext_getElem?
  intro j
  by_cases z : j ∈ vs
  · by_cases hj : j < σ.length
    · rw [wipe_in z hj, wipe_in z (by rw [hl]; exact hj)]
    · rw [List.getElem?_eq_none_iff.mpr (by rw [wipe_length]; omega), List.getElem?_eq_none_iff.mpr (by rw [wipe_length]; omega)]
  · rw [wipe_out z, wipe_out z, h j z]
theorem wipe_wipe (σ : L2.St) (vs : List Nat) : wipe (wipe σ vs) vs = wipe σ vs := wipe_same (wipe_length _ _) fun j h => wipe_out h
theorem wipeE_length (ρ : Env) : ∀ vs : List Nat, (wipeE ρ vs).length = ρ.length
  | [] => rfl
  | v :: vs => by show ((wipeE ρ vs).set v none).length = _; rw [List.length_set, wipeE_length ρ vs]
theorem wipeE_out {ρ : Env} {i : Nat} : ∀ {vs : List Nat}, i ∉ vs → (wipeE ρ vs)[i]? = ρ[i]?
  | [], _ => rfl
  | v :: vs, h => by
    show ((wipeE ρ vs).set v none)[i]? = _
    rw [get_set_ne (fun z => h (by rw [z]; exact List.mem_cons_self))]
    exact wipeE_out fun z => h (List.mem_cons_of_mem _ z)
theorem wipeE_in {ρ : Env} {j : Nat} {c : Cell} : ∀ {vs : List Nat}, j ∈ vs → (wipeE ρ vs)[j]? ≠ some (some c)
  | v :: vs, h => by
    show ((wipeE ρ vs).set v none)[j]? ≠ _
    by_cases z : v = j
    · subst z
      intro q
      have hl := lt_of_get q
      rw [List.length_set] at hl
      rw [get_set_eq hl] at q; cases q
    · rw [get_set_ne z]
      exact wipeE_in (by simpa [Ne.symm z] using h)
section
variable [Frame] {K : PySem.W.Frag} {CA : Nat → Addr} {B G0 G H G' H' : Hp} {σ : L2.St} {ρ : Env} {D : Addr} {o : HO}
theorem Em.wipe (e : Em K CA B G0 H G σ ρ) : ∀ vs : List Nat, (∀ i ∈ vs, Frame.ok i) → Em K CA B G0 H G (L2.wipe σ vs) (wipeE ρ vs)
  | [], _ => e
  | v :: vs, h => (e.wipe vs fun i hi => h i (List.mem_cons_of_mem _ hi)).unset (h v List.mem_cons_self)
theorem Em.guard (e : Em K CA B G0 H G σ ρ) (hD : H D = some o) (hg : G D = none) (hf : Free H σ ρ (.ref D)) : Em K CA (upd B D o) G0 H G σ ρ :=
  e.tr e.gh (fun a u q => by
    by_cases z : a = D
    · subst z; rw [upd_same] at q; rw [← q]; exact hD
    · rw [upd_ne z] at q; exact e.bh a u q) e.g0 (fun a u q => by
    by_cases z : a = D
    · subst z; rw [hg, e.g0.noneL hg]
    · rw [upd_ne z] at q; exact e.gb a u q) (Le.refl _) fun i c v p hi hu f b g _ => ⟨by rw [upd_ne fun (z : p = D) => hf i c v D rfl hi hu (by rw [z] at f; exact f)]; exact b, g, rfl⟩
theorem Em.unguard (e : Em K CA (upd B D o) G0 H G σ ρ) (hB : B D = none) (h0 : G0 D = none) : Em K CA B G0 H G σ ρ ∧ H D = some o ∧ G D = none ∧ Free H σ ρ (.ref D) := by
  refine ⟨e.tr e.gh (fun a u q => e.bh a u (by rw [upd_ne (ne_of_none q hB)]; exact q)) e.g0 (fun a u q => e.gb a u (by rw [upd_ne (ne_of_none q hB)]; exact q)) (Le.refl _) fun i c v p hi hu f b g _ => ⟨?_, g, rfl⟩, e.bh D o upd_same, (e.gb D o upd_same).trans h0, fun i c u p ev hi hu f => ?_⟩
  · by_cases z : p = D
    · subst z; exact hB
    · rw [upd_ne z] at b; exact b
  · cases ev
    obtain ⟨v, h1, h2⟩ := e.sl i c hi (foot_al f)
    rw [hu] at h1; cases h1
    have := (h2.foot f).1
    rw [upd_same] at this; cases this
theorem backE_get {ρ ρ' : Env} {vs : List Nat} {i : Nat} {c : Cell} (h : (backE ρ ρ' vs)[i]? = some (some c)) : (i ∈ vs ∧ ∃ d, c = .sh d ∧ ρ[i]? = some (some (.sh d))) ∨ (i ∉ vs ∧ ρ'[i]? = some (some c)) := by
  unfold backE at h
  rw [List.getElem?_mapIdx] at h
  cases h1 : ρ'[i]? with
  | none => rw [h1] at h; cases h
  | some x =>
    rw [h1] at h
    simp only [Option.map_some, Option.some.injEq] at h
    by_cases z : i ∈ vs
    · rw [if_pos z] at h
      refine .inl ⟨z, ?_⟩
      cases h2 : ρ[i]? with
      | none => rw [h2] at h; cases h
      | some y => cases y with
        | none => rw [h2] at h; cases h
        | some y => cases y with
          | sh d => rw [h2] at h; cases h; exact ⟨d, rfl, rfl⟩
          | ow d => rw [h2] at h; cases h
          | nst d => rw [h2] at h; cases h
          | al s j => rw [h2] at h; cases h
    · rw [if_neg z] at h; subst h; exact .inr ⟨z, rfl⟩
theorem Em.back {H1 G1 : Hp} {ρ' : Env} {vs : List Nat} (e0 : Em K CA B G0 H G σ ρ) (lg : Le G G1) (e : Em K CA B G0 H1 G1 (L2.wipe σ vs) (wipeE ρ' vs)) : Em K CA B G0 H1 G1 σ (backE ρ ρ' vs) where
  gh := e.gh
  bh := e.bh
  g0 := e.g0
  gb := e.gb
  fr := e0.fr
  len := by
    have := e.len
    rw [wipe_length, wipeE_length] at this
    unfold backE
    rw [List.length_mapIdx]; exact this
  al := fun t s k ds u h1 h2 h3 => by
    rcases backE_get h1 with ⟨_, _, ec, _⟩ | ⟨zt, g1⟩
    · cases ec
    rcases backE_get h2 with ⟨_, _, ec, _⟩ | ⟨zs, g2⟩
    · cases ec
    obtain ⟨a, ps, p, q1, q2, q3, q4⟩ := e.al t s k ds u (by rw [wipeE_out zt]; exact g1) (by rw [wipeE_out zs]; exact g2) (by rw [wipe_out zs]; exact h3)
    exact ⟨a, ps, p, q1, q2, q3, by rw [wipe_out zt] at q4; exact q4⟩
  sl := fun i c h hc => by
    rcases backE_get h with ⟨hi, d, ec, h1⟩ | ⟨hi, h1⟩
    · subst ec
      obtain ⟨v, h2, h3⟩ := e0.sl i _ h1
      exact ⟨v, h2, h3.le lg⟩
    · obtain ⟨v, h2, h3⟩ := e.sl i c (by rw [wipeE_out hi]; exact h1) hc
      rw [wipe_out hi] at h2
      exact ⟨v, h2, h3⟩
  sep := fun i j c d u v p hij hi hj hu hv f f2 => by
    rcases backE_get hi with ⟨_, _, ec, _⟩ | ⟨zi, h1⟩
    · subst ec; exact f
    rcases backE_get hj with ⟨_, _, ec, _⟩ | ⟨zj, h2⟩
    · subst ec; exact f2
    exact e.sep i j c d u v p hij (by rw [wipeE_out zi]; exact h1) (by rw [wipeE_out zj]; exact h2) (by rw [wipe_out zi]; exact hu) (by rw [wipe_out zj]; exact hv) f f2
theorem free_back {ρ' : Env} {vs : List Nat} {v : V} (h : Free H (L2.wipe σ vs) (wipeE ρ' vs) v) : Free H σ (backE ρ ρ' vs) v := fun i c u p ev hi hu f => by
  rcases backE_get hi with ⟨_, _, ec, _⟩ | ⟨zi, h1⟩
  · subst ec; exact f
  exact h i c u p ev (by rw [wipeE_out zi]; exact h1) (by rw [wipe_out zi]; exact hu) f
theorem free_wipe {vs : List Nat} {v : V} (h : Free H σ ρ v) : Free H (L2.wipe σ vs) (wipeE ρ vs) v := fun i c u p ev hi hu f => by
  by_cases z : i ∈ vs
  · exact wipeE_in z hi
  · rw [wipeE_out z] at hi; rw [wipe_out z] at hu; exact h i c u p ev hi hu f
theorem loopC_len {f : DL.D → Env → R (List DL.D)} : ∀ {ds : List DL.D} {ρ ρ' : Env} {ys : List DL.D}, loopC f ds ρ = .ok ys ρ' → ys.length ≤ cap
  | [], _, _, _, h => by unfold loopC at h; cases h; exact Nat.zero_le _
  | d :: ds, ρ, ρ', ys, h => by
    unfold loopC at h
    cases h1 : f d ρ with
    | no => rw [h1] at h; cases h
    | ex x ρ1 => rw [h1] at h; cases h
    | ok xs ρ1 =>
      rw [h1] at h; simp only [R.bind_ok] at h
      cases h2 : loopC f ds ρ1 with
      | no => rw [h2] at h; cases h
      | ex x ρ1 => rw [h2] at h; cases h
      | ok zs ρ2 =>
        rw [h2] at h; simp only [R.bind_ok] at h
        by_cases hl : xs.length + zs.length ≤ cap
        · rw [if_pos hl] at h; cases h; rw [List.length_append]; exact hl
        · rw [if_neg hl] at h; cases h
theorem loopC_cons {f : DL.D → Env → R (List DL.D)} {d : DL.D} {ds : List DL.D} {ρ ρ' : Env} {ys : List DL.D} (h : loopC f (d :: ds) ρ = .ok ys ρ') : ∃ xs zs ρ1, f d ρ = .ok xs ρ1 ∧ loopC f ds ρ1 = .ok zs ρ' ∧ ys = xs ++ zs := by
  unfold loopC at h
  cases h1 : f d ρ with
  | no => rw [h1] at h; cases h
  | ex x ρ1 => rw [h1] at h; cases h
  | ok xs ρ1 =>
    rw [h1] at h; simp only [R.bind_ok] at h
    cases h2 : loopC f ds ρ1 with
    | no => rw [h2] at h; cases h
    | ex x ρ1 => rw [h2] at h; cases h
    | ok zs ρ2 =>
      rw [h2] at h; simp only [R.bind_ok] at h
      by_cases hl : xs.length + zs.length ≤ cap
      · rw [if_pos hl] at h; cases h; exact ⟨xs, zs, ρ1, rfl, h2, rfl⟩
      · rw [if_neg hl] at h; cases h
end
/-- one turn of a comprehension -/
def turnM (vs : List Nat) (f : DL.D → Env → Option Env) (mc : Env → R Bool) (k : Env → R (List DL.D)) (d : DL.D) (ρ : Env) : R (List DL.D) :=
  (R.lift (f d (wipeE ρ vs)) ρ).bind fun ρ _ => (mc ρ).bind fun b ρ => if b = true then k ρ else .ok [] ρ
def oneM (m : Env → R DL.D) (ρ : Env) : R (List DL.D) := (m ρ).bind fun d ρ => .ok [d] ρ
section
variable [Frame] {K : PySem.W.Frag} {CA : Nat → Addr} {B G0 G H G' H' : Hp} {σ : L2.St} {ρ : Env} {D : Addr} {W : WX}
theorem lc_sem {mi : Env → R (List DL.D)} {f : DL.D → Env → Option Env} {mc : Env → R Bool} {me : Env → R DL.D} {vs : List Nat} {Q : VK} (hvs : ∀ i ∈ vs, Frame.ok i) (em : Em K CA B G0 H G σ ρ)
    (p : PostV K CA W (rlC K CA) B G0 H G σ Q (((mi ρ).bind fun ds ρ => loopC (turnM vs f mc (oneM me)) ds ρ).calm.bind fun ds ρ' => .ok (.ow (.lst ds)) (backE ρ ρ' vs))) :
    tLc (TIf K CA W mi) (TGb K CA vs f) (TTt K CA WF mc) (TD K CA WF me) vs σ H Q := by
  refine ⟨B, G0, G, ρ, em, ?_⟩
  cases hm : mi ρ with
  | no => rw [hm] at p; exact p.elim
  | ex x ρ' => rw [hm] at p; exact p.elim
  | ok ds ρ1 =>
    rw [hm] at p; simp only [R.bind_ok] at p
    cases hl : loopC (turnM vs f mc (oneM me)) ds ρ1 with
    | no => rw [hl] at p; exact p.elim
    | ex x ρ' => rw [hl] at p; exact p.elim
    | ok fin ρf =>
      rw [hl] at p
      have hfin := loopC_len hl
      intro J H1 G1 lh lg em1 fd D hD
      have eml := em1.laid (o := .lst []) hD
      have hG1D : G1 D = none := em1.gh.noneL hD
      have hBD : B D = none := em1.bh.noneL hD
      have hG0D : G0 D = none := em1.g0.noneL hG1D
      refine ⟨fun n m Hc => ∃ G ρ acc ws zs, Le G1 G ∧ Le H1 Hc ∧ Em K CA B G0 Hc G (L2.wipe σ vs) (wipeE ρ vs) ∧ G D = none ∧ Hc D = some (.lst ws) ∧ Reps K CA G ws acc ∧ Free Hc (L2.wipe σ vs) (wipeE ρ vs) (.ref D) ∧ n ≤ ds.length ∧ m = ds.length - n ∧
          loopC (turnM vs f mc (oneM me)) (ds.drop n) ρ = .ok zs ρf ∧ acc ++ zs = fin,
        ⟨_, G1, ρ1, [], [], fin, Le.refl _, Le.newH hD, eml.wipe vs hvs, hG1D, upd_same, .nil, free_wipe (em1.fle (Le.newH hD) (free_new em1 hD)), Nat.zero_le _, rfl, hl, rfl⟩, ?_⟩
      rintro n m Hc ⟨G2, ρ2, acc, ws, zs, l2, lh2, em2, hG, hHc, rs, hfr, hn, hm', hlp, hacc⟩
      obtain ⟨f1, f2⟩ := fd n B G0 Hc G2 _ _ l2 em2
      by_cases hz : n = ds.length
      · refine .inl ⟨f1 hz, ?_⟩
        rw [hz, List.drop_length] at hlp
        unfold loopC at hlp
        cases hlp
        rw [List.append_nil] at hacc
        subst hacc
        exact p (.ref D) Hc G2 (lh.trans lh2) (lg.trans l2) (Em.back em (lg.trans l2) em2) (cat_ow ⟨D, rfl, hBD, hG, ws, hHc, rs⟩ (free_back hfr))
      · have hlt : n < ds.length := by omega
        obtain ⟨g1, g2⟩ := f2 _ (List.getElem?_eq_getElem hlt)
        rw [List.drop_eq_getElem_cons hlt] at hlp
        obtain ⟨xs, ys, ρ3, ht, hlp, hys⟩ := loopC_cons hlp
        refine .inr ⟨g1, fun Hc' => ∃ m', m' < m ∧ ∃ G ρ acc ws zs, Le G1 G ∧ Le H1 Hc' ∧ Em K CA B G0 Hc' G (L2.wipe σ vs) (wipeE ρ vs) ∧ G D = none ∧ Hc' D = some (.lst ws) ∧ Reps K CA G ws acc ∧ Free Hc' (L2.wipe σ vs) (wipeE ρ vs) (.ref D) ∧ n + 1 ≤ ds.length ∧ m' = ds.length - (n + 1) ∧
          loopC (turnM vs f mc (oneM me)) (ds.drop (n + 1)) ρ = .ok zs ρf ∧ acc ++ zs = fin, fun H' h => h, fun x H' hy => ?_⟩
        obtain ⟨G3, lh3, lg3, em3, r3⟩ := g2 x H' hy
        unfold turnM at ht
        cases hf : f ds[n] (wipeE ρ2 vs) with
        | none => rw [hf] at ht; cases ht
        | some ρ4 =>
          rw [hf] at ht; simp only [R.lift_some, R.bind_ok] at ht
          have hH3 : H' D = some (.lst ws) := lh3 _ _ hHc
          -- D is guarded within the turn
          have em2g := em2.guard hHc hG hfr
          obtain ⟨G3', lh3', lg3', em3g, r3'⟩ := (fd n (upd B D (.lst ws)) G0 Hc G2 _ _ l2 em2g).2 _ (List.getElem?_eq_getElem hlt) |>.2 x H' hy
          refine ⟨upd B D (.lst ws), G0, G3', _, _, em3g, r3', ρ4, hf, fun σ4 hl4 hj4 em4 => ?_⟩
          have hw4 : L2.wipe σ4 vs = L2.wipe σ vs := (wipe_same hl4 hj4).trans (wipe_wipe σ vs)
          refine ⟨hw4, upd B D (.lst ws), G0, G3', ρ4, em4, ?_⟩
          cases hc : mc ρ4 with
          | no => rw [hc] at ht; cases ht
          | ex x ρ5 => rw [hc] at ht; cases ht
          | ok b ρ5 =>
            rw [hc] at ht; simp only [R.bind_ok] at ht
            intro H5 G5 lh5 lg5 em5
            cases b with
            | false =>
              simp only [if_neg Bool.false_ne_true] at ht ⊢
              cases ht
              obtain ⟨em6, hD6, hG6, hf6⟩ := em5.unguard hBD hG0D
              have em7 := em6.wipe vs hvs
              have hf7 := free_wipe (vs := vs) hf6
              rw [hw4] at em7 hf7
              exact ⟨_, by omega, G5, ρ3, acc, ws, ys, (l2.trans lg3').trans lg5, (lh2.trans lh3).trans lh5, em7, hG6, hD6, rs.le (lg3'.trans lg5), hf7, hlt, rfl, hlp, by rw [hys] at hacc; exact hacc⟩
            | true =>
              simp only [if_true] at ht ⊢
              unfold oneM at ht
              refine ⟨upd B D (.lst ws), G0, G5, ρ5, em5, ?_⟩
              cases he : me ρ5 with
              | no => rw [he] at ht; cases ht
              | ex x ρ6 => rw [he] at ht; cases ht
              | ok y ρ6 =>
                rw [he] at ht; simp only [R.bind_ok] at ht
                cases ht
                intro v H6 G6 lh6 lg6 em6 r6
                obtain ⟨em7, hD7, hG7, hf7⟩ := em6.unguard hBD hG0D
                have hlen : acc.length < cap := by
                  have e1 := congrArg List.length hacc
                  rw [hys, List.length_append, List.length_append, List.length_singleton] at e1
                  omega
                refine ⟨ws, hD7, by rw [rs.length, ← cap_line]; exact hlen, ?_⟩
                have em8 := (em7.chg (o := .lst (ws ++ [v])) hBD hG7 hf7).wipe vs hvs
                have hf8 := free_wipe (vs := vs) (em7.chgF (o := .lst (ws ++ [v])) hf7 hf7)
                rw [hw4] at em8 hf8
                refine ⟨_, by omega, G6, ρ3, acc ++ [y], ws ++ [v], ys, ((l2.trans lg3').trans lg5).trans lg6, fun a u q => ?_, em8, hG7, upd_same, (rs.le ((lg3'.trans lg5).trans lg6)).append (.one r6), hf8, hlt, rfl, hlp, by rw [← hacc, hys, List.append_assoc]⟩
                rw [upd_ne (ne_of_none q hD)]
                exact lh6 _ _ (lh5 _ _ (lh3 _ _ (lh2 _ _ q)))
end
section
variable [Frame] {CA : Nat → Addr} {W : WX} {X : Cx}
theorem post_set {K : PySem.W.Frag} {B G0 G H : Hp} {σ : L2.St} {ρ : Env} {D : Ends} {i : Nat} {r : R Cell} (ok : Frame.ok i) (em : Em K CA B G0 H G σ ρ) (p : PostS K CA W B G0 G D (r.bind fun c ρ => if i < ρ.length ∧ c.isP = true then .ok .nx (ρ.set i (some c)) else .no)) :
    PostV K CA W (rlC K CA) B G0 H G σ (fun x H1 => D.nx (σ.set i (some x)) H1) r := by
  cases r with
  | no => exact p.elim
  | ex x ρ' => exact fun H' G' cl dd lh lg em' xr => p σ H' G' cl dd lg em' xr
  | ok c ρ' =>
    intro v H' G' lh lg em' rr
    simp only [R.bind_ok] at p
    by_cases hl : i < ρ'.length ∧ c.isP = true
    · simp only [if_pos hl] at p
      exact p _ _ G' lg (em'.set ok rr hl.1 hl.2)
    · simp only [if_neg hl] at p; exact p.elim
theorem de_lc {elt tg iter : Expr} {ifs : List Expr} {scope : Scope} {own : List (Str × Nat)} {pos : Pos} {mi : Env → R (List DL.D)} {f : DL.D → Env → Option Env} {mc : Env → R Bool} {me : Env → R DL.D} (hvs : ∀ i ∈ own.map (·.2), Frame.ok i) (hc : X.calm = true) (hN : X.N.Nodup) (hi : PI X tg iter (TIf X.K CA W mi)) (ok : BlkOk X.N X.env.scope scope own)
    (hg : ∀ (s : Shared) (H : Hp) (C : Addr) (cl : List (Str × Addr)) (fp : List Addr), PG (X.blk s H scope (compEnvC scope cl C X.env) fp) tg (TGb X.K CA (own.map (·.2)) f)) (ht : ∀ (s : Shared) (H : Hp) (C : Addr) (cl : List (Str × Addr)) (fp : List Addr), PTs (X.blk s H scope (compEnvC scope cl C X.env) fp) ifs (TTt X.K CA WF mc))
    (he : ∀ (s : Shared) (H : Hp) (C : Addr) (cl : List (Str × Addr)) (fp : List Addr), PE (X.blk s H scope (compEnvC scope cl C X.env) fp) elt (TD X.K CA WF me)) (hs : notSet iter = true) :
    PE X (.ListComp elt [⟨tg, iter, ifs, 0⟩] scope pos) (TC X.K CA W fun ρ => ((mi ρ).bind fun ds ρ => loopC (turnM (own.map (·.2)) f mc (oneM me)) ds ρ).calm.bind fun ds ρ' => .ok (.ow (.lst ds)) (backE ρ ρ' (own.map (·.2)))) :=
  PE.weak (pe_lc hc hN hi ok hg ht he (set_fold hs)) fun σ H Q ⟨B, G0, G, ρ, em, p⟩ => lc_sem hvs em p
theorem ds_setLc {i : Nat} {y : Str} {py spos : Pos} {elt tg iter : Expr} {ifs : List Expr} {scope : Scope} {own : List (Str × Nat)} {pos : Pos} {mi : Env → R (List DL.D)} {f : DL.D → Env → Option Env} {mc : Env → R Bool} {me : Env → R DL.D} (hvs : ∀ i ∈ own.map (·.2), Frame.ok i) (hok : Frame.ok i) (hc : X.calm = true) (hN : X.N.Nodup) (hy : X.N[i]? = some y) (hyl : X.env.scope.names.lookup y = some .local)
    (hsw : swapsWith (.ListComp elt [⟨tg, iter, ifs, 0⟩] scope pos) (some (.Name y py)) spos.line X.env = pure true) (hi : PI X tg iter (TIf X.K CA W mi)) (ok : BlkOk X.N X.env.scope scope own)
    (hg : ∀ (s : Shared) (H : Hp) (C : Addr) (cl : List (Str × Addr)) (fp : List Addr), PG (X.blk s H scope (compEnvC scope cl C X.env) fp) tg (TGb X.K CA (own.map (·.2)) f)) (ht : ∀ (s : Shared) (H : Hp) (C : Addr) (cl : List (Str × Addr)) (fp : List Addr), PTs (X.blk s H scope (compEnvC scope cl C X.env) fp) ifs (TTt X.K CA WF mc))
    (he : ∀ (s : Shared) (H : Hp) (C : Addr) (cl : List (Str × Addr)) (fp : List Addr), PE (X.blk s H scope (compEnvC scope cl C X.env) fp) elt (TD X.K CA WF me)) (hs : notSet iter = true) :
    PS X (.Assign [.Name y py] (.ListComp elt [⟨tg, iter, ifs, 0⟩] scope pos) spos) (TSf X.K CA W fun ρ => (((mi ρ).bind fun ds ρ => loopC (turnM (own.map (·.2)) f mc (oneM me)) ds ρ).calm.bind fun ds ρ' => .ok (.ow (.lst ds)) (backE ρ ρ' (own.map (·.2)))).bind fun c ρ => if i < ρ.length ∧ c.isP = true then .ok .nx (ρ.set i (some c)) else .no) :=
  PS.weak (ps_setLc hc hN hy hyl hsw hi ok hg ht he (set_fold hs)) fun D σ H ⟨B, G0, G, ρ, em, p⟩ => lc_sem (W := W) hvs em (post_set hok em p)
end
end DL

set_option maxHeartbeats 4000000
/-! DL14: dict comprehensions, dict displays. -/
namespace DL
open PySem PySem.Spec PyProof.Rows L2
theorem pairsD_append : ∀ (a b : List D) (l : List (Key × D)), pairsD a = some l → pairsD (a ++ b) = (pairsD b).map (l ++ ·)
  | [], b, l, h => by
    unfold pairsD at h; cases h
    rw [List.nil_append]
    cases pairsD b <;> rfl
  | [x], b, l, h => by unfold pairsD at h; cases h
  | x :: y :: r, b, l, h => by
    unfold pairsD at h
    obtain ⟨k, hk, h⟩ := Option.bind_eq_some_iff.mp h
    cases hr : pairsD r with
    | none => rw [hr] at h; cases h
    | some m =>
      rw [hr] at h; cases h
      have := pairsD_append r b m hr
      have e : pairsD (x :: y :: (r ++ b)) = (keyD x).bind fun k => (pairsD (r ++ b)).map fun l => (k, y) :: l := by rw [pairsD]
      show pairsD (x :: y :: (r ++ b)) = _
      rw [e, hk, this]
      cases pairsD b <;> rfl
theorem pairsD_two {x y : D} {ys : List D} {l : List (Key × D)} (h : pairsD (x :: y :: ys) = some l) : ∃ k l', keyD x = some k ∧ pairsD ys = some l' ∧ l = (k, y) :: l' := by
  unfold pairsD at h
  obtain ⟨k, hk, h⟩ := Option.bind_eq_some_iff.mp h
  cases hr : pairsD ys with
  | none => rw [hr] at h; cases h
  | some m => rw [hr] at h; cases h; exact ⟨k, m, hk, rfl, rfl⟩
theorem putDk_len (k : Key) (d : D) (l : List (Key × D)) : (putDk k d l).length ≤ l.length + 1 := by
  unfold putDk
  split
  · rw [List.length_map]; omega
  · rw [List.length_append]; exact Nat.le_refl _
theorem putAll_snoc (l : List (Key × D)) (k : Key) (d : D) : putAll (l ++ [(k, d)]) = putDk k d (putAll l) := by
  unfold putAll
  rw [List.foldl_append]; rfl
theorem foldl_put_len : ∀ (l acc : List (Key × D)), (l.foldl (fun acc p => putDk p.1 p.2 acc) acc).length ≤ acc.length + l.length
  | [], acc => Nat.le_refl _
  | p :: l, acc => by
    rw [List.foldl_cons, List.length_cons]
    have := foldl_put_len l (putDk p.1 p.2 acc)
    have := putDk_len p.1 p.2 acc
    omega
theorem putAll_len (l : List (Key × D)) : (putAll l).length ≤ l.length := by
  have := foldl_put_len l []
  simpa [putAll] using this
theorem pairsD_len : ∀ {a : List D} {l : List (Key × D)}, pairsD a = some l → a.length = 2 * l.length
  | [], l, h => by unfold pairsD at h; cases h; rfl
  | [x], l, h => by unfold pairsD at h; cases h
  | x :: y :: r, l, h => by
    obtain ⟨k, l', _, h2, e⟩ := pairsD_two h
    subst e
    have := pairsD_len h2
    simp only [List.length_cons]; omega
def twoM (mk mv : Env → R D) (ρ : Env) : R (List D) := (mk ρ).bind fun x ρ => (mv ρ).bind fun y ρ => .ok [x, y] ρ
section
variable [Frame] {K : PySem.W.Frag} {CA : Nat → Addr} {B G0 G H G' H' : Hp} {σ : L2.St} {ρ : Env} {D : Addr} {W : WX}
theorem dc_sem {mi : Env → R (List DL.D)} {f : DL.D → Env → Option Env} {mc : Env → R Bool} {mk mv : Env → R DL.D} {vs : List Nat} {Q : VK} (hvs : ∀ i ∈ vs, Frame.ok i) (em : Em K CA B G0 H G σ ρ)
    (p : PostV K CA W (rlC K CA) B G0 H G σ Q (((mi ρ).bind fun ds ρ => loopC (turnM vs f mc (twoM mk mv)) ds ρ).calm.bind fun ds ρ' => (R.lift (pairsD ds) (backE ρ ρ' vs)).bind fun l ρ => .ok (.ow (.dct (putAll l))) ρ)) :
    tDc (TIf K CA W mi) (TGb K CA vs f) (TTt K CA WF mc) (TD K CA WF mk) (TD K CA WF mv) vs σ H Q := by
  refine ⟨B, G0, G, ρ, em, ?_⟩
  cases hm : mi ρ with
  | no => rw [hm] at p; exact p.elim
  | ex x ρ' => rw [hm] at p; exact p.elim
  | ok ds ρ1 =>
    rw [hm] at p; simp only [R.bind_ok] at p
    cases hl : loopC (turnM vs f mc (twoM mk mv)) ds ρ1 with
    | no => rw [hl] at p; exact p.elim
    | ex x ρ' => rw [hl] at p; exact p.elim
    | ok fin ρf =>
      rw [hl] at p
      cases hp : pairsD fin with
      | none => simp only [R.calm, R.bind_ok, hp, R.lift_none] at p; exact p.elim
      | some lf =>
      simp only [R.calm, R.bind_ok, hp, R.lift_some] at p
      have hfin := loopC_len hl
      have hlf := pairsD_len hp
      intro J H1 G1 lh lg em1 fd D hD
      have eml := em1.laid (o := .dK []) hD
      have hG1D : G1 D = none := em1.gh.noneL hD
      have hBD : B D = none := em1.bh.noneL hD
      have hG0D : G0 D = none := em1.g0.noneL hG1D
      refine ⟨fun n m Hc => ∃ G ρ acc la ws zs, Le G1 G ∧ Le H1 Hc ∧ Em K CA B G0 Hc G (L2.wipe σ vs) (wipeE ρ vs) ∧ G D = none ∧ Hc D = some (.dK ws) ∧ pairsD acc = some la ∧ RepK K CA G ws (putAll la) ∧ Free Hc (L2.wipe σ vs) (wipeE ρ vs) (.ref D) ∧ n ≤ ds.length ∧ m = ds.length - n ∧
          loopC (turnM vs f mc (twoM mk mv)) (ds.drop n) ρ = .ok zs ρf ∧ acc ++ zs = fin,
        ⟨_, G1, ρ1, [], [], [], fin, Le.refl _, Le.newH hD, eml.wipe vs hvs, hG1D, upd_same, rfl, .nil, free_wipe (em1.fle (Le.newH hD) (free_new em1 hD)), Nat.zero_le _, rfl, hl, rfl⟩, ?_⟩
      rintro n m Hc ⟨G2, ρ2, acc, la, ws, zs, l2, lh2, em2, hG, hHc, hla, rs, hfr, hn, hm', hlp, hacc⟩
      obtain ⟨f1, f2⟩ := fd n B G0 Hc G2 _ _ l2 em2
      by_cases hz : n = ds.length
      · refine .inl ⟨f1 hz, ?_⟩
        rw [hz, List.drop_length] at hlp
        unfold loopC at hlp
        cases hlp
        rw [List.append_nil] at hacc
        subst hacc
        rw [hp] at hla; cases hla
        exact p (.ref D) Hc G2 (lh.trans lh2) (lg.trans l2) (Em.back em (lg.trans l2) em2) (cat_ow ⟨D, rfl, hBD, hG, ws, hHc, rs⟩ (free_back hfr))
      · have hlt : n < ds.length := by omega
        obtain ⟨g1, g2⟩ := f2 _ (List.getElem?_eq_getElem hlt)
        rw [List.drop_eq_getElem_cons hlt] at hlp
        obtain ⟨xs, ys, ρ3, ht, hlp, hys⟩ := loopC_cons hlp
        refine .inr ⟨g1, fun Hc' => ∃ m', m' < m ∧ ∃ G ρ acc la ws zs, Le G1 G ∧ Le H1 Hc' ∧ Em K CA B G0 Hc' G (L2.wipe σ vs) (wipeE ρ vs) ∧ G D = none ∧ Hc' D = some (.dK ws) ∧ pairsD acc = some la ∧ RepK K CA G ws (putAll la) ∧ Free Hc' (L2.wipe σ vs) (wipeE ρ vs) (.ref D) ∧ n + 1 ≤ ds.length ∧ m' = ds.length - (n + 1) ∧
          loopC (turnM vs f mc (twoM mk mv)) (ds.drop (n + 1)) ρ = .ok zs ρf ∧ acc ++ zs = fin, fun H' h => h, fun x H' hy => ?_⟩
        obtain ⟨G3, lh3, lg3, em3, r3⟩ := g2 x H' hy
        unfold turnM at ht
        cases hf : f ds[n] (wipeE ρ2 vs) with
        | none => rw [hf] at ht; cases ht
        | some ρ4 =>
          rw [hf] at ht; simp only [R.lift_some, R.bind_ok] at ht
          have em2g := em2.guard hHc hG hfr
          obtain ⟨G3', lh3', lg3', em3g, r3'⟩ := (fd n (upd B D (.dK ws)) G0 Hc G2 _ _ l2 em2g).2 _ (List.getElem?_eq_getElem hlt) |>.2 x H' hy
          refine ⟨upd B D (.dK ws), G0, G3', _, _, em3g, r3', ρ4, hf, fun σ4 hl4 hj4 em4 => ?_⟩
          have hw4 : L2.wipe σ4 vs = L2.wipe σ vs := (wipe_same hl4 hj4).trans (wipe_wipe σ vs)
          refine ⟨hw4, upd B D (.dK ws), G0, G3', ρ4, em4, ?_⟩
          cases hc : mc ρ4 with
          | no => rw [hc] at ht; cases ht
          | ex x ρ5 => rw [hc] at ht; cases ht
          | ok b ρ5 =>
            rw [hc] at ht; simp only [R.bind_ok] at ht
            intro H5 G5 lh5 lg5 em5
            cases b with
            | false =>
              simp only [if_neg Bool.false_ne_true] at ht ⊢
              cases ht
              obtain ⟨em6, hD6, hG6, hf6⟩ := em5.unguard hBD hG0D
              have em7 := em6.wipe vs hvs
              have hf7 := free_wipe (vs := vs) hf6
              rw [hw4] at em7 hf7
              exact ⟨_, by omega, G5, ρ3, acc, la, ws, ys, (l2.trans lg3').trans lg5, (lh2.trans lh3).trans lh5, em7, hG6, hD6, hla, rs.le (lg3'.trans lg5), hf7, hlt, rfl, hlp, by rw [hys] at hacc; exact hacc⟩
            | true =>
              simp only [if_true] at ht ⊢
              unfold twoM at ht
              refine ⟨upd B D (.dK ws), G0, G5, ρ5, em5, ?_⟩
              cases he : mk ρ5 with
              | no => rw [he] at ht; cases ht
              | ex x ρ6 => rw [he] at ht; cases ht
              | ok y ρ6 =>
                rw [he] at ht; simp only [R.bind_ok] at ht
                intro v H6 G6 lh6 lg6 em6 r6
                refine ⟨upd B D (.dK ws), G0, G6, ρ6, em6, ?_⟩
                cases he2 : mv ρ6 with
                | no => rw [he2] at ht; cases ht
                | ex x ρ6 => rw [he2] at ht; cases ht
                | ok z ρ7 =>
                rw [he2] at ht; simp only [R.bind_ok] at ht
                cases ht
                intro u H7 G7 lh7 lg7 em7 r7
                obtain ⟨em8, hD8, hG8, hf8⟩ := em7.unguard hBD hG0D
                have hpa : pairsD (acc ++ (y :: z :: ys)) = some lf := by
                  rw [← hp, ← hacc, hys]; rfl
                rw [pairsD_append _ _ _ hla] at hpa
                cases hp2 : pairsD (y :: z :: ys) with
                | none => rw [hp2] at hpa; cases hpa
                | some l2' =>
                rw [hp2] at hpa; cases hpa
                obtain ⟨k, l3, hk, _, e3⟩ := pairsD_two hp2
                subst e3
                have hlen : (putAll la).length < cap := by
                  have := putAll_len la
                  rw [List.length_append, List.length_cons] at hlf
                  omega
                refine ⟨ws, k, keyD_rep (H := H6) (.inl r6) hk, hD8, by rw [rs.length, ← cap_line]; exact hlen, ?_⟩
                have em9 := (em8.chg (o := .dK (putK ws k u)) hBD hG8 hf8).wipe vs hvs
                have hf9 := free_wipe (vs := vs) (em8.chgF (o := .dK (putK ws k u)) hf8 hf8)
                rw [hw4] at em9 hf9
                refine ⟨_, by omega, G7, ρ3, acc ++ [y, z], la ++ [(k, z)], _, ys, (((l2.trans lg3').trans lg5).trans lg6).trans lg7, fun a u q => ?_, em9, hG8, upd_same, ?_, ?_, hf9, hlt, rfl, hlp, by rw [← hacc, hys, List.append_assoc]⟩
                · rw [upd_ne (ne_of_none q hD)]
                  exact lh7 _ _ (lh6 _ _ (lh5 _ _ (lh3 _ _ (lh2 _ _ q))))
                · rw [pairsD_append _ _ _ hla]; unfold pairsD; rw [hk]; rfl
                · rw [putAll_snoc]
                  exact (rs.le (((lg3'.trans lg5).trans lg6).trans lg7)).put r7
end
section
variable [Frame] {CA : Nat → Addr} {W : WX} {X : Cx}
theorem de_dc {kx vx tg iter : Expr} {ifs : List Expr} {scope : Scope} {own : List (Str × Nat)} {pos : Pos} {mi : Env → R (List DL.D)} {f : DL.D → Env → Option Env} {mc : Env → R Bool} {mk mv : Env → R DL.D} (hvs : ∀ i ∈ own.map (·.2), Frame.ok i) (hc : X.calm = true) (hN : X.N.Nodup) (hi : PI X tg iter (TIf X.K CA W mi)) (ok : BlkOk X.N X.env.scope scope own)
    (hg : ∀ (s : Shared) (H : Hp) (C : Addr) (cl : List (Str × Addr)) (fp : List Addr), PG (X.blk s H scope (compEnvC scope cl C X.env) fp) tg (TGb X.K CA (own.map (·.2)) f)) (ht : ∀ (s : Shared) (H : Hp) (C : Addr) (cl : List (Str × Addr)) (fp : List Addr), PTs (X.blk s H scope (compEnvC scope cl C X.env) fp) ifs (TTt X.K CA WF mc))
    (hk : ∀ (s : Shared) (H : Hp) (C : Addr) (cl : List (Str × Addr)) (fp : List Addr), PE (X.blk s H scope (compEnvC scope cl C X.env) fp) kx (TD X.K CA WF mk))
    (he : ∀ (s : Shared) (H : Hp) (C : Addr) (cl : List (Str × Addr)) (fp : List Addr), PE (X.blk s H scope (compEnvC scope cl C X.env) fp) vx (TD X.K CA WF mv)) (hs : notSet iter = true) :
    PE X (.DictComp kx vx [⟨tg, iter, ifs, 0⟩] scope pos) (TC X.K CA W fun ρ => ((mi ρ).bind fun ds ρ => loopC (turnM (own.map (·.2)) f mc (twoM mk mv)) ds ρ).calm.bind fun ds ρ' => (R.lift (pairsD ds) (backE ρ ρ' (own.map (·.2)))).bind fun l ρ => .ok (.ow (.dct (putAll l))) ρ) :=
  PE.weak (pe_dc hc hN hi ok hg ht hk he (set_fold hs)) fun σ H Q ⟨B, G0, G, ρ, em, p⟩ => dc_sem hvs em p
theorem ps_setDc {i : Nat} {y : Str} {py : Pos} {kx vx tg iter : Expr} {ifs : List Expr} {scope : Scope} {own : List (Str × Nat)} {pos spos : Pos} {wi : TI} {g : TG} {tt : TT} {tk tv : TE} (hc : X.calm = true) (hN : X.N.Nodup) (hy : X.N[i]? = some y) (hyl : X.env.scope.names.lookup y = some .local)
    (hsw : swapsWith (.DictComp kx vx [⟨tg, iter, ifs, 0⟩] scope pos) (some (.Name y py)) spos.line X.env = pure true) (hi : PI X tg iter wi) (ok : BlkOk X.N X.env.scope scope own)
    (hg : ∀ (s : Shared) (H : Hp) (C : Addr) (cl : List (Str × Addr)) (fp : List Addr), PG (X.blk s H scope (compEnvC scope cl C X.env) fp) tg g) (ht : ∀ (s : Shared) (H : Hp) (C : Addr) (cl : List (Str × Addr)) (fp : List Addr), PTs (X.blk s H scope (compEnvC scope cl C X.env) fp) ifs tt)
    (hk : ∀ (s : Shared) (H : Hp) (C : Addr) (cl : List (Str × Addr)) (fp : List Addr), PE (X.blk s H scope (compEnvC scope cl C X.env) fp) kx tk)
    (he : ∀ (s : Shared) (H : Hp) (C : Addr) (cl : List (Str × Addr)) (fp : List Addr), PE (X.blk s H scope (compEnvC scope cl C X.env) fp) vx tv) (hs : ∀ x, foldedSetIterable iter X.env x = pure x) :
    PS X (.Assign [.Name y py] (.DictComp kx vx [⟨tg, iter, ifs, 0⟩] scope pos) spos) (tAsg (tDc wi g tt tk tv (own.map (·.2))) (gName i)) := by
  refine ⟨fun pins s σ H D I h => ?_⟩
  rw [exec_Assign_Name_used _ _ _ _ hsw]
  refine wpAny_bind (wpAny_standAt (wpAny_bind ?_))
  show wpAny _ X.A (do let _ ← comprehension (.DictComp kx vx [⟨tg, iter, ifs, 0⟩] scope pos) scope X.env (firstIterPos [⟨tg, iter, ifs, 0⟩] pos) newDict false (eval iter X.env) (some (assign (.Name y py) X.env))) _ _ s
  have h : tDc wi g tt tk tv (own.map (·.2)) σ H (fun x H1 => gName i x σ H1 D.nx) := h
  refine wpAny_bind (thn (dc_core (Qf := fun _ s' => SP X pins D .next s') hc hN I hi ok hg ht hk he hs h fun L C s' m H' I' q hn f => ?_) fun _ s' hq => wpAny_pure (wpAny_pure hq))
  show wpAny _ _ (assign (.Name y py) X.env (.ref L)) _ _ _
  refine wpAny_assign_Name (store_ok2 (v := V.ref L) I' hN hy (.inl hyl) rfl (fun s2 I2 ⟨a, sb, ha⟩ => ?_) (.inr hyl))
  obtain ⟨f0, f1, f2, f3, f4, f5⟩ := f
  have haC : C ≠ a := by
    rcases ha with z | z
    · rw [z]; exact f1
    · exact fun e => f4 y a z e.symm
  refine ⟨m, hn.sameBut sb haC, fun h3 sb3 => ?_⟩
  exact ⟨_, H', I2.turned (t' := s2.toks) (fun b o hb e => (sb3.2 b hb).trans e) f0 f1 f3 f4 f5, q⟩
theorem sw_trueD {kx vx : Expr} {gs : List Comprehension} {scope : Scope} {pos py : Pos} {y : Str} {l : Nat} {env : PySem.Env} (hk : env.scope.kind = .function) (hy : env.scope.names.lookup y = some .local) (hl : (py.line == pos.line) = true)
    (ha : (scope.names.any fun (n, k) => n == y && (k == .local || k == .cell)) = false) : swapsWith (.DictComp kx vx gs scope pos) (some (.Name y py)) l env = pure true := by
  have ky : env.kindOf y = some .local := hy
  have hb : env.blockKind = .function := by unfold Env.blockKind; rw [hk]; rfl
  unfold swapsWith
  simp only [hb, ky, ha, Expr.pos, hl]
  rfl
theorem sw_cell {e : Expr} {py : Pos} {y : Str} {l : Nat} {env : PySem.Env} (hy : env.scope.names.lookup y = some .cell) : swapsWith e (some (.Name y py)) l env = pure false := by
  have ky : env.kindOf y = some .cell := hy
  have e1 : (env.kindOf y == some NameKind.local) = false := by rw [ky]; rfl
  unfold swapsWith
  cases e <;> first | rfl | (simp only [e1, Bool.and_false, Bool.false_and])
theorem ds_setDc {i : Nat} {y : Str} {py spos : Pos} {kx vx tg iter : Expr} {ifs : List Expr} {scope : Scope} {own : List (Str × Nat)} {pos : Pos} {mi : Env → R (List DL.D)} {f : DL.D → Env → Option Env} {mc : Env → R Bool} {mk mv : Env → R DL.D} (hvs : ∀ i ∈ own.map (·.2), Frame.ok i) (hok : Frame.ok i) (hc : X.calm = true) (hN : X.N.Nodup) (hy : X.N[i]? = some y) (hyl : X.env.scope.names.lookup y = some .local)
    (hsw : swapsWith (.DictComp kx vx [⟨tg, iter, ifs, 0⟩] scope pos) (some (.Name y py)) spos.line X.env = pure true) (hi : PI X tg iter (TIf X.K CA W mi)) (ok : BlkOk X.N X.env.scope scope own)
    (hg : ∀ (s : Shared) (H : Hp) (C : Addr) (cl : List (Str × Addr)) (fp : List Addr), PG (X.blk s H scope (compEnvC scope cl C X.env) fp) tg (TGb X.K CA (own.map (·.2)) f)) (ht : ∀ (s : Shared) (H : Hp) (C : Addr) (cl : List (Str × Addr)) (fp : List Addr), PTs (X.blk s H scope (compEnvC scope cl C X.env) fp) ifs (TTt X.K CA WF mc))
    (hk : ∀ (s : Shared) (H : Hp) (C : Addr) (cl : List (Str × Addr)) (fp : List Addr), PE (X.blk s H scope (compEnvC scope cl C X.env) fp) kx (TD X.K CA WF mk))
    (he : ∀ (s : Shared) (H : Hp) (C : Addr) (cl : List (Str × Addr)) (fp : List Addr), PE (X.blk s H scope (compEnvC scope cl C X.env) fp) vx (TD X.K CA WF mv)) (hs : notSet iter = true) :
    PS X (.Assign [.Name y py] (.DictComp kx vx [⟨tg, iter, ifs, 0⟩] scope pos) spos) (TSf X.K CA W fun ρ => (((mi ρ).bind fun ds ρ => loopC (turnM (own.map (·.2)) f mc (twoM mk mv)) ds ρ).calm.bind fun ds ρ' => (R.lift (pairsD ds) (backE ρ ρ' (own.map (·.2)))).bind fun l ρ => .ok (.ow (.dct (putAll l))) ρ).bind fun c ρ => if i < ρ.length ∧ c.isP = true then .ok .nx (ρ.set i (some c)) else .no) :=
  PS.weak (ps_setDc hc hN hy hyl hsw hi ok hg ht hk he (set_fold hs)) fun D σ H ⟨B, G0, G, ρ, em, p⟩ => dc_sem (W := W) hvs em (post_set hok em p)
end
end DL

set_option maxHeartbeats 4000000
/-! DLh: nested lists. -/
namespace DL
open PySem PySem.Spec PyProof.Rows L2
def updS (B H : Hp) (S : List Addr) : Hp := fun a => if a ∈ S then H a else B a
theorem updS_in {B H : Hp} {S : List Addr} {a : Addr} (h : a ∈ S) : updS B H S a = H a := if_pos h
theorem updS_out {B H : Hp} {S : List Addr} {a : Addr} (h : a ∉ S) : updS B H S a = B a := if_neg h
theorem killA_get {ρ : Env} {s i : Nat} {c : Cell} (h : (killA ρ s)[i]? = some (some c)) : ρ[i]? = some (some c) ∧ ∀ j, c ≠ .al s j := by
  unfold killA at h
  rw [List.getElem?_map] at h
  cases h1 : ρ[i]? with
  | none => rw [h1] at h; cases h
  | some o =>
    rw [h1] at h
    cases o with
    | none => cases h
    | some c0 =>
      cases c0 with
      | al t j =>
        simp only [Option.map_some, Option.some.injEq] at h
        by_cases z : t = s
        · rw [if_pos z] at h; cases h
        · rw [if_neg z] at h; cases h
          exact ⟨rfl, fun k q => by cases q; exact z rfl⟩
      | sh d => cases h; exact ⟨rfl, fun k q => by cases q⟩
      | ow d => cases h; exact ⟨rfl, fun k q => by cases q⟩
      | nst d => cases h; exact ⟨rfl, fun k q => by cases q⟩
theorem killA_len (ρ : Env) (s : Nat) : (killA ρ s).length = ρ.length := by unfold killA; rw [List.length_map]
theorem killA_nst {ρ : Env} {s i : Nat} {ds : List D} (h : ρ[i]? = some (some (.nst ds))) : (killA ρ s)[i]? = some (some (.nst ds)) := by
  unfold killA
  rw [List.getElem?_map, h]; rfl
section
variable [Frame] {K : PySem.W.Frag} {CA : Nat → Addr} {B G0 G H H0 G' H' : Hp} {σ : L2.St} {ρ : Env} {D : Addr} {S : List Addr} {W : WX}
theorem Em.guardS (e : Em K CA B G0 H G σ ρ) (hS : ∀ a ∈ S, (∃ o, H a = some o) ∧ G a = none ∧ Free H σ ρ (.ref a)) : Em K CA (updS B H S) G0 H G σ ρ :=
  e.tr e.gh (fun a u q => by
    by_cases z : a ∈ S
    · rw [updS_in z] at q; exact q
    · rw [updS_out z] at q; exact e.bh a u q) e.g0 (fun a u q => by
    by_cases z : a ∈ S
    · rw [(hS a z).2.1, e.g0.noneL (hS a z).2.1]
    · rw [updS_out z] at q; exact e.gb a u q) (Le.refl _) fun i c v p hi hu f b g _ => ⟨by rw [updS_out fun z => (hS p z).2.2 i c v p rfl hi hu f]; exact b, g, rfl⟩
theorem Em.unguardS (e : Em K CA (updS B H0 S) G0 H G σ ρ) (hS : ∀ a ∈ S, (∃ o, H0 a = some o) ∧ B a = none ∧ G0 a = none) : Em K CA B G0 H G σ ρ ∧ ∀ a ∈ S, H a = H0 a ∧ G a = none ∧ Free H σ ρ (.ref a) := by
  have hB : Le B (updS B H0 S) := fun a u q => by rw [updS_out fun z => by rw [(hS a z).2.1] at q; cases q]; exact q
  refine ⟨e.tr e.gh (hB.trans e.bh) e.g0 (fun a u q => e.gb a u (hB a u q)) (Le.refl _) fun i c v p hi hu f b g _ => ⟨?_, g, rfl⟩, fun a ha => ?_⟩
  · by_cases z : p ∈ S
    · exact (hS p z).2.1
    · rw [updS_out z] at b; exact b
  · obtain ⟨⟨o, ho⟩, hb, h0⟩ := hS a ha
    have hu : updS B H0 S a = some o := by rw [updS_in ha]; exact ho
    refine ⟨(e.bh a o hu).trans ho.symm, (e.gb a o hu).trans h0, fun i c u p ev hi huu f => ?_⟩
    cases ev
    obtain ⟨v, h1, h2⟩ := e.sl i c hi (foot_al f)
    rw [huu] at h1; cases h1
    have := (h2.foot f).1
    rw [hu] at this; cases this
theorem Em.killA (e : Em K CA B G0 H G σ ρ) (s : Nat) : Em K CA B G0 H G σ (DL.killA ρ s) where
  gh := e.gh
  bh := e.bh
  g0 := e.g0
  gb := e.gb
  len := by rw [killA_len]; exact e.len
  fr := e.fr
  sl := fun i c h hc => e.sl i c (killA_get h).1 hc
  al := fun t k i ds u h1 h2 h3 => e.al t k i ds u (killA_get h1).1 (killA_get h2).1 h3
  sep := fun i j c d u v p hij hi hj hu hv f => e.sep i j c d u v p hij (killA_get hi).1 (killA_get hj).1 hu hv f
omit [Frame] in
theorem free_kill {s : Nat} {v : V} (f : Free H σ ρ v) : Free H σ (DL.killA ρ s) v := fun i c u p ev hi hu ft => f i c u p ev (killA_get hi).1 hu ft
omit [Frame] in
theorem CAt.kill {s : Nat} {v : V} {c : Cell} (h : CAt K CA B G H σ ρ v c) : CAt K CA B G H σ (DL.killA ρ s) v c := ⟨h.1, fun p f => free_kill (h.2 p f)⟩
/-- a slot takes a nested list; no other name of its rows is known -/
theorem Em.fillN (e : Em K CA B G0 H G σ ρ) {v : V} {ds : List DL.D} {i : Nat} (na : ∀ (t j : Nat), ρ[t]? ≠ some (some (Cell.al i j))) (hv : σ[i]? = some (some v)) (h : CAt K CA B G H σ ρ v (.nst ds)) : Em K CA B G0 H G σ (ρ.set i (some (.nst ds))) where
  gh := e.gh
  bh := e.bh
  g0 := e.g0
  gb := e.gb
  len := by simp [e.len]
  fr := e.fr
  al := fun t s k ds' u h1 h2 h3 => by
    have zt : i ≠ t := fun z => by
      subst z
      have hi : i < ρ.length := by have := lt_of_get h1; simpa using this
      rw [get_set_eq hi] at h1; cases h1
    rw [get_set_ne zt] at h1
    have zs : i ≠ s := fun z => by subst z; exact na _ _ h1
    rw [get_set_ne zs] at h2
    exact e.al t s k ds' u h1 h2 h3
  sl := fun j c' q hc => by
    by_cases z : i = j
    · subst z
      have hi : i < ρ.length := by have := lt_of_get q; simpa using this
      rw [get_set_eq hi] at q
      cases q
      exact ⟨v, hv, h.1⟩
    · rw [get_set_ne z] at q
      exact e.sl j c' q hc
  sep := fun j k d d' u w p hjk hj hk hu hw => by
    by_cases zj : i = j
    · subst zj
      have hi : i < ρ.length := by have := lt_of_get hj; simpa using this
      rw [get_set_eq hi] at hj
      rw [get_set_ne hjk] at hk
      rw [hv] at hu
      cases hj; cases hu
      exact fun f => h.2 p f k d' w p rfl hk hw
    · rw [get_set_ne zj] at hj
      by_cases zk : i = k
      · subst zk
        have hi : i < ρ.length := by have := lt_of_get hk; simpa using this
        rw [get_set_eq hi] at hk
        rw [hv] at hw
        cases hk; cases hw
        exact fun f f2 => h.2 p f2 j d u p rfl hj hu f
      · rw [get_set_ne zk] at hk
        exact e.sep j k d d' u w p hjk hj hk hu hw
omit [Frame] in
theorem free_unset {i : Nat} {o : Option V} {v : V} (f : Free H σ ρ v) : Free H (σ.set i o) (ρ.set i none) v := fun j c u p ev hj hu ft => by
  by_cases z : i = j
  · subst z
    have hi : i < ρ.length := by have := lt_of_get hj; simpa using this
    rw [get_set_eq hi] at hj; cases hj
  · rw [get_set_ne z] at hj hu
    exact f j c u p ev hj hu ft
omit [Frame] in
theorem CAt.unset {i : Nat} {o : Option V} {v : V} {c : Cell} (h : CAt K CA B G H σ ρ v c) : CAt K CA B G H (σ.set i o) (ρ.set i none) v c := ⟨h.1, fun p f => free_unset (h.2 p f)⟩
theorem Em.setN (e : Em K CA B G0 H G σ ρ) {v : V} {ds : List DL.D} {i : Nat} (ok : Frame.ok i) (h : CAt K CA B G H σ ρ v (.nst ds)) (hi : i < ρ.length) : Em K CA B G0 H G (σ.set i (some v)) ((DL.killA ρ i).set i (some (.nst ds))) := by
  have e1 := (e.killA i).unset (i := i) (o := some v) ok
  have e2 := e1.fillN (i := i) (v := v) (ds := ds) (fun t j q => ?_) (get_set_eq (by rw [e.len]; exact hi)) (h.kill.unset)
  · rw [List.set_set] at e2; exact e2
  · by_cases z : i = t
    · subst z; rw [get_set_eq (by rw [killA_len]; exact hi)] at q; cases q
    · rw [get_set_ne z] at q
      exact (killA_get q).2 j rfl
/-- another name for a row -/
theorem Em.setAl (e : Em K CA B G0 H G σ ρ) {t s j : Nat} {p : Addr} {ds : List DL.D} (ok : Frame.ok t) (hts : t ≠ s) (ht : t < ρ.length) (hs : ρ[s]? = some (some (.nst ds)))
    (h : ∀ u, σ[s]? = some (some u) → ∃ (a : Addr) (ps : List Addr), u = .ref a ∧ H a = some (.lst (ps.map V.ref)) ∧ ps[j]? = some p) : Em K CA B G0 H G (σ.set t (some (.ref p))) (ρ.set t (some (.al s j))) where
  gh := e.gh
  bh := e.bh
  g0 := e.g0
  gb := e.gb
  len := by simp [e.len]
  fr := Frame.set t _ σ ok e.fr
  al := fun t' s' k ds' u h1 h2 h3 => by
    have zs : t ≠ s' := fun z => by subst z; rw [get_set_eq ht] at h2; cases h2
    rw [get_set_ne zs] at h2 h3
    by_cases z : t = t'
    · subst z
      rw [get_set_eq ht] at h1; cases h1
      obtain ⟨a, ps, e1, e2, e3⟩ := h u h3
      exact ⟨a, ps, p, e1, e2, e3, get_set_eq (by rw [e.len]; exact ht)⟩
    · rw [get_set_ne z] at h1
      obtain ⟨a, ps, q, q1, q2, q3, q4⟩ := e.al t' s' k ds' u h1 h2 h3
      exact ⟨a, ps, q, q1, q2, q3, by rw [get_set_ne z]; exact q4⟩
  sl := fun i c q hc => by
    by_cases z : t = i
    · subst z; rw [get_set_eq ht] at q; cases q; cases hc
    · rw [get_set_ne z] at q
      obtain ⟨u, h1, h2⟩ := e.sl i c q hc
      exact ⟨u, by rw [get_set_ne z]; exact h1, h2⟩
  sep := fun i k d d' u w p' hik hi hk hu hw f f2 => by
    by_cases zi : t = i
    · subst zi; rw [get_set_eq ht] at hi; cases hi; exact f
    by_cases zk : t = k
    · subst zk; rw [get_set_eq ht] at hk; cases hk; exact f2
    rw [get_set_ne zi] at hi hu
    rw [get_set_ne zk] at hk hw
    exact e.sep i k d d' u w p' hik hi hk hu hw f f2
/-- a nested list, opened -/
theorem Em.rows (e : Em K CA B G0 H G σ ρ) {s : Nat} {ds : List DL.D} (hs : ρ[s]? = some (some (.nst ds))) :
    ∃ (a : Addr) (ps : List Addr), σ[s]? = some (some (.ref a)) ∧ B a = none ∧ G a = none ∧ H a = some (.lst (ps.map V.ref)) ∧ a ∉ ps ∧ Rows K CA B G H ps ds ∧ ∀ p, p = a ∨ p ∈ ps → Free H σ ((DL.killA ρ s).set s none) (.ref p) := by
  obtain ⟨v, h1, h2⟩ := e.sl s _ hs
  obtain ⟨a, ps, ev, hb, hg, ha, hn, r⟩ := h2
  subst ev
  refine ⟨a, ps, h1, hb, hg, ha, hn, r, fun p hp i c u q ev hi hu f => ?_⟩
  cases ev
  by_cases z : s = i
  · subst z
    have hl : s < (DL.killA ρ s).length := by rw [killA_len]; exact lt_of_get hs
    rw [get_set_eq hl] at hi; cases hi
  · rw [get_set_ne z] at hi
    exact e.sep s i _ c _ u p z hs (killA_get hi).1 h1 hu ⟨a, ps, rfl, ha, hp⟩ f
omit [Frame] in
theorem Rows.snoc {p : Addr} {d : DL.D} (hb : B p = none) (hg : G p = none) (ho : OwnAt K CA G H p d) : ∀ {ps : List Addr} {ds : List DL.D}, Rows K CA B G H ps ds → p ∉ ps → Rows K CA B G H (ps ++ [p]) (ds ++ [d])
  | _, _, .nil, _ => .cons hb hg ho (fun z => by cases z) .nil
  | _, _, .cons (p := q) b g o n t, h => by
    refine .cons b g o (fun z => ?_) (Rows.snoc hb hg ho t fun z => h (List.mem_cons_of_mem _ z))
    rcases List.mem_append.mp z with z | z
    · exact n z
    · have := List.mem_singleton.mp z
      exact h (by rw [this]; exact List.mem_cons_self)
omit [Frame] in
/-- a row is put for another one -/
theorem Rows.put {p : Addr} {d : DL.D} (hb : B p = none) (hg : G p = none) (ho : OwnAt K CA G H p d) : ∀ {ps : List Addr} {ds : List DL.D} (j : Nat), Rows K CA B G H ps ds → p ∉ ps → Rows K CA B G H (ps.set j p) (ds.set j d)
  | _, _, j, .nil, _ => .nil
  | _, _, 0, .cons b g o n t, h => by
    rw [List.set_cons_zero, List.set_cons_zero]
    exact .cons hb hg ho (fun z => h (List.mem_cons_of_mem _ z)) t
  | _, _, j + 1, .cons (p := q) (ps := ps) b g o n t, h => by
    rw [List.set_cons_succ, List.set_cons_succ]
    refine .cons b g o (fun z => ?_) (Rows.put hb hg ho j t fun z => h (List.mem_cons_of_mem _ z))
    rcases List.mem_or_eq_of_mem_set z with z | z
    · exact n z
    · exact h (by rw [← z]; exact List.mem_cons_self)
end
end DL

set_option maxHeartbeats 4000000
/-! DLi: nested lists are made. -/
namespace DL
open PySem PySem.Spec PyProof.Rows L2
def oneN (m : Env → R Cell) (ρ : Env) : R (List DL.D) := (m ρ).bind fun c ρ => (R.lift (rowOf c) ρ).bind fun d ρ => .ok [d] ρ
section
variable [Frame] {K : PySem.W.Frag} {CA : Nat → Addr} {B G0 G H G' H' : Hp} {σ : L2.St} {ρ : Env} {D : Addr} {W : WX}
theorem lcN_sem {mi : Env → R (List DL.D)} {f : DL.D → Env → Option Env} {mc : Env → R Bool} {me : Env → R Cell} {vs : List Nat} {Q : VK} (hvs : ∀ i ∈ vs, Frame.ok i) (em : Em K CA B G0 H G σ ρ)
    (p : PostV K CA W (rlC K CA) B G0 H G σ Q (((mi ρ).bind fun ds ρ => loopC (turnM vs f mc (oneN me)) ds ρ).calm.bind fun ds ρ' => .ok (.nst ds) (backE ρ ρ' vs))) :
    tLc (TIf K CA W mi) (TGb K CA vs f) (TTt K CA WF mc) (TC K CA WF me) vs σ H Q := by
  refine ⟨B, G0, G, ρ, em, ?_⟩
  cases hm : mi ρ with
  | no => rw [hm] at p; exact p.elim
  | ex x ρ' => rw [hm] at p; exact p.elim
  | ok ds ρ1 =>
    rw [hm] at p; simp only [R.bind_ok] at p
    cases hl : loopC (turnM vs f mc (oneN me)) ds ρ1 with
    | no => rw [hl] at p; exact p.elim
    | ex x ρ' => rw [hl] at p; exact p.elim
    | ok fin ρf =>
      rw [hl] at p
      have hfin := loopC_len hl
      intro J H1 G1 lh lg em1 fd D hD
      have eml := em1.laid (o := .lst []) hD
      have hG1D : G1 D = none := em1.gh.noneL hD
      have hBD : B D = none := em1.bh.noneL hD
      have hG0D : G0 D = none := em1.g0.noneL hG1D
      refine ⟨fun n m Hc => ∃ G ρ acc ps zs, Le G1 G ∧ Le H1 Hc ∧ Em K CA B G0 Hc G (L2.wipe σ vs) (wipeE ρ vs) ∧ G D = none ∧ Hc D = some (.lst (ps.map V.ref)) ∧ D ∉ ps ∧ Rows K CA B G Hc ps acc ∧ (∀ a ∈ D :: ps, Free Hc (L2.wipe σ vs) (wipeE ρ vs) (.ref a)) ∧ n ≤ ds.length ∧ m = ds.length - n ∧
          loopC (turnM vs f mc (oneN me)) (ds.drop n) ρ = .ok zs ρf ∧ acc ++ zs = fin,
        ⟨_, G1, ρ1, [], [], fin, Le.refl _, Le.newH hD, eml.wipe vs hvs, hG1D, upd_same, (fun z => by cases z), .nil, fun a ha => by
          have := List.mem_singleton.mp ha
          subst this
          exact free_wipe (em1.fle (Le.newH hD) (free_new em1 hD)), Nat.zero_le _, rfl, hl, rfl⟩, ?_⟩
      rintro n m Hc ⟨G2, ρ2, acc, ps, zs, l2, lh2, em2, hG, hHc, hDp, rs, hfr, hn, hm', hlp, hacc⟩
      obtain ⟨f1, f2⟩ := fd n B G0 Hc G2 _ _ l2 em2
      by_cases hz : n = ds.length
      · refine .inl ⟨f1 hz, ?_⟩
        rw [hz, List.drop_length] at hlp
        unfold loopC at hlp
        cases hlp
        rw [List.append_nil] at hacc
        subst hacc
        refine p (.ref D) Hc G2 (lh.trans lh2) (lg.trans l2) (Em.back em (lg.trans l2) em2) ⟨⟨D, ps, rfl, hBD, hG, hHc, hDp, rs⟩, fun q fq => ?_⟩
        obtain ⟨a', ps', e1, e2, e3⟩ := fq
        cases e1
        rw [hHc] at e2; injection e2 with e2; injection e2 with e2
        have e4 := refs_inj e2; subst e4
        exact free_back (hfr q (by rcases e3 with z | z
                                   · rw [z]; exact List.mem_cons_self
                                   · exact List.mem_cons_of_mem _ z))
      · have hlt : n < ds.length := by omega
        obtain ⟨g1, g2⟩ := f2 _ (List.getElem?_eq_getElem hlt)
        rw [List.drop_eq_getElem_cons hlt] at hlp
        obtain ⟨xs, ys, ρ3, ht, hlp, hys⟩ := loopC_cons hlp
        refine .inr ⟨g1, fun Hc' => ∃ m', m' < m ∧ ∃ G ρ acc ps zs, Le G1 G ∧ Le H1 Hc' ∧ Em K CA B G0 Hc' G (L2.wipe σ vs) (wipeE ρ vs) ∧ G D = none ∧ Hc' D = some (.lst (ps.map V.ref)) ∧ D ∉ ps ∧ Rows K CA B G Hc' ps acc ∧ (∀ a ∈ D :: ps, Free Hc' (L2.wipe σ vs) (wipeE ρ vs) (.ref a)) ∧ n + 1 ≤ ds.length ∧ m' = ds.length - (n + 1) ∧
          loopC (turnM vs f mc (oneN me)) (ds.drop (n + 1)) ρ = .ok zs ρf ∧ acc ++ zs = fin, fun H' h => h, fun x H' hy => ?_⟩
        obtain ⟨G3, lh3, lg3, em3, r3⟩ := g2 x H' hy
        unfold turnM at ht
        cases hf : f ds[n] (wipeE ρ2 vs) with
        | none => rw [hf] at ht; cases ht
        | some ρ4 =>
          rw [hf] at ht; simp only [R.lift_some, R.bind_ok] at ht
          have hS0 : ∀ a ∈ D :: ps, ∃ o, Hc a = some o := fun a ha => by
            rcases List.mem_cons.mp ha with z | z
            · subst z; exact ⟨_, hHc⟩
            · exact (rs.mem z).2.2
          have hSG : ∀ a ∈ D :: ps, G2 a = none := fun a ha => by
            rcases List.mem_cons.mp ha with z | z
            · subst z; exact hG
            · exact (rs.mem z).2.1
          have hSB : ∀ a ∈ D :: ps, B a = none := fun a ha => by
            rcases List.mem_cons.mp ha with z | z
            · subst z; exact hBD
            · exact (rs.mem z).1
          have hSu : ∀ a ∈ D :: ps, (∃ o, Hc a = some o) ∧ B a = none ∧ G0 a = none := fun a ha => ⟨hS0 a ha, hSB a ha, em2.g0.noneL (hSG a ha)⟩
          -- what is made so far is guarded within the turn
          have em2g := em2.guardS (S := D :: ps) fun a ha => ⟨hS0 a ha, hSG a ha, hfr a ha⟩
          obtain ⟨G3', lh3', lg3', em3g, r3'⟩ := (fd n (updS B Hc (D :: ps)) G0 Hc G2 _ _ l2 em2g).2 _ (List.getElem?_eq_getElem hlt) |>.2 x H' hy
          refine ⟨updS B Hc (D :: ps), G0, G3', _, _, em3g, r3', ρ4, hf, fun σ4 hl4 hj4 em4 => ?_⟩
          have hw4 : L2.wipe σ4 vs = L2.wipe σ vs := (wipe_same hl4 hj4).trans (wipe_wipe σ vs)
          refine ⟨hw4, updS B Hc (D :: ps), G0, G3', ρ4, em4, ?_⟩
          cases hc : mc ρ4 with
          | no => rw [hc] at ht; cases ht
          | ex x ρ5 => rw [hc] at ht; cases ht
          | ok b ρ5 =>
            rw [hc] at ht; simp only [R.bind_ok] at ht
            intro H5 G5 lh5 lg5 em5
            cases b with
            | false =>
              simp only [if_neg Bool.false_ne_true] at ht ⊢
              cases ht
              obtain ⟨em6, h6⟩ := em5.unguardS hSu
              have em7 := em6.wipe vs hvs
              rw [hw4] at em7
              refine ⟨_, by omega, G5, ρ3, acc, ps, ys, (l2.trans lg3').trans lg5, (lh2.trans lh3).trans lh5, em7, (h6 D List.mem_cons_self).2.1, (h6 D List.mem_cons_self).1.trans hHc, hDp, rs.to (lg3'.trans lg5) fun a ha => ⟨(rs.mem ha).1, (h6 a (List.mem_cons_of_mem _ ha)).2.1, (h6 a (List.mem_cons_of_mem _ ha)).1⟩, fun a ha => ?_, hlt, rfl, hlp, by rw [hys] at hacc; exact hacc⟩
              have := free_wipe (vs := vs) (h6 a ha).2.2
              rw [hw4] at this; exact this
            | true =>
              simp only [if_true] at ht ⊢
              unfold oneN at ht
              refine ⟨updS B Hc (D :: ps), G0, G5, ρ5, em5, ?_⟩
              cases he : me ρ5 with
              | no => rw [he] at ht; cases ht
              | ex x ρ6 => rw [he] at ht; cases ht
              | ok y ρ6 =>
                rw [he] at ht; simp only [R.bind_ok] at ht
                cases y with
                | sh d => cases ht
                | nst d => cases ht
                | al s j => cases ht
                | ow d =>
                simp only [rowOf, R.lift_some, R.bind_ok] at ht
                cases ht
                intro v H6 G6 lh6 lg6 em6 r6
                obtain ⟨em7, h7⟩ := em6.unguardS hSu
                obtain ⟨⟨p', ev, hb', hg', ho'⟩, fr'⟩ := r6
                subst ev
                have hf' : Free H6 σ4 ρ3 (.ref p') := fr' p' rfl
                have hpS : p' ∉ D :: ps := fun z => by
                  obtain ⟨o, ho⟩ := hS0 p' z
                  rw [updS_in z, ho] at hb'; cases hb'
                rw [updS_out hpS] at hb'
                have hD7 := (h7 D List.mem_cons_self).1.trans hHc
                have hG7 := (h7 D List.mem_cons_self).2.1
                have hf7 := (h7 D List.mem_cons_self).2.2
                have hpD : p' ≠ D := fun z => hpS (by rw [z]; exact List.mem_cons_self)
                have hlen : acc.length < cap := by
                  have e1 := congrArg List.length hacc
                  rw [hys, List.length_append, List.length_append, List.length_singleton] at e1
                  omega
                refine ⟨ps.map V.ref, hD7, by rw [List.length_map, rs.length, ← cap_line]; exact hlen, ?_⟩
                have em8 := (em7.chg (o := .lst (ps.map V.ref ++ [.ref p'])) hBD hG7 hf7).wipe vs hvs
                have fx : ∀ a, Free H6 σ4 ρ3 (.ref a) → Free (upd H6 D (.lst (ps.map V.ref ++ [.ref p']))) (L2.wipe σ vs) (wipeE ρ3 vs) (.ref a) := fun a ha => by
                  have := free_wipe (vs := vs) (em7.chgF (o := .lst (ps.map V.ref ++ [.ref p'])) hf7 ha)
                  rw [hw4] at this; exact this
                rw [hw4] at em8
                have rs2 : Rows K CA B G6 (upd H6 D (.lst (ps.map V.ref ++ [.ref p']))) ps acc := rs.to ((lg3'.trans lg5).trans lg6) fun a ha => ⟨(rs.mem ha).1, (h7 a (List.mem_cons_of_mem _ ha)).2.1, by
                  rw [upd_ne fun (z : a = D) => hDp (by rw [← z]; exact ha)]
                  exact (h7 a (List.mem_cons_of_mem _ ha)).1⟩
                have rs3 := rs2.snoc hb' hg' (ho'.le (Le.refl _) (upd_ne hpD)) fun z => hpS (List.mem_cons_of_mem _ z)
                refine ⟨_, by omega, G6, ρ3, acc ++ [d], ps ++ [p'], ys, ((l2.trans lg3').trans lg5).trans lg6, fun a u q => ?_, em8, hG7, by rw [upd_same, List.map_append]; rfl, fun z => ?_, rs3, fun a ha => ?_, hlt, rfl, hlp, by rw [← hacc, hys, List.append_assoc]⟩
                · rw [upd_ne (ne_of_none q hD)]
                  exact lh6 _ _ (lh5 _ _ (lh3 _ _ (lh2 _ _ q)))
                · rcases List.mem_append.mp z with z | z
                  · exact hDp z
                  · exact hpD (List.mem_singleton.mp z).symm
                · rcases List.mem_cons.mp ha with z | z
                  · subst z; exact fx _ hf7
                  · rcases List.mem_append.mp z with z | z
                    · exact fx a (h7 a (List.mem_cons_of_mem _ z)).2.2
                    · rw [List.mem_singleton.mp z]; exact fx _ hf'
end
section
variable [Frame] {CA : Nat → Addr} {W : WX} {X : Cx}
theorem de_lcn {elt tg iter : Expr} {ifs : List Expr} {scope : Scope} {own : List (Str × Nat)} {pos : Pos} {mi : Env → R (List DL.D)} {f : DL.D → Env → Option Env} {mc : Env → R Bool} {me : Env → R Cell} (hvs : ∀ i ∈ own.map (·.2), Frame.ok i) (hc : X.calm = true) (hN : X.N.Nodup) (hi : PI X tg iter (TIf X.K CA W mi)) (ok : BlkOk X.N X.env.scope scope own)
    (hg : ∀ (s : Shared) (H : Hp) (C : Addr) (cl : List (Str × Addr)) (fp : List Addr), PG (X.blk s H scope (compEnvC scope cl C X.env) fp) tg (TGb X.K CA (own.map (·.2)) f)) (ht : ∀ (s : Shared) (H : Hp) (C : Addr) (cl : List (Str × Addr)) (fp : List Addr), PTs (X.blk s H scope (compEnvC scope cl C X.env) fp) ifs (TTt X.K CA WF mc))
    (he : ∀ (s : Shared) (H : Hp) (C : Addr) (cl : List (Str × Addr)) (fp : List Addr), PE (X.blk s H scope (compEnvC scope cl C X.env) fp) elt (TC X.K CA WF me)) (hs : notSet iter = true) :
    PE X (.ListComp elt [⟨tg, iter, ifs, 0⟩] scope pos) (TC X.K CA W fun ρ => ((mi ρ).bind fun ds ρ => loopC (turnM (own.map (·.2)) f mc (oneN me)) ds ρ).calm.bind fun ds ρ' => .ok (.nst ds) (backE ρ ρ' (own.map (·.2)))) :=
  PE.weak (pe_lc hc hN hi ok hg ht he (set_fold hs)) fun σ H Q ⟨B, G0, G, ρ, em, p⟩ => lcN_sem hvs em p
theorem cat_asN {K : PySem.W.Frag} {B G H : Hp} {σ : L2.St} {ρ : Env} {v : V} {c : Cell} {ds : List DL.D} (h : asN c = some ds) (r : CAt K CA B G H σ ρ v c) : CAt K CA B G H σ ρ v (.nst ds) := by
  unfold asN at h
  split at h
  · cases h; exact r
  · cases h
    obtain ⟨⟨a, ea, hb, hg, vs, hh, rs⟩, fr⟩ := r
    cases rs
    subst ea
    refine ⟨⟨a, [], rfl, hb, hg, hh, (fun z => by cases z), .nil⟩, fun p f => ?_⟩
    obtain ⟨a', ps', e1, e2, e3⟩ := f
    cases e1
    rw [hh] at e2; injection e2 with e2; injection e2 with e2
    cases ps' with
    | nil =>
      rcases e3 with z | z
      · subst z; exact fr p rfl
      · cases z
    | cons _ _ => cases e2
  · cases h
def setNM (i : Nat) (c : Cell) (ρ : Env) : R Fl := match asN c with
  | some ds => if i < ρ.length then .ok .nx ((killA ρ i).set i (some (.nst ds))) else .no
  | none => .no
theorem setN_nx {K : PySem.W.Frag} {B G0 G H : Hp} {σ : L2.St} {ρ : Env} {D : Ends} {i : Nat} {c : Cell} {v : V} (ok : Frame.ok i) (em : Em K CA B G0 H G σ ρ) (r : CAt K CA B G H σ ρ v c) (q : PostS K CA W B G0 G D (setNM i c ρ)) : D.nx (σ.set i (some v)) H := by
  unfold setNM at q
  cases h : asN c with
  | none => rw [h] at q; exact q.elim
  | some ds =>
    rw [h] at q
    dsimp only at q
    by_cases hl : i < ρ.length
    · rw [if_pos hl] at q
      exact q _ _ G (Le.refl _) (em.setN ok (cat_asN h r) hl)
    · rw [if_neg hl] at q; exact q.elim
theorem ds_setN {e : Expr} {pos p1 : Pos} {i : Nat} {x : Str} {m : Env → R Cell} (ok : Frame.ok i) (hN : X.N.Nodup) (hi : X.N[i]? = some x) (hx : Loc X.env.scope x) (hf : X.fn x = true ∨ X.env.scope.names.lookup x = some .local) (he : PE X e (TC X.K CA W m)) (hs : swapsWith e (some (.Name x p1)) pos.line X.env = pure false) :
    PS X (.Assign [.Name x p1] e pos) (TSf X.K CA W fun ρ => (m ρ).bind fun c ρ => setNM i c ρ) :=
  PS.weak (ps_set hN hi hx he hs hf) fun D σ H ⟨B, G0, G, ρ, em, p⟩ => tv_bind (ρ := ρ) em p fun c ρ v H' G' lh lg em' r q => setN_nx ok em' r q
theorem post_setN {K : PySem.W.Frag} {B G0 G H : Hp} {σ : L2.St} {ρ : Env} {D : Ends} {i : Nat} {r : R Cell} (ok : Frame.ok i) (em : Em K CA B G0 H G σ ρ) (p : PostS K CA W B G0 G D (r.bind fun c ρ => setNM i c ρ)) :
    PostV K CA W (rlC K CA) B G0 H G σ (fun x H1 => D.nx (σ.set i (some x)) H1) r := by
  cases r with
  | no => exact p.elim
  | ex x ρ' => exact fun H' G' cl dd lh lg em' xr => p σ H' G' cl dd lg em' xr
  | ok c ρ' => exact fun v H' G' lh lg em' rr => setN_nx ok em' rr (postS_le lg p)
theorem ds_setLcn {i : Nat} {y : Str} {py spos : Pos} {elt tg iter : Expr} {ifs : List Expr} {scope : Scope} {own : List (Str × Nat)} {pos : Pos} {mi : Env → R (List DL.D)} {f : DL.D → Env → Option Env} {mc : Env → R Bool} {me : Env → R Cell} (hvs : ∀ i ∈ own.map (·.2), Frame.ok i) (hok : Frame.ok i) (hc : X.calm = true) (hN : X.N.Nodup) (hy : X.N[i]? = some y) (hyl : X.env.scope.names.lookup y = some .local)
    (hsw : swapsWith (.ListComp elt [⟨tg, iter, ifs, 0⟩] scope pos) (some (.Name y py)) spos.line X.env = pure true) (hi : PI X tg iter (TIf X.K CA W mi)) (ok : BlkOk X.N X.env.scope scope own)
    (hg : ∀ (s : Shared) (H : Hp) (C : Addr) (cl : List (Str × Addr)) (fp : List Addr), PG (X.blk s H scope (compEnvC scope cl C X.env) fp) tg (TGb X.K CA (own.map (·.2)) f)) (ht : ∀ (s : Shared) (H : Hp) (C : Addr) (cl : List (Str × Addr)) (fp : List Addr), PTs (X.blk s H scope (compEnvC scope cl C X.env) fp) ifs (TTt X.K CA WF mc))
    (he : ∀ (s : Shared) (H : Hp) (C : Addr) (cl : List (Str × Addr)) (fp : List Addr), PE (X.blk s H scope (compEnvC scope cl C X.env) fp) elt (TC X.K CA WF me)) (hs : notSet iter = true) :
    PS X (.Assign [.Name y py] (.ListComp elt [⟨tg, iter, ifs, 0⟩] scope pos) spos) (TSf X.K CA W fun ρ => (((mi ρ).bind fun ds ρ => loopC (turnM (own.map (·.2)) f mc (oneN me)) ds ρ).calm.bind fun ds ρ' => .ok (.nst ds) (backE ρ ρ' (own.map (·.2)))).bind fun c ρ => setNM i c ρ) :=
  PS.weak (ps_setLc hc hN hy hyl hsw hi ok hg ht he (set_fold hs)) fun D σ H ⟨B, G0, G, ρ, em, p⟩ => lcN_sem (W := W) hvs em (post_setN hok em p)
end
end DL

set_option maxHeartbeats 4000000
/-! DLj: statements about nested lists. -/
namespace DL
open PySem PySem.Spec PyProof.Rows L2
section
variable [Frame] {K : PySem.W.Frag} {CA : Nat → Addr} {B G0 G H H0 G' H' : Hp} {σ : L2.St} {ρ : Env} {W : WX}
omit [Frame] in
theorem free_forget {i : Nat} {v : V} (f : Free H σ ρ v) : Free H σ (ρ.set i none) v := fun j c u p ev hj hu ft => by
  by_cases z : i = j
  · subst z
    have hi : i < ρ.length := by have := lt_of_get hj; simpa using this
    rw [get_set_eq hi] at hj; cases hj
  · rw [get_set_ne z] at hj
    exact f j c u p ev hj hu ft
theorem kill_none {s t j : Nat} (hl : s < ρ.length) : ((DL.killA ρ s).set s none)[t]? ≠ some (some (Cell.al s j)) := fun q => by
  by_cases z : s = t
  · subst z; rw [get_set_eq (by rw [killA_len]; exact hl)] at q; cases q
  · rw [get_set_ne z] at q
    exact (killA_get q).2 j rfl
/-- the nested list of slot s is changed: other rows, another outer list -/
theorem Em.reN (e : Em K CA B G0 H G σ ρ) {s : Nat} {ds ds' : List DL.D} {a : Addr} {ps' : List Addr} (hs : ρ[s]? = some (some (.nst ds))) (hσ : σ[s]? = some (some (.ref a))) (hb : B a = none) (hg : G a = none)
    (hl : Le G H') (bl : Le B H') (ha : H' a = some (.lst (ps'.map V.ref))) (hn : a ∉ ps') (r : Rows K CA B G H' ps' ds')
    (k : ∀ p, Free H σ ((DL.killA ρ s).set s none) (.ref p) ∨ H' p = H p) (kf : ∀ p, p = a ∨ p ∈ ps' → Free H σ ((DL.killA ρ s).set s none) (.ref p)) : Em K CA B G0 H' G σ ((DL.killA ρ s).set s (some (.nst ds'))) := by
  have e1 := (e.killA s).forget (i := s)
  have keep : ∀ (i : Nat) (c : Cell) (v : V) (p : Addr), ((DL.killA ρ s).set s none)[i]? = some (some c) → σ[i]? = some (some v) → Foot H v c p → H' p = H p := fun i c v p h1 h2 f => by
    rcases k p with z | z
    · exact (z i c v p rfl h1 h2 f).elim
    · exact z
  have e2 : Em K CA B G0 H' G σ ((DL.killA ρ s).set s none) := e1.tr hl bl e.g0 e.gb (Le.refl _) fun i c v p h1 h2 f b g _ => ⟨b, g, keep i c v p h1 h2 f⟩
  have e3 := e2.fillN (i := s) (v := .ref a) (ds := ds') (fun t j => kill_none (lt_of_get hs)) hσ ⟨⟨a, ps', rfl, hb, hg, ha, hn, r⟩, fun p f => ?_⟩
  · rw [List.set_set] at e3; exact e3
  · obtain ⟨a', ps2, e1', e2', e3'⟩ := f
    cases e1'
    rw [ha] at e2'; injection e2' with e2'; injection e2' with e2'
    have e4 := refs_inj e2'; subst e4
    exact e1.ftr keep (kf p e3')
end
section
variable [Frame] {CA : Nat → Addr} {W : WX} {X : Cx} {a b c e i tg : Expr} {pos p1 p2 apos : Pos} {B G0 G H G' H' : Hp} {σ : L2.St} {ρ : Env} {D : Ends}
/-- another name for a row -/
theorem ds_nal {t s : Nat} {x : Str} {mi : Env → R DL.D} (ok : Frame.ok t) (hN : X.N.Nodup) (hi : X.N[t]? = some x) (hx : Loc X.env.scope x) (hf : X.fn x = true ∨ X.env.scope.names.lookup x = some .local) (ho : PE X a (tVar s)) (he : PE X i (TP X.K CA W mi)) (hs : PlainIx i) :
    PS X (.Assign [.Name x p1] (.Subscript a i p2) pos) (TSf X.K CA W fun ρ => match ρ[s]? with
      | some (some (.nst _)) => (mi ρ).bind fun k ρ => (match k, ρ[s]? with
        | .int k, some (some (.nst ds)) => (match ixN ds.length k with
          | some j => if t ≠ s ∧ t < ρ.length then .ok .nx (ρ.set t (some (.al s j))) else .no
          | none => .no)
        | _, _ => .no)
      | _ => .no) :=
  PS.weak (ps_set hN hi hx (pe_ix ix_list ho he hs) rfl hf) fun D σ H ⟨B, G0, G, ρ, em, p⟩ => by
    dsimp only at p
    split at p
    · rename_i ds0 hs0
      obtain ⟨v, h1, _⟩ := em.sl s _ hs0
      refine ⟨v, h1, tv_bind em p fun k ρ1 w H1 G1 lh lg em1 r q => ?_⟩
      split at q
      · rename_i k' ds hds
        obtain ⟨a', ps, h2, hb, hg, ha, hn, rs, _⟩ := em1.rows hds
        rw [h1] at h2; cases h2
        cases hj : ixN ds.length k' with
        | none => rw [hj] at q; exact q.elim
        | some j =>
          rw [hj] at q
          dsimp only at q
          by_cases hc : t ≠ s ∧ t < ρ1.length
          · rw [if_pos hc] at q
            have hjl : j < ps.length := by rw [rs.length]; exact (ixN_seq hj).2.1
            have hat : atI (ps.map V.ref) k' = some (.ref ps[j]) := by
              unfold atI
              rw [List.length_map, rs.length, hj, Option.bind_some, List.getElem?_map, List.getElem?_eq_getElem hjl]; rfl
            refine ⟨a', ps.map V.ref, k', .ref ps[j], rfl, r.int, SqL.of ha, hat, ?_⟩
            refine q _ _ G1 (Le.refl _) (em1.setAl ok hc.1 hc.2 hds fun u hu => ?_)
            rw [h1] at hu; cases hu
            exact ⟨a', ps, rfl, ha, List.getElem?_eq_getElem hjl⟩
          · rw [if_neg hc] at q; exact q.elim
      · exact q.elim
    · exact p.elim
/-- a row is put for another one -/
theorem ds_nrow {s v : Nat} {m : Env → R Cell} (ho : PE X a (tVar s)) (hi : PE X i (tVar v)) (he : PE X e (TC X.K CA W m)) (hs : notSlice i = true) :
    PS X (.Assign [.Subscript a i p1] e pos) (TSf X.K CA W fun ρ => (m ρ).bind fun c ρ => match rowOf c, ρ[v]?, ρ[s]? with
      | some d, some (some (.sh (.int k))), some (some (.nst ds)) => (match ixN ds.length k with
        | some j => .ok .nx ((killA ρ s).set s (some (.nst (ds.set j d))))
        | none => .no)
      | _, _, _ => .no) :=
  PS.weak (ps_asg he (pg_sub ho hi set_list (sub_assign hs)) sub_swaps sub_swapped rfl) fun D σ H ⟨B, G0, G, ρ, em, p⟩ => tv_bind (ρ := ρ) em p fun c ρ u H' G' lh lg em' r q => by
    split at q
    · rename_i d k ds hc hv hds
      obtain ⟨a', ps, h1, hb, hg, ha, hn, rs, fr⟩ := em'.rows hds
      obtain ⟨w, h2, h3⟩ := em'.sl v _ hv
      cases h3
      cases hj : ixN ds.length k with
      | none => rw [hj] at q; exact q.elim
      | some j =>
        rw [hj] at q
        unfold rowOf at hc
        split at hc
        · cases hc
          have hfq := r.free
          obtain ⟨⟨pq, eu, hbq, hgq, hoq⟩, _⟩ := r
          subst eu
          refine ⟨_, h1, _, h2, a', ps.map V.ref, k, j, rfl, rfl, ha, by rw [List.length_map, rs.length]; exact hj, ?_⟩
          have hfp := fun (p : Addr) (hp : p = a' ∨ p ∈ ps) (z : pq = p) => hfq s _ _ pq rfl hds h1 ⟨a', ps, rfl, ha, by rw [z]; exact hp⟩
          have hqa : pq ≠ a' := fun z => hfp a' (.inl rfl) z
          have hqp : pq ∉ ps := fun z => hfp pq (.inr z) rfl
          have hn' : a' ∉ ps.set j pq := fun z => by
            rcases List.mem_or_eq_of_mem_set z with z | z
            · exact hn z
            · exact hqa z.symm
          refine q _ _ G' (Le.refl _) (em'.reN (ps' := ps.set j pq) hds h1 hb hg (fun b o h => by rw [upd_ne (ne_of_none h hg)]; exact em'.gh b o h) (fun b o h => by rw [upd_ne (ne_of_none h hb)]; exact em'.bh b o h) (by rw [upd_same, List.map_set]) hn' ?_ (fun p => ?_) fun p hp => ?_)
          · exact Rows.put hbq hgq (hoq.le (Le.refl _) (upd_ne hqa)) j (rs.to (Le.refl _) fun p hp => ⟨(rs.mem hp).1, (rs.mem hp).2.1, upd_ne fun z => hn (z ▸ hp)⟩) hqp
          · by_cases z : p = a'
            · exact .inl (fr p (.inl z))
            · exact .inr (upd_ne z)
          · rcases hp with z | z
            · exact fr p (.inl z)
            · rcases List.mem_or_eq_of_mem_set z with z | z
              · exact fr p (.inr z)
              · subst z; exact free_forget (free_kill hfq)
        · cases hc
    · exact q.elim
/-- a row more -/
theorem ds_napp {s : Nat} {m : Env → R Cell} (ho : PE X a (tVar s)) (he : PE X e (TC X.K CA W m)) (h1 : notSuper a = true) (h2 : notStar e = true) (h4 : (apos.endLine == p1.line) = true) :
    PS X (.Expr (.Call (.Attribute a "append" apos) [e] [] p1) pos) (TSf X.K CA W fun ρ => match ρ[s]? with
      | some (some (.nst _)) => (m ρ).bind fun c ρ => (match rowOf c, ρ[s]? with
        | some d, some (some (.nst ds)) => if ds.length < cap then .ok .nx ((killA ρ s).set s (some (.nst (ds ++ [d])))) else .no
        | _, _ => .no)
      | _ => .no) :=
  PS.weak (ps_expr (pe_lm1 F.slot_list_append F.type_list_append mt_append ho (pa_cons he pa_nil (star_cons h2)) h1 h2 rfl (Nat.lt_of_sub_eq_succ rfl) h4) rfl) fun D σ H ⟨B, G0, G, ρ, em, p⟩ => by
    dsimp only at p
    split at p
    · rename_i ds0 hs0
      obtain ⟨a0, ps0, g1, _, _, ga, _, _, _⟩ := em.rows hs0
      refine ⟨.ref a0, g1, .inl ⟨rfl, _, SqL.of ga⟩, tv_bind em p fun c ρ u H' G' lh lg em' r q => ?_⟩
      split at q
      · rename_i d ds hc hds
        obtain ⟨a', ps, h1, hb, hg, ha, hn, rs, fr⟩ := em'.rows hds
        have ea : a0 = a' := by rw [g1] at h1; injection h1 with h1; injection h1 with h1; injection h1
        subst ea
        by_cases hl : ds.length < cap
        · rw [if_pos hl] at q
          unfold rowOf at hc
          split at hc
          · cases hc
            have hfq := r.free
            obtain ⟨⟨pq, eu, hbq, hgq, hoq⟩, _⟩ := r
            subst eu
            have hfp := fun (p : Addr) (hp : p = a0 ∨ p ∈ ps) (z : pq = p) => hfq s _ _ pq rfl hds g1 ⟨a0, ps, rfl, ha, by rw [z]; exact hp⟩
            have hqa : pq ≠ a0 := fun z => hfp a0 (.inl rfl) z
            have hqp : pq ∉ ps := fun z => hfp pq (.inr z) rfl
            have hn' : a0 ∉ ps ++ [pq] := fun z => by
              rcases List.mem_append.mp z with z | z
              · exact hn z
              · exact hqa (List.mem_singleton.mp z).symm
            refine ⟨a0, ps.map V.ref, .ref pq, rfl, rfl, ha, by rw [List.length_map, rs.length, ← cap_line]; exact hl, ?_⟩
            refine q _ _ G' (Le.refl _) (em'.reN (ps' := ps ++ [pq]) hds g1 hb hg (fun b o h => by rw [upd_ne (ne_of_none h hg)]; exact em'.gh b o h) (fun b o h => by rw [upd_ne (ne_of_none h hb)]; exact em'.bh b o h) (by rw [upd_same, List.map_append]; rfl) hn' ?_ (fun p => ?_) fun p hp => ?_)
            · exact (rs.to (Le.refl _) fun p hp => ⟨(rs.mem hp).1, (rs.mem hp).2.1, upd_ne fun (z : p = a0) => hn (by rw [← z]; exact hp)⟩).snoc hbq hgq (hoq.le (Le.refl _) (upd_ne hqa)) hqp
            · by_cases z : p = a0
              · exact .inl (fr p (.inl z))
              · exact .inr (upd_ne z)
            · rcases hp with z | z
              · exact fr p (.inl z)
              · rcases List.mem_append.mp z with z | z
                · exact fr p (.inr z)
                · rw [List.mem_singleton.mp z]; exact free_forget (free_kill hfq)
          · cases hc
        · rw [if_neg hl] at q; exact q.elim
      · exact q.elim
    · exact p.elim
end
end DL

set_option maxHeartbeats 4000000
/-! DLk: nested lists: a value in front of each row; a nested list lent. -/
namespace DL
open PySem PySem.Spec PyProof.Rows L2
theorem gh_loop {α : Type} (l : List α) (n : Nat) (h : n < l.length) : l.drop n = l[n] :: l.drop (n + 1) := List.drop_eq_getElem_cons h
/-- the first n rows have got x -/
def insFst (x : DL.D) (n : Nat) (ds : List DL.D) : List DL.D := (ds.take n).map (insRow x) ++ ds.drop n
theorem insFst_len (x : DL.D) (n : Nat) (ds : List DL.D) : (insFst x n ds).length = ds.length := by
  unfold insFst
  rw [List.length_append, List.length_map, List.length_take, List.length_drop]; omega
theorem insFst_get (x : DL.D) {n : Nat} {ds : List DL.D} (h : n < ds.length) : (insFst x n ds)[n]? = some ds[n] := by
  unfold insFst
  rw [List.getElem?_append_right (by rw [List.length_map, List.length_take]; omega), List.length_map, List.length_take, List.getElem?_drop]
  rw [show min n ds.length = n by omega]
  simp [h]
theorem insFst_succ (x : DL.D) {n : Nat} {ds : List DL.D} (h : n < ds.length) : insFst x (n + 1) ds = (insFst x n ds).set n (insRow x ds[n]) := by
  apply List.ext_getElem?
  intro j
  unfold insFst
  rw [List.getElem?_set]
  by_cases z : n = j
  · subst z
    rw [if_pos rfl, List.getElem?_append_left (by rw [List.length_map, List.length_take]; omega)]
    have := insFst_len x n ds
    unfold insFst at this
    rw [if_pos (by rw [this]; exact h)]
    simp [h]
  · rw [if_neg z]
    by_cases z2 : j < n
    · rw [List.getElem?_append_left (by rw [List.length_map, List.length_take]; omega), List.getElem?_append_left (by rw [List.length_map, List.length_take]; omega)]
      simp [List.getElem?_take, z2, show j < n + 1 by omega]
    · rw [List.getElem?_append_right (by rw [List.length_map, List.length_take]; omega), List.getElem?_append_right (by rw [List.length_map, List.length_take]; omega)]
      simp only [List.length_map, List.length_take, List.getElem?_drop]
      congr 1; omega
section
variable [Frame] {K : PySem.W.Frag} {CA : Nat → Addr} {B G0 G H H0 G' H' : Hp} {σ : L2.St} {ρ : Env} {W : WX}
omit [Frame] in
theorem Rows.chgN : ∀ {ps : List Addr} {ds : List DL.D} {j : Nat} {p : Addr} {d : DL.D} {o : HO}, Rows K CA B G H ps ds → ps[j]? = some p → OwnAt K CA G (upd H p o) p d → Rows K CA B G (upd H p o) ps (ds.set j d) := fun r h q => r.chg h q
end
section
variable [Frame] {CA : Nat → Addr} {W : WX} {X : Cx} {a b c e i tg : Expr} {pos p1 p2 p3 apos : Pos} {B G0 G H G' H' : Hp} {σ : L2.St} {ρ : Env} {D : Ends}
theorem ds_fins {pos' : Pos} {t s v : Nat} {x : Str} {j0 : Nat} {q0 : Pos} (hp : PassesOwn (model X.prog X.w) X.A X.env X.xe) (hc : X.calm = true) (ok : Frame.ok t) (hN : X.N.Nodup) (hi : X.N[t]? = some x) (hx : Loc X.env.scope x) (hf : X.fn x = true ∨ X.env.scope.names.lookup x = some .local)
    (hs : PE X a (tVar s)) (ht : PE X (.Name x p2) (tVar t)) (hv : PE X c (tVar v)) (h3 : notStar c = true) (h4 : (apos.endLine == p1.line) = true) (h5 : notSet a = true) :
    PS X (.For (.Name x p3) a [.Expr (.Call (.Attribute (.Name x p2) "insert" apos) [.Constant (.int 0) j0 q0, c] [] p1) pos'] [] pos) (TSf X.K CA W fun ρ => match ρ[s]?, ρ[v]? with
      | some (some (.nst ds)), some (some (.sh x)) => if (t ≠ s ∧ t ≠ v ∧ t < ρ.length) ∧ ds.all rowFew = true then .ok .nx (((killA ρ s).set s (some (.nst (ds.map (insRow x))))).set t none) else .no
      | _, _ => .no) :=
  PS.weak (ps_for hp hc (pi_any hs) (pg_name hN hi hx hf) (pss_one (ps_expr (pe_lm1 F.slot_list_insert F.type_list_insert mt_insert ht (pa_cons pe_int (pa_cons hv pa_nil (star_cons h3)) (star_cons rfl)) rfl rfl (by rw [List.all_cons, h3]; rfl) (Nat.lt_of_sub_eq_succ rfl) h4) rfl)) (set_fold h5)) fun D σ H ⟨B, G0, G, ρ, em, p⟩ => by
    dsimp only at p
    split at p
    · rename_i ds y hds hv
      obtain ⟨a', ps, h1, hb, hg, ha, hn, rs, fr⟩ := em.rows hds
      obtain ⟨w, h2, h3⟩ := em.sl v _ hv
      by_cases hc : (t ≠ s ∧ t ≠ v ∧ t < ρ.length) ∧ ds.all rowFew = true
      · rw [if_pos hc] at p
        obtain ⟨⟨c1, c2, c3⟩, c4⟩ := hc
        rw [List.all_eq_true] at c4
        have hlen := rs.length
        refine ⟨.ref a', h1, .inl ⟨a', ps.map V.ref, rfl, SqL.of ha, ?_⟩⟩
        refine ⟨fun n m σ' H' => ∃ o, σ' = σ.set t o ∧ n ≤ ds.length ∧ m = ds.length - n ∧ (∀ q, q ∉ ps → H' q = H q) ∧ Rows X.K CA B G H' ps (insFst y n ds), ⟨ds.length, (σ[t]?).getD none, ?_, Nat.zero_le _, rfl, fun _ _ => rfl, ?_⟩, ?_⟩
        · have : t < σ.length := by rw [em.len]; exact c3
          rw [List.getElem?_eq_getElem this, Option.getD_some, List.set_getElem_self]
        · show Rows X.K CA B G H ps (insFst y 0 ds)
          unfold insFst; simpa using rs
        rintro n m σ' H' ⟨o, eσ, hn', hm, hH, rs'⟩
        have ha' : H' a' = some (.lst (ps.map V.ref)) := (hH a' hn).trans ha
        by_cases hz : n = ds.length
        · refine .inl ⟨⟨_, SqL.of ha', by rw [List.length_map, hlen, hz]; exact Nat.le_refl _⟩, ?_⟩
          have e2 : insFst y n ds = ds.map (insRow y) := by unfold insFst; rw [hz]; simp
          rw [e2] at rs'
          have em2 := em.reN (H' := H') (ps' := ps) hds h1 hb hg (fun b u q => by rw [hH b fun z => by rw [(rs.mem z).2.1] at q; cases q]; exact em.gh b u q) (fun b u q => by rw [hH b fun z => by rw [(rs.mem z).1] at q; cases q]; exact em.bh b u q) ha' hn rs'
            (fun p => by
              by_cases z : p ∈ ps
              · exact .inl (fr p (.inr z))
              · exact .inr (hH p z)) fr
          rw [eσ]
          exact p _ _ G (Le.refl _) (em2.unset ok)
        · have hlt : n < ds.length := by omega
          have hpl : n < ps.length := by omega
          refine .inr ⟨⟨_, .ref ps[n], SqL.of ha', by rw [List.getElem?_map, List.getElem?_eq_getElem hpl]; rfl⟩, fun σ2 H2 => ∃ m', m' < m ∧ ∃ o, σ2 = σ.set t o ∧ n + 1 ≤ ds.length ∧ m' = ds.length - (n + 1) ∧ (∀ q, q ∉ ps → H2 q = H q) ∧ Rows X.K CA B G H2 ps (insFst y (n + 1) ds), fun σ2 H2 h => h, fun z H2 hy => ?_⟩
          obtain ⟨eH, hy⟩ := hy
          subst eH
          have ez := hy _ (SqL.of ha')
          rw [List.getElem?_map, List.getElem?_eq_getElem hpl] at ez
          cases ez
          have hgetp : ps[n]? = some ps[n] := List.getElem?_eq_getElem hpl
          have tl : t < σ.length := by rw [em.len]; exact c3
          obtain ⟨pp, e5, _, _, ho⟩ := rs'.get (insFst_get y hlt)
          rw [hgetp] at e5; cases e5
          have hrow := c4 ds[n] (List.getElem_mem hlt)
          cases hd : ds[n] with
          | lst xs =>
            rw [hd] at ho hrow
            have hfew : xs.length < cap := of_decide_eq_true hrow
            obtain ⟨vs, hvs, rvs⟩ := ho
            show ∃ u, (σ'.set t (some (.ref ps[n])))[t]? = some (some u) ∧ _
            refine ⟨.ref ps[n], get_set_eq (by rw [eσ, List.length_set]; exact tl), .inl ⟨rfl, vs, SqL.of hvs⟩, ?_⟩
            show ∃ u, (σ'.set t (some (.ref ps[n])))[v]? = some (some u) ∧ _
            refine ⟨w, by rw [get_set_ne c2, eσ, get_set_ne c2]; exact h2, ?_⟩
            refine ⟨ps[n], vs, 0, w, rfl, rfl, hvs, by rw [rvs.length, ← cap_line]; exact hfew, by decide, by decide, ?_⟩
            refine ⟨_, by omega, some (.ref ps[n]), by rw [eσ, List.set_set], hlt, rfl, fun q hq => ?_, ?_⟩
            · rw [upd_ne fun z => hq (by rw [z]; exact List.getElem_mem hpl)]; exact hH q hq
            · rw [insFst_succ y hlt, hd]
              refine rs'.chg hgetp ⟨_, upd_same, ?_⟩
              have h3' : Rep X.K CA G w y := h3
              exact .cons h3' rvs
          | _ => rw [hd] at hrow; cases hrow
      · rw [if_neg hc] at p; exact p.elim
    · exact p.elim
end
end DL

set_option maxHeartbeats 4000000
/-! DLl: a nested list lent. -/
namespace DL
open PySem PySem.Spec PyProof.Rows L2
section
variable {K : PySem.W.Frag} {CA : Nat → Addr} {G G' : Hp}
/-- G' has what G has, but for lists -/
def ButL (G G' : Hp) : Prop := ∀ a o, G a = some o → (∃ vs, o = .lst vs) ∨ G' a = some o
mutual
theorem Rep.butL (l : ButL G G') : ∀ {v : V} {d : DL.D}, Rep K CA G v d → d.noL = true → Rep K CA G' v d
  | _, _, .non, _ => .non
  | _, _, .bl b, _ => .bl b
  | _, _, .int i, _ => .int i
  | _, _, .str h, _ => .str h
  | _, _, .tup h r, n => by
    unfold DL.D.noL at n
    refine .tup ?_ (Reps.butL l r n)
    rcases h with (h | ⟨o, h⟩) | h
    · rcases l _ _ h with ⟨vs, z⟩ | z
      · cases z
      · exact .inl (.inl z)
    · rcases l _ _ h with ⟨vs, z⟩ | z
      · cases z
      · exact .inl (.inr ⟨o, z⟩)
    · exact .inr h
  | _, _, .lst h r, n => by unfold DL.D.noL at n; cases n
  | _, _, .dct h r, n => by
    unfold DL.D.noL at n
    rcases l _ _ h with ⟨vs, z⟩ | z
    · cases z
    · exact .dct z (RepK.butL l r n)
  | _, _, .ins h r, n => by
    unfold DL.D.noL at n
    rcases l _ _ h with ⟨vs, z⟩ | z
    · cases z
    · exact .ins z (RepF.butL l r n)
theorem Reps.butL (l : ButL G G') : ∀ {v : List V} {d : List DL.D}, Reps K CA G v d → DL.D.noLs d = true → Reps K CA G' v d
  | _, _, .nil, _ => .nil
  | _, _, .cons r t, n => by
    unfold DL.D.noLs at n
    obtain ⟨n1, n2⟩ := Bool.and_eq_true_iff.mp n
    exact .cons (Rep.butL l r n1) (Reps.butL l t n2)
theorem RepK.butL (l : ButL G G') : ∀ {v : List (Key × V)} {d : List (Key × DL.D)}, RepK K CA G v d → DL.D.noLk d = true → RepK K CA G' v d
  | _, _, .nil, _ => .nil
  | _, _, .cons r t, n => by
    unfold DL.D.noLk at n
    obtain ⟨n1, n2⟩ := Bool.and_eq_true_iff.mp n
    exact .cons (Rep.butL l r n1) (RepK.butL l t n2)
theorem RepF.butL (l : ButL G G') : ∀ {v : List (Str × V)} {d : List (Str × DL.D)}, RepF K CA G v d → DL.D.noLf d = true → RepF K CA G' v d
  | _, _, .nil, _ => .nil
  | _, _, .cons r t, n => by
    unfold DL.D.noLf at n
    obtain ⟨n1, n2⟩ := Bool.and_eq_true_iff.mp n
    exact .cons (Rep.butL l r n1) (RepF.butL l t n2)
end
theorem OwnAt.butL {H : Hp} (l : ButL G G') {a : Addr} {d : DL.D} (h : OwnAt K CA G H a d) (n : d.noL = true) : OwnAt K CA G' H a d := by
  cases d with
  | lst ds => unfold DL.D.noL at n; cases n
  | dct ds => unfold DL.D.noL at n; obtain ⟨vs, h1, h2⟩ := h; exact ⟨vs, h1, h2.butL l n⟩
  | ins c ds => unfold DL.D.noL at n; obtain ⟨dx, vs, h1, h2⟩ := h; exact ⟨dx, vs, h1, h2.butL l n⟩
  | _ => exact h.elim
end
theorem lendE_get {ρ : Env} {us : List Nat} {s i : Nat} {ds : List DL.D} {c : Cell} (h : (lendE ρ us s ds)[i]? = some (some c)) : (i = s ∧ c = .sh (.lst ds)) ∨ ∃ d, c = .sh d ∧ ρ[i]? = some (some (.sh d)) := by
  unfold lendE at h
  rw [List.getElem?_mapIdx] at h
  cases h1 : ρ[i]? with
  | none => rw [h1] at h; cases h
  | some y =>
    rw [h1] at h
    simp only [Option.map_some, Option.some.injEq] at h
    by_cases z : i = s
    · rw [if_pos z] at h; cases h; exact .inl ⟨z, rfl⟩
    · rw [if_neg z] at h
      by_cases z2 : i ∈ us
      · rw [if_pos z2] at h
        cases y with
        | none => cases h
        | some y => cases y with
          | sh d => cases h; exact .inr ⟨d, rfl, rfl⟩
          | _ => cases h
      · rw [if_neg z2] at h; cases h
section
variable [Frame] {CA : Nat → Addr} {W : WX} {X : Cx} {e : Expr} {pos p1 : Pos}
theorem ds_lend {i s : Nat} {us : List Nat} {x : Str} {m : Env → R Cell} (ok : Frame.ok i) (hN : X.N.Nodup) (hi : X.N[i]? = some x) (hx : Loc X.env.scope x) (hf : X.fn x = true ∨ X.env.scope.names.lookup x = some .local) (he : PE X e (TC X.K CA W m)) (hs : swapsWith e (some (.Name x p1)) pos.line X.env = pure false) :
    PS X (.Assign [.Name x p1] e pos) (TSf X.K CA W fun ρ => match ρ[s]? with
      | some (some (.nst ds)) => (match m (lendE ρ us s ds) with
        | .ok c _ => if (c.isP = true ∧ c.d.noL = true) ∧ (i < ρ.length ∧ i ≠ s) ∧ ds.all isLs = true then .ok .nx (ρ.set i (some c)) else .no
        | _ => .no)
      | _ => .no) :=
  PS.weak (ps_set hN hi hx he hs hf) fun D σ H ⟨B, G0, G, ρ, em, p⟩ => by
    dsimp only at p
    split at p
    · rename_i ds hds
      obtain ⟨a, ps, h1, hb, hg, ha, hn, rs, fr⟩ := em.rows hds
      have hcr : CRep X.K CA B G H (.ref a) (.nst ds) := ⟨a, ps, rfl, hb, hg, ha, hn, rs⟩
      obtain ⟨G1, l1, r1, k1, m1⟩ := hcr.froz
      have ft : ∀ q, Foot H (.ref a) (.nst ds) q ↔ q = a ∨ q ∈ ps := fun q => by
        constructor
        · rintro ⟨a', ps', e1, e2, e3⟩
          cases e1
          rw [ha] at e2; injection e2 with e2; injection e2 with e2
          rw [refs_inj e2]; exact e3
        · exact fun z => ⟨a, ps, rfl, ha, z⟩
      have hS : ∀ q, q ∈ a :: ps → B q = none ∧ G q = none ∧ ∃ o, H q = some o := fun q hq => hcr.foot ((ft q).mpr (by simpa using hq))
      have gh1 : Le G1 H := fun q o h => by
        rcases m1 q o h with z | ⟨_, z⟩
        · exact em.gh q o z
        · exact z
      have em1 : Em X.K CA H G1 H G1 σ (lendE ρ us s ds) :=
        { gh := gh1
          bh := Le.refl _
          g0 := Le.refl _
          gb := fun _ _ _ => rfl
          len := by unfold lendE; rw [List.length_mapIdx]; exact em.len
          fr := em.fr
          sl := fun j c h hc => by
            rcases lendE_get h with ⟨z1, z2⟩ | ⟨d, z1, z2⟩
            · subst z1 z2; exact ⟨_, h1, r1⟩
            · subst z1
              obtain ⟨v, q1, q2⟩ := em.sl j _ z2
              exact ⟨v, q1, Rep.le l1 q2⟩
          al := fun t k j ds' u h1 _ _ => by
            rcases lendE_get h1 with ⟨_, z⟩ | ⟨d, z, _⟩ <;> cases z
          sep := fun j k c c' u v q _ hj _ _ _ f => by
            rcases lendE_get hj with ⟨_, z⟩ | ⟨d, z, _⟩ <;> (subst z; exact f.elim) }
      refine ⟨H, G1, G1, _, em1, ?_⟩
      cases hm : m (lendE ρ us s ds) with
      | no => rw [hm] at p; exact p.elim
      | ex y ρ2 => rw [hm] at p; exact p.elim
      | ok c ρ2 =>
        rw [hm] at p
        dsimp only at p
        by_cases hc : (c.isP = true ∧ c.d.noL = true) ∧ (i < ρ.length ∧ i ≠ s) ∧ ds.all isLs = true
        · rw [if_pos hc] at p
          obtain ⟨⟨c1, c2⟩, ⟨c3, c4⟩, c5⟩ := hc
          rw [List.all_eq_true] at c5
          intro v H' G' lh lg em2 r2
          -- what was lent is taken back
          let G2 : Hp := fun q => if q ∈ a :: ps then none else G' q
          have g2o : ∀ q, q ∉ a :: ps → G2 q = G' q := fun q z => if_neg z
          have g2i : ∀ q, q ∈ a :: ps → G2 q = none := fun q z => if_pos z
          have nS : ∀ q o, G q = some o → q ∉ a :: ps := fun q o h z => by rw [(hS q z).2.1] at h; cases h
          have nB : ∀ q o, B q = some o → q ∉ a :: ps := fun q o h z => by rw [(hS q z).1] at h; cases h
          have lG : Le G G2 := fun q o h => by rw [g2o q (nS q o h)]; exact lg _ _ (l1 _ _ h)
          have kG : ∀ q, q ∉ a :: ps → G1 q = G q := fun q z => k1 q fun f => z (by simpa using (ft q).mp f)
          have em3 : Em X.K CA B G0 H' G2 σ ρ := em.tr
            (fun q o h => by
              by_cases z : q ∈ a :: ps
              · rw [g2i q z] at h; cases h
              · rw [g2o q z] at h; exact em2.gh q o h)
            (em.bh.trans lh) (em.g0.trans lG)
            (fun q o h => by
              have z := nB q o h
              rw [g2o q z, em2.gb q o (em.bh q o h), kG q z]
              exact em.gb q o h) lG
            (fun j cc u q hj hu f b g ⟨o, ho⟩ => ⟨b, by
              by_cases z : q ∈ a :: ps
              · exact g2i q z
              · rw [g2o q z, em2.gb q o ho, kG q z]; exact g, by rw [lh q o ho, ho]⟩)
          have bl : ButL G' G2 := fun q o h => by
            by_cases z : q ∈ a :: ps
            · left
              obtain ⟨_, gq, oq, hq⟩ := hS q z
              have hq' : H' q = some o := em2.gh q o h
              have e1 : H' q = some oq := lh q oq hq
              rw [hq'] at e1; cases e1
              rcases List.mem_cons.mp z with z | z
              · subst z; rw [ha] at hq; cases hq; exact ⟨_, rfl⟩
              · obtain ⟨j, hj, ej⟩ := List.mem_iff_getElem.mp z
                have hjl : j < ds.length := by rw [← rs.length]; exact hj
                obtain ⟨p', e5, _, _, ho⟩ := rs.get (List.getElem?_eq_getElem hjl)
                rw [List.getElem?_eq_getElem hj, ej] at e5; cases e5
                have hl := c5 ds[j] (List.getElem_mem hjl)
                cases hd : ds[j] with
                | lst xs => rw [hd] at ho; obtain ⟨vs, hvs, _⟩ := ho; rw [hvs] at hq; cases hq; exact ⟨_, rfl⟩
                | _ => rw [hd] at hl; cases hl
            · right; rw [g2o q z]; exact h
          refine p _ _ G2 lG (em3.set ok ?_ c3 c1)
          cases c with
          | sh d => exact cat_sh (Rep.butL bl r2.1 c2)
          | ow d =>
            obtain ⟨⟨a', ea, hb', hg', ho'⟩, _⟩ := r2
            subst ea
            refine cat_ow ⟨a', rfl, em.bh.noneL hb', ?_, ho'.butL bl c2⟩ (em.fle lh (free_new em hb'))
            by_cases z : a' ∈ a :: ps
            · exact g2i a' z
            · rw [g2o a' z]; exact hg'
          | nst d => cases c1
          | al _ _ => cases c1
        · rw [if_neg hc] at p; exact p.elim
    · exact p.elim
end
end DL

set_option maxHeartbeats 4000000
/-! DL15: comparisons; tests. -/
namespace DL
open PySem PySem.Spec PyProof.Rows L2
section
variable [Frame] {CA : Nat → Addr} {W : WX} {X : Cx} {a b c e : Expr} {ma mb mc : Env → R D} {pos : Pos} {k : Nat} {P : Pg}
theorem op_w {K : PySem.W.Frag} {op : R2} {ma mb : Env → R D} {g : D → D → Env → R Cell}
    (hg : ∀ x y ρ v u H G B G0 σ Q, PRep K CA H G v x → PRep K CA H G u y → Em K CA B G0 H G σ ρ → PostV K CA W (rlC K CA) B G0 H G σ Q (g x y ρ) → op v u H Q) :
    ∀ σ H Q, TC K CA W (fun ρ => (ma ρ).bind fun x ρ => (mb ρ).bind fun y ρ => g x y ρ) σ H Q → tOp op (TP K CA W ma) (TP K CA W mb) σ H Q := fun σ H Q ⟨B, G0, G, ρ, em, p⟩ => by
  dsimp only at p
  refine ⟨B, G0, G, ρ, em, ?_⟩
  cases hm : ma ρ with
  | no => rw [hm] at p; exact p.elim
  | ex x ρ' => rw [hm] at p; exact p
  | ok x ρ1 =>
    rw [hm] at p
    simp only [R.bind_ok] at p
    intro v H1 G1 l1 k1 em1 r1
    refine ⟨B, G0, G1, ρ1, em1, ?_⟩
    cases hn : mb ρ1 with
    | no => rw [hn] at p; exact p.elim
    | ex x ρ' => rw [hn] at p; exact fun H' G' cl dd lh lg => p H' G' cl dd (l1.trans lh) (k1.trans lg)
    | ok y ρ2 =>
      rw [hn] at p
      simp only [R.bind_ok] at p
      intro u H2 G2 l2 k2 em2 r2
      refine hg x y ρ2 v u H2 G2 B G0 σ Q (r1.le l2 k2) r2 em2 ?_
      cases hk : g x y ρ2 with
      | no => rw [hk] at p; exact p.elim
      | ex x ρ' => rw [hk] at p; exact fun H' G' cl dd lh lg => p H' G' cl dd ((l1.trans l2).trans lh) ((k1.trans k2).trans lg)
      | ok z ρ' => rw [hk] at p; exact fun v' H' G' lh lg => p v' H' G' ((l1.trans l2).trans lh) ((k1.trans k2).trans lg)
/-- what an own == says: both stand in the heap, the def answers True -/
def REq (K : PySem.W.Frag) (CA : Nat → Addr) (P : Pg) (c f : Nat) (a b : Addr) (H : Hp) : Prop := ∃ fs y, Rep K CA H (.ref a) (.ins c fs) ∧ Rep K CA H (.ref b) y ∧ P.call f [.ins c fs, y] = .ok (.sh (.bl true))
/-- the classes with an own == -/
structure EqsOk (P : Pg) (CA : Nat → Addr) (k : Nat) (X : Cx) : Prop where
  eq : ∀ c f, P.eqs.lookup c = some f → RcG X k (DIns (CA c) (REq X.K CA P c f))
theorem spEq_of {K : PySem.W.Frag} {c f n : Nat} (hn : n = 2) : ∀ vs H Q E, spEq (REq K CA P c f) vs H Q E → spD K CA n (P.call f) vs H Q E := fun vs H Q E ⟨a, b, ev, ⟨fs, y, r1, r2, hc⟩, q⟩ => by
  subst hn ev
  refine ⟨rfl, H, [.ins c fs, y], Le.refl _, .cons r1 (.one r2), ?_⟩
  rw [hc]
  intro v H' G' lh lg lk st r
  cases r
  exact q H' lh
theorem PRep.full {K : PySem.W.Frag} {H G : Hp} {v : V} {d : D} (r : PRep K CA H G v d) (l : Le G H) : Rep K CA H v d := by
  rcases r with r | ⟨a, e, h⟩
  · exact r.le l
  · subst e
    obtain ⟨o, ho⟩ := h.has
    exact h.froz ho l ho
def rAllCmp (X : Cx) (CA : Nat → Addr) (P : Pg) (o : Co) : R2 := fun x y H Q => rCmp X o x y H Q ∨ (o = .eq ∧ ∃ c f, P.eqs.lookup c = some f ∧ rEqG (DIns (CA c) (REq X.K CA P c f)) x y H Q)
theorem op_allCmp (hr : Room k X.A) (he : EqsOk P CA k X) (o : Co) : OpR X (compareOp o.op) (rAllCmp X CA P o) := by
  refine (op_cmp hr o).or ?_
  intro pins s σ H x y v u Q I rx ry h
  obtain ⟨eo, c, f, hl, q⟩ := h
  subst eo
  exact op_eqG (he.eq c f hl) hr pins s σ H x y v u Q I rx ry q
theorem cmp_all {o : Co} {x y : D} {ρ : Env} {v u : V} {H G B G0 : Hp} {σ : L2.St} {Q : VK} (heqs : ∀ c f, P.eqs.lookup c = some f → ∀ fs y, P.call f [.ins c fs, y] = .ok (.sh (.bl true)) → ∃ gs, y = .ins c gs)
    (rx : PRep X.K CA H G v x) (ry : PRep X.K CA H G u y) (em : Em X.K CA B G0 H G σ ρ) (p : PostV X.K CA W (rlC X.K CA) B G0 H G σ Q (cmpR P o x y ρ)) : rAllCmp X CA P o v u H Q := by
  have plain : PostV X.K CA W (rlC X.K CA) B G0 H G σ Q ((R.lift (cmpD o x y) ρ).bind fun b ρ => .ok (.sh (.bl b)) ρ) → rAllCmp X CA P o v u H Q := fun p => by
    obtain ⟨t, ht, q⟩ := post_lift p
    exact .inl (cmp_ok ht rx ry em.gh (post_sh em q (.bl t)))
  unfold cmpR at p
  split at p
  · rename_i c fs
    cases hl : P.eqs.lookup c with
    | none => rw [hl] at p; exact p.elim
    | some f =>
      rw [hl] at p
      dsimp only at p
      split at p
      · rename_i hc
        obtain ⟨gs, ey⟩ := heqs c f hl fs y hc
        subst ey
        have fx := rx.full em.gh
        have fy := ry.full em.gh
        cases fx with | ins h1 s1 =>
        cases fy with | ins h2 s2 =>
        refine .inr ⟨rfl, c, f, hl, ⟨_, _, _, _, _, _, rfl, rfl, h1, h2, fs, _, .ins h1 s1, .ins h2 s2, hc⟩, fun H' e => ?_⟩
        exact p (.bl true) H' G e (Le.refl _) (em.ext e) ⟨.bl true, fun _ z => by cases z⟩
      · exact p.elim
  · exact plain p
theorem de_cmp (hr : Room k X.A) (he : EqsOk P CA k X) (heqs : ∀ c f, P.eqs.lookup c = some f → ∀ fs y, P.call f [.ins c fs, y] = .ok (.sh (.bl true)) → ∃ gs, y = .ins c gs) (o : Co)
    (ha : PE X a (TP X.K CA W ma)) (hb : PE X b (TP X.K CA W mb)) (hm : behindInMarks o.op b = false) :
    PE X (.Compare a [o.op] [b] pos) (TC X.K CA W fun ρ => (ma ρ).bind fun x ρ => (mb ρ).bind fun y ρ => cmpR P o x y ρ) :=
  PE.weak (pe_cmpR (op_allCmp hr he o) ha hb hm) (op_w fun x y ρ v u H G B G0 σ Q rx ry em p => cmp_all heqs rx ry em p)
theorem cmpR_bl {o : Co} {x y : D} {ρ ρ' : Env} {c : Cell} (h : cmpR P o x y ρ = .ok c ρ') : ∃ t, c = .sh (.bl t) := by
  unfold cmpR at h
  split at h
  · split at h
    · split at h
      · cases h; exact ⟨_, rfl⟩
      · cases h
    · cases h
  · rename_i hx
    cases hc : cmpD o x y with
    | none => rw [hc] at h; cases h
    | some t => rw [hc] at h; cases h; exact ⟨t, rfl⟩
/-- a test of what is a truth value -/
theorem test_w {K : PySem.W.Frag} {t : TE} {m : Env → R Cell} (hw : ∀ σ H Q, TC K CA W m σ H Q → t σ H Q) (hb : ∀ ρ c ρ', m ρ = .ok c ρ' → ∃ t, c = .sh (.bl t)) :
    ∀ σ H Q, TTt K CA W (fun ρ => (fz (m ρ)).bind fun x ρ => R.lift (trD x) ρ) σ H Q → tTest t σ H Q := fun σ H Q ⟨B, G0, G, ρ, em, p⟩ => by
  refine hw σ H _ ⟨B, G0, G, ρ, em, ?_⟩
  dsimp only at p
  cases hm : m ρ with
  | no => rw [hm] at p; exact p.elim
  | ex x ρ' => rw [hm] at p; exact p
  | ok c ρ' =>
    obtain ⟨t, e⟩ := hb ρ c ρ' hm
    subst e
    rw [hm] at p
    simp only [fz_ok, R.bind_ok, Cell.d_sh, trD, R.lift_some] at p
    intro v H' G' lh lg em' r
    have r1 := r.1
    cases r1
    exact ⟨t, rfl, p H' G' lh lg em'⟩
theorem dt_cmp (hr : Room k X.A) (he : EqsOk P CA k X) (heqs : ∀ c f, P.eqs.lookup c = some f → ∀ fs y, P.call f [.ins c fs, y] = .ok (.sh (.bl true)) → ∃ gs, y = .ins c gs) (o : Co)
    (ha : PE X a (TP X.K CA W ma)) (hb : PE X b (TP X.K CA W mb)) (hm : behindInMarks o.op b = false) :
    PT X (.Compare a [o.op] [b] pos) (TTt X.K CA W fun ρ => (fz ((ma ρ).bind fun x ρ => (mb ρ).bind fun y ρ => cmpR P o x y ρ)).bind fun x ρ => R.lift (trD x) ρ) :=
  PT.weak (pt_cmpR (op_allCmp hr he o) ha hb hm) (test_w (op_w fun x y ρ v u H G B G0 σ Q rx ry em p => cmp_all heqs rx ry em p) fun ρ c ρ' h => by
    cases h1 : ma ρ with
    | no => rw [h1] at h; cases h
    | ex x ρ1 => rw [h1] at h; cases h
    | ok x ρ1 =>
      rw [h1] at h; simp only [R.bind_ok] at h
      cases h2 : mb ρ1 with
      | no => rw [h2] at h; cases h
      | ex x ρ1 => rw [h2] at h; cases h
      | ok y ρ2 => rw [h2] at h; simp only [R.bind_ok] at h; exact cmpR_bl h)
def chnM (o p : Co) (ma mb mc : Env → R D) (ρ : Env) : R Cell := (ma ρ).bind fun x ρ => (mb ρ).bind fun y ρ => (R.lift (cmpD o x y) ρ).bind fun k ρ =>
      if k = true then (mc ρ).bind fun z ρ => (R.lift (cmpD p y z) ρ).bind fun k ρ => .ok (.sh (.bl k)) ρ else .ok (.sh (.bl false)) ρ
theorem chn_w (hr : Room k X.A) (o p : Co) : ∀ σ H Q, TC X.K CA W (chnM o p ma mb mc) σ H Q → tChain (rCmp X o) (rCmp X p) (TP X.K CA W ma) (TP X.K CA W mb) (TP X.K CA W mc) σ H Q := fun σ H Q ⟨B, G0, G, ρ, em, q⟩ => by
    unfold chnM at q
    refine ⟨B, G0, G, ρ, em, ?_⟩
    cases h1 : ma ρ with
    | no => rw [h1] at q; exact q.elim
    | ex x ρ' => rw [h1] at q; exact q
    | ok x ρ1 =>
      rw [h1] at q; simp only [R.bind_ok] at q
      intro v H1 G1 l1 k1 em1 r1
      refine ⟨B, G0, G1, ρ1, em1, ?_⟩
      cases h2 : mb ρ1 with
      | no => rw [h2] at q; exact q.elim
      | ex x ρ' => rw [h2] at q; exact fun H' G' cl dd lh lg => q H' G' cl dd (l1.trans lh) (k1.trans lg)
      | ok y ρ2 =>
        rw [h2] at q; simp only [R.bind_ok] at q
        intro u H2 G2 l2 k2 em2 r2
        obtain ⟨t, ht, q⟩ := post_lift q
        refine cmp_ok ht (r1.le l2 k2) r2 em2.gh ⟨t, rfl, ?_⟩
        cases t with
        | false =>
          rw [if_neg Bool.false_ne_true]
          rw [if_neg Bool.false_ne_true] at q
          exact q _ H2 G2 (l1.trans l2) (k1.trans k2) em2 ⟨.bl _, fun _ z => by cases z⟩
        | true =>
          rw [if_pos rfl]
          rw [if_pos rfl] at q
          refine ⟨B, G0, G2, ρ2, em2, ?_⟩
          cases h3 : mc ρ2 with
          | no => rw [h3] at q; exact q.elim
          | ex x ρ' => rw [h3] at q; exact fun H' G' cl dd lh lg => q H' G' cl dd ((l1.trans l2).trans lh) ((k1.trans k2).trans lg)
          | ok z ρ3 =>
            rw [h3] at q; simp only [R.bind_ok] at q
            intro w H3 G3 l3 k3 em3 r3
            obtain ⟨t, ht, q⟩ := post_lift q
            exact cmp_ok ht (r2.le l3 k3) r3 em3.gh (q _ H3 G3 ((l1.trans l2).trans l3) ((k1.trans k2).trans k3) em3 ⟨.bl _, fun _ z => by cases z⟩)
theorem dt_chn (hr : Room k X.A) (o p : Co) (ha : PE X a (TP X.K CA W ma)) (hb : PE X b (TP X.K CA W mb)) (hc : PE X c (TP X.K CA W mc)) (hm : lastMarks [o.op, p.op] [b, c] = false) :
    PT X (.Compare a [o.op, p.op] [b, c] pos) (TTt X.K CA W fun ρ => (fz (chnM o p ma mb mc ρ)).bind fun x ρ => R.lift (trD x) ρ) :=
  PT.weak (pt_chain (op_cmp hr o) (op_cmp hr p) ha hb hc hm) (test_w (chn_w hr o p) fun ρ c ρ' h => by
    unfold chnM at h
    cases h1 : ma ρ with
    | no => rw [h1] at h; cases h
    | ex x ρ1 => rw [h1] at h; cases h
    | ok x ρ1 =>
      rw [h1] at h; simp only [R.bind_ok] at h
      cases h2 : mb ρ1 with
      | no => rw [h2] at h; cases h
      | ex x ρ1 => rw [h2] at h; cases h
      | ok y ρ2 =>
        rw [h2] at h; simp only [R.bind_ok] at h
        cases h3 : cmpD o x y with
        | none => rw [h3] at h; cases h
        | some t =>
          rw [h3] at h; simp only [R.lift_some, R.bind_ok] at h
          cases t with
          | false => rw [if_neg Bool.false_ne_true] at h; cases h; exact ⟨_, rfl⟩
          | true =>
            rw [if_pos rfl] at h
            cases h4 : mc ρ2 with
            | no => rw [h4] at h; cases h
            | ex x ρ1 => rw [h4] at h; cases h
            | ok z ρ3 =>
              rw [h4] at h; simp only [R.bind_ok] at h
              cases h5 : cmpD p y z with
              | none => rw [h5] at h; cases h
              | some t => rw [h5] at h; cases h; exact ⟨_, rfl⟩)
end
end DL

set_option maxHeartbeats 4000000
/-! DLm: methods, starred arguments, starred targets, match. -/
namespace DL
open PySem PySem.Spec PyProof.Rows L2
section
variable [Frame] {rp : Bool} {CA : Nat → Addr} {W : WX} {X : Cx} {a b c e o f' : Expr} {es : List Expr} {ma mb mc mo me mf : Env → R D} {pos p p1 p2 p3 apos cpos : Pos} {k : Nat} {f : Addr} {fd : FuncData} {ps : List Str} {g : List D → FR} {x m : Str}
theorem m2_of (h1 : notSuper o = true) (h2 : notStar e = true) (h3 : notStar f' = true) (h4 : (apos.endLine == cpos.line) = true) : M2 X o m apos e f' cpos where
  base := super_not h1
  few := few (by rw [List.all_cons, List.all_cons, h2, h3]; rfl) (by show 2 < 30; decide)
  line := h4
  trees := by rw [star_cons h2, star_cons h3]; rfl
theorem m1_of (h1 : notSuper o = true) (h2 : notStar e = true) (h4 : (apos.endLine == cpos.line) = true) : M1 X o m apos e cpos where
  base := super_not h1
  few := few (by rw [List.all_cons, h2]; rfl) (by show 1 < 30; decide)
  line := h4
  trees := by rw [star_cons h2]; rfl
/-- d.get(k, z) -/
theorem de_get2 (hu : X.A.units + 1 < cLine) (ho : PE X o (TP X.K CA W mo)) (he : PE X e (TD X.K CA W me)) (hf : PE X f' (TD X.K CA W mf)) (h1 : notSuper o = true) (h2 : notStar e = true) (h3 : notStar f' = true) (h4 : (apos.endLine == cpos.line) = true) :
    PE X (.Call (.Attribute o "get" apos) [e, f'] [] cpos) (TC X.K CA W fun ρ => (mo ρ).bind fun x ρ => if mtOk .get x = true then (me ρ).bind fun y ρ => (mf ρ).bind fun z ρ => R.lift (mtD .get x [y, z]) ρ else .no) :=
  PE.weak (pe_dget2 hu ho he hf (m2_of h1 h2 h3 h4)) fun σ H Q ⟨B, G0, G, ρ, em, q⟩ => by
    dsimp only at q
    refine ⟨B, G0, G, ρ, em, ?_⟩
    cases q1 : mo ρ with
    | no => rw [q1] at q; exact q.elim
    | ex x ρ' => rw [q1] at q; exact q
    | ok d ρ1 =>
      rw [q1] at q; simp only [R.bind_ok] at q
      intro v H1 G1 l1 k1 em1 r1
      cases d with
      | dct kvs =>
        obtain ⟨p, vs, rfl, hp, rk⟩ := r1.dct em1.gh
        refine ⟨p, rfl, .inl ⟨_, .of hp⟩, B, G0, G1, ρ1, em1, ?_⟩
        have q : PostV X.K CA W (rlC X.K CA) B G0 H G σ Q ((me ρ1).bind fun y ρ => (mf ρ).bind fun z ρ => R.lift (mtD .get (.dct kvs) [y, z]) ρ) := q
        cases q2 : me ρ1 with
        | no => rw [q2] at q; exact q.elim
        | ex x ρ' => rw [q2] at q; exact fun H' G' cl dd lh lg => q H' G' cl dd (l1.trans lh) (k1.trans lg)
        | ok y ρ2 =>
          rw [q2] at q; simp only [R.bind_ok] at q
          intro u H2 G2 l2 k2 em2 r2
          refine ⟨B, G0, G2, ρ2, em2, ?_⟩
          cases q3 : mf ρ2 with
          | no => rw [q3] at q; exact q.elim
          | ex x ρ' => rw [q3] at q; exact fun H' G' cl dd lh lg => q H' G' cl dd ((l1.trans l2).trans lh) ((k1.trans k2).trans lg)
          | ok z ρ3 =>
            rw [q3] at q; simp only [R.bind_ok] at q
            intro t H3 G3 l3 k3 em3 r3
            have q5 : PostV X.K CA W (rlC X.K CA) B G0 H3 G3 σ Q (R.lift ((keyD y).map fun k => Cell.sh ((lookK k kvs).getD z)) ρ3) := postV_le ((l1.trans l2).trans l3) ((k1.trans k2).trans k3) q
            cases hk : keyD y with
            | none => rw [hk] at q5; exact q5.elim
            | some kk =>
              rw [hk] at q5
              have ev := keyD_rep (K := X.K) (CA := CA) (H := H2) (.inl r2) hk
              subst ev
              have hp3 : H3 p = some (.dK vs) := l3 _ _ (l2 _ _ hp)
              refine ⟨valV vs kk, DGet.k hp3, ?_⟩
              rcases repK_look (k := kk) rk with ⟨z1, z2⟩ | ⟨v', d', z1, z2, r4⟩
              · rw [z1]
                have q6 : PostV X.K CA W (rlC X.K CA) B G0 H3 G3 σ Q (.ok (Cell.sh ((lookK kk kvs).getD z)) ρ3) := q5
                rw [z2] at q6
                exact post_sh em3 q6 r3
              · rw [z1]
                have q6 : PostV X.K CA W (rlC X.K CA) B G0 H3 G3 σ Q (.ok (Cell.sh ((lookK kk kvs).getD z)) ρ3) := q5
                rw [z2] at q6
                exact post_sh em3 q6 (r4.le (k2.trans k3))
      | _ => exact q.elim
/-- a text's method without arguments -/
theorem de_upper (ho : PE X o (TP X.K CA W mo)) (h1 : notSuper o = true) (h4 : (apos.endLine == cpos.line) = true) :
    PE X (.Call (.Attribute o "upper" apos) [] [] cpos) (TC X.K CA W fun ρ => (mo ρ).bind fun x ρ => if mtOk .upper x = true then R.lift (mtD .upper x []) ρ else .no) :=
  PE.weak (pe_m0 F.slot_str_upper F.type_str_upper mt_upper ho (super_not h1) h4) fun σ H Q ⟨B, G0, G, ρ, em, q⟩ => by
    dsimp only at q
    refine ⟨B, G0, G, ρ, em, ?_⟩
    cases q1 : mo ρ with
    | no => rw [q1] at q; exact q.elim
    | ex x ρ' => rw [q1] at q; exact q
    | ok d ρ1 =>
      rw [q1] at q; simp only [R.bind_ok] at q
      intro v H1 G1 l1 k1 em1 r1
      cases d with
      | str x =>
        obtain ⟨e1, s1⟩ := r1.str
        have q : PostV X.K CA W (rlC X.K CA) B G0 H G σ Q (R.lift (if x.length ≤ 5592405 ∧ sOk (Txt.upper x) = true then some (Cell.sh (.str (Txt.upper x))) else none) ρ1) := q
        by_cases hz : x.length ≤ 5592405 ∧ sOk (Txt.upper x) = true
        · rw [if_pos hz] at q
          exact ⟨⟨x, e1⟩, x, e1, rfl, hz.1, post_sh em1 (postV_le l1 k1 q) (.str hz.2)⟩
        · rw [if_neg hz] at q; exact q.elim
      | _ => exact q.elim
/-! ### a starred argument behind a plain one -/
theorem de_callS {ms : Env → R (List D)} (F : FnG rp X.prog X.w X.K X.mg X.base (L2.CX X.prog X.w) k f fd ps (spD X.K CA ps.length g)) (hr : RmG rp k X.A) (tk : Takes X W) (hg : Gl X x) (hm : X.mg x = some (.ref f)) (hk : PySem.W.keepIn X.K (.ref f) = true) (hb : Binds X.K fd ps [])
    (hgn : ∀ ds, g ds ≠ .no → ds.length = ps.length) (ha : PA X (e :: es) (TAD X.K CA W ms)) (hdb : (x == ("__debug__" : Str)) = false) (he : starEach (e :: es) X.env = (false, eval e X.env) :: starEach es X.env) (hpl : (backTo pos (starEach es X.env)).any (·.1) = true) :
    PE X (.Call (.Name x p) (e :: es) [] pos) (TC X.K CA W fun ρ => (ms ρ).bind fun ds ρ => (g ds).r ρ) := by
  refine ⟨fun pins s σ H Q I h => ?_⟩
  refine wpAny_Call_Name_kw (ld_glob I hg hm ?_ hdb)
  obtain ⟨B, G0, G, ρ, em, q⟩ := h
  refine PySem.W.callWith_S2 (h₀ := X.base) (first := []) I.ok.mod.kin hk (thn (ha.run pos pins s σ H (fun vs H1 => spD X.K CA ps.length g vs H1 Q (WE W σ)) I ⟨B, G0, G, ρ, em, ?_⟩) fun us s1 ⟨vs, H1, I1, r, q⟩ => ⟨I1.kIn, ?_⟩) he hpl
  · dsimp only at q
    cases h1 : ms ρ with
    | no => rw [h1] at q; exact q.elim
    | ex x ρ' => rw [h1] at q; exact q
    | ok ds ρ1 =>
      rw [h1] at q; simp only [R.bind_ok] at q
      refine fun vs H1 G1 l1 k1 em1 r1 => spD_of em1 r1 (hgn ds fun z => ?_) (postV_le l1 k1 q)
      rw [z] at q; exact q.elim
  · have hl : us.length = ps.length := by rw [← r.length]; exact q.1
    have b := hb s1 us I1.kIn (by rw [List.append_nil]; exact hl)
    rw [List.append_nil] at b
    exact run_at F hr tk I1 b r q
end
/-! ### a starred target: the first item, the rest as a new list -/
section
variable {prog : Program} {w : World} {A : Around} {E : Value → Shared → Prop} {s : Shared}
theorem unpack_first {t : Addr} {its : Array Value} {v : Value} {rest : List Value} {Q : List Value → Shared → Prop} (ht : IsTup s.heap t its) (noH : A.handled = none) (hsz : its.size ≤ sizeLine) (hv : its.toList = v :: rest)
    (q : ∀ (h' : Heap) (tk : Nat), (∀ b o, s.heap.get? b = some o → h'.get? b = some o) → Q [v, .ref h'.objs.size] { s with heap := h'.push { cls := .type "list", data := .seq rest.toArray }, toks := tk }) :
    wpAny (model prog w) A (unpackItems (.ref t) 2 (some 1)) Q E s := by
  have tlt : t < s.heap.objs.size := by
    obtain ⟨o, ho, _⟩ := ht
    exact Heap.lt_size ho
  have tne : t ≠ s.heap.objs.size := Nat.ne_of_lt tlt
  have hsz1 : 1 ≤ its.size := by
    have := congrArg List.length hv
    rw [Array.length_toList, List.length_cons] at this; omega
  have hsz2 : its.size = rest.length + 1 := by
    have := congrArg List.length hv
    rw [Array.length_toList, List.length_cons] at this; exact this
  unfold unpackItems
  apply wpAny_bind
  unfold notIterableAtAll
  apply wpAny_bind
  apply wpAny_specialOf ht.typeIs slot_tuple_iter.lookup
  apply wpAny_pure
  rw [if_neg (by simp)]
  apply wpAny_bind
  apply wpAny_holding
  apply iter_tuple ht
  apply wpAny_bind
  apply wpAny_holding
  apply draw_tuple tne 1 0 _ _ ⟨_, Heap.get?_push_size _ rfl, rfl, rfl⟩ (ht.push _) (by omega)
  intro h1 it1 sb1
  have ht1 : IsTup h1 t its := IsTup.extBut (ht.push _) sb1.extBut tne
  rw [Nat.zero_add] at it1
  have itlt : s.heap.objs.size < h1.objs.size := by
    obtain ⟨o, ho, _⟩ := it1
    exact Heap.lt_size ho
  have tlt1 : t < h1.objs.size := by
    obtain ⟨o, ho, _⟩ := ht1
    exact Heap.lt_size ho
  have e1 : (its.toList.drop 0).take 1 = [v] := by rw [hv]; rfl
  have e2 : its.toList.drop 1 = rest := by rw [hv]; rfl
  rw [e1]
  rw [if_neg (show ¬ ([v].length < 1) by simp)]
  apply wpAny_bind
  apply wpAny_holding
  apply PySem.W.kun_collect (s := { s with heap := h1 }) (T := "tuple_iterator") (k := 1) (.inr (.inr (.inr rfl))) (Walks.tuple (A := A.in1) noH s.heap.objs.size t tne its) (fun j u st => st.1.typeIs) hsz1 ⟨it1, ht1⟩ itlt tlt1 ?_ hsz
  intro h2 tk kp
  rw [e2]
  show wpAny _ _ (if rest.length < 0 then _ else _) _ _ _
  rw [if_neg (Nat.not_lt_zero _)]
  show wpAny _ _ (newList (rest.take rest.length) >>= fun d => pure ([v] ++ [d] ++ rest.drop rest.length)) _ _ _
  rw [List.take_length, List.drop_length]
  have up : ∀ b o, s.heap.get? b = some o → h2.get? b = some o := by
    intro b o z
    have hb : b ≠ s.heap.objs.size := Nat.ne_of_lt (Heap.lt_size z)
    exact kp b o hb (sb1.extBut b o hb (Heap.get?_push_of_some _ z))
  exact wpAny_bind (wpAny_newList (wpAny_pure (q h2 tk up)) (by omega))
end
section
variable [Frame] {CA : Nat → Addr} {W : WX} {X : Cx} {e : Expr} {pos p1 p2 p3 p4 : Pos}
def gStu (K : PySem.W.Frag) (w i : Nat) : TG := fun v σ H Q => ∃ a x xs, v = .ref a ∧ SqT K H a (x :: xs) ∧ ∀ q, H q = none → Q ((σ.set w (some x)).set i (some (.ref q))) (upd H q (.lst xs))
omit [Frame] in
theorem pg_stu {w i k : Nat} {y z : Str} (hc : X.calm = true) (hN : X.N.Nodup) (hw : X.N[w]? = some y) (hy : Loc X.env.scope y) (fy : X.fn y = true ∨ X.env.scope.names.lookup y = some .local)
    (hi : X.N[i]? = some z) (hz : Loc X.env.scope z) (fz : X.fn z = true ∨ X.env.scope.names.lookup z = some .local) : PG X (.Tuple [.Name y p1, .Starred (.Name z p2) p3] k pos) (gStu X.K w i) := by
  refine ⟨fun pins s σ H v u Q I r h => ?_⟩
  obtain ⟨a, x, xs, rfl, hq, h⟩ := h
  cases r
  obtain ⟨its, rv, ht, hsz⟩ := I.tuple hq
  cases its with
  | nil => cases rv
  | cons t ts =>
    cases rv with | cons r1 r2 =>
    rw [assign_Tuple]
    apply wpAny_bind
    apply wpAny_standAt
    unfold unpack
    show wpAny _ _ (holding _ (unpackItems _ 2 (some 1)) >>= _) _ _ _
    apply wpAny_bind
    apply wpAny_holding
    refine unpack_first ht (I.ok.hd hc) (by rw [List.size_toArray]; have := r2.length; simp only [List.length_cons] at hsz ⊢; omega) rfl fun h' tk kp => ?_
    have I1 : Inv X pins σ H { s with heap := h', toks := tk } := I.kept (t' := tk) kp
    have I2 : Inv X pins σ (upd H h'.objs.size (.lst xs)) { s with heap := h'.push { cls := .type "list", data := .seq ts.toArray }, toks := tk } := I1.lnew (t' := tk) r2 (by simp only [List.length_cons] at hsz; omega)
    have h := h h'.objs.size I1.fresh
    show wpAny _ _ (assignInOrder [assign (.Name y p1) X.env, assign (.Name z p2) X.env] [t, .ref h'.objs.size]) _ _ _
    refine assignInOrder_cons (wpAny_assign_Name (store_ok I2 hN hw hy r1 (fun s3 I3 => ?_) fy))
    refine assignInOrder_cons (wpAny_assign_Name (store_ok (v := .ref h'.objs.size) I3 hN hi hz rfl (fun s4 I4 => ?_) fz))
    exact assignInOrder_nil ⟨_, _, I4, h⟩
theorem ds_stu {w i k : Nat} {y z : Str} {m : Env → R D} (okw : Frame.ok w) (oki : Frame.ok i) (hc : X.calm = true) (hN : X.N.Nodup) (hw : X.N[w]? = some y) (hy : Loc X.env.scope y) (fy : X.fn y = true ∨ X.env.scope.names.lookup y = some .local)
    (hi : X.N[i]? = some z) (hz : Loc X.env.scope z) (fz : X.fn z = true ∨ X.env.scope.names.lookup z = some .local) (he : PE X e (TD X.K CA W m)) (hs : notComp e = true) (ht : notTup e = true) :
    PS X (.Assign [.Tuple [.Name y p1, .Starred (.Name z p2) p3] k p4] e pos) (TSf X.K CA W fun ρ => (m ρ).bind fun d ρ => (match starD d with
    | some (x :: xs) => if (w < ρ.length ∧ i < ρ.length) ∧ (w ≠ i ∧ isTupD d = true) then .ok .nx ((ρ.set w (some (.sh x))).set i (some (.ow (.lst xs)))) else .no
    | _ => .no)) :=
  PS.weak (ps_asg he (pg_stu hc hN hw hy fy hi hz fz) (sole_swaps hs) (swapped_none ht) rfl) fun D σ H ⟨B, G0, G, ρ, em, p⟩ => tv_bind (ρ := ρ) em p fun d ρ v H' G' lh lg em' r q => by
    cases d with
    | tup ds =>
      cases ds with
      | nil => exact q.elim
      | cons x xs =>
        have q : PostS X.K CA W B G0 G' D (if (w < ρ.length ∧ i < ρ.length) ∧ (w ≠ i ∧ isTupD (.tup (x :: xs)) = true) then .ok .nx ((ρ.set w (some (.sh x))).set i (some (.ow (.lst xs)))) else .no) := q
        by_cases hz : (w < ρ.length ∧ i < ρ.length) ∧ (w ≠ i ∧ isTupD (.tup (x :: xs)) = true)
        · rw [if_pos hz] at q
          cases r with | tup h1 rs =>
          cases rs with | @cons v1 _ vs1 _ r1 r2 =>
          refine ⟨_, v1, vs1, rfl, sqT_le em'.gh h1, fun b hb => ?_⟩
          have e1 := em'.laid (o := .lst vs1) hb
          have c1 : CAt X.K CA B G' (upd H' b (.lst vs1)) σ ρ (.ref b) (.ow (.lst xs)) := cat_ow ⟨b, rfl, em'.bh.noneL hb, em'.gh.noneL hb, vs1, upd_same, r2⟩ (em'.fle (Le.newH hb) (free_new em' hb))
          have e2 := e1.set (i := i) oki c1 hz.1.2
          have e3 := e2.set (i := w) (v := v1) (c := .sh x) okw (cat_sh r1) (by rw [List.length_set]; exact hz.1.1)
          rw [List.set_comm _ _ (Ne.symm hz.2.1), List.set_comm _ _ (Ne.symm hz.2.1)] at e3
          exact q _ _ _ (Le.refl _) e3
        · rw [if_neg hz] at q; exact q.elim
    | lst ds =>
      cases ds with
      | nil => exact q.elim
      | cons x xs =>
        have q : PostS X.K CA W B G0 G' D (if (w < ρ.length ∧ i < ρ.length) ∧ (w ≠ i ∧ isTupD (.lst (x :: xs)) = true) then .ok .nx ((ρ.set w (some (.sh x))).set i (some (.ow (.lst xs)))) else .no) := q
        rw [if_neg (fun z => by cases z.2.2)] at q; exact q.elim
    | _ => exact q.elim
end
/-! ### match -/
section
variable [Frame] {CA : Nat → Addr} {W : WX} {X : Cx} {e : Expr} {pos p1 p2 p3 p4 : Pos} {k : Nat}
/-- the cases, from one on -/
structure PMs (X : Cx) (cs : List MatchCase) (t : V → TS) : Prop where
  run : ∀ (pins : List (Addr × Obj)) (s : Shared) (σ : L2.St) (H : Hp) (D : Ends) (v : V) (u : Value) (first : Bool), Inv X pins σ H s → RelV v u → t v D σ H → wpAny (model X.prog X.w) X.A (matchCases cs X.env u first) (SP X pins D) X.xe s
def TMf (K : PySem.W.Frag) (CA : Nat → Addr) (W : WX) (m : D → Env → R Fl) : V → TS := fun v D σ H => ∃ B G0 G ρ d, Em K CA B G0 H G σ ρ ∧ Rep K CA G v d ∧ PostS K CA W B G0 G D (m d ρ)
theorem dm_nil : PMs X [] (TMf X.K CA W fun _ ρ => .ok .nx ρ) := ⟨fun pins s σ H D v u first I r ⟨B, G0, G, ρ, d, em, rv, p⟩ => wpAny_matchCases_nil ⟨σ, H, I, p σ H G (Le.refl _) em⟩⟩
theorem dm_def {body : List Stmt} {rest : List MatchCase} {m : Env → R Fl} (hb : PSs X body (TSf X.K CA W m)) : PMs X (⟨.MatchAs none none p1, none, body⟩ :: rest) (TMf X.K CA W fun _ ρ => m ρ) :=
  ⟨fun pins s σ H D v u first I r ⟨B, G0, G, ρ, d, em, rv, p⟩ => wpAny_matchCases_cons (wpAny_matchPattern_Capture (wpAny_assignInOrder_none (hb.run pins s σ H D I ⟨B, G0, G, ρ, em, p⟩)))⟩
/-- a case's guard -/
inductive PGd (X : Cx) (CA : Nat → Addr) (W : WX) : Option Expr → (Env → R Bool) → Prop
  | non : PGd X CA W none fun ρ => .ok true ρ
  | one {c : Expr} {m : Env → R Bool} (h : PT X c (TTt X.K CA W m)) : PGd X CA W (some c) m
theorem dm_str (hr : Room k X.A) {x : Str} {n : Nat} {go : Option Expr} {mg : Env → R Bool} {body : List Stmt} {rest : List MatchCase} {m : Env → R Fl} {mr : D → Env → R Fl} (hx : sOk x = true) (hg : PGd X CA W go mg) (hb : PSs X body (TSf X.K CA W m)) (hrest : PMs X rest (TMf X.K CA W mr)) :
    PMs X (⟨.MatchValue (.Constant (.str x) n p2) p1, go, body⟩ :: rest) (TMf X.K CA W fun d ρ => (R.lift (eqD d (.str x)) ρ).bind fun t ρ => if t = true then (mg ρ).bind fun t ρ => if t = true then m ρ else mr d ρ else mr d ρ) := by
  refine ⟨fun pins s σ H D v u first I r ⟨B, G0, G, ρ, d, em, rv, p⟩ => ?_⟩
  refine wpAny_matchCases_cons (wpAny_matchPattern_Value (thn (pe_str.run pins s σ H (fun y H' => y = .str x ∧ H = H') I ⟨rfl, rfl⟩) fun y s1 ⟨y', H1, I1, ry, ey, eH⟩ => ?_))
  subst ey eH
  dsimp only at p
  cases hq : eqD d (.str x) with
  | none => rw [hq] at p; exact p.elim
  | some t =>
    rw [hq] at p; simp only [R.lift_some, R.bind_ok] at p
    obtain ⟨d1, d2, h1, h2, h3, h4, h5, h6⟩ := eqD_rep hq (.inl rv) (.inl (Rep.str hx)) em.gh
    have hop := op_eqW (X := X) (by have := hr.un; omega) pins s1 σ H v (.str x) u y (fun z H' => z = .bl t ∧ H = H') I1 r ry ⟨d1, d2, h1, h2, h3, h4, h5, by rw [h6]; exact ⟨rfl, rfl⟩⟩
    refine thn hop fun c s2 ⟨c', H2, I2, rc, ec, eH⟩ => ?_
    subst ec eH
    obtain rfl : c = Value.bool t := rc
    refine wpAny_truthy_bool ?_
    cases t with
    | false =>
      rw [if_neg Bool.false_ne_true] at p
      exact hrest.run pins s2 σ H D v u false I2 r ⟨B, G0, G, ρ, d, em, rv, p⟩
    | true =>
      rw [if_pos rfl] at p
      refine wpAny_assignInOrder_none ?_
      cases hg with
      | non =>
        simp only [R.bind_ok, if_true] at p
        exact hb.run pins s2 σ H D I2 ⟨B, G0, G, ρ, em, p⟩
      | one hc =>
        refine thn (hc.run pins s2 σ H (fun b H' => if b = true then TSf X.K CA W m D σ H' else TMf X.K CA W mr v D σ H') I2 ⟨B, G0, G, ρ, em, ?_⟩) fun b s3 ⟨H3, I3, q3⟩ => ?_
        · cases hm : mg ρ with
          | no => rw [hm] at p; exact p.elim
          | ex z ρ' => rw [hm] at p; exact fun H' G' cl dd lh lg em' xr => p σ H' G' cl dd lg em' xr
          | ok b ρ' =>
            rw [hm] at p; simp only [R.bind_ok] at p
            intro H' G' lh lg em'
            cases b with
            | true => rw [if_pos rfl] at p ⊢; exact ⟨B, G0, G', ρ', em', postS_le lg p⟩
            | false => rw [if_neg Bool.false_ne_true] at p ⊢; exact ⟨B, G0, G', ρ', d, em', rv.le lg, postS_le lg p⟩
        · cases b with
          | true => rw [if_pos rfl] at q3; exact hb.run pins s3 σ H3 D I3 q3
          | false => rw [if_neg Bool.false_ne_true] at q3; exact hrest.run pins s3 σ H3 D v u false I3 r q3
theorem ds_mch {s : Nat} {cs : List MatchCase} {m : D → Env → R Fl} (he : PE X e (tVar s)) (hm : PMs X cs (TMf X.K CA W m)) : PS X (.Match e cs pos) (TSf X.K CA W fun ρ => match ρ[s]? with
    | some (some (.sh d)) => m d ρ
    | _ => .no) := by
  refine ⟨fun pins sh σ H D I ⟨B, G0, G, ρ, em, p⟩ => ?_⟩
  dsimp only at p
  refine wpAny_Match ?_
  cases hc : ρ[s]? with
  | none => rw [hc] at p; exact p.elim
  | some o =>
    cases o with
    | none => rw [hc] at p; exact p.elim
    | some c =>
      cases c with
      | sh d =>
        rw [hc] at p
        obtain ⟨v, h1, h2⟩ := em.sl s _ hc
        refine thn (he.run pins sh σ H (fun y H' => v = y ∧ H = H') I ⟨v, h1, rfl, rfl⟩) fun u s1 ⟨y, H1, I1, ry, ey, eH⟩ => ?_
        subst ey eH
        exact hm.run pins s1 σ H D v u true I1 ry ⟨B, G0, G, ρ, d, em, h2, p⟩
      | _ => rw [hc] at p; exact p.elim
end
end DL

set_option maxHeartbeats 4000000
/-! DL16: the core text compared with the program's text. -/
namespace DL
open PySem PySem.Spec PyProof.Rows L2
def visB (sc : Scope) (x : Str) : Bool := match sc.names.lookup x with
  | some .local => true
  | some .cell => true
  | some .free => true
  | _ => false
def locB (sc : Scope) (x : Str) : Bool := match sc.names.lookup x with
  | some .local => true
  | some .cell => true
  | _ => false
def lclB (sc : Scope) (x : Str) : Bool := match sc.names.lookup x with
  | some .local => true
  | _ => false
def celB (sc : Scope) (x : Str) : Bool := match sc.names.lookup x with
  | some .cell => true
  | _ => false
def glbB (sc : Scope) (x : Str) : Bool := match sc.names.lookup x with
  | some .globalImplicit => !(x == ("__debug__" : Str))
  | _ => false
def bltB (Γ : Gm) (sc : Scope) (x : Str) : Bool := glbB sc x && (decide (x ∈ Γ.blt) && !decide (x = "__name__"))
def dbgB (x : Str) : Bool := !(x == ("__debug__" : Str)) && !(x == ("__classdict__" : Str))
def varB (N : List Str) (i : Nat) (sc : Scope) (x : Str) : Bool := decide (N[i]? = some x) && (visB sc x && dbgB x)
def kdFn : Kd → Bool
  | .fn => true
  | _ => false
def kdMt : Kd → Nat → Bool
  | .mt c, d => decide (c = d)
  | _, _ => false
def kdMk : Kd → Nat → Bool
  | .mk c, d => decide (c = d)
  | _, _ => false
def biNm : Bi → Option (Bool × Str × String)
  | .len => some (false, "len", "len")
  | .int => some (true, "int", "int")
  | .list => some (true, "list", "list")
  | .tuple => some (true, "tuple", "tuple")
  | .sum => some (false, "sum", "sum")
  | .max => some (false, "max", "max")
  | .min => some (false, "min", "min")
  | .any => some (false, "any", "any")
  | .all => some (false, "all", "all")
  | .str => some (true, "str", "str")
  | .repr => some (false, "repr", "repr")
  | _ => none
def isRepr : Bi → Bool
  | .repr => true
  | _ => false
def mtNm : Mt → Str
  | .get => "get"
  | .index => "index"
  | .join => "join"
  | .split => "split"
  | .startswith => "startswith"
  | .upper => "upper"
  | .count => "count"
  | .find => "find"
def isGet : Mt → Bool
  | .get => true
  | _ => false
def isUp : Mt → Bool
  | .upper => true
  | _ => false
def ownL (N : List Str) (own : List Nat) : List (Str × Nat) := own.map fun i => ((N[i]?).getD "", i)
/-- a comprehension's scope -/
def blkB (N : List Str) (fx : List Nat) (sc scope : Scope) (own : List Nat) : Bool :=
  (match scope.kind with
    | .function => true
    | _ => false) &&
  (own.all fun i => decide (i < N.length) && !decide (i ∈ fx)) &&
  (scope.names.all fun y => decide (scope.names.lookup y.1 = some y.2) && (match y.2 with
    | .free => (match sc.names.lookup y.1 with
      | some .cell => true
      | some .free => true
      | _ => false)
    | .local => decide (y.1 ∈ (ownL N own).map (·.1)) || !decide (y.1 ∈ N)
    | .cell => decide (y.1 ∈ (ownL N own).map (·.1)) || !decide (y.1 ∈ N)
    | _ => true))
mutual
def chT (N : List Str) (fx ws : List Nat) : Tg → Scope → Expr → Bool
  | .n i, sc, x => (match x with
    | .Name y _ => decide (N[i]? = some y) && (locB sc y && (decide (i ∈ ws) && !decide (i ∈ fx)))
    | _ => false)
  | .t ts, sc, x => (match x with
    | .Tuple es _ _ => chTs N fx ws ts sc es && (es.all notStar && decide (es.length = ts.len))
    | _ => false)
  | _, _, _ => false
def chTs (N : List Str) (fx ws : List Nat) : Tg → Scope → List Expr → Bool
  | .z, _, es => es.isEmpty
  | .c a b, sc, es => (match es with
    | e :: es => chT N fx ws a sc e && (notStar e && chTs N fx ws b sc es)
    | [] => false)
  | _, _, _ => false
end
section
variable (Γ : Gm) (N : List Str) (fx : List Nat)
def isCmp : Expr → Bool
  | .Compare _ _ _ _ => true
  | _ => false
mutual
def chE : Ex → Scope → Expr → Bool
  | .v i, sc, x => (match x with
    | .Name y _ => varB N i sc y
    | _ => false)
  | .non, _, x => (match x with
    | .Constant .none _ _ => true
    | _ => false)
  | .bl b, _, x => (match x with
    | .Constant (.bool c) _ _ => decide (b = c)
    | _ => false)
  | .int i, _, x => (match x with
    | .Constant (.int c) _ _ => decide (i = c)
    | _ => false)
  | .str s, _, x => (match x with
    | .Constant (.str c) _ _ => decide (s = c) && sOk s
    | _ => false)
  | .g n, sc, x => (match x with
    | .Name y _ => decide (Γ.con[n]? = some y) && glbB sc y
    | _ => false)
  | .bin o a b, sc, x => (match x with
    | .BinOp a' p b' _ => decide (o.op = p) && (chE a sc a' && chE b sc b')
    | _ => false)
  | .neg a, sc, x => (match x with
    | .UnaryOp .USub a' _ => chE a sc a'
    | _ => false)
  | .cmp o a b, sc, x => (match x with
    | .Compare a' [p] [b'] _ => decide (o.op = p) && (chE a sc a' && (chE b sc b' && notSet b'))
    | _ => false)
  | .chn o p a b c, sc, x => (match x with
    | .Compare a' [q, r] [b', c'] _ => decide (o.op = q) && (decide (p.op = r) && (chE a sc a' && (chE b sc b' && (chE c sc c' && notSet c'))))
    | _ => false)
  | .and a b, sc, x => (match x with
    | .BoolOp .And [a', b'] _ => chE a sc a' && chE b sc b'
    | .BoolOp .And (a' :: b' :: c' :: r) p => chE a sc a' && chE b sc (.BoolOp .And (b' :: c' :: r) p)
    | _ => false)
  | .or a b, sc, x => (match x with
    | .BoolOp .Or [a', b'] _ => chE a sc a' && chE b sc b'
    | .BoolOp .Or (a' :: b' :: c' :: r) p => chE a sc a' && chE b sc (.BoolOp .Or (b' :: c' :: r) p)
    | _ => false)
  | .not a, sc, x => (match x with
    | .UnaryOp .Not a' _ => chE a sc a'
    | _ => false)
  | .ite c a b, sc, x => (match x with
    | .IfExp c' a' b' _ => chC c sc c' && (chE a sc a' && chE b sc b')
    | _ => false)
  | .tup es, sc, x => (match x with
    | .Tuple es' _ _ => chS es sc es'
    | _ => false)
  | .lst es, sc, x => (match x with
    | .List es' _ => chS es sc es'
    | _ => false)
  | .ix a b, sc, x => (match x with
    | .Subscript a' b' _ => chE a sc a' && (chE b sc b' && notSlice b')
    | _ => false)
  | .sl a l h, sc, x => (match x with
    | .Subscript a' (.Slice l' h' none _) _ => chE a sc a' && (chO l sc l' && chO h sc h')
    | _ => false)
  | .rv a, sc, x => (match x with
    | .Subscript a' (.Slice none none (some (.UnaryOp .USub (.Constant (.int 1) _ _) _)) _) _ => chE a sc a'
    | _ => false)
  | .call f es, sc, x => (match x with
    | .Call (.Name y _) (e' :: es') [] _ => (match Γ.fds[f]? with
      | some d => kdFn d.kd && (decide (d.nm = y) && (glbB sc y && (notStar e' && chS es sc (e' :: es'))))
      | none => false)
    | _ => false)
  | .callk f es kn ks, sc, x => (match x with
    | .Call (.Name y _) [] kws _ => (match Γ.fds[f]? with
      | some d => kdFn d.kd && (decide (d.nm = y) && (glbB sc y && (decide ((f, 0, kn) ∈ Γ.kws) && (decide (kwNames kws = some kn) && (chS es sc [] && chK ks sc kws)))))
      | none => false)
    | _ => false)
  | .mk c f es, sc, x => (match x with
    | .Call (.Name y _) (e' :: es') [] _ => (match Γ.fds[f]? with
      | some d => kdMk d.kd c && (decide (d.nm = y) && (glbB sc y && (notStar e' && (es'.all notStar && chS es sc (e' :: es')))))
      | none => false)
    | _ => false)
  | .mkk c f es kn ks, sc, x => (match x with
    | .Call (.Name y _) [] kws _ => (match Γ.fds[f]? with
      | some d => kdMk d.kd c && (decide (d.nm = y) && (glbB sc y && (decide ((f, 1, kn) ∈ Γ.kws) && (decide (kwNames kws = some kn) && (chS es sc [] && chK ks sc kws)))))
      | none => false)
    | _ => false)
  | .om c f o m es, sc, x => (match x with
    | .Call (.Attribute o' m' apos) (e' :: es') [] pos => (match Γ.fds[f]? with
      | some d => kdMt d.kd c && (decide (d.nm = m) && (decide (m' = m) && (chE o sc o' && (notSuper o' && (notStar e' && (es'.all notStar && (chS es sc (e' :: es') && ((apos.endLine == pos.line) && decide ((e' :: es').length + 1 < 30)))))))))
      | none => false)
    | _ => false)
  | .omk c f o m es kn ks, sc, x => (match x with
    | .Call (.Attribute o' m' apos) [] kws pos => (match Γ.fds[f]? with
      | some d => kdMt d.kd c && (decide (d.nm = m) && (decide (m' = m) && (chE o sc o' && (notSuper o' && (decide ((f, 1, kn) ∈ Γ.kws) && (decide (kwNames kws = some kn) && (chS es sc [] && (chK ks sc kws && ((apos.endLine == pos.line) && decide (kws.length + 1 < 30))))))))))
      | none => false)
    | _ => false)
  | .bi b es, sc, x => (match x with
    | .Call (.Name y _) (e' :: es') [] _ => (match biNm b with
      | some (_, z, _) => (!isRepr b || Γ.rep) && (decide (z = y) && (bltB Γ sc y && (notStar e' && (es'.all notStar && chS es sc (e' :: es')))))
      | none => false)
    | _ => false)
  | .isi e tu ts, sc, x => (match x with
    | .Call (.Name y _) [e', .Name z _] [] _ => (match ts with
      | [t] => decide (y = "isinstance") && (bltB Γ sc y && (notStar e' && (chE e sc e' && (decide (t ∈ Γ.tys) && (match tyNm Γ t with
        | some (some _, z') => decide (z' = z) && bltB Γ sc z
        | some (none, z') => decide (z' = z) && glbB sc z
        | none => false)))))
      | _ => false)
    | _ => false)
  | .mt m o .n, sc, x => (match x with
    | .Call (.Attribute o' m' apos) [] [] pos => isUp m && (decide (m' = mtNm m) && (chE o sc o' && (notSuper o' && (apos.endLine == pos.line))))
    | _ => false)
  | .mt m o (.c e (.c f .n)), sc, x => (match x with
    | .Call (.Attribute o' m' apos) [e', f'] [] pos => isGet m && (decide (m' = mtNm m) && (chE o sc o' && (chE e sc e' && (chE f sc f' && (notSuper o' && (notStar e' && (notStar f' && (apos.endLine == pos.line))))))))
    | _ => false)
  | .fld o f, sc, x => (match x with
    | .Attribute o' f' _ => decide (f = f') && (decide (f ∈ Γ.ats) && (notSuper o' && chE o sc o'))
    | _ => false)
  | .lc e own (.c own' t i c .n), sc, x => (match x with
    | .ListComp e' [⟨t', i', cs, 0⟩] scope _ => decide (own' = own) && (blkB N fx sc scope own && (chT N fx own t scope t' && (chI i sc t' i' && (chQ c scope cs && (chE e scope e' && notSet i')))))
    | _ => false)
  | .lcn e own (.c own' t i c .n), sc, x => (match x with
    | .ListComp e' [⟨t', i', cs, 0⟩] scope _ => decide (own' = own) && (blkB N fx sc scope own && (chT N fx own t scope t' && (chI i sc t' i' && (chQ c scope cs && (chE e scope e' && notSet i')))))
    | _ => false)
  | .dc k v own (.c own' t i c .n), sc, x => (match x with
    | .DictComp k' v' [⟨t', i', cs, 0⟩] scope _ => decide (own' = own) && (blkB N fx sc scope own && (chT N fx own t scope t' && (chI i sc t' i' && (chQ c scope cs && (chE k scope k' && (chE v scope v' && notSet i'))))))
    | _ => false)
  | .dsp .n, _, x => (match x with
    | .Dict [] [] _ => true
    | _ => false)
  | _, _, _ => false
def chS : Exs → Scope → List Expr → Bool
  | .n, _, es => es.isEmpty
  | .c e es, sc, l => (match l with
    | e' :: es' => notStar e' && (chE e sc e' && chS es sc es')
    | [] => false)
  | .s e es, sc, l => (match l with
    | .Starred e' _ :: es' => chE e sc e' && chS es sc es'
    | _ => false)
def chK : Exs → Scope → List Keyword → Bool
  | .n, _, es => es.isEmpty
  | .c e es, sc, l => (match l with
    | ⟨_, e', _⟩ :: es' => chE e sc e' && chK es sc es'
    | [] => false)
  | .s _ _, _, _ => false
def chO : Exo → Scope → Option Expr → Bool
  | .n, _, x => x.isNone
  | .s e, sc, x => (match x with
    | some e' => chE e sc e'
    | none => false)
def chC : Cd → Scope → Expr → Bool
  | .e (.cmp o a b), sc, x => (match x with
    | .Compare a' [p] [b'] _ => decide (o.op = p) && (chE a sc a' && (chE b sc b' && notSet b'))
    | _ => false)
  | .e (.chn o p a b c), sc, x => (match x with
    | .Compare a' [q, r] [b', c'] _ => decide (o.op = q) && (decide (p.op = r) && (chE a sc a' && (chE b sc b' && (chE c sc c' && notSet c'))))
    | _ => false)
  | .e e, sc, x => chE e sc x && valTest x
  | .and a b, sc, x => (match x with
    | .BoolOp .And [a', b'] _ => chC a sc a' && chC b sc b'
    | .BoolOp .And (a' :: b' :: c' :: r) p => chC a sc a' && chC b sc (.BoolOp .And (b' :: c' :: r) p)
    | _ => false)
  | .or a b, sc, x => (match x with
    | .BoolOp .Or [a', b'] _ => chC a sc a' && chC b sc b'
    | .BoolOp .Or (a' :: b' :: c' :: r) p => chC a sc a' && chC b sc (.BoolOp .Or (b' :: c' :: r) p)
    | _ => false)
  | .not a, sc, x => (match x with
    | .UnaryOp .Not a' _ => chC a sc a'
    | _ => false)
  | .ite c a b, _, _ => false
def chQ : Cdo → Scope → List Expr → Bool
  | .n, _, cs => cs.isEmpty
  | .s c, sc, cs => (match cs with
    | [x] => chC c sc x
    | _ => false)
def chI : It → Scope → Expr → Expr → Bool
  | .e e, sc, _, x => chE e sc x && notSet x
  | .rng (.c e .n), sc, _, x => (match x with
    | .Call (.Name y _) [e'] [] _ => decide (y = "range") && (bltB Γ sc y && (notStar e' && chE e sc e'))
    | _ => false)
  | .rng (.c e (.c g .n)), sc, _, x => (match x with
    | .Call (.Name y _) [e', g'] [] _ => decide (y = "range") && (bltB Γ sc y && (notStar e' && (notStar g' && (chE e sc e' && chE g sc g'))))
    | _ => false)
  | .enu e, sc, t, x => (match t with
    | .Tuple _ _ _ => (match x with
      | .Call (.Name y _) [e'] [] _ => decide (y = "enumerate") && (bltB Γ sc y && (notStar e' && chE e sc e'))
      | _ => false)
    | _ => false)
  | _, _, _, _ => false
end
end
end DL

set_option maxHeartbeats 4000000
/-! DL17: what is known where an expression stands. -/
namespace DL
open PySem PySem.Spec PyProof.Rows L2
/-- a def stands and keeps its promise at level k -/
structure FdBase (Γ : Gm) (P : Pg) (K : PySem.W.Frag) (f : Nat) (d : Fd) (fdt : FuncData) : Prop where
  bind : Binds K fdt d.ps []
  kw : ∀ n kn, (f, n, kn) ∈ Γ.kws → KwTo K fdt d.ps n kn
  len : ∀ ds, P.call f ds ≠ .no → ds.length = d.ps.length
  ps : P.ps[f]? = some d.ps
structure FdFn (Γ : Gm) (P : Pg) (CA : Nat → Addr) (k : Nat) (prog : Program) (w : World) (K : PySem.W.Frag) (mg : Str → Option Value) (base : Heap) (f : Nat) (d : Fd) (a : Addr) (fdt : FuncData) : Prop where
  bas : FdBase Γ P K f d fdt
  at_ : mg d.nm = some (.ref a)
  keep : PySem.W.keepIn K (.ref a) = true
  ok : FnG P.rep prog w K mg base (L2.CX prog w) k a fdt d.ps (spD K CA d.ps.length (P.call f))
structure FdMt (Γ : Gm) (P : Pg) (CA : Nat → Addr) (k : Nat) (prog : Program) (w : World) (K : PySem.W.Frag) (mg : Str → Option Value) (base : Heap) (f : Nat) (d : Fd) (c : Nat) (a : Addr) (fdt : FuncData) : Prop where
  bas : FdBase Γ P K f d fdt
  met : Meth K (CA c) d.nm a
  cl : Cls K (CA c)
  ok : FnG P.rep prog w K mg base (L2.CX prog w) k a fdt d.ps (spD K CA d.ps.length (P.call f))
structure FdMk (Γ : Gm) (P : Pg) (CA : Nat → Addr) (k : Nat) (prog : Program) (w : World) (K : PySem.W.Frag) (mg : Str → Option Value) (base : Heap) (f : Nat) (d : Fd) (c : Nat) (a : Addr) (fdt : FuncData) : Prop where
  bind : Binds K fdt d.ps []
  kw : ∀ n kn, (f, n, kn) ∈ Γ.kws → KwTo K fdt d.ps n kn
  len : ∀ ds, P.call f ds ≠ .no → ds.length + 1 = d.ps.length
  ps : P.ps[f]? = some d.ps
  mkc : Mk K (CA c) a
  pos : 0 < d.ps.length
  at_ : mg d.nm = some (.ref (CA c))
  owns : ∀ d c', P.call f d = .ok c' → ∃ fs, c' = .ow (.ins c fs)
  ok : FnG P.rep prog w K mg base (L2.CX prog w) k a fdt d.ps (spI K CA c d.ps.length (P.call f))
/-- what an error's __init__ promises -/
def spX (CA : Nat → Addr) (c : Nat) (fs : List Str) : Sp := fun vs H Q _ => vs.length = fs.length + 1 ∧ ∃ a ws H1, vs = .ref a :: ws ∧ H1 a = none ∧ H = upd H1 a (exo a (CA (1000 + c)) none) ∧
  ∀ H2 d, (∀ b o, H1 b = some o → H2 b = some o) → H1 d = none → H2 a = some (exo a (CA (1000 + c)) (some d)) → H2 d = some (exd d (fs.zip ws).reverse) → Q .non H2
structure XcOk (CA : Nat → Addr) (k : Nat) (prog : Program) (w : World) (K : PySem.W.Frag) (mg : Str → Option Value) (base : Heap) (c : Nat) (nm : Str) (fs : List Str) (fI : Addr) (fdt : FuncData) (ps : List Str) : Prop where
  oex : OexC K (CA (1000 + c))
  ini : PySem.W.findIn K (.ref (CA (1000 + c))) "__init__" = some (some (.ref fI))
  tin : PySem.W.typeIn K (.ref fI) = some (.type "function")
  ok : FnOk prog w K mg base (L2.CX prog w) k fI fdt ps (spX CA c fs)
  bind : Binds K fdt ps []
  at_ : mg nm = some (.ref (CA (1000 + c)))
/-- the facts of an error's class -/
structure XcC (K : PySem.W.Frag) (D : Addr) : Prop where
  e : ExcC K D
  cl : (PySem.W.clsIn K D).isSome = true
def cvV (CA : Nat → Addr) : Option Nat → V
  | some c => .ref (CA (1000 + c))
  | none => .ty "ValueError"
/-- what is known of the errors' classes where a handler stands -/
structure Gx (Γ : Gm) (P : Pg) (CA : Nat → Addr) (K : PySem.W.Frag) (mg : Str → Option Value) : Prop where
  xn : ∀ (c : Nat) (y : Str), Γ.xns[c]? = some y → mg y = some (.ref (CA (1000 + c)))
  ve : mg "ValueError" = none
  ii : mg "isinstance" = none
  kit : ∀ c, c < P.nx → ∀ o : Option Nat, (∀ e, o = some e → e < Γ.xns.length) → PySem.W.kitOne K (.ref (CA (1000 + c))) (cvU CA o) = some (P.sub (1000 + c) o)
  exm : ∀ c, c < P.nx → ∀ o : Option Nat, (∀ e, o = some e → e < Γ.xns.length) → PySem.W.exmOne K (.ref (CA (1000 + c))) (cvU CA o) = some (P.sub (1000 + c) o)
  xcc : ∀ c, c < P.nx → XcC K (CA (1000 + c))
  xfc : ∀ c, c < P.nx → XfC K (CA (1000 + c))
  xfn : ∀ c, c < P.nx → ∀ f, f ∈ Γ.xcs.flatMap (·.2) → PySem.W.findIn K (.ref (CA (1000 + c))) f = some none
structure Gb (Γ : Gm) (P : Pg) (CA : Nat → Addr) (k : Nat) (prog : Program) (w : World) (K : PySem.W.Frag) (mg : Str → Option Value) (base : Heap) : Prop where
  rp : Γ.rep = P.rep
  con : ∀ (n : Nat) (x : Str), Γ.con[n]? = some x → ∃ (d : D) (v : V) (u : Value), P.con[n]? = some d ∧ mg x = some u ∧ RelV v u ∧ ∀ G, Rep K CA G v d
  blt : ∀ x, x ∈ Γ.blt → mg x = none
  fn : ∀ (f : Nat) (d : Fd), Γ.fds[f]? = some d → kdFn d.kd = true → ∃ a fdt, FdFn Γ P CA k prog w K mg base f d a fdt
  mt : ∀ (f : Nat) (d : Fd) (c : Nat), Γ.fds[f]? = some d → kdMt d.kd c = true → ∃ a fdt, FdMt Γ P CA k prog w K mg base f d c a fdt
  mke : ∀ (f : Nat) (d : Fd) (c : Nat), Γ.fds[f]? = some d → kdMk d.kd c = true → ∃ a fdt, FdMk Γ P CA k prog w K mg base f d c a fdt
  clx : ∀ c, c < P.ncls → ClsX K (CA c)
  noat : ∀ c, c < P.ncls → ∀ n, n ∈ Γ.ats → NoAttr K (CA c) n
  cls : ∀ (c : Nat) (x : Str), Γ.cls[c]? = some x → mg x = some (.ref (CA c))
  kit : ∀ t, t ∈ Γ.tys → ∀ T x, tyNm Γ t = some (T, x) → KitOk K CA P.ncls t (match T, t with
    | some s, _ => .type s
    | none, .cls c => .ref (CA c)
    | none, _ => .none)
  eqs : ∀ c f, P.eqs.lookup c = some f → ∃ a fdt ps, FnOk prog w K mg base (L2.CX prog w) k a fdt ps (spD K CA 2 (P.call f)) ∧ PySem.W.findIn K (.ref (CA c)) "__eq__" = some (some (.ref a)) ∧ PySem.W.isFn K (.ref a) = true ∧ Binds K fdt ps []
  xc : ∀ (c : Nat) (nm : Str) (fs : List Str), Γ.xcs[c]? = some (nm, fs) → P.xs[c]? = some fs ∧ fs.length ≤ 100 ∧ ∃ fI fdt ps, XcOk CA k prog w K mg base c nm fs fI fdt ps
  gx : Gx Γ P CA K mg
  eqy : ∀ c f, P.eqs.lookup c = some f → ∀ fs y, P.call f [.ins c fs, y] = .ok (.sh (.bl true)) → ∃ gs, y = .ins c gs
structure ScOk (X : Cx) (sc : Scope) : Prop where
  kind : X.env.scope.kind = .function
  keep : ∀ x k, k ≠ .free → sc.names.lookup x = some k → X.env.scope.names.lookup x = some k
  fre : ∀ x, sc.names.lookup x = some .free → X.env.scope.names.lookup x = some .free ∨ X.env.scope.names.lookup x = some .cell
  fn : ∀ x, sc.names.lookup x = some .cell → X.fn x = true
structure Gd [Frame] (Γ : Gm) (P : Pg) (CA : Nat → Addr) (k : Nat) (N : List Str) (fx : List Nat) (X : Cx) (sc : Scope) (W : WX) : Prop where
  calm : X.calm = true
  fix : ∀ i, i ∉ fx → Frame.ok i
  hN : X.N = N
  nd : N.Nodup
  sco : ScOk X sc
  room : Room (k + 1) X.A
  gd : Gok P.rep X.A
  tk : Takes X W
  gb : Gb Γ P CA k X.prog X.w X.K X.mg X.base
section
variable [Frame] {Γ : Gm} {P : Pg} {CA : Nat → Addr} {k : Nat} {N : List Str} {fx : List Nat} {X : Cx} {sc : Scope} {W : WX}
theorem Gd.roomk (g : Gd Γ P CA k N fx X sc W) : Room k X.A := g.room.mono (Nat.le_succ k)
theorem Gd.rm (g : Gd Γ P CA k N fx X sc W) : RmG P.rep (k + 1) X.A := ⟨g.room, g.gd⟩
theorem Gd.rmk (g : Gd Γ P CA k N fx X sc W) : RmG P.rep k X.A := ⟨g.roomk, g.gd⟩
theorem Gd.units (g : Gd Γ P CA k N fx X sc W) : X.A.units + 1 < cLine := by have := g.roomk.units; omega
theorem Gd.eqs (g : Gd Γ P CA k N fx X sc W) : EqsOk P CA k X := ⟨fun c f h => by
  obtain ⟨a, fdt, ps, F, h1, h2, h3⟩ := g.gb.eqs c f h
  exact rcG_ins (F.imp (spEq_of rfl)) h1 h2 h3 (E := fun _ _ _ => False) (passes_call g.tk fun _ _ _ _ z => z.elim)⟩
omit [Frame] in
theorem visB_vis (s : ScOk X sc) {x : Str} (h : visB sc x = true) : Vis X.env.scope x := by
  unfold visB at h
  split at h
  · rename_i e; exact .inl (s.keep x _ (by decide) e)
  · rename_i e; exact .inr (.inl (s.keep x _ (by decide) e))
  · rename_i e; rcases s.fre x e with z | z
    · exact .inr (.inr z)
    · exact .inr (.inl z)
  · cases h
omit [Frame] in
theorem locB_loc (s : ScOk X sc) {x : Str} (h : locB sc x = true) : Loc X.env.scope x ∧ (X.fn x = true ∨ X.env.scope.names.lookup x = some .local) := by
  unfold locB at h
  split at h
  · rename_i e; exact ⟨.inl (s.keep x _ (by decide) e), .inr (s.keep x _ (by decide) e)⟩
  · rename_i e; exact ⟨.inr (s.keep x _ (by decide) e), .inl (s.fn x e)⟩
  · cases h
omit [Frame] in
theorem glbB_gl (s : ScOk X sc) {x : Str} (h : glbB sc x = true) : Gl X x ∧ (x == ("__debug__" : Str)) = false := by
  unfold glbB at h
  split at h
  · rename_i e
    refine ⟨s.keep x _ (by decide) e, ?_⟩
    cases hx : (x == ("__debug__" : Str)) with
    | false => rfl
    | true => rw [hx] at h; cases h
  · cases h
omit [Frame] in
theorem and_t {a b : Bool} (h : (a && b) = true) : a = true ∧ b = true := Bool.and_eq_true_iff.mp h
theorem varB_pe (g : Gd Γ P CA k N fx X sc W) {i : Nat} {x : Str} {p : Pos} (h : varB N i sc x = true) : PE X (.Name x p) (tVar i) := by
  obtain ⟨h1, h2⟩ := and_t h
  obtain ⟨h2, h3⟩ := and_t h2
  unfold dbgB at h3
  obtain ⟨h3, h4⟩ := and_t h3
  exact pe_var (by rw [g.hN]; exact of_decide_eq_true h1) (visB_vis g.sco h2) (by simpa using h3) (by simpa using h4)
theorem bltB_bl (g : Gd Γ P CA k N fx X sc W) {x : Str} (h : bltB Γ sc x = true) : Gl X x ∧ (x == ("__debug__" : Str)) = false ∧ X.mg x = none ∧ x ≠ "__name__" := by
  obtain ⟨h1, h2⟩ := and_t h
  obtain ⟨h2, h3⟩ := and_t h2
  obtain ⟨h4, h5⟩ := glbB_gl g.sco h1
  refine ⟨h4, h5, g.gb.blt x (of_decide_eq_true h2), ?_⟩
  simpa using h3
/-! ### the block of a comprehension -/
omit [Frame] in
theorem relabel_keep {env : PySem.Env} {x : Str} {k : NameKind} (hk : k ≠ .free) : ∀ {names : List (Str × NameKind)}, names.lookup x = some k →
    (names.map fun (n, k) => if (k == NameKind.free && env.scope.kind == .function && env.kindOf n == some .cell) then (n, NameKind.cell) else (n, k)).lookup x = some k
  | [], h => by simp at h
  | (n, j) :: r, h => by
    have ih := @relabel_keep env x k hk r
    show List.lookup x ((if (j == NameKind.free && env.scope.kind == .function && env.kindOf n == some .cell) = true then (n, NameKind.cell) else (n, j)) :: _) = _
    cases hx : x == n with
    | true =>
      simp only [List.lookup_cons, hx] at h
      cases h
      have e : (k == NameKind.free) = false := by cases k <;> first | rfl | exact absurd rfl hk
      simp [List.lookup_cons, hx, e]
    | false =>
      simp only [List.lookup_cons, hx] at h
      have := ih h
      split
      · simp only [List.lookup_cons, hx]; exact this
      · simp only [List.lookup_cons, hx]; exact this
omit [Frame] in
theorem relabel_free {env : PySem.Env} {x : Str} : ∀ {names : List (Str × NameKind)}, names.lookup x = some .free →
    (names.map fun (n, k) => if (k == NameKind.free && env.scope.kind == .function && env.kindOf n == some .cell) then (n, NameKind.cell) else (n, k)).lookup x = some .free ∨
    (names.map fun (n, k) => if (k == NameKind.free && env.scope.kind == .function && env.kindOf n == some .cell) then (n, NameKind.cell) else (n, k)).lookup x = some .cell
  | [], h => by simp at h
  | (n, j) :: r, h => by
    have ih := @relabel_free env x r
    show List.lookup x ((if (j == NameKind.free && env.scope.kind == .function && env.kindOf n == some .cell) = true then (n, NameKind.cell) else (n, j)) :: _) = _ ∨ List.lookup x ((if (j == NameKind.free && env.scope.kind == .function && env.kindOf n == some .cell) = true then (n, NameKind.cell) else (n, j)) :: _) = _
    cases hx : x == n with
    | true =>
      simp only [List.lookup_cons, hx] at h
      cases h
      split
      · exact .inr (by simp [List.lookup_cons, hx])
      · exact .inl (by simp [List.lookup_cons, hx])
    | false =>
      simp only [List.lookup_cons, hx] at h
      have := ih h
      split
      · simp only [List.lookup_cons, hx]; exact this
      · simp only [List.lookup_cons, hx]; exact this
omit [Frame] in
theorem ownL_snd (N : List Str) (own : List Nat) : (ownL N own).map (·.2) = own := by
  unfold ownL
  rw [List.map_map]
  induction own with
  | nil => rfl
  | cons a r ih => rw [List.map_cons, ih]; rfl
omit [Frame] in
theorem blkB_kind {scope : Scope} {own : List Nat} (h : blkB N fx sc scope own = true) : scope.kind = .function := by
  unfold blkB at h
  obtain ⟨h1, _⟩ := and_t h
  obtain ⟨h1, _⟩ := and_t h1
  split at h1
  · assumption
  · cases h1
theorem blkB_ok (g : Gd Γ P CA k N fx X sc W) {scope : Scope} {own : List Nat} (h : blkB N fx sc scope own = true) : BlkOk X.N X.env.scope scope (ownL N own) := by
  have hk := blkB_kind h
  unfold blkB at h
  obtain ⟨h1, h3⟩ := and_t h
  obtain ⟨h1, h2⟩ := and_t h1
  rw [List.all_eq_true] at h2 h3
  refine ⟨hk, fun y hy => of_decide_eq_true (and_t (h3 y hy)).1, fun p hp => ?_, fun y hy hf => ?_, fun y hy hl => ?_⟩
  · unfold ownL at hp
    obtain ⟨i, hi, e⟩ := List.mem_map.mp hp
    have hlt : i < N.length := of_decide_eq_true (and_t (h2 i hi)).1
    subst e
    rw [g.hN]
    show N[i]? = some ((N[i]?).getD "")
    rw [List.getElem?_eq_getElem hlt]; rfl
  · have h4 := (and_t (h3 y hy)).2
    rw [hf] at h4
    dsimp only at h4
    split at h4
    · rename_i e; exact .inl (g.sco.keep _ _ (by decide) e)
    · rename_i e; rcases g.sco.fre _ e with z | z
      · exact .inr z
      · exact .inl z
    · cases h4
  · have h4 := (and_t (h3 y hy)).2
    rw [g.hN]
    rcases hl with hl | hl <;>
    · rw [hl] at h4
      dsimp only at h4
      rcases Bool.or_eq_true_iff.mp h4 with z | z
      · exact .inl (of_decide_eq_true z)
      · exact .inr (by simpa using z)
theorem blkB_fix (g : Gd Γ P CA k N fx X sc W) {scope : Scope} {own : List Nat} (h : blkB N fx sc scope own = true) : ∀ i ∈ own, Frame.ok i := fun i hi => by
  unfold blkB at h
  obtain ⟨h1, _⟩ := and_t h
  obtain ⟨_, h2⟩ := and_t h1
  rw [List.all_eq_true] at h2
  have := (and_t (h2 i hi)).2
  exact g.fix i (by simpa using this)
theorem takes_WF {Y : Cx} : Takes Y WF := fun u s' x => by
  obtain ⟨_, _, _, _, _, _, _, _, _, _, _, _, _, _, _, _, z⟩ := x
  exact z.elim
theorem Gd.blk (g : Gd Γ P CA k N fx X sc W) {scope : Scope} (hk : scope.kind = .function) (s : Shared) (H : Hp) (C : Addr) (cl : List (Str × Addr)) (fp : List Addr) : Gd Γ P CA k N fx (X.blk s H scope (compEnvC scope cl C X.env) fp) scope WF where
  calm := g.calm
  fix := g.fix
  hN := g.hN
  nd := g.nd
  sco := ⟨hk, fun x j hj e => relabel_keep hj e, fun x e => relabel_free e, fun x e => by
    show (scope.names.lookup x == some .cell) = true
    rw [e]; rfl⟩
  room := g.room
  gd := g.gd
  tk := takes_WF
  gb := g.gb
end
end DL

set_option maxHeartbeats 4000000
/-! DL18: an expression that is as the core text says does what the core text means. -/
namespace DL
open PySem PySem.Spec PyProof.Rows L2
section
variable [Frame] {Γ : Gm} {P : Pg} {CA : Nat → Addr} {k : Nat} {N : List Str} {fx : List Nat}
mutual
theorem sT : ∀ (t : Tg) {X : Cx} {sc : Scope} {W : WX} {x : Expr} {ws : List Nat}, Gd Γ P CA k N fx X sc W → chT N fx ws t sc x = true → PG X x (TGb X.K CA ws (Tg.bind t))
  | .n i, X, sc, W, x, ws, g, h => by
    unfold chT at h
    split at h
    · obtain ⟨h1, h2⟩ := and_t h
      obtain ⟨h2, h3⟩ := and_t h2
      obtain ⟨h3, h6⟩ := and_t h3
      obtain ⟨h4, h5⟩ := locB_loc g.sco h2
      exact dg_name (g.fix i (by simpa using h6)) (of_decide_eq_true h3) (by rw [g.hN]; exact g.nd) (by rw [g.hN]; exact of_decide_eq_true h1) h4 h5
    · cases h
  | .t ts, X, sc, W, x, ws, g, h => by
    unfold chT at h
    split at h
    · obtain ⟨h1, h2⟩ := and_t h
      obtain ⟨h2, h3⟩ := and_t h2
      exact dg_tup g.calm (sTs ts g h1) h2 (of_decide_eq_true h3)
    · cases h
  | .z, X, sc, W, x, ws, g, h => by unfold chT at h; cases h
  | .c a b, X, sc, W, x, ws, g, h => by unfold chT at h; cases h
theorem sTs : ∀ (t : Tg) {X : Cx} {sc : Scope} {W : WX} {xs : List Expr} {ws : List Nat}, Gd Γ P CA k N fx X sc W → chTs N fx ws t sc xs = true → PGs X xs (TGbs X.K CA ws (Tg.binds t))
  | .z, X, sc, W, x, ws, g, h => by
    unfold chTs at h
    cases x with
    | nil => exact dgs_nil
    | cons _ _ => cases h
  | .c a b, X, sc, W, x, ws, g, h => by
    unfold chTs at h
    split at h
    · obtain ⟨h1, h2⟩ := and_t h
      obtain ⟨h2, h3⟩ := and_t h2
      exact dgs_cons (sT a g h1) (sTs b g h3) h2
    · cases h
  | .n i, X, sc, W, x, ws, g, h => by unfold chTs at h; cases h
  | .t ts, X, sc, W, x, ws, g, h => by unfold chTs at h; cases h
end
theorem toP {X : Cx} {sc : Scope} {W : WX} {x : Expr} {e : Ex} (g : Gd Γ P CA k N fx X sc W) (hc : chE Γ N fx e sc x = true) (h : PE X x (TC X.K CA W (ev P e))) : PE X x (TP X.K CA W fun ρ => pk e ρ (ev P e ρ)) := by
  cases e with
  | v i =>
    unfold chE at hc
    split at hc
    · exact de_peek (varB_pe g hc)
    · cases hc
  | _ => exact de_pfz h
theorem biOk {X : Cx} {b : Bi} {t : Bool} {z : Str} {id : String} (hc : X.calm = true) (hg : isRepr b = true → X.A.guards = some []) (hu : X.A.units + 200 < cLine) (h : biNm b = some (t, z, id)) : (if t = true then CallR X (.type id) (rBi X b) ∧ bootBuiltins z = some (.type id) else CallR X (.builtin id) (rBi X b) ∧ bootBuiltins z = some (.builtin id)) := by
  cases b with
  | len => cases h; exact ⟨call_len_any, rfl⟩
  | int => cases h; exact ⟨call_int1, rfl⟩
  | list => cases h; exact ⟨call_list_of, rfl⟩
  | tuple => cases h; exact ⟨call_tuple_of, rfl⟩
  | sum => cases h; exact ⟨cr_sum hc, rfl⟩
  | max => cases h; exact ⟨(cr_max hc).or (call_max2 hc), rfl⟩
  | min => cases h; exact ⟨(cr_min hc).or (call_min2 hc), rfl⟩
  | any => cases h; exact ⟨cr_any hc, rfl⟩
  | all => cases h; exact ⟨cr_all hc, rfl⟩
  | str => cases h; exact ⟨call_strAll, rfl⟩
  | repr => cases h; exact ⟨call_repr (hg rfl) hu, rfl⟩
  | _ => cases h
theorem star_any {pos : Pos} {env : PySem.Env} : ∀ {es : List Expr}, es.all notStar = false → (backTo pos (starEach es env)).any (·.1) = true
  | [], h => by cases h
  | e :: es, h => by
    rw [List.all_cons] at h
    cases hs : notStar e with
    | true =>
      rw [hs, Bool.true_and] at h
      rw [star_cons hs]
      show (false || (backTo pos (starEach es env)).any (·.1)) = true
      rw [star_any h]; rfl
    | false =>
      cases e <;> first | rfl | cases hs
theorem stars {e : Expr} {es : List Expr} {env : PySem.Env} (h1 : notStar e = true) : starEach (e :: es) env = (false, eval e env) :: starEach es env := star_cons h1
end
end DL

set_option maxHeartbeats 4000000
/-! DL19: an expression that is as the core text says does what the core text means: each form. -/
namespace DL
open PySem PySem.Spec PyProof.Rows L2
section
variable [Frame] {Γ : Gm} {P : Pg} {CA : Nat → Addr} {k : Nat} {N : List Str} {fx : List Nat}
def isBo : Expr → Bool
  | .BoolOp _ _ _ => true
  | _ => false
theorem PTs.weak {X : Cx} {cs : List Expr} {t t' : TT} (h : PTs X cs t) (w : ∀ σ H Q, t' σ H Q → t σ H Q) : PTs X cs t' := ⟨fun pins s σ H Q I q => h.run pins s σ H Q I (w σ H Q q)⟩
theorem ev_eq {X : Cx} {W : WX} {x : Expr} {m m' : Env → R Cell} (h : PE X x (TC X.K CA W m)) (e : ∀ ρ, m' ρ = m ρ) : PE X x (TC X.K CA W m') := by
  have : m' = m := funext e
  subst this; exact h
theorem tt_eq {X : Cx} {W : WX} {x : Expr} {m m' : Env → R Bool} (h : PT X x (TTt X.K CA W m)) (e : ∀ ρ, m' ρ = m ρ) : PT X x (TTt X.K CA W m') := by
  have : m' = m := funext e
  subst this; exact h
theorem tw_eq {X : Cx} {W : WX} {x : Expr} {m m' : Env → R Bool} (h : PW X x (TTt X.K CA W m)) (e : ∀ ρ, m' ρ = m ρ) : PW X x (TTt X.K CA W m') := by
  have : m' = m := funext e
  subst this; exact h
theorem ti_eq {X : Cx} {W : WX} {t x : Expr} {m m' : Env → R (List D)} (h : PI X t x (TIf X.K CA W m)) (e : ∀ ρ, m' ρ = m ρ) : PI X t x (TIf X.K CA W m') := by
  have : m' = m := funext e
  subst this; exact h
theorem tad_eq {X : Cx} {W : WX} {x : List Expr} {m m' : Env → R (List D)} (h : PA X x (TAD X.K CA W m)) (e : ∀ ρ, m' ρ = m ρ) : PA X x (TAD X.K CA W m') := by
  have : m' = m := funext e
  subst this; exact h
theorem bin_op {o : Bo} {p : Operator} {X : Cx} {a b : Expr} {pos : Pos} {t : TE} (h : o.op = p) (hh : PE X (.BinOp a o.op b pos) t) : PE X (.BinOp a p b pos) t := h ▸ hh
theorem isTyOk (Γ : Gm) {t : Ty} {s : String} {z : Str} (h : tyNm Γ t = some (some s, z)) : bootBuiltins z = some (.type s) := by
  cases t with
  | cls c =>
    have h : ((Γ.cls[c]?).map fun x => ((none : Option String), x)) = some (some s, z) := h
    cases hc : Γ.cls[c]? with
    | none => rw [hc] at h; cases h
    | some x => rw [hc] at h; cases h
  | verr => cases h
  | _ => cases h; rfl

variable (Γ P CA k N fx) in
def IE (e : Ex) : Prop := ∀ (X : Cx) (sc : Scope) (W : WX) (x : Expr), Gd Γ P CA k N fx X sc W → chE Γ N fx e sc x = true → PE X x (TC X.K CA W (ev P e))
variable (Γ P CA k N fx) in
def IS (es : Exs) : Prop := ∀ (X : Cx) (sc : Scope) (W : WX) (xs : List Expr), Gd Γ P CA k N fx X sc W → chS Γ N fx es sc xs = true → PA X xs (TAD X.K CA W (evs P es))
variable (Γ P CA k N fx) in
def ISp (es : Exs) : Prop := ∀ (X : Cx) (sc : Scope) (W : WX) (xs : List Expr), Gd Γ P CA k N fx X sc W → chS Γ N fx es sc xs = true → xs.all notStar = true → PA X xs (TAP X.K CA W (evps P es))
variable (Γ P CA k N fx) in
def IK (es : Exs) : Prop := ∀ (X : Cx) (sc : Scope) (W : WX) (xs : List Keyword), Gd Γ P CA k N fx X sc W → chK Γ N fx es sc xs = true → PK X xs (TAD X.K CA W (evs P es))
variable (Γ P CA k N fx) in
def IO (o : Exo) : Prop := ∀ (X : Cx) (sc : Scope) (W : WX) (x : Option Expr), Gd Γ P CA k N fx X sc W → chO Γ N fx o sc x = true → PO X x (TOo X.K CA W (evo P o))
variable (Γ P CA k N fx) in
def IC (c : Cd) : Prop := ∀ (X : Cx) (sc : Scope) (W : WX) (x : Expr), Gd Γ P CA k N fx X sc W → chC Γ N fx c sc x = true → PT X x (TTt X.K CA W (tc P c)) ∧ (isBo x = true → PW X x (TTt X.K CA W (tc P c)))
variable (Γ P CA k N fx) in
def IQ (c : Cdo) : Prop := ∀ (X : Cx) (sc : Scope) (W : WX) (xs : List Expr), Gd Γ P CA k N fx X sc W → chQ Γ N fx c sc xs = true → PTs X xs (TTt X.K CA W (tco P c))
variable (Γ P CA k N fx) in
def II (i : It) : Prop := ∀ (X : Cx) (sc : Scope) (W : WX) (t x : Expr), Gd Γ P CA k N fx X sc W → chI Γ N fx i sc t x = true → PI X t x (TIf X.K CA W (evi P i))
theorem sE_v (i : Nat)  : IE Γ P CA k N fx (.v i) := fun X sc W x g h => by
    unfold chE at h
    split at h
    · exact ev_eq (de_slot (varB_pe g h)) fun ρ => rfl
    · cases h
theorem sE_non   : IE Γ P CA k N fx .non := fun X sc W x g h => by
    unfold chE at h
    split at h
    · exact ev_eq (de_con pe_non fun G => .non) fun ρ => rfl
    · cases h
theorem sE_bl (b : Bool)  : IE Γ P CA k N fx (.bl b) := fun X sc W x g h => by
    unfold chE at h
    split at h
    · have := of_decide_eq_true h; subst this
      exact ev_eq (de_con pe_bl fun G => .bl _) fun ρ => rfl
    · cases h
theorem sE_int (b : Int)  : IE Γ P CA k N fx (.int b) := fun X sc W x g h => by
    unfold chE at h
    split at h
    · have := of_decide_eq_true h; subst this
      exact ev_eq (de_con pe_int fun G => .int _) fun ρ => rfl
    · cases h
theorem sE_str (b : Str)  : IE Γ P CA k N fx (.str b) := fun X sc W x g h => by
    unfold chE at h
    split at h
    · obtain ⟨h1, h2⟩ := and_t h
      have := of_decide_eq_true h1; subst this
      exact ev_eq (de_con pe_str fun G => .str h2) fun ρ => rfl
    · cases h
theorem sE_g (n : Nat)  : IE Γ P CA k N fx (.g n) := fun X sc W x g h => by
    unfold chE at h
    split at h
    · obtain ⟨h1, h2⟩ := and_t h
      obtain ⟨d, v, u, h3, h4, h5, h6⟩ := g.gb.con _ _ (of_decide_eq_true h1)
      obtain ⟨h7, h8⟩ := glbB_gl g.sco h2
      exact ev_eq (de_con (pe_glob h7 h4 h5 h8) h6) fun ρ => by rw [ev, h3]; rfl
    · cases h
theorem sE_bin (o : Bo) {a b : Ex} (ihE_a : IE Γ P CA k N fx a) (ihE_b : IE Γ P CA k N fx b) : IE Γ P CA k N fx (.bin o a b) := fun X sc W x g h => by
    unfold chE at h
    split at h
    · obtain ⟨h1, h2⟩ := and_t h
      obtain ⟨h2, h3⟩ := and_t h2
      exact bin_op (of_decide_eq_true h1) (ev_eq (de_bin o (toP g h2 (ihE_a _ _ _ _ g h2)) (toP g h3 (ihE_b _ _ _ _ g h3))) fun ρ => rfl)
    · cases h
theorem sE_neg {a : Ex} (ihE_a : IE Γ P CA k N fx a) : IE Γ P CA k N fx (.neg a) := fun X sc W x g h => by
    unfold chE at h
    split at h
    · exact ev_eq (de_neg (toP g h (ihE_a _ _ _ _ g h))) fun ρ => rfl
    · cases h
theorem sE_cmp (o : Co) {a b : Ex} (ihE_a : IE Γ P CA k N fx a) (ihE_b : IE Γ P CA k N fx b) : IE Γ P CA k N fx (.cmp o a b) := fun X sc W x g h => by
    unfold chE at h
    split at h
    · obtain ⟨h1, h2⟩ := and_t h
      obtain ⟨h2, h3⟩ := and_t h2
      obtain ⟨h3, h4⟩ := and_t h3
      have := of_decide_eq_true h1; subst this
      exact ev_eq (de_cmp g.roomk g.eqs g.gb.eqy o (toP g h2 (ihE_a _ _ _ _ g h2)) (toP g h3 (ihE_b _ _ _ _ g h3)) (set_marks h4)) fun ρ => rfl
    · cases h
theorem sE_chn (o p : Co) {a b c : Ex} (ihE_a : IE Γ P CA k N fx a) (ihE_b : IE Γ P CA k N fx b) (ihE_c : IE Γ P CA k N fx c) : IE Γ P CA k N fx (.chn o p a b c) := fun X sc W x g h => by
    unfold chE at h
    split at h
    · obtain ⟨h1, h2⟩ := and_t h
      obtain ⟨h2, h3⟩ := and_t h2
      obtain ⟨h3, h4⟩ := and_t h3
      obtain ⟨h4, h5⟩ := and_t h4
      obtain ⟨h5, h6⟩ := and_t h5
      have := of_decide_eq_true h1; subst this
      have := of_decide_eq_true h2; subst this
      exact ev_eq (de_chn g.roomk o p (toP g h3 (ihE_a _ _ _ _ g h3)) (toP g h4 (ihE_b _ _ _ _ g h4)) (toP g h5 (ihE_c _ _ _ _ g h5)) (set_marks2 h6)) fun ρ => rfl
    · cases h
theorem sE_and {a b : Ex} (ihE_a : IE Γ P CA k N fx a) (ihE_b : IE Γ P CA k N fx b) : IE Γ P CA k N fx (.and a b) := fun X sc W x g h => by
    unfold chE at h
    split at h
    · obtain ⟨h1, h2⟩ := and_t h
      exact ev_eq (de_and (de_fz (ihE_a _ _ _ _ g h1)) (pe_one (ihE_b _ _ _ _ g h2))) fun ρ => rfl
    · obtain ⟨h1, h2⟩ := and_t h
      exact ev_eq (de_and (de_fz (ihE_a _ _ _ _ g h1)) (ihE_b _ _ _ _ g h2)) fun ρ => rfl
    · cases h
theorem sE_or {a b : Ex} (ihE_a : IE Γ P CA k N fx a) (ihE_b : IE Γ P CA k N fx b) : IE Γ P CA k N fx (.or a b) := fun X sc W x g h => by
    unfold chE at h
    split at h
    · obtain ⟨h1, h2⟩ := and_t h
      exact ev_eq (de_or (de_fz (ihE_a _ _ _ _ g h1)) (pe_one (ihE_b _ _ _ _ g h2))) fun ρ => rfl
    · obtain ⟨h1, h2⟩ := and_t h
      exact ev_eq (de_or (de_fz (ihE_a _ _ _ _ g h1)) (ihE_b _ _ _ _ g h2)) fun ρ => rfl
    · cases h
theorem sE_not {a : Ex} (ihE_a : IE Γ P CA k N fx a) : IE Γ P CA k N fx (.not a) := fun X sc W x g h => by
    unfold chE at h
    split at h
    · exact ev_eq (de_not (toP g h (ihE_a _ _ _ _ g h))) fun ρ => rfl
    · cases h
theorem sE_ite {c : Cd} {a b : Ex} (ihC_c : IC Γ P CA k N fx c) (ihE_a : IE Γ P CA k N fx a) (ihE_b : IE Γ P CA k N fx b) : IE Γ P CA k N fx (.ite c a b) := fun X sc W x g h => by
    unfold chE at h
    split at h
    · obtain ⟨h1, h2⟩ := and_t h
      obtain ⟨h2, h3⟩ := and_t h2
      exact ev_eq (de_ite (ihC_c _ _ _ _ g h1).1 (ihE_a _ _ _ _ g h2) (ihE_b _ _ _ _ g h3)) fun ρ => rfl
    · cases h
theorem sE_tup {es : Exs} (ihS_es : IS Γ P CA k N fx es) : IE Γ P CA k N fx (.tup es) := fun X sc W x g h => by
    unfold chE at h
    split at h
    · exact ev_eq (de_tup (ihS_es _ _ _ _ g h)) fun ρ => rfl
    · cases h
theorem sE_lst {es : Exs} (ihS_es : IS Γ P CA k N fx es) : IE Γ P CA k N fx (.lst es) := fun X sc W x g h => by
    unfold chE at h
    split at h
    · exact ev_eq (de_lst (ihS_es _ _ _ _ g h)) fun ρ => rfl
    · cases h
theorem sE_ix {a b : Ex} (ihE_a : IE Γ P CA k N fx a) (ihE_b : IE Γ P CA k N fx b) : IE Γ P CA k N fx (.ix a b) := fun X sc W x g h => by
    unfold chE at h
    split at h
    · obtain ⟨h2, h3⟩ := and_t h
      obtain ⟨h3, h4⟩ := and_t h3
      exact ev_eq (de_ix g.room (toP g h2 (ihE_a _ _ _ _ g h2)) (toP g h3 (ihE_b _ _ _ _ g h3)) (plain_ix h4)) fun ρ => rfl
    · cases h
theorem sE_sl {a : Ex} {l u : Exo} (ihE_a : IE Γ P CA k N fx a) (ihO_l : IO Γ P CA k N fx l) (ihO_u : IO Γ P CA k N fx u) : IE Γ P CA k N fx (.sl a l u) := fun X sc W x g h => by
    unfold chE at h
    split at h
    · obtain ⟨h1, h2⟩ := and_t h
      obtain ⟨h2, h3⟩ := and_t h2
      exact ev_eq (de_sl (toP g h1 (ihE_a _ _ _ _ g h1)) (ihO_l _ _ _ _ g h2) (ihO_u _ _ _ _ g h3)) fun ρ => rfl
    · cases h
theorem sE_rv {a : Ex} (ihE_a : IE Γ P CA k N fx a) : IE Γ P CA k N fx (.rv a) := fun X sc W x g h => by
    unfold chE at h
    split at h
    · exact ev_eq (de_rv (toP g h (ihE_a _ _ _ _ g h))) fun ρ => rfl
    · cases h
theorem sE_call (f : Nat) {es : Exs} (ihS_es : IS Γ P CA k N fx es) : IE Γ P CA k N fx (.call f es) := fun X sc W x g h => by
    unfold chE at h
    split at h
    · split at h
      · rename_i d hd
        rename_i y py e' es' pz ox
        obtain ⟨h1, h2⟩ := and_t h
        obtain ⟨h2, h3⟩ := and_t h2
        obtain ⟨h3, h4⟩ := and_t h3
        obtain ⟨h4, h6⟩ := and_t h4
        obtain ⟨a, fdt, F⟩ := g.gb.fn f d hd h1
        obtain ⟨h7, h8⟩ := glbB_gl g.sco h3
        have e := of_decide_eq_true h2
        cases h5 : es'.all notStar with
        | true => exact ev_eq (de_call F.ok g.rmk g.tk h7 (e ▸ F.at_) F.keep F.bas.bind F.bas.len (ihS_es _ _ _ _ g h6) h8 (star_cons h4) (star_none h5)) fun ρ => rfl
        | false => exact ev_eq (de_callS F.ok g.rmk g.tk h7 (e ▸ F.at_) F.keep F.bas.bind F.bas.len (ihS_es _ _ _ _ g h6) h8 (star_cons h4) (star_any h5)) fun ρ => rfl
      · cases h
    · cases h
theorem sE_callk (f : Nat) (es : Exs) (kn : List Str) {ks : Exs} (ihK_ks : IK Γ P CA k N fx ks) : IE Γ P CA k N fx (.callk f es kn ks) := fun X sc W x g h => by
    unfold chE at h
    split at h
    · split at h
      · rename_i d hd
        obtain ⟨h1, h⟩ := and_t h
        obtain ⟨h2, h⟩ := and_t h
        obtain ⟨h3, h⟩ := and_t h
        obtain ⟨h4, h⟩ := and_t h
        obtain ⟨h5, h⟩ := and_t h
        obtain ⟨h6, h9⟩ := and_t h
        obtain ⟨a, fdt, F⟩ := g.gb.fn f d hd h1
        obtain ⟨h7, h8⟩ := glbB_gl g.sco h3
        have e := of_decide_eq_true h2
        have e1 := of_decide_eq_true h4
        have e2 := of_decide_eq_true h5
        have e3 := ihK_ks _ _ W _ g h9
        cases es with
        | n => exact ev_eq (de_callk0 F.ok g.rmk g.tk h7 (e ▸ F.at_) F.keep (F.bas.kw 0 kn e1) F.bas.len e2 e3 h8) fun ρ => by rw [ev, evs, F.bas.ps]; rfl
        | c _ _ => unfold chS at h6; cases h6
        | s _ _ => unfold chS at h6; cases h6
      · cases h
    · cases h
theorem sE_mk (c f : Nat) {es : Exs} (ihS_es : IS Γ P CA k N fx es) : IE Γ P CA k N fx (.mk c f es) := fun X sc W x g h => by
    unfold chE at h
    split at h
    · split at h
      · rename_i d hd
        obtain ⟨h1, h2⟩ := and_t h
        obtain ⟨h2, h3⟩ := and_t h2
        obtain ⟨h3, h4⟩ := and_t h3
        obtain ⟨h4, h5⟩ := and_t h4
        obtain ⟨h5, h6⟩ := and_t h5
        obtain ⟨a, fdt, F⟩ := g.gb.mke f d c hd h1
        obtain ⟨h7, h8⟩ := glbB_gl g.sco h3
        have e := of_decide_eq_true h2
        exact ev_eq (de_make F.mkc F.ok g.rm g.tk h7 (e ▸ F.at_) F.bind F.len F.owns (ihS_es _ _ _ _ g h6) h8 (star_cons h4) (star_none h5)) fun ρ => rfl
      · cases h
    · cases h
theorem sE_mkk (c f : Nat) (es : Exs) (kn : List Str) {ks : Exs} (ihK_ks : IK Γ P CA k N fx ks) : IE Γ P CA k N fx (.mkk c f es kn ks) := fun X sc W x g h => by
    unfold chE at h
    split at h
    · split at h
      · rename_i d hd
        obtain ⟨h1, h⟩ := and_t h
        obtain ⟨h2, h⟩ := and_t h
        obtain ⟨h3, h⟩ := and_t h
        obtain ⟨h4, h⟩ := and_t h
        obtain ⟨h5, h⟩ := and_t h
        obtain ⟨h6, h9⟩ := and_t h
        obtain ⟨a, fdt, F⟩ := g.gb.mke f d c hd h1
        obtain ⟨h7, h8⟩ := glbB_gl g.sco h3
        have e := of_decide_eq_true h2
        have e1 := of_decide_eq_true h4
        have e2 := of_decide_eq_true h5
        have e3 := ihK_ks _ _ W _ g h9
        cases es with
        | n => exact ev_eq (de_makek0 F.mkc F.ok g.rm g.tk h7 (e ▸ F.at_) (F.kw 1 kn e1) F.pos F.len F.owns e2 e3 h8) fun ρ => by rw [ev, evs, F.ps]; rfl
        | c _ _ => unfold chS at h6; cases h6
        | s _ _ => unfold chS at h6; cases h6
      · cases h
    · cases h
theorem sE_om (c f : Nat) {o : Ex} (m : Str) {es : Exs} (ihE_o : IE Γ P CA k N fx o) (ihS_es : IS Γ P CA k N fx es) : IE Γ P CA k N fx (.om c f o m es) := fun X sc W x g h => by
    unfold chE at h
    split at h
    · split at h
      · rename_i d hd
        obtain ⟨h1, h2⟩ := and_t h
        obtain ⟨h2, h3⟩ := and_t h2
        obtain ⟨h3, h4⟩ := and_t h3
        obtain ⟨h4, h5⟩ := and_t h4
        obtain ⟨h5, h6⟩ := and_t h5
        obtain ⟨h6, h7⟩ := and_t h6
        obtain ⟨h7, h8⟩ := and_t h7
        obtain ⟨h8, h9⟩ := and_t h8
        obtain ⟨h9, h10⟩ := and_t h9
        obtain ⟨a, fdt, F⟩ := g.gb.mt f d c hd h1
        have e := of_decide_eq_true h2
        have e' := of_decide_eq_true h3
        subst e'
        have hlt := of_decide_eq_true h10
        exact ev_eq (de_meth F.cl (e ▸ F.met) F.ok g.rmk g.tk F.bas.bind F.bas.len (de_fz (ihE_o _ _ _ _ g h4)) (ihS_es _ _ _ _ g h8) (star_cons h6) (star_none h7) (meth_ev h5 (by rw [List.all_cons, h6, h7]; rfl) rfl h9 hlt)) fun ρ => rfl
      · cases h
    · cases h
theorem sE_omk (c f : Nat) {o : Ex} (m : Str) (es : Exs) (kn : List Str) {ks : Exs} (ihE_o : IE Γ P CA k N fx o) (ihK_ks : IK Γ P CA k N fx ks) : IE Γ P CA k N fx (.omk c f o m es kn ks) := fun X sc W x g h => by
    unfold chE at h
    split at h
    · split at h
      · rename_i d hd
        obtain ⟨h1, h⟩ := and_t h
        obtain ⟨h2, h⟩ := and_t h
        obtain ⟨h3, h⟩ := and_t h
        obtain ⟨h4, h⟩ := and_t h
        obtain ⟨h5, h⟩ := and_t h
        obtain ⟨h6, h⟩ := and_t h
        obtain ⟨h7, h⟩ := and_t h
        obtain ⟨h8, h⟩ := and_t h
        obtain ⟨h9, h⟩ := and_t h
        obtain ⟨h10, h11⟩ := and_t h
        obtain ⟨a, fdt, F⟩ := g.gb.mt f d c hd h1
        have e := of_decide_eq_true h2
        have e' := of_decide_eq_true h3
        subst e'
        have hlt := of_decide_eq_true h11
        have e1 := of_decide_eq_true h6
        have e2 := of_decide_eq_true h7
        have e3 := ihK_ks _ _ W _ g h9
        have e4 := ihE_o _ _ W _ g h4
        cases es with
        | n => exact ev_eq (de_methk0 F.cl (e ▸ F.met) F.ok g.rmk g.tk (F.bas.kw 1 kn e1) F.bas.len e2 (de_fz e4) e3 (meth_ev h5 rfl e2 h10 (by simpa using hlt))) fun ρ => by rw [ev]; rw [F.bas.ps]; rfl
        | c _ _ => unfold chS at h8; cases h8
        | s _ _ => unfold chS at h8; cases h8
      · cases h
    · cases h
theorem sE_bi (b : Bi) {es : Exs} (ihSp_es : ISp Γ P CA k N fx es) : IE Γ P CA k N fx (.bi b es) := fun X sc W x g h => by
    unfold chE at h
    split at h
    · split at h
      · rename_i t z id hb
        obtain ⟨h0, h⟩ := and_t h
        obtain ⟨h1, h2⟩ := and_t h
        obtain ⟨h2, h3⟩ := and_t h2
        obtain ⟨h3, h4⟩ := and_t h3
        obtain ⟨h4, h5⟩ := and_t h4
        have e := of_decide_eq_true h1; subst e
        obtain ⟨h6, h7, h8, h9⟩ := bltB_bl g h2
        have hh := biOk (X := X) g.calm (fun z => g.gd (by rw [z] at h0; rw [← g.gb.rp]; simpa using h0)) (by have := g.room.un; omega) hb
        cases t with
        | true =>
          rw [if_pos rfl] at hh
          exact ev_eq (de_biT hh.1 h6 h8 hh.2 (ihSp_es _ _ _ _ g h5 (by rw [List.all_cons, h3, h4]; rfl)) h9 h7 (star_cons h3) (star_none h4)) fun ρ => rfl
        | false =>
          rw [if_neg Bool.false_ne_true] at hh
          exact ev_eq (de_biB hh.1 h6 h8 hh.2 (ihSp_es _ _ _ _ g h5 (by rw [List.all_cons, h3, h4]; rfl)) h9 h7 (star_cons h3) (star_none h4)) fun ρ => rfl
      · cases h
    · cases h
theorem sE_isi {e : Ex} (tu : Bool) (ts : List Ty) (ihE_e : IE Γ P CA k N fx e) : IE Γ P CA k N fx (.isi e tu ts) := fun X sc W x g h => by
    unfold chE at h
    split at h
    · split at h
      · rename_i y _ e' z _ _ _ t
        obtain ⟨h1, h⟩ := and_t h
        obtain ⟨h2, h⟩ := and_t h
        obtain ⟨h3, h⟩ := and_t h
        obtain ⟨h4, h⟩ := and_t h
        obtain ⟨h5, h6⟩ := and_t h
        have e1 := of_decide_eq_true h1; subst e1
        obtain ⟨b1, b2, b3, b4⟩ := bltB_bl g h2
        have hkit := g.gb.kit t (of_decide_eq_true h5)
        have e3 := toP g h4 (ihE_e _ _ W _ g h4)
        split at h6
        · rename_i s z' ht
          obtain ⟨h6, h7⟩ := and_t h6
          have e2 := of_decide_eq_true h6; subst e2
          obtain ⟨c1, c2, c3, c4⟩ := bltB_bl g h7
          exact ev_eq (de_isi (pe_bltn (v := .ty s) c1 c3 (isTyOk Γ ht) rfl c4 c2) (.ty s) (hkit _ _ ht) g.gb.clx e3 b1 b3 h3 rfl) fun ρ => rfl
        · rename_i z' ht
          obtain ⟨h6, h7⟩ := and_t h6
          have e2 := of_decide_eq_true h6; subst e2
          obtain ⟨c1, c2⟩ := glbB_gl g.sco h7
          cases t with
          | cls c =>
            have hk := hkit _ _ ht
            have ht : ((Γ.cls[c]?).map fun x => ((none : Option String), x)) = some (none, z') := ht
            cases hc : Γ.cls[c]? with
            | none => rw [hc] at ht; cases ht
            | some y =>
              rw [hc] at ht; cases ht
              exact ev_eq (de_isi (pe_glob (v := .ref (CA c)) c1 (g.gb.cls c _ hc) rfl c2) (.own (CA c)) hk g.gb.clx e3 b1 b3 h3 rfl) fun ρ => rfl
          | verr => cases ht
          | _ => cases ht
        · cases h6
      · cases h
    · cases h
theorem sE_mt0 (m : Mt) {o : Ex} (i1 : IE Γ P CA k N fx o) : IE Γ P CA k N fx (.mt m o .n) := fun X sc W x g h => by
    unfold chE at h
    split at h
    · obtain ⟨h0, h⟩ := and_t h
      obtain ⟨h1, h⟩ := and_t h
      obtain ⟨h2, h⟩ := and_t h
      obtain ⟨h3, h4⟩ := and_t h
      have em := of_decide_eq_true h1; subst em
      cases m with
      | upper => exact ev_eq (de_upper (toP g h2 (i1 _ _ _ _ g h2)) h3 h4) fun ρ => rfl
      | _ => cases h0
    · cases h
theorem sE_mt2 (m : Mt) {o e f : Ex} (i1 : IE Γ P CA k N fx o) (i2 : IE Γ P CA k N fx e) (i3 : IE Γ P CA k N fx f) : IE Γ P CA k N fx (.mt m o (.c e (.c f .n))) := fun X sc W x g h => by
    unfold chE at h
    split at h
    · obtain ⟨h0, h⟩ := and_t h
      obtain ⟨h1, h⟩ := and_t h
      obtain ⟨h2, h⟩ := and_t h
      obtain ⟨h3, h⟩ := and_t h
      obtain ⟨h4, h⟩ := and_t h
      obtain ⟨h5, h⟩ := and_t h
      obtain ⟨h6, h⟩ := and_t h
      obtain ⟨h7, h8⟩ := and_t h
      have em := of_decide_eq_true h1; subst em
      cases m with
      | get =>
        refine ev_eq (de_get2 g.units (toP g h2 (i1 _ _ _ _ g h2)) (de_fz (i2 _ _ _ _ g h3)) (de_fz (i3 _ _ _ _ g h4)) h5 h6 h7 h8) fun ρ => ?_
        show (pk o ρ (ev P o ρ)).bind (fun x ρ => if mtOk .get x = true then ((fz (ev P e ρ)).bind fun d ρ => ((fz (ev P f ρ)).bind fun d ρ => (R.ok [] ρ : R (List D)).bind fun ds ρ => .ok (d :: ds) ρ).bind fun ds ρ => .ok (d :: ds) ρ).bind (fun ds ρ => R.lift (mtD .get x ds) ρ) else .no) = _
        congr 1
        funext x ρ1
        split
        · cases fz (ev P e ρ1) with
          | no => rfl
          | ex _ _ => rfl
          | ok d ρ2 =>
            simp only [R.bind_ok]
            cases fz (ev P f ρ2) <;> rfl
        · rfl
      | _ => cases h0
    · cases h
theorem sE_fld {o : Ex} (f : Str) (ihE_o : IE Γ P CA k N fx o) : IE Γ P CA k N fx (.fld o f) := fun X sc W x g h => by
    unfold chE at h
    split at h
    · obtain ⟨h1, h2⟩ := and_t h
      obtain ⟨h2, h3⟩ := and_t h2
      obtain ⟨h3, h4⟩ := and_t h3
      have e := of_decide_eq_true h1; subst e
      exact ev_eq (de_fld (fun c hc => (g.gb.clx c hc).cl) (fun c hc => g.gb.noat c hc _ (of_decide_eq_true h2)) (toP g h4 (ihE_o _ _ _ _ g h4)) (super_not h3)) fun ρ => rfl
    · cases h
theorem sE_lc {e : Ex} (own own' : List Nat) (t : Tg) {i : It} {c : Cdo} (ihE_e : IE Γ P CA k N fx e) (ihI_i : II Γ P CA k N fx i) (ihQ_c : IQ Γ P CA k N fx c) : IE Γ P CA k N fx (.lc e own (.c own' t i c .n)) := fun X sc W x g h => by
    unfold chE at h
    split at h
    · obtain ⟨h1, h2⟩ := and_t h
      obtain ⟨h2, h3⟩ := and_t h2
      obtain ⟨h3, h4⟩ := and_t h3
      obtain ⟨h4, h5⟩ := and_t h4
      obtain ⟨h5, h6⟩ := and_t h5
      obtain ⟨h6, h7⟩ := and_t h6
      have e1 := of_decide_eq_true h1; subst e1
      have gb := fun s H C cl fp => g.blk (blkB_kind h2) s H C cl fp
      have hh := de_lc (pos := ‹Pos›) (W := W) (CA := CA) (own := ownL N own') (f := Tg.bind t) (mc := tco P c) (me := fun ρ => fz (ev P e ρ)) (by rw [ownL_snd]; exact blkB_fix g h2) g.calm (by rw [g.hN]; exact g.nd) (ihI_i _ _ _ _ _ g h4) (blkB_ok g h2)
        (fun s H C cl fp => by rw [ownL_snd]; exact sT t (gb s H C cl fp) h3) (fun s H C cl fp => ihQ_c _ _ _ _ (gb s H C cl fp) h5) (fun s H C cl fp => de_fz (ihE_e _ _ _ _ (gb s H C cl fp) h6)) h7
      rw [ownL_snd] at hh
      exact ev_eq hh fun ρ => rfl
    · cases h
theorem sE_lcn {e : Ex} (own own' : List Nat) (t : Tg) {i : It} {c : Cdo} (ihE_e : IE Γ P CA k N fx e) (ihI_i : II Γ P CA k N fx i) (ihQ_c : IQ Γ P CA k N fx c) : IE Γ P CA k N fx (.lcn e own (.c own' t i c .n)) := fun X sc W x g h => by
    unfold chE at h
    split at h
    · obtain ⟨h1, h2⟩ := and_t h
      obtain ⟨h2, h3⟩ := and_t h2
      obtain ⟨h3, h4⟩ := and_t h3
      obtain ⟨h4, h5⟩ := and_t h4
      obtain ⟨h5, h6⟩ := and_t h5
      obtain ⟨h6, h7⟩ := and_t h6
      have e1 := of_decide_eq_true h1; subst e1
      have gb := fun s H C cl fp => g.blk (blkB_kind h2) s H C cl fp
      have hh := de_lcn (pos := ‹Pos›) (W := W) (CA := CA) (own := ownL N own') (f := Tg.bind t) (mc := tco P c) (me := ev P e) (by rw [ownL_snd]; exact blkB_fix g h2) g.calm (by rw [g.hN]; exact g.nd) (ihI_i _ _ _ _ _ g h4) (blkB_ok g h2)
        (fun s H C cl fp => by rw [ownL_snd]; exact sT t (gb s H C cl fp) h3) (fun s H C cl fp => ihQ_c _ _ _ _ (gb s H C cl fp) h5) (fun s H C cl fp => ihE_e _ _ _ _ (gb s H C cl fp) h6) h7
      rw [ownL_snd] at hh
      exact ev_eq hh fun ρ => rfl
    · cases h
theorem sE_dc {kx v : Ex} (own own' : List Nat) (t : Tg) {i : It} {c : Cdo} (ihE_kx : IE Γ P CA k N fx kx) (ihE_v : IE Γ P CA k N fx v) (ihI_i : II Γ P CA k N fx i) (ihQ_c : IQ Γ P CA k N fx c) : IE Γ P CA k N fx (.dc kx v own (.c own' t i c .n)) := fun X sc W x g h => by
    unfold chE at h
    split at h
    · obtain ⟨h1, h2⟩ := and_t h
      obtain ⟨h2, h3⟩ := and_t h2
      obtain ⟨h3, h4⟩ := and_t h3
      obtain ⟨h4, h5⟩ := and_t h4
      obtain ⟨h5, h6⟩ := and_t h5
      obtain ⟨h6, h7⟩ := and_t h6
      obtain ⟨h7, h8⟩ := and_t h7
      have e1 := of_decide_eq_true h1; subst e1
      have gb := fun s H C cl fp => g.blk (blkB_kind h2) s H C cl fp
      have hh := de_dc (pos := ‹Pos›) (W := W) (CA := CA) (own := ownL N own') (f := Tg.bind t) (mc := tco P c) (mk := fun ρ => fz (ev P kx ρ)) (mv := fun ρ => fz (ev P v ρ)) (by rw [ownL_snd]; exact blkB_fix g h2) g.calm (by rw [g.hN]; exact g.nd) (ihI_i _ _ _ _ _ g h4) (blkB_ok g h2)
        (fun s H C cl fp => by rw [ownL_snd]; exact sT t (gb s H C cl fp) h3) (fun s H C cl fp => ihQ_c _ _ _ _ (gb s H C cl fp) h5) (fun s H C cl fp => de_fz (ihE_kx _ _ _ _ (gb s H C cl fp) h6)) (fun s H C cl fp => de_fz (ihE_v _ _ _ _ (gb s H C cl fp) h7)) h8
      rw [ownL_snd] at hh
      exact ev_eq hh fun ρ => rfl
    · cases h
theorem sE_dsp : IE Γ P CA k N fx (.dsp .n) := fun X sc W x g h => by
    unfold chE at h
    split at h
    · refine PE.weak pe_dnewK fun σ H Q ⟨B, G0, G, ρ, em, p⟩ => fun a ha => ?_
      exact post_ow em p ha ⟨[], upd_same, .nil⟩
    · cases h
theorem sS_n : IS Γ P CA k N fx .n := fun X sc W xs g h => by
    unfold chS at h
    cases xs with
    | nil => exact tad_eq da_nil fun ρ => rfl
    | cons _ _ => cases h
theorem sS_c {e : Ex} {es : Exs} (i1 : IE Γ P CA k N fx e) (i2 : IS Γ P CA k N fx es) : IS Γ P CA k N fx (.c e es) := fun X sc W xs g h => by
    unfold chS at h
    split at h
    · obtain ⟨h1, h⟩ := and_t h
      obtain ⟨h2, h3⟩ := and_t h
      exact tad_eq (da_cons (de_fz (i1 _ _ _ _ g h2)) (i2 _ _ _ _ g h3) (star_cons h1)) fun ρ => rfl
    · cases h
theorem sS_s {e : Ex} {es : Exs} (i1 : IE Γ P CA k N fx e) (i2 : IS Γ P CA k N fx es) : IS Γ P CA k N fx (.s e es) := fun X sc W xs g h => by
    unfold chS at h
    split at h
    · obtain ⟨h1, h2⟩ := and_t h
      exact tad_eq (da_star (toP g h1 (i1 _ _ _ _ g h1)) (i2 _ _ _ _ g h2) star_star) fun ρ => rfl
    · cases h
theorem sSp_n : ISp Γ P CA k N fx .n := fun X sc W xs g h hs => by
    unfold chS at h
    cases xs with
    | nil => exact dp_nil
    | cons _ _ => cases h
theorem sSp_c {e : Ex} {es : Exs} (i1 : IE Γ P CA k N fx e) (i2 : ISp Γ P CA k N fx es) : ISp Γ P CA k N fx (.c e es) := fun X sc W xs g h hs => by
    unfold chS at h
    split at h
    · obtain ⟨h1, h⟩ := and_t h
      obtain ⟨h2, h3⟩ := and_t h
      rw [List.all_cons] at hs
      exact dp_cons (toP g h2 (i1 _ _ _ _ g h2)) (i2 _ _ _ _ g h3 (and_t hs).2) (star_cons h1)
    · cases h
theorem sSp_s {e : Ex} {es : Exs} : ISp Γ P CA k N fx (.s e es) := fun X sc W xs g h hs => by
    unfold chS at h
    split at h
    · rw [List.all_cons] at hs
      have := (and_t hs).1
      cases this
    · cases h
theorem sK_n : IK Γ P CA k N fx .n := fun X sc W xs g h => by
    unfold chK at h
    cases xs with
    | nil => exact dk_nil
    | cons _ _ => cases h
theorem sK_c {e : Ex} {es : Exs} (i1 : IE Γ P CA k N fx e) (i2 : IK Γ P CA k N fx es) : IK Γ P CA k N fx (.c e es) := fun X sc W xs g h => by
    unfold chK at h
    split at h
    · obtain ⟨h1, h2⟩ := and_t h
      exact dk_cons (de_fz (i1 _ _ _ _ g h1)) (i2 _ _ _ _ g h2)
    · cases h
theorem sK_s {e : Ex} {es : Exs} : IK Γ P CA k N fx (.s e es) := fun X sc W xs g h => by unfold chK at h; cases h
theorem sO_n : IO Γ P CA k N fx .n := fun X sc W x g h => by
    unfold chO at h
    cases x with
    | none => exact dO_none
    | some _ => cases h
theorem sO_s {e : Ex} (i1 : IE Γ P CA k N fx e) : IO Γ P CA k N fx (.s e) := fun X sc W x g h => by
    unfold chO at h
    split at h
    · exact dO_some (toP g h (i1 _ _ _ _ g h))
    · cases h
theorem sC_cmp (o : Co) {a b : Ex} (i1 : IE Γ P CA k N fx a) (i2 : IE Γ P CA k N fx b) : IC Γ P CA k N fx (.e (.cmp o a b)) := fun X sc W x g h => by
    unfold chC at h
    split at h
    · obtain ⟨h1, h⟩ := and_t h
      obtain ⟨h2, h⟩ := and_t h
      obtain ⟨h3, h4⟩ := and_t h
      have := of_decide_eq_true h1; subst this
      exact ⟨tt_eq (dt_cmp g.roomk g.eqs g.gb.eqy o (toP g h2 (i1 _ _ _ _ g h2)) (toP g h3 (i2 _ _ _ _ g h3)) (set_marks h4)) fun ρ => rfl, fun z => by cases z⟩
    · cases h
theorem sC_chn (o p : Co) {a b c : Ex} (i1 : IE Γ P CA k N fx a) (i2 : IE Γ P CA k N fx b) (i3 : IE Γ P CA k N fx c) : IC Γ P CA k N fx (.e (.chn o p a b c)) := fun X sc W x g h => by
    unfold chC at h
    split at h
    · obtain ⟨h1, h⟩ := and_t h
      obtain ⟨h2, h⟩ := and_t h
      obtain ⟨h3, h⟩ := and_t h
      obtain ⟨h4, h⟩ := and_t h
      obtain ⟨h5, h6⟩ := and_t h
      have := of_decide_eq_true h1; subst this
      have := of_decide_eq_true h2; subst this
      exact ⟨tt_eq (dt_chn g.roomk o p (toP g h3 (i1 _ _ _ _ g h3)) (toP g h4 (i2 _ _ _ _ g h4)) (toP g h5 (i3 _ _ _ _ g h5)) (set_marks2 h6)) fun ρ => rfl, fun z => by cases z⟩
    · cases h
/-- a test of any other kind -/
def plainC : Ex → Bool
  | .cmp _ _ _ => false
  | .chn _ _ _ _ _ => false
  | _ => true
theorem valTest_bo {x : Expr} (h : valTest x = true) : isBo x = true → False := by
  cases x <;> first | (intro z; cases z; done) | (intro z; cases h)
theorem sC_e {e : Ex} (hp : plainC e = true) (i1 : IE Γ P CA k N fx e) : IC Γ P CA k N fx (.e e) := fun X sc W x g h => by
    have h : (chE Γ N fx e sc x && valTest x) = true := by
      cases e <;> first | exact h | cases hp
    obtain ⟨h1, h2⟩ := and_t h
    exact ⟨tt_eq (dt_val (toP g h1 (i1 _ _ _ _ g h1)) (val_test h2)) fun ρ => rfl, fun z => (valTest_bo h2 z).elim⟩
theorem pw_both {X : Cx} {x : Expr} {t : TT} (w : PW X x t) : PT X x t ∧ (isBo x = true → PW X x t) := ⟨w.pt, fun _ => w⟩
theorem sC_and {a b : Cd} (i1 : IC Γ P CA k N fx a) (i2 : IC Γ P CA k N fx b) : IC Γ P CA k N fx (.and a b) := fun X sc W x g h => by
    unfold chC at h
    split at h
    · obtain ⟨h1, h2⟩ := and_t h
      exact pw_both (dt_and (i1 _ _ _ _ g h1).1 (pw_and1 (i2 _ _ _ _ g h2).1))
    · obtain ⟨h1, h2⟩ := and_t h
      exact pw_both (dt_and (i1 _ _ _ _ g h1).1 ((i2 _ _ _ _ g h2).2 rfl))
    · cases h
theorem sC_or {a b : Cd} (i1 : IC Γ P CA k N fx a) (i2 : IC Γ P CA k N fx b) : IC Γ P CA k N fx (.or a b) := fun X sc W x g h => by
    unfold chC at h
    split at h
    · obtain ⟨h1, h2⟩ := and_t h
      exact pw_both (dt_or (i1 _ _ _ _ g h1).1 (pw_or1 (i2 _ _ _ _ g h2).1))
    · obtain ⟨h1, h2⟩ := and_t h
      exact pw_both (dt_or (i1 _ _ _ _ g h1).1 ((i2 _ _ _ _ g h2).2 rfl))
    · cases h
theorem sC_not {a : Cd} (i1 : IC Γ P CA k N fx a) : IC Γ P CA k N fx (.not a) := fun X sc W x g h => by
    unfold chC at h
    split at h
    · exact ⟨dt_not (i1 _ _ _ _ g h).1, fun z => by cases z⟩
    · cases h
theorem sC_ite {a b c : Cd} : IC Γ P CA k N fx (.ite c a b) := fun X sc W x g h => by unfold chC at h; cases h
theorem sQ_n : IQ Γ P CA k N fx .n := fun X sc W xs g h => by
    unfold chQ at h
    cases xs with
    | nil => exact PTs.weak pts_nil fun σ H Q ⟨B, G0, G, ρ, em, p⟩ => p H G (Le.refl _) (Le.refl _) em
    | cons _ _ => cases h
theorem sQ_s {c : Cd} (i1 : IC Γ P CA k N fx c) : IQ Γ P CA k N fx (.s c) := fun X sc W xs g h => by
    unfold chQ at h
    split at h
    · exact pts_one (i1 _ _ _ _ g h).1
    · cases h
theorem sI_e {e : Ex} (i1 : IE Γ P CA k N fx e) : II Γ P CA k N fx (.e e) := fun X sc W t x g h => by
    unfold chI at h
    exact dI_any (de_fz (i1 _ _ _ _ g (and_t h).1))
theorem sI_enu {e : Ex} (i1 : IE Γ P CA k N fx e) : II Γ P CA k N fx (.enu e) := fun X sc W t x g h => by
    unfold chI at h
    split at h
    · split at h
      · obtain ⟨h1, h⟩ := and_t h
        obtain ⟨h2, h⟩ := and_t h
        obtain ⟨h3, h4⟩ := and_t h
        have e1 := of_decide_eq_true h1; subst e1
        obtain ⟨b1, b2, b3, b4⟩ := bltB_bl g h2
        exact dI_enu b1 b3 (de_fz (i1 _ _ _ _ g h4)) h3
      · cases h
    · cases h
theorem sI_rng1 {e : Ex} (i1 : IE Γ P CA k N fx e) : II Γ P CA k N fx (.rng (.c e .n)) := fun X sc W t x g h => by
    unfold chI at h
    split at h
    · obtain ⟨h1, h⟩ := and_t h
      obtain ⟨h2, h⟩ := and_t h
      obtain ⟨h3, h4⟩ := and_t h
      have e1 := of_decide_eq_true h1; subst e1
      obtain ⟨b1, b2, b3, b4⟩ := bltB_bl g h2
      refine ti_eq (dI_rng1 b1 b3 (da_cons (de_fz (i1 _ _ _ _ g h4)) da_nil (star_cons h3)) h3) fun ρ => ?_
      show ((fz (ev P e ρ)).bind fun d ρ => (R.ok [] ρ : R (List D)).bind fun ds ρ => .ok (d :: ds) ρ).bind (fun ds ρ => R.lift (rngD ds) ρ) = _
      cases fz (ev P e ρ) <;> rfl
    · cases h
theorem sI_rng2 {e f : Ex} (i1 : IE Γ P CA k N fx e) (i2 : IE Γ P CA k N fx f) : II Γ P CA k N fx (.rng (.c e (.c f .n))) := fun X sc W t x g h => by
    unfold chI at h
    split at h
    · obtain ⟨h1, h⟩ := and_t h
      obtain ⟨h2, h⟩ := and_t h
      obtain ⟨h3, h⟩ := and_t h
      obtain ⟨h4, h⟩ := and_t h
      obtain ⟨h5, h6⟩ := and_t h
      have e1 := of_decide_eq_true h1; subst e1
      obtain ⟨b1, b2, b3, b4⟩ := bltB_bl g h2
      refine ti_eq (dI_rng2 b1 b3 (da_cons (de_fz (i1 _ _ _ _ g h5)) (da_cons (de_fz (i2 _ _ _ _ g h6)) da_nil (star_cons h4)) (star_cons h3)) h3 h4) fun ρ => ?_
      show ((fz (ev P e ρ)).bind fun d ρ => ((fz (ev P f ρ)).bind fun d ρ => (R.ok [] ρ : R (List D)).bind fun ds ρ => .ok (d :: ds) ρ).bind fun ds ρ => .ok (d :: ds) ρ).bind (fun ds ρ => R.lift (rngD ds) ρ) = _
      cases fz (ev P e ρ) with
      | no => rfl
      | ex _ _ => rfl
      | ok d ρ1 =>
        simp only [R.bind_ok]
        cases fz (ev P f ρ1) <;> rfl
    · cases h
mutual
theorem sE : ∀ e : Ex, IE Γ P CA k N fx e
  | .v i => sE_v i
  | .non => sE_non
  | .bl b => sE_bl b
  | .int i => sE_int i
  | .str s => sE_str s
  | .g n => sE_g n
  | .bin o a b => sE_bin o (sE a) (sE b)
  | .neg a => sE_neg (sE a)
  | .cmp o a b => sE_cmp o (sE a) (sE b)
  | .chn o p a b c => sE_chn o p (sE a) (sE b) (sE c)
  | .and a b => sE_and (sE a) (sE b)
  | .or a b => sE_or (sE a) (sE b)
  | .not a => sE_not (sE a)
  | .ite c a b => sE_ite (sC c) (sE a) (sE b)
  | .tup es => sE_tup (sS es)
  | .lst es => sE_lst (sS es)
  | .ix a b => sE_ix (sE a) (sE b)
  | .sl a l h => sE_sl (sE a) (sO l) (sO h)
  | .rv a => sE_rv (sE a)
  | .call f es => sE_call f (sS es)
  | .callk f es kn ks => sE_callk f es kn (sK ks)
  | .mk c f es => sE_mk c f (sS es)
  | .mkk c f es kn ks => sE_mkk c f es kn (sK ks)
  | .om c f o m es => sE_om c f m (sE o) (sS es)
  | .omk c f o m es kn ks => sE_omk c f m es kn (sE o) (sK ks)
  | .bi b es => sE_bi b (sSp es)
  | .bit _ _ => fun X sc W x g h => by cases h
  | .isi e tu ts => sE_isi tu ts (sE e)
  | .mt m o es => (match es with
    | .n => sE_mt0 m (sE o)
    | .c e (.c f .n) => sE_mt2 m (sE o) (sE e) (sE f)
    | .s _ _ => fun X sc W x g h => by cases h
    | .c _ .n => fun X sc W x g h => by cases h
    | .c _ (.s _ _) => fun X sc W x g h => by cases h
    | .c _ (.c _ (.c _ _)) => fun X sc W x g h => by cases h
    | .c _ (.c _ (.s _ _)) => fun X sc W x g h => by cases h)
  | .srt _ _ => fun X sc W x g h => by cases h
  | .fld o f => sE_fld f (sE o)
  | .lc e own gs => (match gs with
    | .n => fun X sc W x g h => by cases h
    | .c own' t i c gs' => (match gs' with
      | .n => sE_lc own own' t (sE e) (sI i) (sQ c)
      | .c _ _ _ _ _ => fun X sc W x g h => by cases h))
  | .lcn e own gs => (match gs with
    | .n => fun X sc W x g h => by cases h
    | .c own' t i c gs' => (match gs' with
      | .n => sE_lcn own own' t (sE e) (sI i) (sQ c)
      | .c _ _ _ _ _ => fun X sc W x g h => by cases h))
  | .nlen _ => fun X sc W x g h => by cases h
  | .dc kx v own gs => (match gs with
    | .n => fun X sc W x g h => by cases h
    | .c own' t i c gs' => (match gs' with
      | .n => sE_dc own own' t (sE kx) (sE v) (sI i) (sQ c)
      | .c _ _ _ _ _ => fun X sc W x g h => by cases h))
  | .dsp es => (match es with
    | .n => sE_dsp
    | .c _ _ => fun X sc W x g h => by cases h
    | .s _ _ => fun X sc W x g h => by cases h)
theorem sS : ∀ es : Exs, IS Γ P CA k N fx es
  | .n => sS_n
  | .c e es => sS_c (sE e) (sS es)
  | .s e es => sS_s (sE e) (sS es)
theorem sSp : ∀ es : Exs, ISp Γ P CA k N fx es
  | .n => sSp_n
  | .c e es => sSp_c (sE e) (sSp es)
  | .s e es => sSp_s
theorem sK : ∀ es : Exs, IK Γ P CA k N fx es
  | .n => sK_n
  | .c e es => sK_c (sE e) (sK es)
  | .s e es => sK_s
theorem sO : ∀ o : Exo, IO Γ P CA k N fx o
  | .n => sO_n
  | .s e => sO_s (sE e)
theorem sC : ∀ c : Cd, IC Γ P CA k N fx c
  | .e e => (match e with
    | .cmp o a b => sC_cmp o (sE a) (sE b)
    | .chn o p a b c => sC_chn o p (sE a) (sE b) (sE c)
    | .v i => sC_e rfl (sE (.v i))
    | .non => sC_e rfl (sE (.non))
    | .bl b => sC_e rfl (sE (.bl b))
    | .int i => sC_e rfl (sE (.int i))
    | .str s => sC_e rfl (sE (.str s))
    | .g n => sC_e rfl (sE (.g n))
    | .bin o a b => sC_e rfl (sE (.bin o a b))
    | .neg a => sC_e rfl (sE (.neg a))
    | .and a b => sC_e rfl (sE (.and a b))
    | .or a b => sC_e rfl (sE (.or a b))
    | .not a => sC_e rfl (sE (.not a))
    | .ite c a b => sC_e rfl (sE (.ite c a b))
    | .tup es => sC_e rfl (sE (.tup es))
    | .lst es => sC_e rfl (sE (.lst es))
    | .ix a b => sC_e rfl (sE (.ix a b))
    | .sl a l h => sC_e rfl (sE (.sl a l h))
    | .rv a => sC_e rfl (sE (.rv a))
    | .call f es => sC_e rfl (sE (.call f es))
    | .callk f es kn ks => sC_e rfl (sE (.callk f es kn ks))
    | .mk c f es => sC_e rfl (sE (.mk c f es))
    | .mkk c f es kn ks => sC_e rfl (sE (.mkk c f es kn ks))
    | .om c f o m es => sC_e rfl (sE (.om c f o m es))
    | .omk c f o m es kn ks => sC_e rfl (sE (.omk c f o m es kn ks))
    | .bi b es => sC_e rfl (sE (.bi b es))
    | .bit b i => sC_e rfl (sE (.bit b i))
    | .isi e tu ts => sC_e rfl (sE (.isi e tu ts))
    | .mt m o es => sC_e rfl (sE (.mt m o es))
    | .fld o f => sC_e rfl (sE (.fld o f))
    | .lc e own gs => sC_e rfl (sE (.lc e own gs))
    | .lcn e own gs => sC_e rfl (sE (.lcn e own gs))
    | .nlen s => sC_e rfl (sE (.nlen s))
    | .dc kx v own gs => sC_e rfl (sE (.dc kx v own gs))
    | .dsp es => sC_e rfl (sE (.dsp es))
    | .srt f e => sC_e rfl (sE (.srt f e)))
  | .and a b => sC_and (sC a) (sC b)
  | .or a b => sC_or (sC a) (sC b)
  | .not a => sC_not (sC a)
  | .ite _ _ _ => sC_ite
theorem sQ : ∀ c : Cdo, IQ Γ P CA k N fx c
  | .n => sQ_n
  | .s c => sQ_s (sC c)
theorem sI : ∀ i : It, II Γ P CA k N fx i
  | .e e => sI_e (sE e)
  | .rng es => (match es with
    | .c e (.n) => sI_rng1 (sE e)
    | .c e (.c f .n) => sI_rng2 (sE e) (sE f)
    | .n => fun X sc W t x g h => by cases h
    | .s _ _ => fun X sc W t x g h => by cases h
    | .c _ (.s _ _) => fun X sc W t x g h => by cases h
    | .c _ (.c _ (.c _ _)) => fun X sc W t x g h => by cases h
    | .c _ (.c _ (.s _ _)) => fun X sc W t x g h => by cases h)
  | .enu e => sI_enu (sE e)
  | .zip _ _ => fun X sc W t x g h => by cases h
  | .rvs _ => fun X sc W t x g h => by cases h
end
end
end DL

set_option maxHeartbeats 4000000
/-! DLa: a caught error is asked. -/
namespace DL
open PySem PySem.Spec PyProof.Rows L2
/-- isinstance(e, c), e the error that the suite holds: a class, or a tuple of classes -/
def rIsX (K : PySem.W.Frag) (D a : Addr) (d : Option Addr) : List V → Hp → VK → Prop := fun xs H Q => (∀ dd, d = some dd → ∃ fs, H dd = some (.xd fs)) ∧ ((∃ (c : V) (cv : Value) (b : Bool), xs = [.ref a, c] ∧ ClsV c cv ∧ PySem.W.kitOne K (.ref D) cv = some b ∧ Q (.bl b) H) ∨
  ∃ (tp : Addr) (cs : List V) (us : List Value) (b : Bool), xs = [.ref a, .ref tp] ∧ H tp = some (.tup cs) ∧ Paired ClsV cs us ∧ PySem.W.kitAny K (.ref D) us = some b ∧ Q (.bl b) H)
theorem call_isX {X : Cx} {a D : Addr} {d : Option Addr} {oe : Obj} {pn : List (Addr × Obj)} (C : XcC X.K D) (hz : Zc (.ref D) d oe) (hf : ∃ vs, oe.data = .fields vs) : CallR (X.suite a ((a, oe) :: pn)) (.builtin "isinstance") (rIsX X.K D a d) := by
  intro pins s σ H xs us Q I r h
  obtain ⟨hd, h⟩ := h
  obtain ⟨hget, _⟩ := I.pin (a, oe) (List.mem_append.mpr (.inl List.mem_cons_self))
  obtain ⟨vs, hv⟩ := hf
  have J : ∃ od, PySem.W.InstAt s.heap a oe D od := by
    obtain ⟨oc, od, oda, osl⟩ := oe
    obtain ⟨h1, h2⟩ := hz
    dsimp only at h1 h2 hv
    subst h1 h2 hv
    cases od with
    | none => exact ⟨none, hget, rfl, rfl, trivial⟩
    | some dd =>
      obtain ⟨fs, hfs⟩ := hd dd rfl
      have hx : ObjOk X.prog X.w H s.heap dd (.xd fs) := I.hok dd _ hfs
      obtain ⟨mA, hns, hr⟩ := hx
      obtain ⟨o2, ho, hl⟩ := lookIn_ns hns
      exact ⟨some o2, hget, rfl, rfl, ho⟩
  obtain ⟨od, J⟩ := J
  have kit := PySem.W.kitx_exc (x := a) (ox := oe) (od := od) C.cl C.e.hg C.e.hk C.e.hs C.e.ha C.e.hn C.e.ht C.e.hm
  rcases h with ⟨c, cv, b, rfl, hcv, e, q⟩ | ⟨tp, cs, ws, b, rfl, htp, hcs, e, q⟩
  · cases r with
    | cons rx rr =>
      cases rr with
      | cons rt rr =>
        cases rr
        cases rx
        have ec := hcv.eq rt
        subst ec
        exact PySem.W.kia_one kit I.kIn J e (fun z => nomatch z) fun tk => ⟨.bl b, H, I.kept (t' := tk) fun _ _ z => z, rfl, q⟩
  · obtain ⟨u1, u2, rfl, r1, r2⟩ := vals2 r
    cases (show u1 = Value.ref a from r1)
    cases (show u2 = Value.ref tp from r2)
    obtain ⟨_, its, rv, o, h1, h2, n, h3⟩ := (show ObjOk X.prog X.w H s.heap tp (.tup cs) from I.hok tp _ htp)
    have e3 := ClsV.all hcs rv
    subst e3
    obtain ⟨oc, od', dt, sl⟩ := o
    simp only at h2 h3
    subst h2 h3
    exact PySem.W.kia_tup kit I.kIn J h1 e (fun z => nomatch z) fun tk => ⟨.bl b, H, I.kept (t' := tk) fun _ _ z => z, rfl, q⟩
end DL

set_option maxHeartbeats 4000000
/-! DLb: what a handler asks. -/
namespace DL
open PySem PySem.Spec PyProof.Rows L2
section
variable [Frame] {CA : Nat → Addr} {Y : Cx} {N : List Str} {sc : Scope} {x : Exn} {a : Addr} {d : Option Addr} {i : Nat} {sub : Nat → Option Nat → Bool}
/-- the error stands in slot i, its fields in the heap -/
def ErrAt (K : PySem.W.Frag) (CA : Nat → Addr) (x : Exn) (a : Addr) (d : Option Addr) (i : Nat) (σ : L2.St) (H G : Hp) : Prop := σ[i]? = some (some (.ref a)) ∧ XR K CA G (.ref (CA x.cls)) d x
def tHx (K : PySem.W.Frag) (CA : Nat → Addr) (x : Exn) (a : Addr) (d : Option Addr) (i : Nat) (m : Env → Option Bool) : TE := fun σ H Q => ∃ B G0 G ρ, Em K CA B G0 H G σ ρ ∧ ErrAt K CA x a d i σ H G ∧ ∃ b, m ρ = some b ∧ ∀ H', Le H H' → Q (.bl b) H'
def tHt (K : PySem.W.Frag) (CA : Nat → Addr) (x : Exn) (a : Addr) (d : Option Addr) (i : Nat) (m : Env → Option Bool) : TT := fun σ H Q => ∃ B G0 G ρ, Em K CA B G0 H G σ ρ ∧ ErrAt K CA x a d i σ H G ∧ ∃ b, m ρ = some b ∧ ∀ H', Le H H' → Q b H'
theorem hx_v {j : Nat} {e : Expr} (h : PE Y e (tVar j)) : PE Y e (tHx Y.K CA x a d i (hxB sub x (.v j))) := PE.weak h fun σ H Q ⟨B, G0, G, ρ, em, er, b, hb, q⟩ => by
  unfold hxB at hb
  split at hb
  · rename_i b' hρ
    cases hb
    obtain ⟨v, h1, h2⟩ := em.sl j _ hρ
    cases h2
    exact ⟨_, h1, q H (Le.refl _)⟩
  · cases hb
theorem hx_and {u v : Hx} {e f : Expr} {rest : List Expr} {pos : Pos} (h1 : PE Y e (tHx Y.K CA x a d i (hxB sub x u))) (h2 : PE Y (.BoolOp .And (f :: rest) pos) (tHx Y.K CA x a d i (hxB sub x v))) : PE Y (.BoolOp .And (e :: f :: rest) pos) (tHx Y.K CA x a d i (hxB sub x (.and u v))) :=
  PE.weak (pe_and h1 h2) fun σ H Q ⟨B, G0, G, ρ, em, er, b, hb, q⟩ => by
    have hb : ((hxB sub x u ρ).bind fun k => if k = true then hxB sub x v ρ else some false) = some b := hb
    obtain ⟨k, hk, hb⟩ := Option.bind_eq_some_iff.mp hb
    refine ⟨B, G0, G, ρ, em, er, k, hk, fun H1 l1 => ⟨k, rfl, ?_⟩⟩
    cases k with
    | true => rw [if_pos rfl] at hb ⊢; exact ⟨B, G0, G, ρ, em.ext l1, er, b, hb, fun H2 l2 => q H2 (l1.trans l2)⟩
    | false => rw [if_neg Bool.false_ne_true] at hb ⊢; cases hb; exact q H1 l1
theorem hx_or {u v : Hx} {e f : Expr} {rest : List Expr} {pos : Pos} (h1 : PE Y e (tHx Y.K CA x a d i (hxB sub x u))) (h2 : PE Y (.BoolOp .Or (f :: rest) pos) (tHx Y.K CA x a d i (hxB sub x v))) : PE Y (.BoolOp .Or (e :: f :: rest) pos) (tHx Y.K CA x a d i (hxB sub x (.or u v))) :=
  PE.weak (pe_or h1 h2) fun σ H Q ⟨B, G0, G, ρ, em, er, b, hb, q⟩ => by
    have hb : ((hxB sub x u ρ).bind fun k => if k = true then some true else hxB sub x v ρ) = some b := hb
    obtain ⟨k, hk, hb⟩ := Option.bind_eq_some_iff.mp hb
    refine ⟨B, G0, G, ρ, em, er, k, hk, fun H1 l1 => ⟨k, rfl, ?_⟩⟩
    cases k with
    | false => rw [if_neg Bool.false_ne_true] at hb ⊢; exact ⟨B, G0, G, ρ, em.ext l1, er, b, hb, fun H2 l2 => q H2 (l1.trans l2)⟩
    | true => rw [if_pos rfl] at hb ⊢; cases hb; exact q H1 l1
theorem hx_not {u : Hx} {e : Expr} {pos : Pos} (h1 : PE Y e (tHx Y.K CA x a d i (hxB sub x u))) : PE Y (.UnaryOp .Not e pos) (tHx Y.K CA x a d i (hxB sub x (.not u))) :=
  PE.weak (pe_not h1) fun σ H Q ⟨B, G0, G, ρ, em, er, b, hb, q⟩ => by
    have hb : (hxB sub x u ρ).map not = some b := hb
    obtain ⟨k, hk, e⟩ := Option.map_eq_some_iff.mp hb
    subst e
    exact ⟨B, G0, G, ρ, em, er, k, hk, fun H1 l1 => ⟨k, rfl, q H1 l1⟩⟩
theorem ht_and {u v : Hx} {e f : Expr} {rest : List Expr} {pos : Pos} (h1 : PT Y e (tHt Y.K CA x a d i (hxB sub x u))) (h2 : PW Y (.BoolOp .And (f :: rest) pos) (tHt Y.K CA x a d i (hxB sub x v))) : PW Y (.BoolOp .And (e :: f :: rest) pos) (tHt Y.K CA x a d i (hxB sub x (.and u v))) :=
  PW.weak (pw_and h1 h2) fun σ H Q ⟨B, G0, G, ρ, em, er, b, hb, q⟩ => by
    have hb : ((hxB sub x u ρ).bind fun k => if k = true then hxB sub x v ρ else some false) = some b := hb
    obtain ⟨k, hk, hb⟩ := Option.bind_eq_some_iff.mp hb
    refine ⟨B, G0, G, ρ, em, er, k, hk, fun H1 l1 => ?_⟩
    cases k with
    | true => rw [if_pos rfl] at hb ⊢; exact ⟨B, G0, G, ρ, em.ext l1, er, b, hb, fun H2 l2 => q H2 (l1.trans l2)⟩
    | false => rw [if_neg Bool.false_ne_true] at hb ⊢; cases hb; exact q H1 l1
theorem ht_or {u v : Hx} {e f : Expr} {rest : List Expr} {pos : Pos} (h1 : PT Y e (tHt Y.K CA x a d i (hxB sub x u))) (h2 : PW Y (.BoolOp .Or (f :: rest) pos) (tHt Y.K CA x a d i (hxB sub x v))) : PW Y (.BoolOp .Or (e :: f :: rest) pos) (tHt Y.K CA x a d i (hxB sub x (.or u v))) :=
  PW.weak (pw_or h1 h2) fun σ H Q ⟨B, G0, G, ρ, em, er, b, hb, q⟩ => by
    have hb : ((hxB sub x u ρ).bind fun k => if k = true then some true else hxB sub x v ρ) = some b := hb
    obtain ⟨k, hk, hb⟩ := Option.bind_eq_some_iff.mp hb
    refine ⟨B, G0, G, ρ, em, er, k, hk, fun H1 l1 => ?_⟩
    cases k with
    | false => rw [if_neg Bool.false_ne_true] at hb ⊢; exact ⟨B, G0, G, ρ, em.ext l1, er, b, hb, fun H2 l2 => q H2 (l1.trans l2)⟩
    | true => rw [if_pos rfl] at hb ⊢; cases hb; exact q H1 l1
theorem ht_not {u : Hx} {e : Expr} {pos : Pos} (h1 : PT Y e (tHt Y.K CA x a d i (hxB sub x u))) : PT Y (.UnaryOp .Not e pos) (tHt Y.K CA x a d i (hxB sub x (.not u))) :=
  PT.weak (pt_not h1) fun σ H Q ⟨B, G0, G, ρ, em, er, b, hb, q⟩ => by
    have hb : (hxB sub x u ρ).map not = some b := hb
    obtain ⟨k, hk, e⟩ := Option.map_eq_some_iff.mp hb
    subst e
    exact ⟨B, G0, G, ρ, em, er, k, hk, fun H1 l1 => q H1 l1⟩
theorem ht_val {u : Hx} {e : Expr} (h1 : PE Y e (tHx Y.K CA x a d i (hxB sub x u))) (hv : valTest e = true) : PT Y e (tHt Y.K CA x a d i (hxB sub x u)) :=
  PT.weak (pt_val h1 (val_test hv)) fun σ H Q ⟨B, G0, G, ρ, em, er, b, hb, q⟩ => ⟨B, G0, G, ρ, em, er, b, hb, fun H1 l1 => ⟨b, rfl, q H1 l1⟩⟩
end
end DL

set_option maxHeartbeats 4000000
/-! DLc: isinstance of a caught error, as the core text says. -/
namespace DL
open PySem PySem.Spec PyProof.Rows L2
theorem cv_ok {CA : Nat → Addr} (o : Option Nat) : ClsV (cvV CA o) (cvU CA o) := by
  cases o with
  | none => exact .ty _
  | some c => exact .own _
theorem cv_all {CA : Nat → Addr} : ∀ cs : List (Option Nat), Paired ClsV (cs.map (cvV CA)) (cs.map (cvU CA))
  | [] => .nil
  | c :: cs => .cons (cv_ok c) (cv_all cs)
def chCn (Γ : Gm) (sc : Scope) (o : Option Nat) (e : Expr) : Bool := match e with
  | .Name y _ => glbB sc y && (match o with
    | some c => decide (Γ.xns[c]? = some y)
    | none => decide (y = "ValueError"))
  | _ => false
def chCs (Γ : Gm) (sc : Scope) : List (Option Nat) → List Expr → Bool
  | [], es => es.isEmpty
  | o :: os, es => (match es with
    | e :: es => chCn Γ sc o e && chCs Γ sc os es
    | [] => false)
section
variable {Γ : Gm} {P : Pg} {CA : Nat → Addr} {Y : Cx} {N : List Str} {sc : Scope}
theorem pe_cls (sco : ScOk Y sc) (gx : Gx Γ P CA Y.K Y.mg) {o : Option Nat} {e : Expr} (h : chCn Γ sc o e = true) : PE Y e (tC (cvV CA o)) ∧ notStar e = true ∧ ∀ c, o = some c → c < Γ.xns.length := by
  unfold chCn at h
  split at h
  · rename_i y p
    obtain ⟨h1, h2⟩ := and_t h
    obtain ⟨h3, h4⟩ := glbB_gl sco h1
    cases o with
    | none =>
      have e := of_decide_eq_true h2
      subst e
      exact ⟨pe_bltn h3 gx.ve rfl rfl (by decide) h4, rfl, fun c z => by cases z⟩
    | some c =>
      have e := of_decide_eq_true h2
      refine ⟨pe_glob h3 (gx.xn c y e) rfl h4, rfl, fun c' z => ?_⟩
      cases z
      exact lt_of_get e
  · cases h
theorem pa_cls (sco : ScOk Y sc) (gx : Gx Γ P CA Y.K Y.mg) : ∀ (cs : List (Option Nat)) (es : List Expr), chCs Γ sc cs es = true → PA Y es (fun σ H Q => Q (cs.map (cvV CA)) H) ∧ es.all notStar = true ∧ ∀ o ∈ cs, ∀ c, o = some c → c < Γ.xns.length
  | [], es, h => by
    unfold chCs at h
    cases es with
    | nil => exact ⟨pa_nil, rfl, fun o ho => by cases ho⟩
    | cons _ _ => cases h
  | o :: os, es, h => by
    unfold chCs at h
    split at h
    · rename_i e es
      obtain ⟨h1, h2⟩ := and_t h
      obtain ⟨a1, a2, a3⟩ := pe_cls sco gx h1
      obtain ⟨b1, b2, b3⟩ := pa_cls sco gx os es h2
      refine ⟨⟨fun pos pins s σ H Q I q => (pa_cons a1 b1 (star_cons a2)).run pos pins s σ H Q I q⟩, by rw [List.all_cons, a2, b2]; rfl, fun o' ho => ?_⟩
      rcases List.mem_cons.mp ho with z | z
      · subst z; exact a3
      · exact b3 o' z
    · cases h
theorem kit_all {K : PySem.W.Frag} {t : Value} {sub : Option Nat → Bool} : ∀ cs : List (Option Nat), (∀ o ∈ cs, PySem.W.kitOne K t (cvU CA o) = some (sub o)) → PySem.W.kitAny K t (cs.map (cvU CA)) = some (cs.any sub)
  | [], _ => kitAny_nil
  | o :: os, h => kitAny_cons (h o List.mem_cons_self) (fun e => by rw [List.any_cons, e, Bool.false_or]; exact kit_all os fun o' ho => h o' (List.mem_cons_of_mem _ ho)) (fun e => by rw [List.any_cons, e]; rfl)
end
section
variable [Frame] {Γ : Gm} {P : Pg} {CA : Nat → Addr} {X : Cx} {N : List Str} {sc : Scope} {x : Exn} {a : Addr} {d : Option Addr} {i : Nat} {oe : Obj} {pn : List (Addr × Obj)}
theorem xr_dict {K : PySem.W.Frag} {G H : Hp} {cl : Value} (r : XR K CA G cl d x) (l : Le G H) : ∀ dd, d = some dd → ∃ fs, H dd = some (.xd fs) := fun dd e => by
  obtain ⟨_, r⟩ := r
  rcases r with ⟨_, z⟩ | ⟨b, vs, z, hb, _⟩
  · rw [z] at e; cases e
  · rw [z] at e; cases e; exact ⟨vs, l _ _ hb⟩
theorem hx_isx1 (gx : Gx Γ P CA X.K X.mg) (sco : ScOk (X.suite a ((a, oe) :: pn)) sc) (hx : 1000 ≤ x.cls ∧ x.cls < 1000 + P.nx) (hz : Zc (.ref (CA x.cls)) d oe) (hf : ∃ vs, oe.data = .fields vs) {c : Option Nat} {e1 e2 : Expr} {p pos : Pos} {tu : Bool}
    (h1 : PE (X.suite a ((a, oe) :: pn)) e1 (tVar i)) (hs : notStar e1 = true) (h2 : chCn Γ sc c e2 = true) (hg : Gl X "isinstance") :
    PE (X.suite a ((a, oe) :: pn)) (.Call (.Name "isinstance" p) [e1, e2] [] pos) (tHx X.K CA x a d i (hxB P.sub x (.isx [c] tu))) := by
  obtain ⟨a1, a2, a3⟩ := pe_cls (Γ := Γ) (P := P) (CA := CA) sco gx h2
  obtain ⟨n, hn⟩ : ∃ n, x.cls = 1000 + n := ⟨x.cls - 1000, by omega⟩
  have hnx : n < P.nx := by omega
  rw [hn] at hz
  refine PE.weak (pe_callB (call_isX (gx.xcc n hnx) hz hf) hg gx.ii rfl (pa_cons h1 (pa_cons a1 pa_nil (star_cons a2)) (star_cons hs)) (by decide) (by decide) (star_cons hs) (star_none (by rw [List.all_cons, a2]; rfl))) fun σ H Q ⟨B, G0, G, ρ, em, er, b, hb, q⟩ => ?_
  have hb : some ([c].any (P.sub x.cls)) = some b := hb
  cases hb
  refine ⟨_, er.1, ⟨xr_dict er.2 em.gh, .inl ⟨_, _, _, rfl, cv_ok c, gx.kit n hnx c a3, ?_⟩⟩⟩
  have := q H (Le.refl _)
  rw [List.any_cons, List.any_nil, Bool.or_false, hn] at this
  exact this
theorem hx_isxT (gx : Gx Γ P CA X.K X.mg) (sco : ScOk (X.suite a ((a, oe) :: pn)) sc) (hx : 1000 ≤ x.cls ∧ x.cls < 1000 + P.nx) (hz : Zc (.ref (CA x.cls)) d oe) (hf : ∃ vs, oe.data = .fields vs) {cs : List (Option Nat)} {e1 : Expr} {es : List Expr} {p pos tpos : Pos} {k : Nat} {tu : Bool}
    (h1 : PE (X.suite a ((a, oe) :: pn)) e1 (tVar i)) (hs : notStar e1 = true) (h2 : chCs Γ sc cs es = true) (hg : Gl X "isinstance") (hl : cs.length ≤ 1000) :
    PE (X.suite a ((a, oe) :: pn)) (.Call (.Name "isinstance" p) [e1, .Tuple es k tpos] [] pos) (tHx X.K CA x a d i (hxB P.sub x (.isx cs tu))) := by
  obtain ⟨a1, a2, a3⟩ := pa_cls (Γ := Γ) (P := P) (CA := CA) sco gx cs es h2
  obtain ⟨n, hn⟩ : ∃ n, x.cls = 1000 + n := ⟨x.cls - 1000, by omega⟩
  have hnx : n < P.nx := by omega
  rw [hn] at hz
  refine PE.weak (pe_callB (call_isX (gx.xcc n hnx) hz hf) hg gx.ii rfl (pa_cons h1 (pa_cons (pe_tup a1) pa_nil (star_cons rfl)) (star_cons hs)) (by decide) (by decide) (star_cons hs) (star_none rfl)) fun σ H Q ⟨B, G0, G, ρ, em, er, b, hb, q⟩ => ?_
  have hb : some (cs.any (P.sub x.cls)) = some b := hb
  cases hb
  refine ⟨_, er.1, ⟨by rw [List.length_map, sizeLine_eq]; exact Nat.le_trans hl (by decide), fun tp ht => ⟨xr_dict er.2 (em.gh.trans (Le.newH ht)), .inr ⟨tp, _, _, _, rfl, upd_same, cv_all cs, kit_all cs fun o ho => gx.kit n hnx o (a3 o ho), ?_⟩⟩⟩⟩
  have := q _ (Le.newH (o := .tup (cs.map (cvV CA))) ht)
  rw [hn] at this
  exact this
end
end DL

set_option maxHeartbeats 4000000
/-! DLd: a handler's block. -/
namespace DL
open PySem PySem.Spec PyProof.Rows L2
section
variable [Frame] {Γ : Gm} {P : Pg} {CA : Nat → Addr} {X Y : Cx} {N : List Str} {sc : Scope} {x : Exn} {a : Addr} {d : Option Addr} {i : Nat} {oe : Obj} {pn : List (Addr × Obj)} {sub : Nat → Option Nat → Bool}
def tHv (K : PySem.W.Frag) (CA : Nat → Addr) (x : Exn) (a : Addr) (d : Option Addr) (i : Nat) (m : Env → Option D) : TE := fun σ H Q => ∃ B G0 G ρ, Em K CA B G0 H G σ ρ ∧ ErrAt K CA x a d i σ H G ∧ ∃ z, m ρ = some z ∧ ∀ v H', Le H H' → Rep K CA G v z → Q v H'
def tHl (K : PySem.W.Frag) (CA : Nat → Addr) (x : Exn) (a : Addr) (d : Option Addr) (i : Nat) (m : Env → Option (List D)) : TA := fun σ H Q => ∃ B G0 G ρ, Em K CA B G0 H G σ ρ ∧ ErrAt K CA x a d i σ H G ∧ ∃ zs, m ρ = some zs ∧ ∀ vs H', Le H H' → Reps K CA G vs zs → Q vs H'
theorem hv_con {e : Expr} {v : V} {z : D} {u : Hv} (h : PE Y e (tC v)) (r : ∀ G, Rep Y.K CA G v z) (hu : ∀ ρ, hvD sub x u ρ = some z) : PE Y e (tHv Y.K CA x a d i (hvD sub x u)) := PE.weak h fun σ H Q ⟨B, G0, G, ρ, em, er, z', hz, q⟩ => by
  rw [hu] at hz; cases hz
  exact q v H (Le.refl _) (r G)
theorem hv_v {e : Expr} {j : Nat} (h : PE Y e (tVar j)) : PE Y e (tHv Y.K CA x a d i (hvD sub x (.v j))) := PE.weak h fun σ H Q ⟨B, G0, G, ρ, em, er, z, hz, q⟩ => by
  have hz : (match ρ[j]? with
    | some (some (Cell.sh d)) => some d
    | _ => none) = some z := hz
  split at hz
  · rename_i z' hρ
    cases hz
    obtain ⟨v, h1, h2⟩ := em.sl j _ hρ
    exact ⟨v, h1, q v H (Le.refl _) h2⟩
  · cases hz
theorem hv_b {e : Expr} {u : Hx} (h : PE Y e (tHx Y.K CA x a d i (hxB sub x u))) : PE Y e (tHv Y.K CA x a d i (hvD sub x (.b u))) := PE.weak h fun σ H Q ⟨B, G0, G, ρ, em, er, z, hz, q⟩ => by
  have hz : (hxB sub x u ρ).map D.bl = some z := hz
  obtain ⟨b, hb, e⟩ := Option.map_eq_some_iff.mp hz
  subst e
  exact ⟨B, G0, G, ρ, em, er, b, hb, fun H' l => q _ H' l (.bl b)⟩
theorem hv_fld {C : Nat} (hC : x.cls = C) (T : XfC X.K (CA C)) {f : Str} (hno : PySem.W.findIn X.K (.ref (CA C)) f = some none) (hz : Zc (.ref (CA C)) d oe) (hf : ∃ vs, oe.data = .fields vs) {e : Expr} {pos : Pos} (h : PE (X.suite a ((a, oe) :: pn)) e (tVar i)) (hb : notSuper e = true) :
    PE (X.suite a ((a, oe) :: pn)) (.Attribute e f pos) (tHv X.K CA x a d i (hvD sub x (.fld f))) :=
  PE.weak (pe_xf T hno hz hf h (super_not hb)) fun σ H Q ⟨B, G0, G, ρ, em, er, z, hv, q⟩ => by
    have hv : x.fs.lookup f = some z := hv
    obtain ⟨h1, h2, h3⟩ := er
    rcases h3 with ⟨h3, _⟩ | ⟨b, vs, h4, h5, h6⟩
    · rw [h3] at hv; cases hv
    · obtain ⟨v, h7, h8⟩ := h6.lookup hv
      exact ⟨_, h1, rfl, rfl, b, vs, v, h4, em.gh _ _ h5, h7, q v H (Le.refl _) h8⟩
theorem hl_nil : PA Y [] (tHl Y.K CA x a d i (hvL sub x [])) := ⟨fun pos pins s σ H Q I ⟨B, G0, G, ρ, em, er, zs, hz, q⟩ => pa_nil.run pos pins s σ H Q I (by
  cases hz
  exact q [] H (Le.refl _) .nil)⟩
theorem hl_cons {e : Expr} {es : List Expr} {v : Hv} {vs : List Hv} (h1 : PE Y e (tHv Y.K CA x a d i (hvD sub x v))) (h2 : PA Y es (tHl Y.K CA x a d i (hvL sub x vs))) (hs : notStar e = true) : PA Y (e :: es) (tHl Y.K CA x a d i (hvL sub x (v :: vs))) :=
  PA.weak (pa_cons h1 h2 (star_cons hs)) fun σ H Q ⟨B, G0, G, ρ, em, er, zs, hz, q⟩ => by
    have hz : ((hvD sub x v ρ).bind fun d => (hvL sub x vs ρ).map fun ds => d :: ds) = some zs := hz
    obtain ⟨z, hz1, hz⟩ := Option.bind_eq_some_iff.mp hz
    obtain ⟨ws, hz2, e⟩ := Option.map_eq_some_iff.mp hz
    subst e
    exact ⟨B, G0, G, ρ, em, er, z, hz1, fun u H1 l1 r1 => ⟨B, G0, G, ρ, em.ext l1, er, ws, hz2, fun us H2 l2 r2 => q (u :: us) H2 (l1.trans l2) (.cons r1 r2)⟩⟩
/-! ### blocks -/
def tHs (K : PySem.W.Frag) (CA : Nat → Addr) (x : Exn) (a : Addr) (d : Option Addr) (i : Nat) (m : Env → R Fl) : TS := fun D σ H => ∃ B G0 G ρ, Em K CA B G0 H G σ ρ ∧ ErrAt K CA x a d i σ H G ∧ PostS K CA WF B G0 G D (m ρ)
theorem hs_ret {e : Expr} {v : Hv} {pos : Pos} (h : PE Y e (tHv Y.K CA x a d i (hvD sub x v))) : PSs Y [.Return (some e) pos] (tHs Y.K CA x a d i (hsR sub x (.ret v))) :=
  PSs.weak (pss_one (ps_ret h)) fun D σ H ⟨B, G0, G, ρ, em, er, p⟩ => by
    unfold hsR at p
    split at p
    · rename_i z hz
      exact ⟨B, G0, G, ρ, em, er, z, hz, fun u H' l r => p σ H' G (Le.refl _) (em.ext l) u r⟩
    · exact p.elim
theorem hs_rets {es : List Expr} {vs : List Hv} {pos lp : Pos} (h : PA Y es (tHl Y.K CA x a d i (hvL sub x vs))) : PSs Y [.Return (some (.List es lp)) pos] (tHs Y.K CA x a d i (hsR sub x (.rets vs))) :=
  PSs.weak (pss_one (ps_ret (pe_lst h))) fun D σ H ⟨B, G0, G, ρ, em, er, p⟩ => by
    unfold hsR at p
    split at p
    · rename_i zs hz
      by_cases hl : zs.length ≤ cap
      · rw [if_pos hl] at p
        refine ⟨B, G0, G, ρ, em, er, zs, hz, fun us H' l r => ⟨by rw [r.length, ← cap_line]; exact hl, fun q hq => ?_⟩⟩
        have em' := em.ext l
        exact p σ _ G (Le.refl _) (em'.laid hq) _ ⟨q, rfl, em'.bh.noneL hq, em'.gh.noneL hq, us, upd_same, r⟩
      · rw [if_neg hl] at p; exact p.elim
    · exact p.elim
theorem post_rt {K : PySem.W.Frag} {W : WX} {B G0 G : Hp} {D D' : Ends} {h : Hst} {ρ : Env} (e : D'.rt = D.rt) (p : PostS K CA W B G0 G D (hsR sub x h ρ)) : PostS K CA WF B G0 G D' (hsR sub x h ρ) := by
  cases hr : hsR sub x h ρ with
  | no => rw [hr] at p; exact p
  | ex y ρ' =>
    exfalso
    have key : ∀ (h : Hst) (ρ ρ' : Env) (y : Exn), hsR sub x h ρ ≠ .ex y ρ' := by
      intro h
      induction h with
      | set i y t ih =>
        intro ρ ρ' y' e
        unfold hsR at e
        split at e
        · split at e
          · exact ih _ _ _ e
          · cases e
        · cases e
      | iff y a t ih1 ih2 =>
        intro ρ ρ' y' e
        unfold hsR at e
        split at e
        · exact ih1 _ _ _ e
        · exact ih2 _ _ _ e
        · cases e
      | ret v =>
        intro ρ ρ' y' e
        unfold hsR at e
        split at e <;> cases e
      | rets vs =>
        intro ρ ρ' y' e
        unfold hsR at e
        split at e
        · split at e <;> cases e
        · cases e
    exact key _ _ _ _ hr
  | ok fl ρ' =>
    rw [hr] at p
    have key : ∀ (h : Hst) (ρ ρ' : Env) (fl : Fl), hsR sub x h ρ = .ok fl ρ' → ∃ c, fl = .rt c := by
      intro h
      induction h with
      | set i y t ih =>
        intro ρ ρ' fl e
        unfold hsR at e
        split at e
        · split at e
          · exact ih _ _ _ e
          · cases e
        · cases e
      | iff y a t ih1 ih2 =>
        intro ρ ρ' fl e
        unfold hsR at e
        split at e
        · exact ih1 _ _ _ e
        · exact ih2 _ _ _ e
        · cases e
      | ret v =>
        intro ρ ρ' fl e
        unfold hsR at e
        split at e
        · cases e; exact ⟨_, rfl⟩
        · cases e
      | rets vs =>
        intro ρ ρ' fl e
        unfold hsR at e
        split at e
        · split at e
          · cases e; exact ⟨_, rfl⟩
          · cases e
        · cases e
    obtain ⟨c, ec⟩ := key _ _ _ _ hr
    subst ec
    intro σ H G' lg em v r
    rw [e]
    exact p σ H G' lg em v r
theorem hs_set {j : Nat} {y : Str} {e : Expr} {u : Hx} {t : Hst} {rest : List Stmt} {p1 pos : Pos} (ok : Frame.ok j) (hji : j ≠ i) (hN : Y.N.Nodup) (hi : Y.N[j]? = some y) (hx : Loc Y.env.scope y) (hf : Y.fn y = true ∨ Y.env.scope.names.lookup y = some .local) (he : PE Y e (tHx Y.K CA x a d i (hxB sub x u))) (hs : notComp e = true)
    (hr : PSs Y rest (tHs Y.K CA x a d i (hsR sub x t))) : PSs Y (.Assign [.Name y p1] e pos :: rest) (tHs Y.K CA x a d i (hsR sub x (.set j u t))) :=
  PSs.weak (pss_cons (ps_set hN hi hx he (comp_swaps hs) hf) hr) fun D σ H ⟨B, G0, G, ρ, em, er, p⟩ => by
    unfold hsR at p
    split at p
    · rename_i b hb
      by_cases hl : j < ρ.length
      · rw [if_pos hl] at p
        exact ⟨B, G0, G, ρ, em, er, b, hb, fun H' l => ⟨B, G0, G, _, (em.ext l).set (c := .sh (.bl b)) ok ⟨.bl b, fun _ z => by cases z⟩ hl, ⟨by rw [get_set_ne hji]; exact er.1, er.2⟩, p⟩⟩
      · rw [if_neg hl] at p; exact p.elim
    · exact p.elim
theorem hs_if {e : Expr} {u : Hx} {s t : Hst} {b1 rest : List Stmt} {pos : Pos} (he : PT Y e (tHt Y.K CA x a d i (hxB sub x u))) (h1 : PSs Y b1 (tHs Y.K CA x a d i (hsR sub x s))) (h2 : PSs Y rest (tHs Y.K CA x a d i (hsR sub x t))) :
    PSs Y (.If e b1 [] pos :: rest) (tHs Y.K CA x a d i (hsR sub x (.iff u s t))) :=
  PSs.weak (pss_cons (ps_if he h1 pss_nil) h2) fun D σ H ⟨B, G0, G, ρ, em, er, p⟩ => by
    unfold hsR at p
    split at p
    · rename_i hb
      exact ⟨B, G0, G, ρ, em, er, true, hb, fun H' l => ⟨B, G0, G, ρ, em.ext l, er, post_rt (D := D) rfl p⟩⟩
    · rename_i hb
      exact ⟨B, G0, G, ρ, em, er, false, hb, fun H' l => ⟨B, G0, G, ρ, em.ext l, er, p⟩⟩
    · exact p.elim
end
end DL

set_option maxHeartbeats 4000000
/-! DLe: try .. except .. -/
namespace DL
open PySem PySem.Spec PyProof.Rows L2
def triM (P : Pg) (m : Env → R Fl) (c : Option Nat) (s : Option Nat) (h : Hst) (ρ : Env) : R Fl := match m ρ with
  | .ex x ρ' => if (1000 ≤ x.cls ∧ x.cls < 1000 + P.nx) ∧ okS s ρ' = true then (if P.sub x.cls c = true then hsR P.sub x h (unset ρ' s) else .ex x ρ') else .no
  | r => r
section
variable [Frame] {Γ : Gm} {P : Pg} {CA : Nat → Addr} {X : Cx} {N : List Str} {sc : Scope} {W : WX} {i : Nat}
/-- the handler's block, for whatever error -/
def tSu (K : PySem.W.Frag) (CA : Nat → Addr) (P : Pg) (i : Nat) (h : Hst) (a : Addr) (cls : Value) (d : Option Addr) : TS := fun D σ H => ∃ x, cls = .ref (CA x.cls) ∧ (1000 ≤ x.cls ∧ x.cls < 1000 + P.nx) ∧ tHs K CA x a d i (hsR P.sub x h) D σ H
/-- a handler without a name: the error is not asked -/
def tSn (K : PySem.W.Frag) (CA : Nat → Addr) (P : Pg) (h : Hst) (cls : Value) : TS := fun D σ H => ∃ x, cls = .ref (CA x.cls) ∧ ∃ B G0 G ρ, Em K CA B G0 H G σ ρ ∧ PostS K CA WF B G0 G D (hsR P.sub x h ρ)
theorem ds_try_as {n xn : Str} {np pos pos' : Pos} {body suite : List Stmt} {b₀ : Stmt} {m : Env → R Fl} {c : Option Nat} {h : Hst} (hs : X.stack = X.env :: X.outer) (hf : X.env.frame = some X.env.locals) (hN : X.N.Nodup) (hi : X.N[i]? = some n) (hln : X.env.kindOf n = some .local) (ok : Frame.ok i)
    (hc : Names X xn (cvU CA c)) (hcx : ∀ e, c = some e → e < Γ.xns.length) (gx : Gx Γ P CA X.K X.mg) (tk : Takes X W)
    (hb : ∀ (W : WX) (pn : List (Addr × Obj)) (xe : Value → Shared → Prop), Takes (X.tr pn xe) W → PassesOwn (model X.prog X.w) X.A X.env xe → PSs (X.tr pn xe) body (TSf X.K CA W m))
    (hsu : ∀ (a : Addr) (oe : Obj) (cls : Value) (d : Option Addr) (pn : List (Addr × Obj)), Zc cls d oe → (∃ vs, oe.data = .fields vs) → PSs (X.suite a ((a, oe) :: pn)) (b₀ :: suite) (tSu X.K CA P i h a cls d)) :
    PS X (.Try body [.ExceptHandler (some (.Name xn np)) (some n) (b₀ :: suite) pos'] [] [] pos) (TSf X.K CA W (triM P m c (some i) h)) :=
  PS.weak (ps_try_as (tb := fun W => TSf X.K CA W m) (ts := tSu X.K CA P i h) hs hf hN hi hln hc tk hb hsu) fun D σ H ⟨B, G0, G, ρ, em, p⟩ => by
    refine ⟨B, G0, G, ρ, em, ?_⟩
    unfold triM at p
    cases hm : m ρ with
    | no => rw [hm] at p; exact p
    | ok fl ρ' => rw [hm] at p; exact p
    | ex x ρ' =>
      rw [hm] at p
      dsimp only at p
      intro σ' H' G' cl dd lg em' xr
      by_cases hx : (1000 ≤ x.cls ∧ x.cls < 1000 + P.nx) ∧ okS (some i) ρ' = true
      · rw [if_pos hx] at p
        obtain ⟨hx, hok⟩ := hx
        obtain ⟨k, hk⟩ : ∃ k, x.cls = 1000 + k := ⟨x.cls - 1000, by omega⟩
        have ecl : cl = .ref (CA x.cls) := xr.1
        refine ⟨P.sub x.cls c, by rw [ecl, hk]; exact gx.exm k (by omega) c hcx, fun hb' b hb2 => ?_, fun hb' => ?_⟩
        · rw [if_pos hb'] at p
          have hl : i < σ'.length := by rw [em'.len]; exact of_decide_eq_true hok
          exact ⟨x, ecl, hx, B, G0, G', _, em'.unset ok, ⟨get_set_eq hl, by rw [← ecl]; exact xr⟩, post_rt (D := D) rfl (postS_le lg p)⟩
        · rw [if_neg (by rw [hb']; exact Bool.false_ne_true)] at p
          exact p σ' H' G' cl dd lg em' xr
      · rw [if_neg hx] at p; exact p.elim
theorem ds_try_only {xn : Str} {np pos pos' : Pos} {body suite : List Stmt} {b₀ : Stmt} {m : Env → R Fl} {c : Option Nat} {h : Hst} (hs : X.stack = X.env :: X.outer) (hf : X.env.frame = some X.env.locals)
    (hc : Names X xn (cvU CA c)) (hcx : ∀ e, c = some e → e < Γ.xns.length) (gx : Gx Γ P CA X.K X.mg) (tk : Takes X W)
    (hb : ∀ (W : WX) (pn : List (Addr × Obj)) (xe : Value → Shared → Prop), Takes (X.tr pn xe) W → PassesOwn (model X.prog X.w) X.A X.env xe → PSs (X.tr pn xe) body (TSf X.K CA W m))
    (hsu : ∀ (a : Addr) (oe : Obj) (cls : Value) (d : Option Addr) (pn : List (Addr × Obj)), Zc cls d oe → (∃ vs, oe.data = .fields vs) → PSs (X.suite a ((a, oe) :: pn)) (b₀ :: suite) (tSn X.K CA P h cls)) :
    PS X (.Try body [.ExceptHandler (some (.Name xn np)) none (b₀ :: suite) pos'] [] [] pos) (TSf X.K CA W (triM P m c none h)) :=
  PS.weak (ps_try_only (tb := fun W => TSf X.K CA W m) (ts := fun _ cls _ => tSn X.K CA P h cls) hs hf hc tk hb hsu) fun D σ H ⟨B, G0, G, ρ, em, p⟩ => by
    refine ⟨B, G0, G, ρ, em, ?_⟩
    unfold triM at p
    cases hm : m ρ with
    | no => rw [hm] at p; exact p
    | ok fl ρ' => rw [hm] at p; exact p
    | ex x ρ' =>
      rw [hm] at p
      dsimp only at p
      intro σ' H' G' cl dd lg em' xr
      by_cases hx : (1000 ≤ x.cls ∧ x.cls < 1000 + P.nx) ∧ okS none ρ' = true
      · rw [if_pos hx] at p
        obtain ⟨hx, hok⟩ := hx
        obtain ⟨k, hk⟩ : ∃ k, x.cls = 1000 + k := ⟨x.cls - 1000, by omega⟩
        have ecl : cl = .ref (CA x.cls) := xr.1
        refine ⟨P.sub x.cls c, by rw [ecl, hk]; exact gx.exm k (by omega) c hcx, fun hb' b hb2 => ?_, fun hb' => ?_⟩
        · rw [if_pos hb'] at p
          exact ⟨x, ecl, B, G0, G', _, em', post_rt (D := D) rfl (postS_le lg p)⟩
        · rw [if_neg (by rw [hb']; exact Bool.false_ne_true)] at p
          exact p σ' H' G' cl dd lg em' xr
      · rw [if_neg hx] at p; exact p.elim
end
end DL

set_option maxHeartbeats 4000000
/-! DLf: handlers compared with the program's text. -/
namespace DL
open PySem PySem.Spec PyProof.Rows L2
section
variable (Γ : Gm) (N : List Str) (fx : List Nat) (i : Nat)
def isxB (cs : List (Option Nat)) (tu : Bool) (sc : Scope) (x : Expr) : Bool := match x with
  | .Call (.Name y _) [.Name z _, t] [] _ => decide (y = "isinstance") && (glbB sc y && (varB N i sc z && (match tu, cs, t with
    | false, [c], t => chCn Γ sc c t
    | true, cs, .Tuple es _ _ => chCs Γ sc cs es && decide (cs.length ≤ 1000)
    | _, _, _ => false)))
  | _ => false
def chHx : Hx → Scope → Expr → Bool
  | .isx cs tu, sc, x => isxB Γ N i cs tu sc x
  | .v j, sc, x => (match x with
    | .Name y _ => varB N j sc y
    | _ => false)
  | .and a b, sc, x => (match x with
    | .BoolOp .And [a', b'] _ => chHx a sc a' && chHx b sc b'
    | .BoolOp .And (a' :: b' :: c' :: r) p => chHx a sc a' && chHx b sc (.BoolOp .And (b' :: c' :: r) p)
    | _ => false)
  | .or a b, sc, x => (match x with
    | .BoolOp .Or [a', b'] _ => chHx a sc a' && chHx b sc b'
    | .BoolOp .Or (a' :: b' :: c' :: r) p => chHx a sc a' && chHx b sc (.BoolOp .Or (b' :: c' :: r) p)
    | _ => false)
  | .not a, sc, x => (match x with
    | .UnaryOp .Not a' _ => chHx a sc a'
    | _ => false)
def chHt : Hx → Scope → Expr → Bool
  | .isx cs tu, sc, x => isxB Γ N i cs tu sc x
  | .v j, sc, x => (match x with
    | .Name y _ => varB N j sc y
    | _ => false)
  | .and a b, sc, x => (match x with
    | .BoolOp .And [a', b'] _ => chHt a sc a' && chHt b sc b'
    | .BoolOp .And (a' :: b' :: c' :: r) p => chHt a sc a' && chHt b sc (.BoolOp .And (b' :: c' :: r) p)
    | _ => false)
  | .or a b, sc, x => (match x with
    | .BoolOp .Or [a', b'] _ => chHt a sc a' && chHt b sc b'
    | .BoolOp .Or (a' :: b' :: c' :: r) p => chHt a sc a' && chHt b sc (.BoolOp .Or (b' :: c' :: r) p)
    | _ => false)
  | .not a, sc, x => (match x with
    | .UnaryOp .Not a' _ => chHt a sc a'
    | _ => false)
end
section
variable [Frame] {Γ : Gm} {P : Pg} {CA : Nat → Addr} {X : Cx} {N : List Str} {sc : Scope} {x : Exn} {a : Addr} {d : Option Addr} {i : Nat} {oe : Obj} {pn : List (Addr × Obj)}
omit [Frame] in
theorem varB_sc {N : List Str} {X : Cx} {sc : Scope} (hN : X.N = N) (sco : ScOk X sc) {i : Nat} {x : Str} {p : Pos} (h : varB N i sc x = true) : PE X (.Name x p) (tVar i) := by
  obtain ⟨h1, h2⟩ := and_t h
  obtain ⟨h2, h3⟩ := and_t h2
  unfold dbgB at h3
  obtain ⟨h3, h4⟩ := and_t h3
  exact pe_var (by rw [hN]; exact of_decide_eq_true h1) (visB_vis sco h2) (by simpa using h3) (by simpa using h4)
/-- where a handler stands -/
structure Gh (Γ : Gm) (P : Pg) (CA : Nat → Addr) (N : List Str) (X : Cx) (sc : Scope) (x : Exn) (a : Addr) (d : Option Addr) (oe : Obj) (pn : List (Addr × Obj)) : Prop where
  hN : X.N = N
  sco : ScOk X sc
  gx : Gx Γ P CA X.K X.mg
  rng : 1000 ≤ x.cls ∧ x.cls < 1000 + P.nx
  zc : Zc (.ref (CA x.cls)) d oe
  flds : ∃ vs, oe.data = .fields vs
omit [Frame] in
theorem Gh.scoY (g : Gh Γ P CA N X sc x a d oe pn) : ScOk (X.suite a ((a, oe) :: pn)) sc := ⟨g.sco.kind, g.sco.keep, g.sco.fre, g.sco.fn⟩
theorem isx_ok (g : Gh Γ P CA N X sc x a d oe pn) {cs : List (Option Nat)} {tu : Bool} {e : Expr} (h : isxB Γ N i cs tu sc e = true) : PE (X.suite a ((a, oe) :: pn)) e (tHx X.K CA x a d i (hxB P.sub x (.isx cs tu))) ∧ valTest e = true := by
  unfold isxB at h
  split at h
  · obtain ⟨h1, h⟩ := and_t h
    obtain ⟨h2, h⟩ := and_t h
    obtain ⟨h3, hq⟩ := and_t h
    have e1 := of_decide_eq_true h1; subst e1
    obtain ⟨h4, h5⟩ := glbB_gl g.sco h2
    split at hq
    · exact ⟨hx_isx1 g.gx g.scoY g.rng g.zc g.flds (varB_sc (X := X.suite a ((a, oe) :: pn)) g.hN g.scoY h3) rfl hq h4, rfl⟩
    · obtain ⟨h6, h7⟩ := and_t hq
      exact ⟨hx_isxT g.gx g.scoY g.rng g.zc g.flds (varB_sc (X := X.suite a ((a, oe) :: pn)) g.hN g.scoY h3) rfl h6 h4 (of_decide_eq_true h7), rfl⟩
    · cases hq
  · cases h
theorem hx_ok (g : Gh Γ P CA N X sc x a d oe pn) : ∀ (u : Hx) (e : Expr), chHx Γ N i u sc e = true → PE (X.suite a ((a, oe) :: pn)) e (tHx X.K CA x a d i (hxB P.sub x u))
  | .isx cs tu, e, h => (isx_ok g h).1
  | .v j, e, h => by
    unfold chHx at h
    split at h
    · exact hx_v (varB_sc (X := X.suite a ((a, oe) :: pn)) g.hN g.scoY h)
    · cases h
  | .and u v, e, h => by
    unfold chHx at h
    split at h
    · obtain ⟨h1, h2⟩ := and_t h
      exact hx_and (hx_ok g u _ h1) (pe_one (hx_ok g v _ h2))
    · obtain ⟨h1, h2⟩ := and_t h
      exact hx_and (hx_ok g u _ h1) (hx_ok g v _ h2)
    · cases h
  | .or u v, e, h => by
    unfold chHx at h
    split at h
    · obtain ⟨h1, h2⟩ := and_t h
      exact hx_or (hx_ok g u _ h1) (pe_one (hx_ok g v _ h2))
    · obtain ⟨h1, h2⟩ := and_t h
      exact hx_or (hx_ok g u _ h1) (hx_ok g v _ h2)
    · cases h
  | .not u, e, h => by
    unfold chHx at h
    split at h
    · exact hx_not (hx_ok g u _ h)
    · cases h
theorem ht_ok (g : Gh Γ P CA N X sc x a d oe pn) : ∀ (u : Hx) (e : Expr), chHt Γ N i u sc e = true → PT (X.suite a ((a, oe) :: pn)) e (tHt X.K CA x a d i (hxB P.sub x u)) ∧ (isBo e = true → PW (X.suite a ((a, oe) :: pn)) e (tHt X.K CA x a d i (hxB P.sub x u)))
  | .isx cs tu, e, h => by
    obtain ⟨h1, h2⟩ := isx_ok g h
    exact ⟨ht_val h1 h2, fun z => (valTest_bo h2 z).elim⟩
  | .v j, e, h => by
    unfold chHt at h
    split at h
    · exact ⟨ht_val (hx_v (varB_sc (X := X.suite a ((a, oe) :: pn)) g.hN g.scoY h)) rfl, fun z => by cases z⟩
    · cases h
  | .and u v, e, h => by
    unfold chHt at h
    split at h
    · obtain ⟨h1, h2⟩ := and_t h
      exact pw_both (ht_and (ht_ok g u _ h1).1 (pw_and1 (ht_ok g v _ h2).1))
    · obtain ⟨h1, h2⟩ := and_t h
      exact pw_both (ht_and (ht_ok g u _ h1).1 ((ht_ok g v _ h2).2 rfl))
    · cases h
  | .or u v, e, h => by
    unfold chHt at h
    split at h
    · obtain ⟨h1, h2⟩ := and_t h
      exact pw_both (ht_or (ht_ok g u _ h1).1 (pw_or1 (ht_ok g v _ h2).1))
    · obtain ⟨h1, h2⟩ := and_t h
      exact pw_both (ht_or (ht_ok g u _ h1).1 ((ht_ok g v _ h2).2 rfl))
    · cases h
  | .not u, e, h => by
    unfold chHt at h
    split at h
    · exact ⟨ht_not (ht_ok g u _ h).1, fun z => by cases z⟩
    · cases h
end
end DL

set_option maxHeartbeats 4000000
/-! DLg: handlers' blocks compared with the program's text. -/
namespace DL
open PySem PySem.Spec PyProof.Rows L2
section
variable (Γ : Gm) (N : List Str) (fx : List Nat) (i : Nat)
def slotB (j : Nat) (sc : Scope) (y : Str) : Bool := decide (N[j]? = some y) && (locB sc y && !decide (j ∈ fx))
def chHv : Hv → Scope → Expr → Bool
  | .non, _, x => (match x with
    | .Constant .none _ _ => true
    | _ => false)
  | .bl b, _, x => (match x with
    | .Constant (.bool c) _ _ => decide (b = c)
    | _ => false)
  | .int k, _, x => (match x with
    | .Constant (.int c) _ _ => decide (k = c)
    | _ => false)
  | .str s, _, x => (match x with
    | .Constant (.str c) _ _ => decide (s = c) && sOk s
    | _ => false)
  | .v j, sc, x => (match x with
    | .Name y _ => varB N j sc y
    | _ => false)
  | .fld f, sc, x => (match x with
    | .Attribute (.Name y _) f' _ => decide (f = f') && (decide (f ∈ Γ.xcs.flatMap (·.2)) && varB N i sc y)
    | _ => false)
  | .b u, sc, x => chHx Γ N i u sc x
def chHl : List Hv → Scope → List Expr → Bool
  | [], _, es => es.isEmpty
  | v :: vs, sc, es => (match es with
    | e :: es => notStar e && (chHv Γ N i v sc e && chHl vs sc es)
    | [] => false)
def chHs : Hst → Scope → List Stmt → Bool
  | .set j u t, sc, l => (match l with
    | .Assign [.Name y _] x _ :: rest => slotB N fx j sc y && (!decide (j = i) && (chHx Γ N i u sc x && (notComp x && chHs t sc rest)))
    | _ => false)
  | .iff u a t, sc, l => (match l with
    | .If e b [] _ :: rest => chHt Γ N i u sc e && (chHs a sc b && chHs t sc rest)
    | _ => false)
  | .ret v, sc, l => (match l with
    | [.Return (some x) _] => chHv Γ N i v sc x
    | _ => false)
  | .rets vs, sc, l => (match l with
    | [.Return (some (.List es _)) _] => chHl Γ N i vs sc es
    | _ => false)
/-- a handler without a name -/
def chHn : Hst → Scope → List Stmt → Bool
  | .ret v, sc, l => (match l with
    | [.Return (some x) _] => (match v with
      | .fld _ => false
      | .b _ => false
      | _ => chHv Γ N i v sc x)
    | _ => false)
  | _, _, _ => false
end
section
variable [Frame] {Γ : Gm} {P : Pg} {CA : Nat → Addr} {X : Cx} {N : List Str} {fx : List Nat} {sc : Scope} {x : Exn} {a : Addr} {d : Option Addr} {i : Nat} {oe : Obj} {pn : List (Addr × Obj)}
theorem hv_ok (g : Gh Γ P CA N X sc x a d oe pn) : ∀ (u : Hv) (e : Expr), chHv Γ N i u sc e = true → PE (X.suite a ((a, oe) :: pn)) e (tHv X.K CA x a d i (hvD P.sub x u))
  | .non, e, h => by
    dsimp only [chHv] at h
    split at h
    · exact hv_con pe_non (fun G => .non) fun ρ => rfl
    · cases h
  | .bl b, e, h => by
    dsimp only [chHv] at h
    split at h
    · have e := of_decide_eq_true h; subst e
      exact hv_con pe_bl (fun G => .bl _) fun ρ => rfl
    · cases h
  | .int k, e, h => by
    dsimp only [chHv] at h
    split at h
    · have e := of_decide_eq_true h; subst e
      exact hv_con pe_int (fun G => .int _) fun ρ => rfl
    · cases h
  | .str s, e, h => by
    dsimp only [chHv] at h
    split at h
    · obtain ⟨h1, h2⟩ := and_t h
      have e := of_decide_eq_true h1; subst e
      exact hv_con pe_str (fun G => .str h2) fun ρ => rfl
    · cases h
  | .v j, e, h => by
    dsimp only [chHv] at h
    split at h
    · exact hv_v (varB_sc (X := X.suite a ((a, oe) :: pn)) g.hN g.scoY h)
    · cases h
  | .fld f, e, h => by
    dsimp only [chHv] at h
    split at h
    · obtain ⟨h1, h⟩ := and_t h
      obtain ⟨h2, h3⟩ := and_t h
      have e := of_decide_eq_true h1; subst e
      obtain ⟨n, hn⟩ : ∃ n, x.cls = 1000 + n := ⟨x.cls - 1000, by have := g.rng; omega⟩
      have hnx : n < P.nx := by have := g.rng; omega
      have hz := g.zc
      rw [hn] at hz
      exact hv_fld hn (g.gx.xfc n hnx) (g.gx.xfn n hnx _ (of_decide_eq_true h2)) hz g.flds (varB_sc (X := X.suite a ((a, oe) :: pn)) g.hN g.scoY h3) rfl
    · cases h
  | .b u, e, h => by
    dsimp only [chHv] at h
    exact hv_b (hx_ok g u e h)
theorem hl_ok (g : Gh Γ P CA N X sc x a d oe pn) : ∀ (vs : List Hv) (es : List Expr), chHl Γ N i vs sc es = true → PA (X.suite a ((a, oe) :: pn)) es (tHl X.K CA x a d i (hvL P.sub x vs))
  | [], es, h => by
    unfold chHl at h
    cases es with
    | nil => exact hl_nil
    | cons _ _ => cases h
  | v :: vs, es, h => by
    unfold chHl at h
    split at h
    · obtain ⟨h1, h⟩ := and_t h
      obtain ⟨h2, h3⟩ := and_t h
      exact hl_cons (hv_ok g v _ h2) (hl_ok g vs _ h3) h1
    · cases h
theorem hs_ok (g : Gh Γ P CA N X sc x a d oe pn) (nd : N.Nodup) (fix : ∀ j, j ∉ fx → Frame.ok j) : ∀ (t : Hst) (l : List Stmt), chHs Γ N fx i t sc l = true → PSs (X.suite a ((a, oe) :: pn)) l (tHs X.K CA x a d i (hsR P.sub x t))
  | .set j u t, l, h => by
    unfold chHs at h
    split at h
    · obtain ⟨h1, h⟩ := and_t h
      obtain ⟨h2, h⟩ := and_t h
      obtain ⟨h3, h⟩ := and_t h
      obtain ⟨h4, h5⟩ := and_t h
      obtain ⟨n1, n⟩ := and_t h1
      obtain ⟨n2, n3⟩ := and_t n
      obtain ⟨n4, n5⟩ := locB_loc g.sco n2
      exact hs_set (fix j (by simpa using n3)) (by simpa using h2) (by show X.N.Nodup; rw [g.hN]; exact nd) (by show X.N[j]? = _; rw [g.hN]; exact of_decide_eq_true n1) n4 n5 (hx_ok g u _ h3) h4 (hs_ok g nd fix t _ h5)
    · cases h
  | .iff u b t, l, h => by
    unfold chHs at h
    split at h
    · obtain ⟨h1, h⟩ := and_t h
      obtain ⟨h2, h3⟩ := and_t h
      exact hs_if (ht_ok g u _ h1).1 (hs_ok g nd fix b _ h2) (hs_ok g nd fix t _ h3)
    · cases h
  | .ret v, l, h => by
    unfold chHs at h
    split at h
    · exact hs_ret (hv_ok g v _ h)
    · cases h
  | .rets vs, l, h => by
    unfold chHs at h
    split at h
    · exact hs_rets (hl_ok g vs _ h)
    · cases h
/-! ### without a name -/
def tHn (K : PySem.W.Frag) (CA : Nat → Addr) (m : Env → Option D) : TE := fun σ H Q => ∃ B G0 G ρ, Em K CA B G0 H G σ ρ ∧ ∃ z, m ρ = some z ∧ ∀ v H', Le H H' → Rep K CA G v z → Q v H'
theorem hn_con {Y : Cx} {sub : Nat → Option Nat → Bool} {e : Expr} {v : V} {z : D} {u : Hv} (h : PE Y e (tC v)) (r : ∀ G, Rep Y.K CA G v z) (hu : ∀ ρ, hvD sub x u ρ = some z) : PE Y e (tHn Y.K CA (hvD sub x u)) := PE.weak h fun σ H Q ⟨B, G0, G, ρ, em, z', hz, q⟩ => by
  rw [hu] at hz; cases hz
  exact q v H (Le.refl _) (r G)
theorem hn_v {Y : Cx} {sub : Nat → Option Nat → Bool} {e : Expr} {j : Nat} (h : PE Y e (tVar j)) : PE Y e (tHn Y.K CA (hvD sub x (.v j))) := PE.weak h fun σ H Q ⟨B, G0, G, ρ, em, z, hz, q⟩ => by
  have hz : (match ρ[j]? with
    | some (some (Cell.sh d)) => some d
    | _ => none) = some z := hz
  split at hz
  · rename_i z' hρ
    cases hz
    obtain ⟨v, h1, h2⟩ := em.sl j _ hρ
    exact ⟨v, h1, q v H (Le.refl _) h2⟩
  · cases hz
theorem hn_ok {Y : Cx} (hN : Y.N = N) (sco : ScOk Y sc) {cls : Value} (t : Hst) (l : List Stmt) (h : chHn Γ N i t sc l = true) : PSs Y l (tSn Y.K CA P t cls) := by
  unfold chHn at h
  split at h
  · rename_i t v
    split at h
    · rename_i l e p
      have key : ∀ x, PE Y e (tHn Y.K CA (hvD P.sub x v)) := fun x => by
        split at h
        · cases h
        · cases h
        · cases v with
          | non =>
            dsimp only [chHv] at h
            split at h
            · exact hn_con pe_non (fun G => .non) fun ρ => rfl
            · cases h
          | bl b =>
            dsimp only [chHv] at h
            split at h
            · have e := of_decide_eq_true h; subst e
              exact hn_con pe_bl (fun G => .bl _) fun ρ => rfl
            · cases h
          | int k =>
            dsimp only [chHv] at h
            split at h
            · have e := of_decide_eq_true h; subst e
              exact hn_con pe_int (fun G => .int _) fun ρ => rfl
            · cases h
          | str s =>
            dsimp only [chHv] at h
            split at h
            · obtain ⟨h1, h2⟩ := and_t h
              have e := of_decide_eq_true h1; subst e
              exact hn_con pe_str (fun G => .str h2) fun ρ => rfl
            · cases h
          | v j =>
            dsimp only [chHv] at h
            split at h
            · exact hn_v (varB_sc (X := Y) hN sco h)
            · cases h
          | fld f => exact (‹∀ f, Hv.fld _ = Hv.fld f → False› _ rfl).elim
          | b u => exact (‹∀ f, Hv.b _ = Hv.b f → False› _ rfl).elim
      refine ⟨fun pins s σ H D I ⟨x, ec, B, G0, G, ρ, em, p⟩ => (PSs.weak (pss_one (ps_ret (key x))) fun D σ H q => q).run pins s σ H D I ?_⟩
      unfold hsR at p
      cases hz : hvD P.sub x v ρ with
      | none => rw [hz] at p; exact p.elim
      | some z =>
        rw [hz] at p
        exact ⟨B, G0, G, ρ, em, z, hz, fun u H' l r => p σ H' G (Le.refl _) (em.ext l) u r⟩
    · cases h
  · cases h
end
end DL

set_option maxHeartbeats 4000000
/-! DL20: statements as the core text says. -/
namespace DL
open PySem PySem.Spec PyProof.Rows L2
mutual
def Tg.slots : Tg → List Nat
  | .n i => [i]
  | .t ts => Tg.slots ts
  | .z => []
  | .c a b => Tg.slots a ++ Tg.slots b
end
def noOwn (scope : Scope) (y : Str) : Bool := !(scope.names.any fun (n, k) => n == y && (k == .local || k == .cell))
def isLcn : Ex → Bool
  | .lcn _ _ _ => true
  | _ => false
section
variable (Γ : Gm) (N : List Str) (fx : List Nat)
def chN (i : Nat) (sc : Scope) (y : Str) : Bool := decide (N[i]? = some y) && (locB sc y && !decide (i ∈ fx))
def chP (e : Exo) (sc : Scope) (xs : List Expr) : Bool := match e, xs with
  | .n, [] => true
  | .s e, [x] => chE Γ N fx e sc x && notStar x
  | _, _ => false
def chGd (g : Cdo) (sc : Scope) (go : Option Expr) : Bool := match g, go with
  | .n, none => true
  | .s c, some x => chC Γ N fx c sc x
  | _, _ => false
def chX1 (sc : Scope) (c : Option Nat) (xn : Str) : Bool := glbB sc xn && (match c with
  | some e => decide (Γ.xns[e]? = some xn)
  | none => decide (xn = "ValueError"))
mutual
def chM : Sm → Scope → Stmt → Bool
  | .set (.n i) e, sc, st => (match st with
    | .Assign [.Name y py] x spos => chN N fx i sc y && (chE Γ N fx e sc x && (notComp x || celB sc y || (lclB sc y && (match x with
      | .ListComp _ _ scope pos => (py.line == pos.line) && (noOwn scope y && !isLcn e)
      | .DictComp _ _ _ scope pos => (py.line == pos.line) && noOwn scope y
      | _ => false))))
    | _ => false)
  | .set (.t ts) e, sc, st => (match st with
    | .Assign [.Tuple es _ _] x _ => chT N fx (Tg.slots ts) (.t ts) sc (.Tuple es 0 default) && (chE Γ N fx e sc x && (notComp x && notTup x))
    | _ => false)
  | .setN i e, sc, st => (match st with
    | .Assign [.Name y py] x spos => chN N fx i sc y && (chE Γ N fx e sc x && (notComp x || celB sc y || (lclB sc y && (match x with
      | .ListComp _ _ scope pos => (py.line == pos.line) && (noOwn scope y && isLcn e)
      | _ => false))))
    | _ => false)
  | .nal t s i, sc, st => (match st with
    | .Assign [.Name y _] (.Subscript (.Name z _) i' _) _ => chN N fx t sc y && (varB N s sc z && (chE Γ N fx i sc i' && notSlice i'))
    | _ => false)
  | .nrow s i e, sc, st => (match st with
    | .Assign [.Subscript (.Name y _) (.Name z _) _] x _ => varB N s sc y && (varB N i sc z && chE Γ N fx e sc x)
    | _ => false)
  | .napp s e, sc, st => (match st with
    | .Expr (.Call (.Attribute (.Name y _) m apos) [x] [] p1) _ => decide (m = "append") && (varB N s sc y && (chE Γ N fx e sc x && (notStar x && (apos.endLine == p1.line))))
    | _ => false)
  | .fins t s v, sc, st => (match st with
    | .For (.Name x _) (.Name y _) [.Expr (.Call (.Attribute (.Name x' _) m apos) [.Constant (.int 0) _ _, .Name z _] [] p1) _] [] _ =>
      decide (x' = x) && (decide (m = "insert") && (chN N fx t sc x && (varB N t sc x && (varB N s sc y && (varB N v sc z && (apos.endLine == p1.line))))))
    | _ => false)
  | .lend i _ _ e, sc, st => (match st with
    | .Assign [.Name y _] x _ => chN N fx i sc y && (chE Γ N fx e sc x && notComp x)
    | _ => false)
  | .seti s i e, sc, st => (match st with
    | .Assign [.Subscript (.Name y _) i' _] x _ => varB N s sc y && (chE Γ N fx i sc i' && (chE Γ N fx e sc x && notSlice i'))
    | _ => false)
  | .setf s f e, sc, st => (match st with
    | .Assign [.Attribute (.Name y _) f' _] x _ => varB N s sc y && (decide (f = f') && (decide (f ∈ Γ.ats) && chE Γ N fx e sc x))
    | _ => false)
  | .app s e, sc, st => (match st with
    | .Expr (.Call (.Attribute (.Name y _) m apos) [x] [] p1) _ => decide (m = "append") && (varB N s sc y && (chE Γ N fx e sc x && (notStar x && (apos.endLine == p1.line))))
    | _ => false)
  | .ext s e, sc, st => (match st with
    | .Expr (.Call (.Attribute (.Name y _) m apos) [x] [] p1) _ => decide (m = "extend") && (varB N s sc y && (chE Γ N fx e sc x && (notStar x && (apos.endLine == p1.line))))
    | _ => false)
  | .insr s i e, sc, st => (match st with
    | .Expr (.Call (.Attribute (.Name y _) m apos) [i', x] [] p1) _ => decide (m = "insert") && (varB N s sc y && (chE Γ N fx i sc i' && (notStar i' && (chE Γ N fx e sc x && (notStar x && (apos.endLine == p1.line))))))
    | _ => false)
  | .pop t s e, sc, st => (match st with
    | .Assign [.Name z _] (.Call (.Attribute (.Name y _) m apos) xs [] p1) _ => decide (m = "pop") && (chN N fx t sc z && (varB N s sc y && (chP Γ N fx e sc xs && (apos.endLine == p1.line))))
    | _ => false)
  | .popx s e, sc, st => (match st with
    | .Expr (.Call (.Attribute (.Name y _) m apos) xs [] p1) _ => decide (m = "pop") && (varB N s sc y && (chP Γ N fx e sc xs && (apos.endLine == p1.line)))
    | _ => false)
  | .expr e, sc, st => (match st with
    | .Expr x _ => chE Γ N fx e sc x && notComp x
    | _ => false)
  | .iff c a b, sc, st => (match st with
    | .If c' a' b' _ => chC Γ N fx c sc c' && (chB a sc a' && chB b sc b')
    | _ => false)
  | .for_ t i b, sc, st => (match st with
    | .For t' i' b' [] _ => chT N fx (Tg.slots t) t sc t' && (chI Γ N fx i sc t' i' && (chB b sc b' && notSet i'))
    | _ => false)
  | .whl c b, sc, st => (match st with
    | .While c' b' [] _ => chC Γ N fx c sc c' && chB b sc b'
    | _ => false)
  | .ret e, sc, st => (match st with
    | .Return (some x) _ => chE Γ N fx e sc x
    | _ => false)
  | .retn, _, st => (match st with
    | .Return none _ => true
    | _ => false)
  | .pass, _, st => (match st with
    | .Pass _ => true
    | _ => false)
  | .brk, _, st => (match st with
    | .Break _ => true
    | _ => false)
  | .cnt, _, st => (match st with
    | .Continue _ => true
    | _ => false)
  | .rse c es, sc, st => (match st with
    | .Raise (some (.Call (.Name y _) (e' :: es') [] _)) none _ => (match Γ.xcs[c]? with
      | some (nm, _) => decide (nm = y) && (glbB sc y && (notStar e' && (es'.all notStar && chS Γ N fx es sc (e' :: es'))))
      | none => false)
    | _ => false)
  | .tri b c s h, sc, st => (match st with
    | .Try body [.ExceptHandler (some (.Name xn _)) nm (b0 :: suite) _] [] [] _ => chX1 Γ sc c xn && (chB b sc body && (match s, nm with
      | some i, some n => decide (N[i]? = some n) && (lclB sc n && (!decide (i ∈ fx) && chHs Γ N fx i h sc (b0 :: suite)))
      | none, none => chHn Γ N 0 h sc (b0 :: suite)
      | _, _ => false))
    | _ => false)
  | .stu w i e, sc, st => (match st with
    | .Assign [.Tuple [.Name y _, .Starred (.Name z _) _] _ _] x _ => chN N fx w sc y && (chN N fx i sc z && (chE Γ N fx e sc x && (notComp x && notTup x)))
    | _ => false)
  | .mch s ms, sc, st => (match st with
    | .Match (.Name y _) cs _ => varB N s sc y && chMs ms sc cs
    | _ => false)
  | _, _, _ => false
def chMs : Mcs → Scope → List MatchCase → Bool
  | .n, _, cs => cs.isEmpty
  | .d b, sc, cs => (match cs with
    | ⟨.MatchAs none none _, none, body⟩ :: _ => chB b sc body
    | _ => false)
  | .c x g b r, sc, cs => (match cs with
    | ⟨.MatchValue (.Constant (.str x') _ _) _, go, body⟩ :: rest => decide (x = x') && (sOk x && (chGd Γ N fx g sc go && (chB b sc body && chMs r sc rest)))
    | _ => false)
def chB : Sms → Scope → List Stmt → Bool
  | .n, _, l => l.isEmpty
  | .c s t, sc, l => (match l with
    | st :: sts => chM s sc st && chB t sc sts
    | [] => false)
end
end
section
variable [Frame] {Γ : Gm} {P : Pg} {CA : Nat → Addr} {k : Nat} {N : List Str} {fx : List Nat}
structure Po (X : Cx) : Prop where
  po : PassesOwn (model X.prog X.w) X.A X.env X.xe
  stk : X.stack = X.env :: X.outer
  frm : X.env.frame = some X.env.locals
variable (Γ P CA k N fx) in
def IM (s : Sm) : Prop := ∀ (X : Cx) (sc : Scope) (W : WX) (st : Stmt), Gd Γ P CA k N fx X sc W → Po X → chM Γ N fx s sc st = true → PS X st (TSf X.K CA W (exS P s))
variable (Γ P CA k N fx) in
def IB (s : Sms) : Prop := ∀ (X : Cx) (sc : Scope) (W : WX) (st : List Stmt), Gd Γ P CA k N fx X sc W → Po X → chB Γ N fx s sc st = true → PSs X st (TSf X.K CA W (exB P s))
theorem chN_ok {X : Cx} {sc : Scope} {W : WX} (g : Gd Γ P CA k N fx X sc W) {i : Nat} {y : Str} (h : chN N fx i sc y = true) : Frame.ok i ∧ X.N.Nodup ∧ X.N[i]? = some y ∧ Loc X.env.scope y ∧ (X.fn y = true ∨ X.env.scope.names.lookup y = some .local) := by
  obtain ⟨h1, h2⟩ := and_t h
  obtain ⟨h2, h5⟩ := and_t h2
  obtain ⟨h3, h4⟩ := locB_loc g.sco h2
  exact ⟨g.fix i (by simpa using h5), by rw [g.hN]; exact g.nd, by rw [g.hN]; exact of_decide_eq_true h1, h3, h4⟩
theorem ps_eq {X : Cx} {W : WX} {st : Stmt} {m m' : Env → R Fl} (h : PS X st (TSf X.K CA W m)) (e : ∀ ρ, m' ρ = m ρ) : PS X st (TSf X.K CA W m') := by
  have : m' = m := funext e
  subst this; exact h
theorem lclB_ok {X : Cx} {sc : Scope} {W : WX} (g : Gd Γ P CA k N fx X sc W) {y : Str} (h : lclB sc y = true) : X.env.scope.names.lookup y = some .local := by
  unfold lclB at h
  split at h
  · rename_i e; exact g.sco.keep _ _ (by decide) e
  · cases h
theorem celB_ok {X : Cx} {sc : Scope} {W : WX} (g : Gd Γ P CA k N fx X sc W) {y : Str} (h : celB sc y = true) : X.env.scope.names.lookup y = some .cell := by
  unfold celB at h
  split at h
  · rename_i e; exact g.sco.keep _ _ (by decide) e
  · cases h
theorem sM_setLc {X : Cx} {sc : Scope} {W : WX} (g : Gd Γ P CA k N fx X sc W) {i : Nat} {y : Str} {py spos pos : Pos} {scope : Scope} {elt : Expr} {gs : List Comprehension} {e : Ex} (hn : chN N fx i sc y = true) (hl : lclB sc y = true) (hp : (py.line == pos.line) = true) (ho : noOwn scope y = true)
    (h : chE Γ N fx e sc (.ListComp elt gs scope pos) = true) (hne : (!isLcn e) = true) : PS X (.Assign [.Name y py] (.ListComp elt gs scope pos) spos) (TSf X.K CA W (exS P (.set (.n i) e))) := by
  obtain ⟨n0, n1, n2, n3, n4⟩ := chN_ok g hn
  cases e with
  | lc e own gs' =>
    cases gs' with
    | n => cases h
    | c own' t it c gs2 =>
      cases gs2 with
      | c _ _ _ _ _ => cases h
      | n =>
        unfold chE at h
        split at h
        · rename_i q
          cases q
          obtain ⟨h1, h⟩ := and_t h
          obtain ⟨h2, h⟩ := and_t h
          obtain ⟨h3, h⟩ := and_t h
          obtain ⟨h4, h⟩ := and_t h
          obtain ⟨h5, h⟩ := and_t h
          obtain ⟨h6, h7⟩ := and_t h
          have e1 := of_decide_eq_true h1; subst e1
          have gb := fun s H C cl fp => g.blk (blkB_kind h2) s H C cl fp
          have hh := ds_setLc (pos := pos) (spos := spos) (py := py) (W := W) (CA := CA) (own := ownL N own') (f := Tg.bind t) (mc := tco P c) (me := fun ρ => fz (ev P e ρ)) (by rw [ownL_snd]; exact blkB_fix g h2) n0 g.calm n1 n2 (lclB_ok g hl) (sw_true g.sco.kind (lclB_ok g hl) hp (by simpa [noOwn] using ho)) (sI it _ _ _ _ _ g h4) (blkB_ok g h2)
            (fun s H C cl fp => by rw [ownL_snd]; exact sT t (gb s H C cl fp) h3) (fun s H C cl fp => sQ c _ _ _ _ (gb s H C cl fp) h5) (fun s H C cl fp => de_fz (sE e _ _ _ _ (gb s H C cl fp) h6)) h7
          rw [ownL_snd] at hh
          exact hh
        · cases h
  | dc _ _ own gs => cases gs with
    | n => cases h
    | c _ _ _ _ g2 => cases g2 <;> cases h
  | dsp es => cases es <;> cases h
  | lcn _ _ _ => cases hne
  | mt m o es => cases es with
    | n => cases h
    | s _ _ => cases h
    | c _ es => cases es with
      | n => cases h
      | s _ _ => cases h
      | c _ es => cases es <;> cases h
  | _ => cases h
theorem sM_setDc {X : Cx} {sc : Scope} {W : WX} (g : Gd Γ P CA k N fx X sc W) {i : Nat} {y : Str} {py spos pos : Pos} {scope : Scope} {kx vx : Expr} {gs : List Comprehension} {e : Ex} (hn : chN N fx i sc y = true) (hl : lclB sc y = true) (hp : (py.line == pos.line) = true) (ho : noOwn scope y = true)
    (h : chE Γ N fx e sc (.DictComp kx vx gs scope pos) = true) : PS X (.Assign [.Name y py] (.DictComp kx vx gs scope pos) spos) (TSf X.K CA W (exS P (.set (.n i) e))) := by
  obtain ⟨n0, n1, n2, n3, n4⟩ := chN_ok g hn
  cases e with
  | dc ke ve own gs' =>
    cases gs' with
    | n => cases h
    | c own' t it c gs2 =>
      cases gs2 with
      | c _ _ _ _ _ => cases h
      | n =>
        unfold chE at h
        split at h
        · rename_i q
          cases q
          obtain ⟨h1, h⟩ := and_t h
          obtain ⟨h2, h⟩ := and_t h
          obtain ⟨h3, h⟩ := and_t h
          obtain ⟨h4, h⟩ := and_t h
          obtain ⟨h5, h⟩ := and_t h
          obtain ⟨h6, h⟩ := and_t h
          obtain ⟨h7, h8⟩ := and_t h
          have e1 := of_decide_eq_true h1; subst e1
          have gb := fun s H C cl fp => g.blk (blkB_kind h2) s H C cl fp
          have hh := ds_setDc (pos := pos) (spos := spos) (py := py) (W := W) (CA := CA) (own := ownL N own') (f := Tg.bind t) (mc := tco P c) (mk := fun ρ => fz (ev P ke ρ)) (mv := fun ρ => fz (ev P ve ρ)) (by rw [ownL_snd]; exact blkB_fix g h2) n0 g.calm n1 n2 (lclB_ok g hl) (sw_trueD g.sco.kind (lclB_ok g hl) hp (by simpa [noOwn] using ho)) (sI it _ _ _ _ _ g h4) (blkB_ok g h2)
            (fun s H C cl fp => by rw [ownL_snd]; exact sT t (gb s H C cl fp) h3) (fun s H C cl fp => sQ c _ _ _ _ (gb s H C cl fp) h5) (fun s H C cl fp => de_fz (sE ke _ _ _ _ (gb s H C cl fp) h6)) (fun s H C cl fp => de_fz (sE ve _ _ _ _ (gb s H C cl fp) h7)) h8
          rw [ownL_snd] at hh
          exact hh
        · cases h
  | lc _ own gs => cases gs with
    | n => cases h
    | c _ _ _ _ g2 => cases g2 <;> cases h
  | dsp es => cases es <;> cases h
  | lcn _ own gs => cases gs with
    | n => cases h
    | c _ _ _ _ g2 => cases g2 <;> cases h
  | mt m o es => cases es with
    | n => cases h
    | s _ _ => cases h
    | c _ es => cases es with
      | n => cases h
      | s _ _ => cases h
      | c _ es => cases es <;> cases h
  | _ => cases h
theorem sM_set (i : Nat) (e : Ex) : IM Γ P CA k N fx (.set (.n i) e) := fun X sc W st g po h => by
  unfold chM at h
  split at h
  · rename_i y py x spos
    obtain ⟨h1, h⟩ := and_t h
    obtain ⟨h2, h3⟩ := and_t h
    obtain ⟨n0, n1, n2, n3, n4⟩ := chN_ok g h1
    rcases Bool.or_eq_true_iff.mp h3 with h3 | h3
    · rcases Bool.or_eq_true_iff.mp h3 with h3 | h3
      · exact ds_set n0 n1 n2 n3 n4 (sE e _ _ _ _ g h2) (comp_swaps h3)
      · exact ds_set n0 n1 n2 n3 n4 (sE e _ _ _ _ g h2) (sw_cell (celB_ok g h3))
    · obtain ⟨h4, h5⟩ := and_t h3
      split at h5
      · obtain ⟨h5, h6⟩ := and_t h5
        obtain ⟨h6, h7⟩ := and_t h6
        exact sM_setLc g h1 h4 h5 h6 h2 h7
      · obtain ⟨h5, h6⟩ := and_t h5
        exact sM_setDc g h1 h4 h5 h6 h2
      · cases h5
  · cases h
theorem sM_setLcn {X : Cx} {sc : Scope} {W : WX} (g : Gd Γ P CA k N fx X sc W) {i : Nat} {y : Str} {py spos pos : Pos} {scope : Scope} {elt : Expr} {gs : List Comprehension} {e : Ex} (hn : chN N fx i sc y = true) (hl : lclB sc y = true) (hp : (py.line == pos.line) = true) (ho : noOwn scope y = true)
    (h : chE Γ N fx e sc (.ListComp elt gs scope pos) = true) (he : ∃ e' own gs', e = .lcn e' own gs') : PS X (.Assign [.Name y py] (.ListComp elt gs scope pos) spos) (TSf X.K CA W (exS P (.setN i e))) := by
  obtain ⟨n0, n1, n2, n3, n4⟩ := chN_ok g hn
  obtain ⟨e, own, gs', rfl⟩ := he
  cases gs' with
  | n => cases h
  | c own' t it c gs2 =>
    cases gs2 with
    | c _ _ _ _ _ => cases h
    | n =>
      unfold chE at h
      split at h
      · rename_i q
        cases q
        obtain ⟨h1, h⟩ := and_t h
        obtain ⟨h2, h⟩ := and_t h
        obtain ⟨h3, h⟩ := and_t h
        obtain ⟨h4, h⟩ := and_t h
        obtain ⟨h5, h⟩ := and_t h
        obtain ⟨h6, h7⟩ := and_t h
        have e1 := of_decide_eq_true h1; subst e1
        have gb := fun s H C cl fp => g.blk (blkB_kind h2) s H C cl fp
        have hh := ds_setLcn (pos := pos) (spos := spos) (py := py) (W := W) (CA := CA) (own := ownL N own') (f := Tg.bind t) (mc := tco P c) (me := ev P e) (by rw [ownL_snd]; exact blkB_fix g h2) n0 g.calm n1 n2 (lclB_ok g hl) (sw_true g.sco.kind (lclB_ok g hl) hp (by simpa [noOwn] using ho)) (sI it _ _ _ _ _ g h4) (blkB_ok g h2)
          (fun s H C cl fp => by rw [ownL_snd]; exact sT t (gb s H C cl fp) h3) (fun s H C cl fp => sQ c _ _ _ _ (gb s H C cl fp) h5) (fun s H C cl fp => sE e _ _ _ _ (gb s H C cl fp) h6) h7
        rw [ownL_snd] at hh
        exact hh
      · cases h
theorem isLcn_ok {e : Ex} (h : isLcn e = true) : ∃ e' own gs', e = .lcn e' own gs' := by
  cases e with
  | lcn e' own gs' => exact ⟨_, _, _, rfl⟩
  | _ => cases h
theorem sM_setN (i : Nat) (e : Ex) : IM Γ P CA k N fx (.setN i e) := fun X sc W st g po h => by
  unfold chM at h
  split at h
  · rename_i y py x spos
    obtain ⟨h1, h⟩ := and_t h
    obtain ⟨h2, h3⟩ := and_t h
    obtain ⟨n0, n1, n2, n3, n4⟩ := chN_ok g h1
    rcases Bool.or_eq_true_iff.mp h3 with h3 | h3
    · rcases Bool.or_eq_true_iff.mp h3 with h3 | h3
      · exact ds_setN n0 n1 n2 n3 n4 (sE e _ _ _ _ g h2) (comp_swaps h3)
      · exact ds_setN n0 n1 n2 n3 n4 (sE e _ _ _ _ g h2) (sw_cell (celB_ok g h3))
    · obtain ⟨h4, h5⟩ := and_t h3
      split at h5
      · obtain ⟨h5, h⟩ := and_t h5
        obtain ⟨h6, h7⟩ := and_t h
        exact sM_setLcn g h1 h4 h5 h6 h2 (isLcn_ok h7)
      · cases h5
  · cases h
theorem sM_nal (t s : Nat) (i : Ex) : IM Γ P CA k N fx (.nal t s i) := fun X sc W st g po h => by
  unfold chM at h
  split at h
  · obtain ⟨h1, h⟩ := and_t h
    obtain ⟨h2, h⟩ := and_t h
    obtain ⟨h3, h4⟩ := and_t h
    obtain ⟨n0, n1, n2, n3, n4⟩ := chN_ok g h1
    exact ds_nal n0 n1 n2 n3 n4 (varB_pe g h2) (toP g h3 (sE i _ _ _ _ g h3)) (plain_ix h4)
  · cases h
theorem sM_nrow (s i : Nat) (e : Ex) : IM Γ P CA k N fx (.nrow s i e) := fun X sc W st g po h => by
  unfold chM at h
  split at h
  · obtain ⟨h1, h⟩ := and_t h
    obtain ⟨h2, h3⟩ := and_t h
    exact ds_nrow (varB_pe g h1) (varB_pe g h2) (sE e _ _ _ _ g h3) rfl
  · cases h
theorem sM_napp (s : Nat) (e : Ex) : IM Γ P CA k N fx (.napp s e) := fun X sc W st g po h => by
  unfold chM at h
  split at h
  · obtain ⟨h1, h⟩ := and_t h
    obtain ⟨h2, h⟩ := and_t h
    obtain ⟨h3, h⟩ := and_t h
    obtain ⟨h4, h5⟩ := and_t h
    have e1 := of_decide_eq_true h1; subst e1
    exact ds_napp (varB_pe g h2) (sE e _ _ _ _ g h3) rfl h4 h5
  · cases h
theorem sM_fins (t s v : Nat) : IM Γ P CA k N fx (.fins t s v) := fun X sc W st g po h => by
  unfold chM at h
  split at h
  · obtain ⟨h1, h⟩ := and_t h
    obtain ⟨h2, h⟩ := and_t h
    obtain ⟨h3, h⟩ := and_t h
    obtain ⟨h4, h⟩ := and_t h
    obtain ⟨h5, h⟩ := and_t h
    obtain ⟨h6, h7⟩ := and_t h
    have e1 := of_decide_eq_true h1; subst e1
    have e2 := of_decide_eq_true h2; subst e2
    obtain ⟨n0, n1, n2, n3, n4⟩ := chN_ok g h3
    exact ds_fins po.po g.calm n0 n1 n2 n3 n4 (varB_pe g h5) (varB_pe g h4) (varB_pe g h6) rfl h7 rfl
  · cases h
theorem sM_lend (i : Nat) (us : List Nat) (s : Nat) (e : Ex) : IM Γ P CA k N fx (.lend i us s e) := fun X sc W st g po h => by
  unfold chM at h
  split at h
  · obtain ⟨h1, h⟩ := and_t h
    obtain ⟨h2, h3⟩ := and_t h
    obtain ⟨n0, n1, n2, n3, n4⟩ := chN_ok g h1
    exact ds_lend n0 n1 n2 n3 n4 (sE e _ _ _ _ g h2) (comp_swaps h3)
  · cases h
theorem sM_setT (ts : Tg) (e : Ex) : IM Γ P CA k N fx (.set (.t ts) e) := fun X sc W st g po h => by
  unfold chM at h
  split at h
  · obtain ⟨h1, h⟩ := and_t h
    obtain ⟨h2, h⟩ := and_t h
    obtain ⟨h3, h4⟩ := and_t h
    unfold chT at h1
    dsimp only at h1
    obtain ⟨i1, i⟩ := and_t h1
    obtain ⟨i2, i3⟩ := and_t i
    exact ds_setT (t := .t ts) (dg_tup g.calm (sTs ts g i1) i2 (of_decide_eq_true i3)) (de_fz (sE e _ _ _ _ g h2)) h3 h4
  · cases h
theorem sM_seti (s : Nat) (i e : Ex) : IM Γ P CA k N fx (.seti s i e) := fun X sc W st g po h => by
  unfold chM at h
  split at h
  · obtain ⟨h1, h⟩ := and_t h
    obtain ⟨h2, h⟩ := and_t h
    obtain ⟨h3, h4⟩ := and_t h
    exact ds_seti g.units (varB_pe g h1) (toP g h2 (sE i _ _ _ _ g h2)) (de_fz (sE e _ _ _ _ g h3)) h4
  · cases h
theorem sM_setf (s : Nat) (f : Str) (e : Ex) : IM Γ P CA k N fx (.setf s f e) := fun X sc W st g po h => by
  unfold chM at h
  split at h
  · obtain ⟨h1, h⟩ := and_t h
    obtain ⟨h2, h⟩ := and_t h
    obtain ⟨h3, h4⟩ := and_t h
    have e1 := of_decide_eq_true h2; subst e1
    exact ds_setf (fun c hc => (g.gb.clx c hc).cl) (fun c hc => g.gb.noat c hc _ (of_decide_eq_true h3)) (varB_pe g h1) (de_fz (sE e _ _ _ _ g h4))
  · cases h
theorem sM_app (s : Nat) (e : Ex) : IM Γ P CA k N fx (.app s e) := fun X sc W st g po h => by
  unfold chM at h
  split at h
  · obtain ⟨h1, h⟩ := and_t h
    obtain ⟨h2, h⟩ := and_t h
    obtain ⟨h3, h⟩ := and_t h
    obtain ⟨h4, h5⟩ := and_t h
    have e1 := of_decide_eq_true h1; subst e1
    exact ds_app (varB_pe g h2) (de_fz (sE e _ _ _ _ g h3)) rfl h4 h5
  · cases h
theorem sM_ext (s : Nat) (e : Ex) : IM Γ P CA k N fx (.ext s e) := fun X sc W st g po h => by
  unfold chM at h
  split at h
  · obtain ⟨h1, h⟩ := and_t h
    obtain ⟨h2, h⟩ := and_t h
    obtain ⟨h3, h⟩ := and_t h
    obtain ⟨h4, h5⟩ := and_t h
    have e1 := of_decide_eq_true h1; subst e1
    exact ds_ext (varB_pe g h2) (toP g h3 (sE e _ _ _ _ g h3)) rfl h4 h5
  · cases h
theorem sM_insr (s : Nat) (i e : Ex) : IM Γ P CA k N fx (.insr s i e) := fun X sc W st g po h => by
  unfold chM at h
  split at h
  · obtain ⟨h1, h⟩ := and_t h
    obtain ⟨h2, h⟩ := and_t h
    obtain ⟨h3, h⟩ := and_t h
    obtain ⟨h4, h⟩ := and_t h
    obtain ⟨h5, h⟩ := and_t h
    obtain ⟨h6, h7⟩ := and_t h
    have e1 := of_decide_eq_true h1; subst e1
    exact ds_insr (varB_pe g h2) (de_fz (sE i _ _ _ _ g h3)) (de_fz (sE e _ _ _ _ g h5)) rfl h4 h6 h7
  · cases h
theorem chP_ok {X : Cx} {sc : Scope} {W : WX} (g : Gd Γ P CA k N fx X sc W) {e : Exo} {xs : List Expr} (h : chP Γ N fx e sc xs = true) : PPop X CA W xs (evo P e) := by
  unfold chP at h
  split at h
  · exact .non
  · obtain ⟨h1, h2⟩ := and_t h
    exact .one (toP g h1 (sE _ _ _ _ _ g h1)) h2
  · cases h
theorem sM_pop (t s : Nat) (e : Exo) : IM Γ P CA k N fx (.pop t s e) := fun X sc W st g po h => by
  unfold chM at h
  split at h
  · obtain ⟨h1, h⟩ := and_t h
    obtain ⟨h2, h⟩ := and_t h
    obtain ⟨h3, h⟩ := and_t h
    obtain ⟨h4, h5⟩ := and_t h
    have e1 := of_decide_eq_true h1; subst e1
    obtain ⟨n0, n1, n2, n3, n4⟩ := chN_ok g h2
    exact ds_pop n0 n1 n2 n3 n4 (chP_ok g h4) (varB_pe g h3) rfl h5
  · cases h
theorem sM_popx (s : Nat) (e : Exo) : IM Γ P CA k N fx (.popx s e) := fun X sc W st g po h => by
  unfold chM at h
  split at h
  · obtain ⟨h1, h⟩ := and_t h
    obtain ⟨h3, h⟩ := and_t h
    obtain ⟨h4, h5⟩ := and_t h
    have e1 := of_decide_eq_true h1; subst e1
    exact ds_popx (chP_ok g h4) (varB_pe g h3) rfl h5
  · cases h
theorem sM_expr (e : Ex) : IM Γ P CA k N fx (.expr e) := fun X sc W st g po h => by
  unfold chM at h
  split at h
  · obtain ⟨h1, h2⟩ := and_t h
    exact ds_expr (sE e _ _ _ _ g h1) h2
  · cases h
theorem sM_iff (c : Cd) {a b : Sms} (i1 : IB Γ P CA k N fx a) (i2 : IB Γ P CA k N fx b) : IM Γ P CA k N fx (.iff c a b) := fun X sc W st g po h => by
  unfold chM at h
  split at h
  · obtain ⟨h1, h⟩ := and_t h
    obtain ⟨h2, h3⟩ := and_t h
    exact ds_if (sC c _ _ _ _ g h1).1 (i1 _ _ _ _ g po h2) (i2 _ _ _ _ g po h3)
  · cases h
theorem sM_for (t : Tg) (i : It) {b : Sms} (i1 : IB Γ P CA k N fx b) : IM Γ P CA k N fx (.for_ t i b) := fun X sc W st g po h => by
  unfold chM at h
  split at h
  · obtain ⟨h1, h⟩ := and_t h
    obtain ⟨h2, h⟩ := and_t h
    obtain ⟨h3, h4⟩ := and_t h
    exact ds_for po.po g.calm (sI i _ _ _ _ _ g h2) (sT t g h1) (i1 _ _ _ _ g po h3) h4
  · cases h
theorem sM_whl (c : Cd) {b : Sms} (i1 : IB Γ P CA k N fx b) : IM Γ P CA k N fx (.whl c b) := fun X sc W st g po h => by
  unfold chM at h
  split at h
  · obtain ⟨h1, h2⟩ := and_t h
    exact ds_whl (N := P.wf) po.po (sC c _ _ _ _ g h1).1 (i1 _ _ _ _ g po h2)
  · cases h
theorem sM_ret (e : Ex) : IM Γ P CA k N fx (.ret e) := fun X sc W st g po h => by
  unfold chM at h
  split at h
  · cases e with
    | v i =>
      unfold chE at h
      split at h
      · exact ds_ret (de_move (varB_pe g h))
      · cases h
    | _ => exact ds_ret (sE _ _ _ _ _ g h)
  · cases h
theorem sM_retn : IM Γ P CA k N fx .retn := fun X sc W st g po h => by
  unfold chM at h
  split at h
  · exact ds_retn
  · cases h
theorem sM_pass : IM Γ P CA k N fx .pass := fun X sc W st g po h => by
  unfold chM at h
  split at h
  · exact ds_pass
  · cases h
theorem sM_brk : IM Γ P CA k N fx .brk := fun X sc W st g po h => by
  unfold chM at h
  split at h
  · exact ds_brk
  · cases h
theorem sM_cnt : IM Γ P CA k N fx .cnt := fun X sc W st g po h => by
  unfold chM at h
  split at h
  · exact ds_cnt
  · cases h
/-! ### errors are raised -/
theorem RepF.zip_rev {K : PySem.W.Frag} {G : Hp} : ∀ {fs : List Str} {vs : List V} {ds : List D}, Reps K CA G vs ds → RepF K CA G (fs.zip vs) (fs.zip ds)
  | [], _, _, _ => by simp only [List.zip_nil_left]; exact .nil
  | _ :: _, _, _, .nil => by simp only [List.zip_nil_right]; exact .nil
  | f :: fs, _, _, .cons r t => by rw [List.zip_cons_cons, List.zip_cons_cons]; exact .cons r (RepF.zip_rev t)
theorem RepF.append {K : PySem.W.Frag} {G : Hp} : ∀ {a c : List (Str × V)} {b d : List (Str × D)}, RepF K CA G a b → RepF K CA G c d → RepF K CA G (a ++ c) (b ++ d)
  | _, _, _, _, .nil, s => s
  | _, _, _, _, .cons r t, s => .cons r (RepF.append t s)
theorem RepF.rev {K : PySem.W.Frag} {G : Hp} : ∀ {a : List (Str × V)} {b : List (Str × D)}, RepF K CA G a b → RepF K CA G a.reverse b.reverse
  | _, _, .nil => .nil
  | _, _, .cons r t => by
    rw [List.reverse_cons, List.reverse_cons]
    exact RepF.append (RepF.rev t) (.cons r .nil)
theorem sM_rse (c : Nat) (es : Exs) : IM Γ P CA k N fx (.rse c es) := fun X sc W st g po h => by
  unfold chM at h
  split at h
  · split at h
    · rename_i nm fs hx
      obtain ⟨h1, h⟩ := and_t h
      obtain ⟨h2, h⟩ := and_t h
      obtain ⟨h3, h⟩ := and_t h
      obtain ⟨h4, h5⟩ := and_t h
      have e1 := of_decide_eq_true h1; subst e1
      obtain ⟨h6, h7⟩ := glbB_gl g.sco h2
      obtain ⟨x1, x2, fI, fdt, ps, XC⟩ := g.gb.xc c _ fs hx
      refine PS.weak (ps_raise g.calm g.tk (pmk_oex (CX := L2.CX X.prog X.w) (ds := []) (dvs := []) XC.oex XC.ini XC.tin XC.ok g.room XC.bind .nil (passes_call g.tk fun _ _ _ _ z => z.elim) h6 XC.at_ (sS es _ _ _ _ g h5) h7 (star_cons h3) (star_none h4))) fun D σ H ⟨B, G0, G, ρ, em, p⟩ => ?_
      have p : PostS X.K CA W B G0 G D ((evs P es ρ).bind fun ds ρ => (match mkX P.xs c ds with
        | some x => .ex x ρ
        | none => .no)) := p
      refine ta_bind em p fun ds ρ1 vs H1 G1 lh lg em1 rs q => ?_
      unfold mkX at q
      rw [x1, Option.bind_some] at q
      by_cases hl : fs.length = ds.length
      · rw [if_pos hl] at q
        refine ⟨by rw [rs.length, ← hl]; omega, fun a ha => ?_⟩
        rw [List.append_nil]
        refine ⟨by rw [List.length_cons, rs.length, hl], a, vs, H1, rfl, ha, rfl, fun H2 d k1 hd ea ed => ⟨rfl, d, _, ea, ed, hd, ?_⟩⟩
        have l3 : Le H1 (upd (del H2 a) d (.xd (fs.zip vs).reverse)) := fun b o hb => by
          rw [upd_ne (ne_of_none hb hd), del_ne (ne_of_none hb ha)]; exact k1 b o hb
        obtain ⟨em3, l4⟩ := (em1.ext l3).frz (em1.bh.noneL hd) (em1.gh.noneL hd) upd_same (em1.fle l3 (free_new em1 hd))
        refine q σ _ _ (.ref (CA (1000 + c))) (some d) l4 em3 ⟨rfl, .inr ⟨d, _, rfl, upd_same, ?_⟩⟩
        exact (RepF.rev (RepF.zip_rev rs)).le l4
      · rw [if_neg hl] at q; exact q.elim
    · cases h
  · cases h
theorem chX1_ok {X : Cx} {sc : Scope} {W : WX} (g : Gd Γ P CA k N fx X sc W) {c : Option Nat} {xn : Str} (h : chX1 Γ sc c xn = true) : Names X xn (cvU CA c) ∧ ∀ e, c = some e → e < Γ.xns.length := by
  obtain ⟨h1, h2⟩ := and_t h
  obtain ⟨h3, h4⟩ := glbB_gl g.sco h1
  cases c with
  | none =>
    have e := of_decide_eq_true h2; subst e
    exact ⟨⟨h3, h4, .inr ⟨g.gb.gx.ve, rfl, by decide⟩⟩, fun e z => by cases z⟩
  | some c =>
    have e := of_decide_eq_true h2
    exact ⟨⟨h3, h4, .inl (g.gb.gx.xn c _ e)⟩, fun e' z => by cases z; exact lt_of_get e⟩
theorem tr_gd {X : Cx} {sc : Scope} {W : WX} (g : Gd Γ P CA k N fx X sc W) {W' : WX} {pn : List (Addr × Obj)} {xe : Value → Shared → Prop} (tk : Takes (X.tr pn xe) W') : Gd Γ P CA k N fx (X.tr pn xe) sc W' where
  calm := g.calm
  fix := g.fix
  hN := g.hN
  nd := g.nd
  sco := ⟨g.sco.kind, g.sco.keep, g.sco.fre, g.sco.fn⟩
  room := g.room
  gd := g.gd
  tk := tk
  gb := g.gb
theorem exS_tri {b : Sms} {c s : Option Nat} {h : Hst} (ρ : Env) : exS P (.tri b c s h) ρ = triM P (exB P b) c s h ρ := rfl
theorem sM_tri (b : Sms) (c s : Option Nat) (t : Hst) (i1 : IB Γ P CA k N fx b) : IM Γ P CA k N fx (.tri b c s t) := fun X sc W st g po h => by
  unfold chM at h
  split at h
  · rename_i body xn np nm b0 suite p1 p2
    obtain ⟨h1, h⟩ := and_t h
    obtain ⟨h2, h⟩ := and_t h
    obtain ⟨n1, n2⟩ := chX1_ok g h1
    have hb : ∀ (W : WX) (pn : List (Addr × Obj)) (xe : Value → Shared → Prop), Takes (X.tr pn xe) W → PassesOwn (model X.prog X.w) X.A X.env xe → PSs (X.tr pn xe) body (TSf X.K CA W (exB P b)) :=
      fun W' pn xe tk hp => i1 (X.tr pn xe) sc W' body (tr_gd g tk) ⟨hp, po.stk, po.frm⟩ h2
    split at h
    · rename_i i n _ _
      obtain ⟨m1, h⟩ := and_t h
      obtain ⟨m2, h⟩ := and_t h
      obtain ⟨m3, h4⟩ := and_t h
      have ok : Frame.ok i := g.fix i (by simpa using m3)
      refine ps_eq (ds_try_as (i := i) (Γ := Γ) po.stk po.frm (by rw [g.hN]; exact g.nd) (by rw [g.hN]; exact of_decide_eq_true m1) (lclB_ok g m2) ok n1 n2 g.gb.gx g.tk hb fun a oe cls d pn hz hf => ⟨fun pins s σ H D I ⟨x, ec, hx, q⟩ => ?_⟩) fun ρ => exS_tri ρ
      subst ec
      exact (hs_ok (fx := fx) (P := P) { hN := g.hN, sco := g.sco, gx := g.gb.gx, rng := hx, zc := hz, flds := hf } g.nd g.fix t _ h4).run pins s σ H D I q
    · refine ps_eq (ds_try_only (Γ := Γ) po.stk po.frm n1 n2 g.gb.gx g.tk hb fun a oe cls d pn hz hf => hn_ok (Γ := Γ) (N := N) (sc := sc) (i := 0) ?_ ?_ t _ h) fun ρ => exS_tri ρ
      · exact g.hN
      · exact ⟨g.sco.kind, g.sco.keep, g.sco.fre, g.sco.fn⟩
    · cases h
  · cases h
theorem sM_stu (w i : Nat) (e : Ex) : IM Γ P CA k N fx (.stu w i e) := fun X sc W st g po h => by
  unfold chM at h
  split at h
  · obtain ⟨h1, h⟩ := and_t h
    obtain ⟨h2, h⟩ := and_t h
    obtain ⟨h3, h⟩ := and_t h
    obtain ⟨h4, h5⟩ := and_t h
    obtain ⟨n0, n1, n2, n3, n4⟩ := chN_ok g h1
    obtain ⟨m0, m1, m2, m3, m4⟩ := chN_ok g h2
    exact ds_stu n0 m0 g.calm n1 n2 n3 n4 m2 m3 m4 (de_fz (sE e _ _ _ _ g h3)) h4 h5
  · cases h
variable (Γ P CA k N fx) in
def IMs (ms : Mcs) : Prop := ∀ (X : Cx) (sc : Scope) (W : WX) (cs : List MatchCase), Gd Γ P CA k N fx X sc W → Po X → chMs Γ N fx ms sc cs = true → PMs X cs (TMf X.K CA W (exM P ms))
theorem sMs_n : IMs Γ P CA k N fx .n := fun X sc W cs g po h => by
  unfold chMs at h
  cases cs with
  | nil => exact dm_nil
  | cons _ _ => cases h
theorem sMs_d {b : Sms} (i1 : IB Γ P CA k N fx b) : IMs Γ P CA k N fx (.d b) := fun X sc W cs g po h => by
  unfold chMs at h
  split at h
  · exact dm_def (i1 _ _ _ _ g po h)
  · cases h
theorem sMs_c (x : Str) (gc : Cdo) {b : Sms} {r : Mcs} (i1 : IB Γ P CA k N fx b) (i2 : IMs Γ P CA k N fx r) : IMs Γ P CA k N fx (.c x gc b r) := fun X sc W cs g po h => by
  unfold chMs at h
  split at h
  · obtain ⟨h1, h⟩ := and_t h
    obtain ⟨h2, h⟩ := and_t h
    obtain ⟨h3, h⟩ := and_t h
    obtain ⟨h4, h5⟩ := and_t h
    have e1 := of_decide_eq_true h1; subst e1
    refine dm_str g.roomk h2 (mg := tco P gc) ?_ (i1 _ _ _ _ g po h4) (i2 _ _ _ _ g po h5)
    unfold chGd at h3
    split at h3
    · exact .non
    · exact .one (sC _ _ _ _ _ g h3).1
    · cases h3
  · cases h
theorem sM_mch (s : Nat) (ms : Mcs) (i1 : IMs Γ P CA k N fx ms) : IM Γ P CA k N fx (.mch s ms) := fun X sc W st g po h => by
  unfold chM at h
  split at h
  · obtain ⟨h1, h2⟩ := and_t h
    exact ds_mch (varB_pe g h1) (i1 _ _ _ _ g po h2)
  · cases h
mutual
theorem sM : ∀ s : Sm, IM Γ P CA k N fx s
  | .set t e => (match t with
    | .n i => sM_set i e
    | .t ts => sM_setT ts e
    | .z => fun X sc W st g po h => by cases h
    | .c _ _ => fun X sc W st g po h => by cases h)
  | .setN i e => sM_setN i e
  | .nal t s i => sM_nal t s i
  | .nrow s i e => sM_nrow s i e
  | .napp s e => sM_napp s e
  | .npt _ _ => fun X sc W st g po h => by cases h
  | .fins t s v => sM_fins t s v
  | .lend i us s e => sM_lend i us s e
  | .seti s i e => sM_seti s i e
  | .setf s f e => sM_setf s f e
  | .app s e => sM_app s e
  | .ext s e => sM_ext s e
  | .insr s i e => sM_insr s i e
  | .pop t s e => sM_pop t s e
  | .popx s e => sM_popx s e
  | .expr e => sM_expr e
  | .iff c a b => sM_iff c (sB a) (sB b)
  | .for_ t i b => sM_for t i (sB b)
  | .whl c b => sM_whl c (sB b)
  | .ret e => sM_ret e
  | .retn => sM_retn
  | .pass => sM_pass
  | .brk => sM_brk
  | .cnt => sM_cnt
  | .rse c es => sM_rse c es
  | .tri b c s t => sM_tri b c s t (sB b)
  | .stu w i e => sM_stu w i e
  | .mch s ms => sM_mch s ms (sMs ms)
theorem sMs : ∀ ms : Mcs, IMs Γ P CA k N fx ms
  | .n => sMs_n
  | .d b => sMs_d (sB b)
  | .c x g b r => sMs_c x g (sB b) (sMs r)
theorem sB : ∀ s : Sms, IB Γ P CA k N fx s
  | .n => fun X sc W st g po h => by
    unfold chB at h
    cases st with
    | nil => exact dss_nil
    | cons _ _ => cases h
  | .c s t => fun X sc W st g po h => by
    unfold chB at h
    split at h
    · obtain ⟨h1, h2⟩ := and_t h
      exact dss_cons (sM s _ _ _ _ g po h1) (sB t _ _ _ _ g po h2)
    · cases h
end
end
end DL

set_option maxHeartbeats 4000000
/-! DL21: a whole program: its defs keep what they mean. -/
namespace DL
open PySem PySem.Spec PyProof.Rows L2
def Tbl.pg (T : Tbl) (call : Nat → List D → FR) : Pg := ⟨call, T.con, T.eqs, T.defs.map (·.ps), T.wf, T.ncls, T.xs, T.sub, T.nx, T.rep⟩
def env0 (N : List Str) (cs : List (Option Cell)) : Env := cs ++ List.replicate (N.length - cs.length) none
def shs (ds : List D) : List (Option Cell) := ds.map fun d => some (.sh d)
def outFn : R Fl → FR
  | .ok (.rt c) _ => .ok c
  | .ok .nx _ => .ok (.sh .non)
  | .ok _ _ => .no
  | .ex x _ => .ex x
  | .no => .no
def outMk (c : Nat) : R Fl → FR
  | .ok .nx ρ => (match ρ[0]? with
    | some (some (Cell.ow (D.ins c' fs))) => if c' = c then .ok (.ow (.ins c fs)) else .no
    | _ => .no)
  | .ex x _ => .ex x
  | _ => .no
def stepF (T : Tbl) (call : Nat → List D → FR) (d : Df) (ds : List D) : FR := match d.hand with
  | some h => (match d.kd with
    | .mk _ => .no
    | _ => if ds.length = d.ps.length then h call ds else .no)
  | none => (match d.kd with
    | .mk c => if ds.length + 1 = d.ps.length then outMk c (exB (T.pg call) d.body (env0 d.N (some (.ow (.ins c [])) :: shs ds))) else .no
    | _ => if ds.length = d.ps.length then outFn (exB (T.pg call) d.body (env0 d.N (shs ds))) else .no)
def runP (T : Tbl) : Nat → Nat → List D → FR
  | 0, _, _ => .no
  | k + 1, f, ds => match T.defs[f]? with
    | some d => stepF T (runP T k) d ds
    | none => .no
abbrev frameOf (fx : List Nat) (σ0 : L2.St) : Frame where
  F := fun σ => ∀ i, i ∈ fx → σ[i]? = σ0[i]?
  ok := fun i => i ∉ fx
  set := fun i o σ ok h j hj => by rw [get_set_ne (fun z => ok (by rw [z]; exact hj))]; exact h j hj
section
variable {Γ : Gm} {T : Tbl} {CA : Nat → Addr} {k : Nat} {prog : Program} {w : World} {K : PySem.W.Frag} {mg : Str → Option Value} {base : Heap}
theorem env0_length (N : List Str) (cs : List (Option Cell)) (h : cs.length ≤ N.length) : (env0 N cs).length = N.length := by
  unfold env0
  rw [List.length_append, List.length_replicate]; omega
theorem start_length (N : List Str) (vs : List V) (h : vs.length ≤ N.length) : (L2.start N vs).length = N.length := by
  unfold L2.start
  rw [List.length_append, List.length_replicate, List.length_map]; omega
theorem start_get (N : List Str) {vs : List V} {i : Nat} {v : V} (h : vs[i]? = some v) : (L2.start N vs)[i]? = some (some v) := by
  unfold L2.start
  have hl := lt_of_get h
  rw [List.getElem?_append_left (by rw [List.length_map]; exact hl), List.getElem?_map, h]; rfl
theorem env0_get {N : List Str} {cs : List (Option Cell)} {i : Nat} {c : Cell} (h : (env0 N cs)[i]? = some (some c)) : cs[i]? = some (some c) := by
  unfold env0 at h
  by_cases hl : i < cs.length
  · rw [List.getElem?_append_left hl] at h; exact h
  · rw [List.getElem?_append_right (by omega)] at h
    rw [List.getElem?_replicate] at h
    split at h <;> cases h
theorem shs_get {ds : List D} {i : Nat} {c : Cell} (h : (shs ds)[i]? = some (some c)) : ∃ d, ds[i]? = some d ∧ c = .sh d := by
  unfold shs at h
  rw [List.getElem?_map] at h
  cases hd : ds[i]? with
  | none => rw [hd] at h; cases h
  | some d => rw [hd] at h; cases h; exact ⟨d, rfl, rfl⟩
theorem shs_length (ds : List D) : (shs ds).length = ds.length := by unfold shs; rw [List.length_map]
theorem em_start {G H : Hp} {N : List Str} {fx : List Nat} {vs : List V} {ds : List D} (l : Le G H) (r : Reps K CA G vs ds) (hl : ds.length ≤ N.length) : @Em (frameOf fx (L2.start N vs)) K CA H G H G (L2.start N vs) (env0 N (shs ds)) :=
  let _ := frameOf fx (L2.start N vs)
  { gh := l
    bh := Le.refl _
    g0 := Le.refl _
    gb := fun _ _ _ => rfl
    len := by rw [start_length N vs (by rw [r.length]; exact hl), env0_length N _ (by rw [shs_length]; exact hl)]
    fr := fun _ _ => rfl
    al := fun t s k ds' u h1 _ _ => by
      obtain ⟨d, hd, e⟩ := shs_get (env0_get h1)
      cases e
    sl := fun i c h _ => by
      obtain ⟨d, hd, e⟩ := shs_get (env0_get h)
      subst e
      obtain ⟨v, hv, rv⟩ := r.get hd
      exact ⟨v, start_get N hv, rv⟩
    sep := fun i j c e u v p _ h _ _ _ f => by
      obtain ⟨d, hd, e⟩ := shs_get (env0_get h)
      subst e; exact f.elim }
theorem em_startI {G H1 : Hp} {N : List Str} {fx : List Nat} {vs : List V} {ds : List D} {x dx : Addr} {c : Nat} (l : Le G H1) (r : Reps K CA G vs ds) (hl : ds.length + 1 ≤ N.length) (hx : H1 x = none) (hdx : H1 dx = none) (hne : dx ≠ x) :
    @Em (frameOf fx (L2.start N (.ref x :: vs))) K CA H1 G (upd (upd H1 dx (.own x)) x (.ins (CA c) dx [])) G (L2.start N (.ref x :: vs)) (env0 N (some (.ow (.ins c [])) :: shs ds)) :=
  let _ := frameOf fx (L2.start N (.ref x :: vs))
  { gh := fun a o h => by
      have h1 := l a o h
      rw [upd_ne (ne_of_none h1 hx), upd_ne (ne_of_none h1 hdx)]; exact h1
    bh := fun a o h1 => by rw [upd_ne (ne_of_none h1 hx), upd_ne (ne_of_none h1 hdx)]; exact h1
    g0 := Le.refl _
    gb := fun _ _ _ => rfl
    len := by rw [start_length N _ (by rw [List.length_cons, r.length]; exact hl), env0_length N _ (by rw [List.length_cons, shs_length]; exact hl)]
    fr := fun _ _ => rfl
    al := fun t s k ds' u h1 _ _ => by
      have h1 := env0_get h1
      cases t with
      | zero => rw [List.getElem?_cons_zero] at h1; cases h1
      | succ t =>
        rw [List.getElem?_cons_succ] at h1
        obtain ⟨d, hd, e⟩ := shs_get h1
        cases e
    sl := fun i cc h _ => by
      have h := env0_get h
      cases i with
      | zero =>
        rw [List.getElem?_cons_zero] at h; cases h
        exact ⟨.ref x, start_get N rfl, x, rfl, hx, l.noneL hx, dx, [], upd_same, .nil⟩
      | succ i =>
        rw [List.getElem?_cons_succ] at h
        obtain ⟨d, hd, e⟩ := shs_get h
        subst e
        obtain ⟨v, hv, rv⟩ := r.get hd
        exact ⟨v, start_get N (by rw [List.getElem?_cons_succ]; exact hv), rv⟩
    sep := fun i j d e u v p hij hi hj _ _ f f2 => by
      have hi := env0_get hi
      have hj := env0_get hj
      cases i with
      | succ i => rw [List.getElem?_cons_succ] at hi; obtain ⟨d, hd, e⟩ := shs_get hi; subst e; exact f
      | zero => cases j with
        | zero => exact absurd rfl hij
        | succ j => rw [List.getElem?_cons_succ] at hj; obtain ⟨d, hd, e⟩ := shs_get hj; subst e; exact f2 }
/-- where a def stands in the program's text -/
structure FdText (Γ : Gm) (K : PySem.W.Frag) (f : Nat) (d : Df) (a : Addr) (fdt : FuncData) : Prop where
  text : ∃ (x qual : Str) (params : Arguments) (body : List Stmt) (scope : Scope), FunD K x qual params body scope [] [] a fdt ∧ FnScope d.N d.ps scope ∧ chB Γ d.N d.fx d.body scope body = true
  len : d.ps.length ≤ d.N.length
  bind : Binds K fdt d.ps []
  kw : ∀ n kn, (f, n, kn) ∈ Γ.kws → KwTo K fdt d.ps n kn
theorem sco_of {qual : Str} {scope : Scope} {N : List Str} {f : Addr} {cdv : Value} {A : Around} {outer : List PySem.Env} {s : Shared} {H : Hp} {E : XK} {CX : CXT} (hk : scope.kind = .function) : ScOk (cxOf CX prog w K mg base N qual scope f cdv A outer s H E) scope :=
  ⟨hk, fun x k _ e => e, fun x e => .inl e, fun x e => rfl⟩
theorem fn_ok {f : Nat} {d : Df} {a : Addr} {fdt : FuncData} (gb : Gb Γ (T.pg (runP T k)) CA (2 * k + 1) prog w K mg base) (hd : T.defs[f]? = some d) (hh : d.hand = none) (hk : ∀ c, d.kd ≠ .mk c) (F : FdText Γ K f d a fdt) :
    FnG T.rep prog w K mg base (L2.CX prog w) (2 * (k + 1) + 1) a fdt d.ps (spD K CA d.ps.length (runP T (k + 1) f)) := by
  obtain ⟨x, qual, params, body, scope, FD, FS, hc⟩ := F.text
  refine FnG.body (k := 2 * k + 2) FD FS (fun vs H Q E h => h.1) fun cdv A outer s H vs Q E room h => ?_
  obtain ⟨hl, G, ds, l, r, h⟩ := h
  let _ := frameOf d.fx (L2.start d.N vs)
  have hds : ds.length = d.ps.length := by rw [← r.length]; exact hl
  have er : runP T (k + 1) f ds = outFn (exB (T.pg (runP T k)) d.body (env0 d.N (shs ds))) := by
    have e1 : runP T (k + 1) f ds = stepF T (runP T k) d ds := by show (match T.defs[f]? with | some d => stepF T (runP T k) d ds | none => FR.no) = _; rw [hd]
    rw [e1]
    unfold stepF
    rw [hh]
    cases hkd : d.kd with
    | fn => dsimp only; rw [if_pos hds]
    | mt c => dsimp only; rw [if_pos hds]
    | mk c => exact absurd hkd (hk c)
  have gd : Gd Γ (T.pg (runP T k)) CA (2 * k + 1) d.N d.fx (cxOf (L2.CX prog w) prog w K mg base d.N qual scope a cdv A outer s H E) scope (fun cls dd _ H => E cls dd H) :=
    { calm := rfl, fix := fun i hi => hi, hN := rfl, nd := FS.nd, sco := sco_of FS.kind, room := room.1, gd := room.2, tk := takes_of rfl rfl rfl rfl, gb := gb }
  refine ⟨_, sB d.body _ _ _ _ gd ⟨passes_of rfl, rfl, rfl⟩ hc, H, G, G, _, em_start l r (by rw [hds]; exact F.len), ?_⟩
  rw [er] at h
  cases hx : exB (T.pg (runP T k)) d.body (env0 d.N (shs ds)) with
  | no => rw [hx] at h; exact h.elim
  | ex e ρ => rw [hx] at h; exact fun σ H' G' cl dd lg em xr => h H' G' cl dd em.bh lg em.gh em.gb xr
  | ok fl ρ =>
    rw [hx] at h
    cases fl with
    | bk => exact h.elim
    | ct => exact h.elim
    | nx => exact fun σ H' G' lg em => h .non H' G' em.bh lg em.gh em.gb .non
    | rt c => exact fun σ H' G' lg em v rv => h v H' G' em.bh lg em.gh em.gb rv
theorem mk_ok {f : Nat} {d : Df} {a : Addr} {fdt : FuncData} {c : Nat} (gb : Gb Γ (T.pg (runP T k)) CA (2 * k + 1) prog w K mg base) (hd : T.defs[f]? = some d) (hh : d.hand = none) (hk : d.kd = .mk c) (hfx : 0 ∈ d.fx) (F : FdText Γ K f d a fdt) :
    FnG T.rep prog w K mg base (L2.CX prog w) (2 * (k + 1) + 1) a fdt d.ps (spI K CA c d.ps.length (runP T (k + 1) f)) := by
  obtain ⟨x, qual, params, body, scope, FD, FS, hc⟩ := F.text
  refine FnG.body (k := 2 * k + 2) FD FS (fun vs H Q E h => h.1) fun cdv A outer s H vs Q E room h => ?_
  obtain ⟨hl, x, dx, H1, ws, G, ds, ev, eH, hx, hdx, hne, l, r, h⟩ := h
  subst ev
  let _ := frameOf d.fx (L2.start d.N (.ref x :: ws))
  have hds : ds.length + 1 = d.ps.length := by rw [← r.length]; exact hl
  have er : runP T (k + 1) f ds = outMk c (exB (T.pg (runP T k)) d.body (env0 d.N (some (.ow (.ins c [])) :: shs ds))) := by
    have e1 : runP T (k + 1) f ds = stepF T (runP T k) d ds := by show (match T.defs[f]? with | some d => stepF T (runP T k) d ds | none => FR.no) = _; rw [hd]
    rw [e1]
    unfold stepF
    rw [hh]
    dsimp only
    rw [hk]
    dsimp only
    rw [if_pos hds]
  have gd : Gd Γ (T.pg (runP T k)) CA (2 * k + 1) d.N d.fx (cxOf (L2.CX prog w) prog w K mg base d.N qual scope a cdv A outer s H E) scope (fun cls dd _ H => E cls dd H) :=
    { calm := rfl, fix := fun i hi => hi, hN := rfl, nd := FS.nd, sco := sco_of FS.kind, room := room.1, gd := room.2, tk := takes_of rfl rfl rfl rfl, gb := gb }
  refine ⟨_, sB d.body _ _ _ _ gd ⟨passes_of rfl, rfl, rfl⟩ hc, H1, G, G, _, by rw [eH]; exact em_startI l r (by rw [hds]; exact F.len) hx hdx hne, ?_⟩
  rw [er] at h
  cases hx' : exB (T.pg (runP T k)) d.body (env0 d.N (some (.ow (.ins c [])) :: shs ds)) with
  | no => rw [hx'] at h; exact h.elim
  | ex e ρ => rw [hx'] at h; exact fun σ H' G' cl dd lg em xr => h H' G' cl dd em.bh lg em.gh em.gb xr
  | ok fl ρ =>
    rw [hx'] at h
    cases fl with
    | bk => exact h.elim
    | ct => exact h.elim
    | rt c => exact h.elim
    | nx =>
      intro σ H' G' lg em
      unfold outMk at h
      dsimp only at h
      split at h
      · rename_i fr hfr
        split at hfr
        · rename_i c' fs hρ
          by_cases hcc : c' = c
          · rw [if_pos hcc] at hfr; cases hfr
            subst hcc
            obtain ⟨v, h1, h2⟩ := em.sl 0 _ hρ
            have h3 : σ[0]? = (L2.start d.N (.ref x :: ws))[0]? := em.fr 0 hfx
            rw [h3, start_get d.N rfl] at h1
            cases h1
            exact h H' G' em.bh lg em.gh em.gb h2
          · rw [if_neg hcc] at hfr; cases hfr
        · cases hfr
      · rename_i fr hfr
        split at hfr
        · by_cases hcc : ‹Nat› = c
          · simp only [hcc, if_true] at hfr; cases hfr
          · split at hfr <;> cases hfr
        · cases hfr
      · exact h.elim
end
end DL

set_option maxHeartbeats 4000000
/-! DL22: errors' __init__; the whole program at every level. -/
namespace DL
open PySem PySem.Spec PyProof.Rows L2
/-- an error's __init__: each parameter is stored under its name -/
def chX (N : List Str) (sc : Scope) : List Str → Nat → List Stmt → Bool
  | [], _, l => l.isEmpty
  | f :: fs, i, l => (match l with
    | .Assign [.Attribute (.Name y _) f' _] (.Name z _) _ :: l => decide (f' = f) && (varB N 0 sc y && (varB N i sc z && chX N sc fs (i + 1) l))
    | _ => false)
section
variable {Γ : Gm} {T : Tbl} {CA : Nat → Addr} {k : Nat} {prog : Program} {w : World} {K : PySem.W.Frag} {mg : Str → Option Value} {base : Heap}
/-- the stores behind the first one -/
def tX2 (C : Addr) (fs : List Str) (i : Nat) : TS := fun D σ H => ∃ a dx vs done, σ[0]? = some (some (.ref a)) ∧ (∀ (j : Nat) (v : V), vs[j]? = some v → σ[i + j]? = some (some v)) ∧ vs.length = fs.length ∧ done.length + fs.length ≤ 900 ∧ dx ≠ a ∧
  H a = some (exo a C (some dx)) ∧ H dx = some (exd dx done) ∧ D.nx σ (upd H dx (exd dx ((fs.zip vs).reverse ++ done)))
theorem xs2 {X : Cx} {N : List Str} {sc : Scope} {C : Addr} (hN : X.N = N) (sco : ScOk X sc) (T : OexC X.K C) : ∀ (fs : List Str) (i : Nat) (l : List Stmt), (∀ f ∈ fs, PySem.W.findIn X.K (.ref C) f = some none) → chX N sc fs i l = true → PSs X l (tX2 C fs i)
  | [], i, l, hf, h => by
    unfold chX at h
    cases l with
    | nil =>
      refine PSs.weak pss_nil fun D σ H ⟨a, dx, vs, done, h1, h2, h3, h4, h5, h6, h7, q⟩ => ?_
      have e : upd H dx (exd dx ((([] : List Str).zip vs).reverse ++ done)) = H := by
        funext b
        by_cases z : b = dx
        · subst z; rw [upd_same, h7]; rfl
        · rw [upd_ne z]
      rw [e] at q
      exact q
    | cons _ _ => cases h
  | f :: fs, i, l, hf, h => by
    unfold chX at h
    split at h
    · obtain ⟨h1, h⟩ := and_t h
      obtain ⟨h2, h⟩ := and_t h
      obtain ⟨h3, h4⟩ := and_t h
      have e := of_decide_eq_true h1; subst e
      refine PSs.weak (pss_cons (ps_ost (varB_sc hN sco h2) (varB_sc hN sco h3) att_swaps) (xs2 hN sco T fs (i + 1) _ (fun g hg => hf g (List.mem_cons_of_mem _ hg)) h4)) fun D σ H ⟨a, dx, vs, done, h1, h2, h3, h4, h5, h6, h7, q⟩ => ?_
      cases vs with
      | nil => cases h3
      | cons v vs =>
        refine ⟨v, h2 0 v rfl, .ref a, h1, a, C, rfl, T, hf _ List.mem_cons_self, .inr ⟨dx, done, h6, h7, by rw [List.length_cons] at h4; omega, a, dx, vs, (_, v) :: done, h1, fun j u hu => ?_, by simpa using h3, by rw [List.length_cons] at h4 ⊢; omega, h5, ?_, upd_same, ?_⟩⟩
        · rw [Nat.add_right_comm]; exact h2 (j + 1) u (by rw [List.getElem?_cons_succ]; exact hu)
        · rw [upd_ne (Ne.symm h5)]; exact h6
        · rw [upd_upd]
          rw [List.zip_cons_cons, List.reverse_cons, List.append_assoc] at q
          exact q
    · cases h
structure XcText (CA : Nat → Addr) (K : PySem.W.Frag) (mg : Str → Option Value) (c : Nat) (nm : Str) (fs : List Str) (a : Addr) (fdt : FuncData) : Prop where
  text : ∃ (x qual : Str) (params : Arguments) (body : List Stmt) (scope : Scope), FunD K x qual params body scope [] [] a fdt ∧ FnScope ("self" :: fs) ("self" :: fs) scope ∧ chX ("self" :: fs) scope fs 1 body = true
  bind : Binds K fdt ("self" :: fs) []
  oex : OexC K (CA (1000 + c))
  ini : PySem.W.findIn K (.ref (CA (1000 + c))) "__init__" = some (some (.ref a))
  tin : PySem.W.typeIn K (.ref a) = some (.type "function")
  at_ : mg nm = some (.ref (CA (1000 + c)))
  non : ∀ f ∈ fs, PySem.W.findIn K (.ref (CA (1000 + c))) f = some none
  pos : 0 < fs.length
  few : fs.length ≤ 100
theorem xc_ok {c : Nat} {nm : Str} {fs : List Str} {a : Addr} {fdt : FuncData} (F : XcText CA K mg c nm fs a fdt) (hk : 1 ≤ k) : XcOk CA k prog w K mg base c nm fs a fdt ("self" :: fs) := by
  obtain ⟨x, qual, params, body, scope, FD, FS, hc⟩ := F.text
  refine ⟨F.oex, F.ini, F.tin, FnOk.mono (j := 1) ?_ hk, F.bind, F.at_⟩
  refine FD.ok (k := 0) FS (fun vs H Q E h => by rw [List.length_cons]; exact h.1) fun cdv A outer s H vs Q E room h => ?_
  obtain ⟨hl, p, ws, H1, ev, hp, eH, h⟩ := h
  subst ev
  have hl : ws.length = fs.length := by simpa using hl
  have sco : ScOk (cxOf (L2.CX prog w) prog w K mg base ("self" :: fs) qual scope a cdv A outer s H E) scope := sco_of FS.kind
  have hnon := F.non
  have hpos := F.pos
  have hfew := F.few
  cases fs with
  | nil => simp at hpos
  | cons f fs =>
    cases ws with
    | nil => cases hl
    | cons v ws =>
      unfold chX at hc
      split at hc
      · obtain ⟨h1, hc⟩ := and_t hc
        obtain ⟨h2, hc⟩ := and_t hc
        obtain ⟨h3, h4⟩ := and_t hc
        have e := of_decide_eq_true h1
        rw [e]
        refine ⟨_, pss_cons (ps_ost (varB_sc rfl sco h2) (varB_sc rfl sco h3) att_swaps) (xs2 rfl sco F.oex fs 2 _ (fun g hg => hnon g (List.mem_cons_of_mem _ hg)) h4), ?_⟩
        have s0 : (L2.start ("self" :: f :: fs) (.ref p :: v :: ws))[0]? = some (some (.ref p)) := start_get _ rfl
        have s1 : (L2.start ("self" :: f :: fs) (.ref p :: v :: ws))[1]? = some (some v) := start_get _ rfl
        refine ⟨v, s1, .ref p, s0, p, CA (1000 + c), rfl, F.oex, hnon _ List.mem_cons_self, .inl ⟨by rw [eH]; exact upd_same, fun dx hdx hne => ⟨p, dx, ws, [(f, v)], s0, fun j u hu => start_get _ (by rw [Nat.add_comm]; exact hu), by simpa using hl, by simp only [List.length_cons, List.length_nil] at hfew ⊢; omega, hne, upd_same, ?_, ?_⟩⟩⟩
        · rw [upd_ne hne, upd_same]
        · have hd1 : H1 dx = none := by rw [eH, upd_ne hne] at hdx; exact hdx
          refine h _ dx (fun b o hb => ?_) hd1 ?_ ?_
          · rw [upd_ne (ne_of_none hb hd1), upd_ne (ne_of_none hb hp), upd_ne (ne_of_none hb hd1), eH, upd_ne (ne_of_none hb hp)]; exact hb
          · rw [upd_ne (Ne.symm hne), upd_same]
          · rw [upd_same, List.zip_cons_cons, List.reverse_cons]
      · cases hc
end
end DL

set_option maxHeartbeats 4000000
/-! DL23: the whole program at every level. -/
namespace DL
open PySem PySem.Spec PyProof.Rows L2
/-- what is known of the program, once and for all -/
structure PFacts (Γ : Gm) (T : Tbl) (CA : Nat → Addr) (K : PySem.W.Frag) (mg : Str → Option Value) (AF : Nat → Addr) (FT : Nat → FuncData) (XA : Nat → Addr) (XF : Nat → FuncData) : Prop where
  fds : Γ.fds = T.defs.map fun d => ⟨d.nm, d.kd, d.ps⟩
  rp : Γ.rep = T.rep
  rpe : T.rep = true → T.eqs = []
  con : ∀ (n : Nat) (x : Str), Γ.con[n]? = some x → ∃ (d : D) (v : V) (u : Value), T.con[n]? = some d ∧ mg x = some u ∧ RelV v u ∧ ∀ G, Rep K CA G v d
  blt : ∀ x, x ∈ Γ.blt → mg x = none
  clx : ∀ c, c < T.ncls → ClsX K (CA c)
  noat : ∀ c, c < T.ncls → ∀ n, n ∈ Γ.ats → NoAttr K (CA c) n
  cls : ∀ (c : Nat) (x : Str), Γ.cls[c]? = some x → mg x = some (.ref (CA c))
  kit : ∀ t, t ∈ Γ.tys → ∀ S x, tyNm Γ t = some (S, x) → KitOk K CA T.ncls t (match S, t with
    | some s, _ => .type s
    | none, .cls c => .ref (CA c)
    | none, _ => .none)
  txt : ∀ (f : Nat) (d : Df), T.defs[f]? = some d → d.hand = none → FdText Γ K f d (AF f) (FT f)
  bnd : ∀ (f : Nat) (d : Df), T.defs[f]? = some d → Binds K (FT f) d.ps []
  kw : ∀ (f n : Nat) (kn : List Str) (d : Df), (f, n, kn) ∈ Γ.kws → T.defs[f]? = some d → KwTo K (FT f) d.ps n kn
  fn : ∀ (f : Nat) (d : Df), T.defs[f]? = some d → kdFn d.kd = true → mg d.nm = some (.ref (AF f)) ∧ PySem.W.keepIn K (.ref (AF f)) = true
  mt : ∀ (f : Nat) (d : Df) (c : Nat), T.defs[f]? = some d → kdMt d.kd c = true → Meth K (CA c) d.nm (AF f) ∧ Cls K (CA c)
  mke : ∀ (f : Nat) (d : Df) (c : Nat), T.defs[f]? = some d → kdMk d.kd c = true → Mk K (CA c) (AF f) ∧ mg d.nm = some (.ref (CA c)) ∧ 0 ∈ d.fx ∧ d.hand = none ∧ 0 < d.ps.length
  eqs : ∀ (c f : Nat), T.eqs.lookup c = some f → ∃ d, T.defs[f]? = some d ∧ kdMt d.kd c = true ∧ d.ps.length = 2 ∧ PySem.W.findIn K (.ref (CA c)) "__eq__" = some (some (.ref (AF f))) ∧ PySem.W.isFn K (.ref (AF f)) = true
  xc : ∀ (c : Nat) (nm : Str) (fs : List Str), Γ.xcs[c]? = some (nm, fs) → T.xs[c]? = some fs ∧ XcText CA K mg c nm fs (XA c) (XF c)
  gx : ∀ call, Gx Γ (T.pg call) CA K mg
  eqy : ∀ (k c f : Nat), T.eqs.lookup c = some f → ∀ fs y, runP T k f [.ins c fs, y] = .ok (.sh (.bl true)) → ∃ gs, y = .ins c gs
/-- what is shown by hand -/
def Hands (Γ : Gm) (T : Tbl) (CA : Nat → Addr) (prog : Program) (w : World) (K : PySem.W.Frag) (mg : Str → Option Value) (base : Heap) (AF : Nat → Addr) (FT : Nat → FuncData) : Prop :=
  ∀ k, Gb Γ (T.pg (runP T k)) CA (2 * k + 1) prog w K mg base → ∀ (f : Nat) (d : Df) h, T.defs[f]? = some d → d.hand = some h → FnG T.rep prog w K mg base (L2.CX prog w) (2 * (k + 1) + 1) (AF f) (FT f) d.ps (spD K CA d.ps.length (runP T (k + 1) f))
section
variable {Γ : Gm} {T : Tbl} {CA : Nat → Addr} {prog : Program} {w : World} {K : PySem.W.Frag} {mg : Str → Option Value} {base : Heap} {AF : Nat → Addr} {FT : Nat → FuncData} {XA : Nat → Addr} {XF : Nat → FuncData}
theorem kdMk_eq {d : Kd} {c : Nat} (h : kdMk d c = true) : d = .mk c := by
  cases d with
  | mk e => rw [of_decide_eq_true (show decide (e = c) = true from h)]
  | _ => cases h
theorem kdMt_eq {d : Kd} {c : Nat} (h : kdMt d c = true) : d = .mt c := by
  cases d with
  | mt e => rw [of_decide_eq_true (show decide (e = c) = true from h)]
  | _ => cases h
theorem kdFn_eq {d : Kd} (h : kdFn d = true) : d = .fn := by
  cases d with
  | fn => rfl
  | _ => cases h
theorem run_len {f : Nat} {d : Df} (hd : T.defs[f]? = some d) (hk : ∀ c, d.kd ≠ .mk c) : ∀ (k : Nat) (ds : List D), runP T k f ds ≠ .no → ds.length = d.ps.length
  | 0, ds, h => absurd rfl h
  | k + 1, ds, h => by
    have e1 : runP T (k + 1) f ds = stepF T (runP T k) d ds := by show (match T.defs[f]? with | some d => stepF T (runP T k) d ds | none => FR.no) = _; rw [hd]
    rw [e1] at h
    unfold stepF at h
    by_cases hl : ds.length = d.ps.length
    · exact hl
    · exfalso
      cases hh : d.hand with
      | some g => rw [hh] at h; cases hkd : d.kd with
        | mk c => exact hk c hkd
        | _ => rw [hkd] at h; dsimp only at h; rw [if_neg hl] at h; exact h rfl
      | none => rw [hh] at h; cases hkd : d.kd with
        | mk c => exact hk c hkd
        | _ => rw [hkd] at h; dsimp only at h; rw [if_neg hl] at h; exact h rfl
theorem run_lenI {f : Nat} {d : Df} {c : Nat} (hd : T.defs[f]? = some d) (hk : d.kd = .mk c) : ∀ (k : Nat) (ds : List D), runP T k f ds ≠ .no → ds.length + 1 = d.ps.length
  | 0, ds, h => absurd rfl h
  | k + 1, ds, h => by
    have e1 : runP T (k + 1) f ds = stepF T (runP T k) d ds := by show (match T.defs[f]? with | some d => stepF T (runP T k) d ds | none => FR.no) = _; rw [hd]
    rw [e1] at h
    unfold stepF at h
    by_cases hl : ds.length + 1 = d.ps.length
    · exact hl
    · exfalso
      cases hh : d.hand with
      | some g => rw [hh] at h; dsimp only at h; rw [hk] at h; exact h rfl
      | none => rw [hh] at h; dsimp only at h; rw [hk] at h; dsimp only at h; rw [if_neg hl] at h; exact h rfl
theorem run_own {f : Nat} {d : Df} {c : Nat} (hd : T.defs[f]? = some d) (hk : d.kd = .mk c) : ∀ (k : Nat) (ds : List D) (c' : Cell), runP T k f ds = .ok c' → ∃ fs, c' = .ow (.ins c fs)
  | 0, ds, c', h => by cases h
  | k + 1, ds, c', h => by
    have e1 : runP T (k + 1) f ds = stepF T (runP T k) d ds := by show (match T.defs[f]? with | some d => stepF T (runP T k) d ds | none => FR.no) = _; rw [hd]
    rw [e1] at h
    unfold stepF at h
    cases hh : d.hand with
    | some g => rw [hh] at h; dsimp only at h; rw [hk] at h; cases h
    | none =>
      rw [hh] at h; dsimp only at h; rw [hk] at h; dsimp only at h
      split at h
      · unfold outMk at h
        split at h
        · split at h
          · split at h
            · cases h; exact ⟨_, rfl⟩
            · cases h
          · cases h
        · cases h
        · cases h
      · cases h
/-- below every level nothing is promised -/
theorem fn_no {k : Nat} {a : Addr} {fdt : FuncData} {ps : List Str} {g : List D → FR} (h : ∀ ds, g ds = .no) : FnG T.rep prog w K mg base (L2.CX prog w) k a fdt ps (spD K CA ps.length g) where
  len := fun vs H Q E z => z.1
  run := fun A outer s H args us vs Q E _ _ _ _ z => by
    obtain ⟨_, G, ds, _, _, z⟩ := z
    rw [h ds] at z; exact z.elim
theorem fn_noI {k : Nat} {a : Addr} {fdt : FuncData} {ps : List Str} {c : Nat} {g : List D → FR} (h : ∀ ds, g ds = .no) : FnG T.rep prog w K mg base (L2.CX prog w) k a fdt ps (spI K CA c ps.length g) where
  len := fun vs H Q E z => z.1
  run := fun A outer s H args us vs Q E _ _ _ _ z => by
    obtain ⟨_, x, dx, H1, ws, G, ds, _, _, _, _, _, _, _, z⟩ := z
    rw [h ds] at z; exact z.elim
theorem fds_get (F : PFacts Γ T CA K mg AF FT XA XF) {f : Nat} {d : Fd} (h : Γ.fds[f]? = some d) : ∃ e, T.defs[f]? = some e ∧ d = ⟨e.nm, e.kd, e.ps⟩ := by
  rw [F.fds, List.getElem?_map] at h
  cases he : T.defs[f]? with
  | none => rw [he] at h; cases h
  | some e => rw [he] at h; cases h; exact ⟨e, rfl, rfl⟩
/-- from what the defs promise at level k -/
theorem gb_of (F : PFacts Γ T CA K mg AF FT XA XF) (k j : Nat) (hj : 1 ≤ j)
    (h1 : ∀ f d, T.defs[f]? = some d → (∀ c, d.kd ≠ .mk c) → FnG T.rep prog w K mg base (L2.CX prog w) j (AF f) (FT f) d.ps (spD K CA d.ps.length (runP T k f)))
    (h2 : ∀ f d c, T.defs[f]? = some d → d.kd = .mk c → FnG T.rep prog w K mg base (L2.CX prog w) j (AF f) (FT f) d.ps (spI K CA c d.ps.length (runP T k f))) : Gb Γ (T.pg (runP T k)) CA j prog w K mg base where
  rp := F.rp
  con := F.con
  blt := F.blt
  fn := fun f d hd hk => by
    obtain ⟨e, he, ed⟩ := fds_get F hd
    subst ed
    have hk' : e.kd = .fn := kdFn_eq hk
    have hn : ∀ c, e.kd ≠ .mk c := fun c z => by rw [hk'] at z; cases z
    obtain ⟨a1, a2⟩ := F.fn f e he hk
    exact ⟨AF f, FT f, ⟨⟨F.bnd f e he, fun n kn h => F.kw f n kn e h he, run_len he hn k, by show (T.defs.map (·.ps))[f]? = _; rw [List.getElem?_map, he]; rfl⟩, a1, a2, h1 f e he hn⟩⟩
  mt := fun f d c hd hk => by
    obtain ⟨e, he, ed⟩ := fds_get F hd
    subst ed
    have hk' : e.kd = .mt c := kdMt_eq hk
    have hn : ∀ c, e.kd ≠ .mk c := fun c z => by rw [hk'] at z; cases z
    obtain ⟨a1, a2⟩ := F.mt f e c he hk
    exact ⟨AF f, FT f, ⟨⟨F.bnd f e he, fun n kn h => F.kw f n kn e h he, run_len he hn k, by show (T.defs.map (·.ps))[f]? = _; rw [List.getElem?_map, he]; rfl⟩, a1, a2, h1 f e he hn⟩⟩
  mke := fun f d c hd hk => by
    obtain ⟨e, he, ed⟩ := fds_get F hd
    subst ed
    have hk' : e.kd = .mk c := kdMk_eq hk
    obtain ⟨a1, a2, a3, a4, a5⟩ := F.mke f e c he hk
    exact ⟨AF f, FT f, ⟨F.bnd f e he, fun n kn h => F.kw f n kn e h he, run_lenI he hk' k, by show (T.defs.map (·.ps))[f]? = _; rw [List.getElem?_map, he]; rfl, a1, a5, a2, run_own he hk' k, h2 f e c he hk'⟩⟩
  clx := F.clx
  noat := F.noat
  cls := F.cls
  kit := F.kit
  eqs := fun c f h => by
    obtain ⟨d, hd, hk, hl, e1, e2⟩ := F.eqs c f h
    have hn : ∀ c, d.kd ≠ .mk c := fun c' z => by rw [kdMt_eq hk] at z; cases z
    refine ⟨AF f, FT f, d.ps, ?_, e1, e2, F.bnd f d hd⟩
    have := h1 f d hd hn
    rw [hl] at this
    cases hre : T.rep with
    | true =>
      have h : T.eqs.lookup c = some f := h
      rw [F.rpe hre] at h; cases h
    | false => rw [hre] at this; exact this.toOk
  xc := fun c nm fs h => by
    obtain ⟨e1, X⟩ := F.xc c nm fs h
    exact ⟨e1, X.few, XA c, XF c, "self" :: fs, xc_ok X hj⟩
  gx := F.gx _
  eqy := fun c f h fs y hy => F.eqy k c f h fs y hy
theorem gb_all (F : PFacts Γ T CA K mg AF FT XA XF) (HD : Hands Γ T CA prog w K mg base AF FT) : ∀ k, Gb Γ (T.pg (runP T k)) CA (2 * k + 1) prog w K mg base
  | 0 => gb_of F 0 1 (Nat.le_refl _) (fun f d hd hk => fn_no fun ds => rfl) (fun f d c hd hk => fn_noI fun ds => rfl)
  | k + 1 => by
    have ih := gb_all F HD k
    refine gb_of F (k + 1) (2 * (k + 1) + 1) (by omega) (fun f d hd hk => ?_) (fun f d c hd hk => ?_)
    · cases hh : d.hand with
      | none => exact fn_ok ih hd hh hk (F.txt f d hd hh)
      | some g => exact HD k ih f d g hd hh
    · obtain ⟨a1, a2, a3, a4, a5⟩ := F.mke f d c hd (by rw [hk]; exact decide_eq_true rfl)
      exact mk_ok ih hd a4 hk a3 (F.txt f d hd a4)
end
end DL

set_option maxHeartbeats 4000000
/-! DL24: the facts of a program as one Bool over what the head shows. -/
namespace DL
open PySem PySem.Spec PyProof.Rows L2
section
variable {K : PySem.W.Frag}
theorem clxB_ok {C : Addr} (c : Cls K C) (h : clxB K C = true) : ClsX K C := by
  obtain ⟨h1, h⟩ := and_t h
  obtain ⟨h2, h⟩ := and_t h
  obtain ⟨h3, h4⟩ := and_t h
  exact ⟨c, He.eqO_ok h1, He.eqO_ok h2, of_decide_eq_true h3, of_decide_eq_true h4⟩
theorem tyD_smp (t : Ty) : (∀ b, tyD (.bl b) t = tyD (.bl true) t) ∧ (∀ i, tyD (.int i) t = tyD (.int 0) t) ∧ (∀ x, tyD (.str x) t = tyD (.str "") t) ∧ (∀ x, tyD (.tup x) t = tyD (.tup []) t) ∧ (∀ x, tyD (.lst x) t = tyD (.lst []) t) ∧ (∀ x, tyD (.dct x) t = tyD (.dct []) t) ∧ ∀ c x, tyD (.ins c x) t = tyD (.ins c []) t := by
  cases t <;> exact ⟨fun _ => rfl, fun _ => rfl, fun _ => rfl, fun _ => rfl, fun _ => rfl, fun _ => rfl, fun _ _ => rfl⟩
theorem kitB_ok {CA : Nat → Addr} {n : Nat} {t : Ty} {u : Value} (h : kitB K CA n t u = true) : KitOk K CA n t u := by
  obtain ⟨h1, h2⟩ := and_t h
  rw [List.all_eq_true] at h1 h2
  have g := fun d (hd : d ∈ smp) => of_decide_eq_true (h1 d hd)
  obtain ⟨t1, t2, t3, t4, t5, t6, t7⟩ := tyD_smp t
  intro d hd
  cases d with
  | non => exact g _ (by simp [smp])
  | bl b => rw [t1]; exact g (.bl true) (by simp [smp])
  | int b => rw [t2]; exact g (.int 0) (by simp [smp])
  | str b => rw [t3]; exact g (.str "") (by simp [smp])
  | tup b => rw [t4]; exact g (.tup []) (by simp [smp])
  | lst b => rw [t5]; exact g (.lst []) (by simp [smp])
  | dct b => rw [t6]; exact g (.dct []) (by simp [smp])
  | ins c b => rw [t7]; exact of_decide_eq_true (h2 c (List.mem_range.mpr (of_decide_eq_true hd)))
theorem oexB_ok {C : Addr} (h : oexB K C = true) : OexC K C := by
  obtain ⟨h1, h⟩ := and_t h
  obtain ⟨h2, h⟩ := and_t h
  obtain ⟨h3, h⟩ := and_t h
  obtain ⟨h4, h5⟩ := and_t h
  refine ⟨?_, He.eqO_ok h2, of_decide_eq_true h3, of_decide_eq_true h4, h5⟩
  split at h1
  · rename_i dd cd sl hl
    split at h1
    · rename_i C' bm k0 k1 k2 k3 n k5 hm hs
      obtain ⟨a1, h1⟩ := and_t h1
      obtain ⟨a2, h1⟩ := and_t h1
      obtain ⟨a3, h1⟩ := and_t h1
      obtain ⟨a4, a5⟩ := and_t h1
      have e1 := beq_iff_eq.mp a1
      have e2 := beq_iff_eq.mp a2
      subst e1 e2
      refine ⟨cd.name, cd.qualname, cd.ns, cd.bases, bm, cd.slotNames, cd.subclasses, cd.abstract, cd.collection, dd, k0, k1, k2, k3, k5, ?_, a5⟩
      rw [hl]
      have es : sl = #[k0, k1, k2, k3, some (.builtin "ValueError.__new__"), k5] := by
        have := congrArg List.toArray hs
        simpa using this
      subst es
      cases cd with
      | mk name bases mro ns qualname hasDict slotNames subclasses abstract collection hasDel =>
        dsimp only at hm a3 a4 ⊢
        subst hm
        have e3 : hasDel = false := by simpa using a3
        subst e3 a4
        rfl
    · cases h1
  · cases h1
end
end DL

set_option maxHeartbeats 4000000
/-! DL25: the facts of a program, from its tables. -/
namespace DL
open PySem PySem.Spec PyProof.Rows L2
theorem xccB_ok {K : PySem.W.Frag} {D : Addr} (h : xccB K D = true) : XcC K D := by
  obtain ⟨h1, h⟩ := and_t h
  obtain ⟨h2, h⟩ := and_t h
  obtain ⟨h3, h⟩ := and_t h
  obtain ⟨h4, h⟩ := and_t h
  obtain ⟨h5, h6⟩ := and_t h
  have x := xfB_ok h1
  exact ⟨⟨x.ga, x.gg, x.exC, x.hdC, of_decide_eq_true h2, of_decide_eq_true h3, of_decide_eq_true h4, of_decide_eq_true h5⟩, h6⟩
section
variable (Γ : Gm) (T : Tbl) (S : Nms)
/-- the plain conditions, by evaluation -/
def okB : Bool := ((Γ.rep == T.rep) && (!T.rep || T.eqs.isEmpty)) && ((decide (Γ.xns = S.xn)) && ((T.ncls == Γ.cls.length) && ((S.txs.length == Γ.con.length) && ((S.txs.all fun x => sOk x) && ((decide (T.con.length = S.txs.length)) && ((T.defs.all fun d => match d.kd with
    | .fn => true
    | .mt c => decide (c < 1000) && decide (c < Γ.cls.length)
    | .mk c => decide (c < 1000) && (decide (Γ.cls[c]? = some d.nm) && (decide (0 ∈ d.fx) && (d.hand.isNone && decide (0 < d.ps.length))))) &&
  ((decide (Γ.xcs.length ≤ S.xn.length)) && ((decide (Γ.cls.length ≤ 1000)) && (T.eqs.all fun q => match T.defs[q.2]? with
    | some d => (match d.kd with
      | .mt c => decide (c = q.1)
      | _ => false) && decide (d.ps.length = 2)
    | none => false)))))))))
end
/-- what the head tells of the text -/
structure TxOk (Γ : Gm) (T : Tbl) (S : Nms) (fn : List He.DefD) : Prop where
  defs : ∀ (f : Nat) (d : Df), T.defs[f]? = some d → ∃ dd, fn[f]? = some dd ∧ dd.at_ = atD Γ S d ∧ dd.dfl = [] ∧ dd.kwd = [] ∧ d.ps.length ≤ d.N.length ∧ (d.hand = none → FnScope d.N d.ps dd.scope ∧ chB Γ d.N d.fx d.body dd.scope dd.body = true) ∧
    ∀ (kV doc pm : Value) (an : Option Addr) (cdv ct : Value) (us : List Value), us.length = d.ps.length → bindArgs (PySem.W.fnOf dd.name dd.qual dd.params dd.body dd.scope .none kV doc pm an cdv ct) ⟨us, []⟩ = pure (d.ps.zip us)
  kws : ∀ (f n : Nat) (kn : List Str) (d : Df), (f, n, kn) ∈ Γ.kws → T.defs[f]? = some d → ∀ dd, fn[f]? = some dd → ∀ (kV doc pm : Value) (an : Option Addr) (cdv ct : Value) (us ws zs : List Value), us.length = n → arr d.ps us kn ws = some zs →
    bindArgs (PySem.W.fnOf dd.name dd.qual dd.params dd.body dd.scope .none kV doc pm an cdv ct) ⟨us, kn.zip ws⟩ = pure (d.ps.zip zs)
  xcs : ∀ (c : Nat) (nm : Str) (fs : List Str), Γ.xcs[c]? = some (nm, fs) → T.xs[c]? = some fs ∧ S.xn[c]? = some nm ∧ 0 < fs.length ∧ fs.length ≤ 100 ∧ ∃ dd, dd ∈ fn ∧ dd.at_ = (nm, some ("__init__" : Str)) ∧ dd.dfl = [] ∧ dd.kwd = [] ∧ FnScope ("self" :: fs) ("self" :: fs) dd.scope ∧ chX ("self" :: fs) dd.scope fs 1 dd.body = true ∧
    ∀ (kV doc pm : Value) (an : Option Addr) (cdv ct : Value) (us : List Value), us.length = fs.length + 1 → bindArgs (PySem.W.fnOf dd.name dd.qual dd.params dd.body dd.scope .none kV doc pm an cdv ct) ⟨us, []⟩ = pure ((("self" : Str) :: fs).zip us)
  con : ∀ (n : Nat) (x : Str), S.txs[n]? = some x → T.con[n]? = some (D.str x)
def ftK (K : PySem.W.Frag) (a : Addr) : FuncData := match K.lookup a with
  | some ⟨_, _, .func fd, _⟩ => fd
  | _ => default
theorem ft_eq {K : PySem.W.Frag} {x qual : Str} {params : Arguments} {body : List Stmt} {scope : Scope} {dvs : List V} {kws : List (Str × V)} {a : Addr} {fd : FuncData} (F : FunD K x qual params body scope dvs kws a fd) : ftK K a = fd := by
  obtain ⟨oc, od, dV, kV, doc, pm, an, cdv, ct, osl, _, lk, _⟩ := F.ex
  unfold ftK
  rw [lk]
theorem kw_of {K : PySem.W.Frag} {x qual : Str} {params : Arguments} {body : List Stmt} {scope : Scope} {a : Addr} {fd : FuncData} {ps : List Str} {n : Nat} {kn : List Str} (F : FunD K x qual params body scope [] [] a fd)
    (h : ∀ (kV doc pm : Value) (an : Option Addr) (cdv ct : Value) (us ws zs : List Value), us.length = n → arr ps us kn ws = some zs → bindArgs (PySem.W.fnOf x qual params body scope .none kV doc pm an cdv ct) ⟨us, kn.zip ws⟩ = pure (ps.zip zs)) : KwTo K fd ps n kn := fun s us ws zs hs hl ha => by
  obtain ⟨oc, od, dV, kV, doc, pm, an, cdv, ct, osl, rfl, lk, hcd, hD, hK⟩ := F.ex
  rcases hD with ⟨_, rfl⟩ | ⟨e, _⟩
  · exact .of_eq (h kV doc pm an cdv ct us ws zs hl ha)
  · exact absurd rfl e
theorem arr_len {α : Type} {ps : List Str} {us : List α} {kn : List Str} {ws zs : List α} (h : arr ps us kn ws = some zs) : ws.length = kn.length := by
  unfold arr at h
  split at h
  · assumption
  · cases h
section
variable {Γ : Gm} {T : Tbl} {S : Nms} {fn : List He.DefD} {K : PySem.W.Frag} {h : Heap} {mg : Str → Option Value}
theorem atF_eq {f : Nat} {d : Df} (hd : T.defs[f]? = some d) : atF Γ T S f = atD Γ S d := by unfold atF; rw [hd]
theorem pfacts (X : K.In h) (G : h.Ns mainGlobals mg) (c : He.SaysD (mkFa Γ T S) fn K) (hex : mkEx Γ T S K = true) (ok : okB Γ T S = true) (tx : TxOk Γ T S fn)
    (eqy : ∀ (k c f : Nat), T.eqs.lookup c = some f → ∀ fs y, runP T k f [.ins c fs, y] = .ok (.sh (.bl true)) → ∃ gs, y = .ins c gs) (hfds : Γ.fds = T.defs.map fun d => ⟨d.nm, d.kd, d.ps⟩) :
    PFacts Γ T (caK Γ S K) K mg (afK Γ T S K) (fun f => ftK K (afK Γ T S K f)) (xaK Γ S K) (fun c => ftK K (xaK Γ S K c)) := by
  have fact := fun {f : He.Fa} (hf : f ∈ mkFa Γ T S) => c.facts hf
  unfold okB at ok
  obtain ⟨orp, ok⟩ := and_t ok
  obtain ⟨orp1, orp2⟩ := and_t orp
  obtain ⟨o0, ok⟩ := and_t ok
  have exn := of_decide_eq_true o0
  obtain ⟨o1, ok⟩ := and_t ok
  obtain ⟨o2, ok⟩ := and_t ok
  obtain ⟨o3, ok⟩ := and_t ok
  obtain ⟨o4, ok⟩ := and_t ok
  obtain ⟨o5, ok⟩ := and_t ok
  obtain ⟨o6, ok⟩ := and_t ok
  obtain ⟨o7, o8⟩ := and_t ok
  rw [List.all_eq_true] at o3 o5 o8
  have ncl : T.ncls = Γ.cls.length := beq_iff_eq.mp o1
  have clen : Γ.cls.length ≤ 1000 := of_decide_eq_true o7
  unfold mkEx at hex
  obtain ⟨x0, hex⟩ := and_t hex
  obtain ⟨x1, hex⟩ := and_t hex
  obtain ⟨x2, hex⟩ := and_t hex
  obtain ⟨x3, x4⟩ := and_t hex
  rw [List.all_eq_true] at x1 x2 x3 x4
  have cn : ∀ {c : Nat} {x : Str}, Γ.cls[c]? = some x → cnm Γ S c = x := fun {c x} hc => by
    have := lt_of_get hc
    unfold cnm
    rw [if_pos (by omega), List.getD_eq_getElem?_getD, hc]; rfl
  have mD : ∀ {f : Nat} {d : Df} {q : He.Fa}, T.defs[f]? = some d → q ∈ faD Γ S d → q ∈ mkFa Γ T S := fun {f d q} hd hq => by
    unfold mkFa
    simp only [List.mem_append]
    exact .inl (.inl (.inl (.inl (.inl (List.mem_flatMap.mpr ⟨d, List.mem_of_getElem? hd, hq⟩)))))
  have mC : ∀ {x : Str} {q : He.Fa}, x ∈ Γ.cls → (q = .cls x ∨ q = .glo x ∨ ∃ a ∈ Γ.ats, q = .noat x a) → q ∈ mkFa Γ T S := fun {x q} hx hq => by
    unfold mkFa
    simp only [List.mem_append]
    refine .inl (.inl (.inl (.inl (.inr (List.mem_flatMap.mpr ⟨x, hx, ?_⟩)))))
    rcases hq with z | z | ⟨a, ha, z⟩
    · subst z; exact List.mem_cons_self
    · subst z; exact List.mem_cons_of_mem _ List.mem_cons_self
    · subst z; exact List.mem_cons_of_mem _ (List.mem_cons_of_mem _ (List.mem_map.mpr ⟨a, ha, rfl⟩))
  have clsAt : ∀ {c : Nat}, c < T.ncls → ∃ x, Γ.cls[c]? = some x ∧ x ∈ Γ.cls ∧ caK Γ S K c = He.ga K x := fun {c} hc => by
    have hc' : c < Γ.cls.length := by omega
    refine ⟨Γ.cls[c], List.getElem?_eq_getElem hc', List.getElem_mem hc', ?_⟩
    unfold caK
    rw [cn (List.getElem?_eq_getElem hc')]
  have funD : ∀ {dd : He.DefD}, dd ∈ fn → dd.dfl = [] → dd.kwd = [] → FunD K dd.name dd.qual dd.params dd.body dd.scope [] [] (He.fAd K dd.at_) (ftK K (He.fAd K dd.at_)) := fun {dd} hd e1 e2 => by
    obtain ⟨fd, F⟩ := c.defs hd
    have e3 : dd.dvs K = [] := by unfold He.DefD.dvs; rw [e1]; rfl
    have e4 : dd.kws K = [] := by unfold He.DefD.kws; rw [e2]; rfl
    rw [e3, e4] at F
    rw [ft_eq F]; exact F
  have defD : ∀ {f : Nat} {d : Df}, T.defs[f]? = some d → ∃ dd, fn[f]? = some dd ∧ FunD K dd.name dd.qual dd.params dd.body dd.scope [] [] (afK Γ T S K f) (ftK K (afK Γ T S K f)) ∧ d.ps.length ≤ d.N.length ∧ (d.hand = none → FnScope d.N d.ps dd.scope ∧ chB Γ d.N d.fx d.body dd.scope dd.body = true) ∧ Binds K (ftK K (afK Γ T S K f)) d.ps [] := fun {f d} hd => by
    obtain ⟨dd, h1, h2, h3, h4, h5, h6, h7⟩ := tx.defs f d hd
    have F := funD (List.mem_of_getElem? h1) h3 h4
    have e : He.fAd K dd.at_ = afK Γ T S K f := by unfold afK; rw [atF_eq hd, h2]
    rw [e] at F
    exact ⟨dd, h1, F, h5, h6, F.bindsN h7⟩
  refine { fds := hfds, rp := beq_iff_eq.mp orp1, rpe := fun z => by rw [z] at orp2; simpa using orp2, con := ?_, blt := ?_, clx := ?_, noat := ?_, cls := ?_, kit := ?_, txt := ?_, bnd := ?_, kw := ?_, fn := ?_, mt := ?_, mke := ?_, eqs := ?_, xc := ?_, gx := fun call => ?_, eqy := eqy }
  · intro n x hx
    have hlt := lt_of_get hx
    have hlt2 : n < S.txs.length := by have := beq_iff_eq.mp o2; omega
    have hm : He.Fa.str x S.txs[n] ∈ mkFa Γ T S := by
      unfold mkFa
      simp only [List.mem_append]
      refine .inl (.inl (.inr (List.mem_map.mpr ⟨(x, S.txs[n]), ?_, rfl⟩)))
      refine List.mem_of_getElem? (i := n) ?_
      rw [List.getElem?_zip_eq_some]
      exact ⟨hx, List.getElem?_eq_getElem hlt2⟩
    obtain ⟨t, ht⟩ := He.str_ok X G (fact hm)
    exact ⟨.str S.txs[n], .str S.txs[n], .str S.txs[n] t, tx.con n _ (List.getElem?_eq_getElem hlt2), ht, ⟨t, rfl⟩, fun G => .str (o3 _ (List.getElem_mem hlt2))⟩
  · intro x hx
    refine He.free_ok X G (fact (f := .free x) ?_)
    unfold mkFa
    simp only [List.mem_append]
    exact .inl (.inl (.inl (.inr (List.mem_map.mpr ⟨x, hx, rfl⟩))))
  · intro i hi
    obtain ⟨x, h1, h2, h3⟩ := clsAt hi
    rw [h3]
    exact clxB_ok (He.cls_ok (fact (mC h2 (.inl rfl)))) (x1 x h2)
  · intro i hi n hn
    obtain ⟨x, h1, h2, h3⟩ := clsAt hi
    rw [h3]
    exact He.noat_ok (fact (mC h2 (.inr (.inr ⟨n, hn, rfl⟩))))
  · intro i x hx
    have h1 := He.glo_ok X G (fact (mC (List.mem_of_getElem? hx) (.inr (.inl rfl))))
    rw [h1]
    unfold caK
    rw [cn hx]
  · intro t ht s x hs
    have hk := kitB_ok (x2 t ht)
    unfold tyU at hk
    rw [hs] at hk
    cases s with
    | some s => exact hk
    | none => cases t <;> exact hk
  · intro f d hd hh
    obtain ⟨dd, h1, F, h5, h6, b⟩ := defD hd
    obtain ⟨s1, s2⟩ := h6 hh
    refine ⟨⟨_, _, _, _, _, F, s1, s2⟩, h5, b, fun n kn hk => kw_of F (tx.kws f n kn d hk hd dd h1)⟩
  · intro f d hd
    obtain ⟨dd, h1, F, h5, h6, b⟩ := defD hd
    exact b
  · intro f n kn d hk hd
    obtain ⟨dd, h1, F, h5, h6, b⟩ := defD hd
    exact kw_of F (tx.kws f n kn d hk hd dd h1)
  · intro f d hd hk
    have ek := kdFn_eq hk
    have e : afK Γ T S K f = He.ga K d.nm := by unfold afK; rw [atF_eq hd]; unfold atD; rw [ek]; rfl
    rw [e]
    exact ⟨He.glo_ok X G (fact (mD hd (by unfold faD; rw [ek]; exact List.mem_cons_self))), He.keep_ok (fact (mD hd (by unfold faD; rw [ek]; exact List.mem_cons_of_mem _ List.mem_cons_self)))⟩
  · intro f d i hd hk
    have ek := kdMt_eq hk
    have e : afK Γ T S K f = He.ma K (caK Γ S K i) d.nm := by unfold afK; rw [atF_eq hd]; unfold atD; rw [ek]; rfl
    rw [e]
    have hi := o5 d (List.mem_of_getElem? hd)
    rw [ek] at hi
    have hi2 := of_decide_eq_true (and_t hi).2
    obtain ⟨x, h1, h2, h3⟩ := clsAt (by omega : i < T.ncls)
    refine ⟨He.meth_ok (fact (mD hd (by unfold faD; rw [ek]; exact List.mem_cons_self))), ?_⟩
    rw [h3]; exact He.cls_ok (fact (mC h2 (.inl rfl)))
  · intro f d i hd hk
    have ek := kdMk_eq hk
    have hi := o5 d (List.mem_of_getElem? hd)
    rw [ek] at hi
    obtain ⟨i1, hi⟩ := and_t hi
    obtain ⟨i2, hi⟩ := and_t hi
    obtain ⟨i3, hi⟩ := and_t hi
    obtain ⟨i4, i5⟩ := and_t hi
    have hc := of_decide_eq_true i2
    have ec : caK Γ S K i = He.ga K d.nm := by unfold caK; rw [cn hc]
    have e : afK Γ T S K f = He.ma K (He.ga K d.nm) "__init__" := by unfold afK; rw [atF_eq hd]; unfold atD; rw [ek]; show He.ma K (He.ga K (cnm Γ S i)) "__init__" = _; rw [cn hc]
    rw [e, ec]
    refine ⟨He.mkr_ok (fact (mD hd (by unfold faD; rw [ek]; exact List.mem_cons_self))), He.glo_ok X G (fact (mC (List.mem_of_getElem? hc) (.inr (.inl rfl)))), of_decide_eq_true i3, ?_, of_decide_eq_true i5⟩
    cases hh : d.hand with
    | none => rfl
    | some _ => rw [hh] at i4; cases i4
  · intro i f hf
    have hm : (i, f) ∈ T.eqs := by
      have : ∀ (l : List (Nat × Nat)), l.lookup i = some f → (i, f) ∈ l := by
        intro l
        induction l with
        | nil => intro z; cases z
        | cons p r ih =>
          intro z
          obtain ⟨a, b⟩ := p
          rw [List.lookup_cons] at z
          split at z
          · rename_i e
            have := beq_iff_eq.mp e
            subst this
            cases z; exact List.mem_cons_self
          · exact List.mem_cons_of_mem _ (ih z)
      exact this _ hf
    have h1 := o8 _ hm
    have h2 := x4 _ hm
    dsimp only at h1 h2
    split at h1
    · rename_i d hd
      obtain ⟨h1, h3⟩ := and_t h1
      split at h1
      · rename_i j hj
        have := of_decide_eq_true h1
        subst this
        exact ⟨d, hd, by rw [hj]; exact decide_eq_true rfl, of_decide_eq_true h3, He.eqO_ok (and_t h2).1, (and_t h2).2⟩
      · cases h1
    · cases h1
  · intro i nm fs hx
    obtain ⟨e1, e2, e3, e4, dd, hdd, e5, e6, e7, e8, e9, e10⟩ := tx.xcs i nm fs hx
    have hm := List.mem_of_getElem? hx
    have q := x3 _ hm
    dsimp only at q
    obtain ⟨q1, q⟩ := and_t q
    obtain ⟨q2, q⟩ := and_t q
    obtain ⟨q3, q4⟩ := and_t q
    rw [List.all_eq_true] at q4
    have ecn : cnm Γ S (1000 + i) = nm := by
      unfold cnm
      rw [if_neg (by omega), Nat.add_sub_cancel_left, List.getD_eq_getElem?_getD, e2]; rfl
    have ec : caK Γ S K (1000 + i) = He.ga K nm := by unfold caK; rw [ecn]
    have ex : xaK Γ S K i = He.fAd K dd.at_ := by unfold xaK; rw [ecn, e5]
    have F := funD hdd e6 e7
    refine ⟨e1, ⟨⟨_, _, _, _, _, by rw [ex]; exact F, e8, e9⟩, by rw [ex]; exact F.bindsN (ps := "self" :: fs) (by simpa using e10), by rw [ec]; exact oexB_ok q1, by rw [ec, ex, e5]; exact He.eqO_ok q2, by rw [ex, e5]; exact of_decide_eq_true q3, ?_, by rw [ec]; exact fun f hf => He.eqO_ok (q4 f hf), e3, e4⟩⟩
    rw [ec]
    refine He.glo_ok X G (fact (f := .glo nm) ?_)
    unfold mkFa
    simp only [List.mem_append]
    exact .inr (List.mem_map.mpr ⟨_, hm, rfl⟩)
  · have cx : ∀ {c : Nat} {y : Str}, Γ.xns[c]? = some y → caK Γ S K (1000 + c) = He.ga K y := fun {c y} h => by
      unfold caK cnm
      rw [if_neg (by omega), Nat.add_sub_cancel_left, List.getD_eq_getElem?_getD, ← exn, h]; rfl
    have mX : ∀ {q : He.Fa}, q ∈ (He.Fa.free "ValueError" :: He.Fa.free "isinstance" :: Γ.xns.map fun x => He.Fa.glo x) → q ∈ mkFa Γ T S := fun {q} hq => by
      unfold mkFa
      simp only [List.mem_append]
      exact .inl (.inr hq)
    unfold gxB at x0
    rw [List.all_eq_true] at x0
    have x0' := fun c (hc : c < T.nx) => x0 c (List.mem_range.mpr hc)
    have oo : ∀ o : Option Nat, (∀ e, o = some e → e < Γ.xns.length) → o ∈ (none :: (List.range Γ.xns.length).map some) := fun o ho => by
      cases o with
      | none => exact List.mem_cons_self
      | some e => exact List.mem_cons_of_mem _ (List.mem_map.mpr ⟨e, List.mem_range.mpr (ho e rfl), rfl⟩)
    refine { xn := ?_, ve := ?_, ii := ?_, kit := ?_, exm := ?_, xcc := ?_, xfc := ?_, xfn := ?_ }
    · intro c y hy
      rw [cx hy]
      exact He.glo_ok X G (fact (mX (List.mem_cons_of_mem _ (List.mem_cons_of_mem _ (List.mem_map.mpr ⟨y, List.mem_of_getElem? hy, rfl⟩)))))
    · exact He.free_ok X G (fact (mX List.mem_cons_self))
    · exact He.free_ok X G (fact (mX (List.mem_cons_of_mem _ List.mem_cons_self)))
    · intro c hc o ho
      obtain ⟨y1, _⟩ := and_t (x0' c hc)
      rw [List.all_eq_true] at y1
      exact of_decide_eq_true (and_t (y1 o (oo o ho))).1
    · intro c hc o ho
      obtain ⟨y1, _⟩ := and_t (x0' c hc)
      rw [List.all_eq_true] at y1
      exact of_decide_eq_true (and_t (y1 o (oo o ho))).2
    · intro c hc
      obtain ⟨_, y⟩ := and_t (x0' c hc)
      exact xccB_ok (and_t y).1
    · intro c hc
      obtain ⟨_, y⟩ := and_t (x0' c hc)
      exact xfB_ok (and_t (and_t y).2).1
    · intro c hc f hf
      obtain ⟨_, y⟩ := and_t (x0' c hc)
      obtain ⟨_, y⟩ := and_t (and_t y).2
      rw [List.all_eq_true] at y
      exact He.eqO_ok (y f hf)
end
end DL

set_option maxHeartbeats 4000000
/-! DL26: a law's end: from the facts, what is shown by hand, and the plain law. -/
namespace DL
open PySem PySem.Spec PyProof.Rows L2
section
variable {Γ : Gm} {T : Tbl} {S : Nms} {fn : List He.DefD} {CA : Nat → Addr} {prog : Program} {w : World} {K : PySem.W.Frag} {mg : Str → Option Value} {base h : Heap} {AF : Nat → Addr} {FT : Nat → FuncData} {XA : Nat → Addr} {XF : Nat → FuncData}
theorem fn_all (F : PFacts Γ T CA K mg AF FT XA XF) (HD : Hands Γ T CA prog w K mg base AF FT) (k f : Nat) (d : Df) (hd : T.defs[f]? = some d) (hk : ∀ c, d.kd ≠ .mk c) :
    FnG T.rep prog w K mg base (L2.CX prog w) (2 * (k + 1) + 1) (AF f) (FT f) d.ps (spD K CA d.ps.length (runP T (k + 1) f)) := by
  cases hh : d.hand with
  | none => exact fn_ok (gb_all F HD k) hd hh hk (F.txt f d hd hh)
  | some g => exact HD k (gb_all F HD k) f d g hd hh
theorem reps_ints {G : Hp} : ∀ ns : List Int, Reps K CA G (ns.map V.int) (ns.map D.int)
  | [] => .nil
  | n :: ns => .cons (.int n) (reps_ints ns)
/-- the law's def is called at the top -/
theorem top_call {rp : Bool} {mb : Str → Option Value} {k : Nat} {fa a : Addr} {fd : FuncData} {x : Str} {g : List D → FR} {s1 : Shared} {vs : List Value} {ns : List Int}
    (inK : K.In s1.heap) (nsm : s1.heap.Ns mainGlobals mg) (nsb : s1.heap.Ns builtinsNs mb) (boot : ∀ y : Str, y ≠ "__name__" → mb y = bootBuiltins y) (lim : s1.heap.NoLimit) (g0 : s1.gens = #[])
    (obj : s1.heap.get? a = some { cls := .type "list", data := .seq vs.toArray }) (isI : IntsAre vs ns) (few : ns.length ≤ sizeLine) (rm : Room k callerA)
    (F : ∀ bs : Heap, K.In bs → bs.Ns mainGlobals mg → FnG rp prog w K mg bs (L2.CX prog w) k fa fd [x] (spD K CA 1 g)) (bnd : ∀ (s : Shared) (u : Value), BindsTo s fd ⟨[u], []⟩ [(x, u)])
    (res : g [.lst (ns.map D.int)] = .ok (.sh (.bl true))) :
    codeAny (model prog w) callerA (.call (.ref fa) ⟨[.ref a], []⟩) (fun r t => r = .ok (.ret (.bool true)) ∧ OldK s1.heap t.heap ∧ t.os = s1.os ∧ AllBare t.gens) s1 := by
  have vals := vals_ints isI
  have vlen := isI.length
  obtain ⟨Hs, hHs⟩ : ∃ Hs : Hp, Hs = fun b => if b = a ∧ K.lookup a = none then some (.frz { cls := .type "list", data := .seq vs.toArray } (.lst (ns.map V.int))) else none := ⟨_, rfl⟩
  have some_of : ∀ {b : Addr} {u : HO}, Hs b = some u → (b = a ∧ K.lookup a = none) ∧ u = .frz { cls := .type "list", data := .seq vs.toArray } (.lst (ns.map V.int)) := by
    intro b u z
    rw [hHs] at z
    dsimp only at z
    split at z
    · rename_i c
      cases z
      exact ⟨c, rfl⟩
    · cases z
  have none_of : ∀ {b : Addr} {o : Obj}, s1.heap.get? b = some o → (b = a → K.lookup a = none → False) → Hs b = none := by
    intro b o z n
    cases q : Hs b with
    | none => rfl
    | some u => exact (n (some_of q).1.1 (some_of q).1.2).elim
  have sq : SqL K Hs a (ns.map V.int) := by
    cases lk : K.lookup a with
    | none => exact .inl (.inr ⟨{ cls := .type "list", data := .seq vs.toArray }, by rw [hHs]; exact if_pos ⟨rfl, lk⟩⟩)
    | some o =>
      have z := inK a o lk
      rw [obj] at z
      cases z
      exact .inr ⟨_, vs.toArray, _, lk, rfl, rfl, rfl, by rw [List.size_toArray, vlen]; exact few, by simpa using vals⟩
  have hok : HOk prog w Hs s1.heap := by
    intro b u z
    obtain ⟨⟨rfl, _⟩, rfl⟩ := some_of z
    exact ⟨obj, by rw [List.length_map]; exact few, vs, _, vals, obj⟩
  have notDict : ∀ {b : Addr} {o : Obj} {es : Array DictEntry} {ep : Nat}, s1.heap.get? b = some o → o.data = .dict es ep → Hs b = none := by
    intro b o es ep z dd
    refine none_of z fun e _ => ?_
    rw [e, obj] at z
    cases z
    have bad : Data.seq vs.toArray 0 = Data.dict es ep := dd
    cases bad
  have nsOf : ∀ {b : Addr} {m : Str → Option Value}, s1.heap.Ns b m → (hidT s1.heap Hs).Ns b m := by
    rintro b m ⟨o, es, ep, z, dd, rr⟩
    exact ⟨o, es, ep, hidT_get z (notDict z dd), dd, rr⟩
  have inH : K.In (hidT s1.heap Hs) := by
    intro b o z
    exact hidT_get (inK b o z) (none_of (inK b o z) fun e n => by rw [e, n] at z; cases z)
  have mod : L2.Mod K mg (hidT s1.heap Hs) := by
    obtain ⟨mc, l1, l2⟩ := lim
    exact ⟨inH, nsOf nsm, ⟨mb, nsOf nsb, boot⟩, mc, nsOf l1, l2⟩
  have env : Env0 prog w K mg (hidT s1.heap Hs) callerA [] s1 Hs := by
    refine ⟨rfl, mod, fun b o z => of_hidT z, Nat.le_of_eq (hidT_size _ _), trivial, ?_, hok, .of_eq g0⟩
    intro b z
    cases (show b ∈ ([] : List Addr) from z)
  have sp : spD K CA 1 g [.ref a] Hs (fun v _ => v = .bl true) (fun _ _ _ => False) := by
    refine ⟨rfl, Hs, [.lst (ns.map D.int)], Le.refl _, .one (.lst sq (reps_ints ns)), ?_⟩
    rw [res]
    intro v H' G' _ _ _ _ r
    cases r; rfl
  refine codeAny_mono ((F _ inH (nsOf nsm)).run callerA [] s1 Hs ⟨[.ref a], []⟩ [.ref a] [.ref a] _ _ ⟨rm, fun _ => rfl⟩ env (bnd s1 (.ref a)) (.cons rfl .nil) sp) ?_
  intro r t h
  match r, h with
  | .error e, ⟨_, _, _, _, _, _, _, _, _, _, _, _, z⟩ => exact z.elim
  | .ok (.ret u), ⟨v, H', os, bare, un, hok', rv, q⟩ =>
    have q : v = .bl true := q
    subst q
    obtain rfl : u = Value.bool true := rv
    refine ⟨rfl, OldK.of_keep ?_, os, bare⟩
    intro b o z
    cases hb : Hs b with
    | none => exact un.keep b o z hb (by intro c; cases (show b ∈ ([] : List Addr) from c)) (by simp)
    | some u =>
      obtain ⟨_, rfl⟩ := some_of hb
      obtain ⟨y1, _⟩ := hok b _ hb
      obtain ⟨y2, _⟩ := hok' b _ (un.frzs b _ _ hb)
      rw [z] at y1
      cases y1
      exact y2
  | .ok .next, z => exact z.elim
  | .ok .brk, z => exact z.elim
  | .ok .cont, z => exact z.elim
/-- what is known of the law's def at the head's heap -/
def LawAtG (l : PySem.W.OpenLaw) (w : World) (K : PySem.W.Frag) (rp : Bool) (k : Nat) (x : Str) (mg : Str → Option Value) (fa : Addr) : Prop :=
  ∃ (fd : FuncData) (CA : Nat → Addr) (g : List D → FR), (∀ (s : Shared) (u : Value), BindsTo s fd ⟨[u], []⟩ [(x, u)]) ∧
    (∀ ns : List Int, ns.length ≤ 63 → (∀ z ∈ ns, Builtin.Int.intBits z ≤ 1048576) → g [.lst (ns.map D.int)] = .ok (.sh (.bl true))) ∧
    ∀ bs : Heap, K.In bs → bs.Ns mainGlobals mg → FnG rp l.prog w K mg bs (L2.CX l.prog w) k fa fd [x] (spD K CA 1 g)
theorem law_walk {l : PySem.W.OpenLaw} {k : Nat} {rp : Bool} {q : Program} {loose : List Str} {XP : (Str → Option Value) → Heap → Prop} {YP : World → Heap → Prop} {d : DefRec} {x : Str} (most : l.most = some 63) (nodf : d.params.defaults = []) (rm : Room k callerA)
    (F : ∀ (w : World) (mg : Str → Option Value) (fa : Addr) (h : Heap), YP w h → h.Ns mainGlobals mg → mg d.name = some (.ref fa) → ∃ K : PySem.W.Frag, K.In h ∧ LawAtG l w K rp k x mg fa) :
    PySem.W.WalkO q loose XP YP l.row.toRowW d [] (fun f vs => PySem.call f vs) := by
  apply Att.attach_callB most nodf
  intro w s0 s1 mg mb fa o pm cd doc a vs ns gr Y _ _ _ at_ obj isI len bits g0
  obtain ⟨K, inK, fd, CA, g, bnd, res, fn⟩ := F w mg fa _ Y gr.T.g at_
  exact top_call inK gr.T.g gr.T.b gr.T.builtins gr.T.nolimit g0 obj isI (Nat.le_trans len (by rw [sizeLine_eq]; decide)) rm fn bnd (res ns len bits)
theorem law_atS {l : PySem.W.OpenLaw} {f : Nat} {d : Df} {x : Str} {k : Nat} {fa : Addr} (X : K.In h) (G : h.Ns mainGlobals mg) (c : He.SaysD (mkFa Γ T S) fn K) (hex : mkEx Γ T S K = true) (ok : okB Γ T S = true) (tx : TxOk Γ T S fn)
    (eqy : ∀ (k c f : Nat), T.eqs.lookup c = some f → ∀ fs y, runP T k f [.ins c fs, y] = .ok (.sh (.bl true)) → ∃ gs, y = .ins c gs) (hfds : Γ.fds = T.defs.map fun d => ⟨d.nm, d.kd, d.ps⟩)
    (hd : T.defs[f]? = some d) (hk : d.kd = .fn) (hn : mg d.nm = some (.ref fa)) (hp : d.ps = [x])
    (HD : ∀ base : Heap, K.In base → base.Ns mainGlobals mg → PFacts Γ T (caK Γ S K) K mg (afK Γ T S K) (fun f => ftK K (afK Γ T S K f)) (xaK Γ S K) (fun c => ftK K (xaK Γ S K c)) → Hands Γ T (caK Γ S K) l.prog w K mg base (afK Γ T S K) (fun f => ftK K (afK Γ T S K f)))
    (plain : ∀ ns : List Int, ns.length ≤ 63 → (∀ z ∈ ns, Builtin.Int.intBits z ≤ 1048576) → runP T (k + 1) f [.lst (ns.map D.int)] = .ok (.sh (.bl true))) :
    LawAtG l w K T.rep (2 * (k + 1) + 1) x mg fa := by
  have pf := pfacts X G c hex ok tx eqy hfds
  have hkn : ∀ c, d.kd ≠ .mk c := fun c z => by rw [hk] at z; cases z
  have e1 := (pf.fn f d hd (by rw [hk]; rfl)).1
  rw [hn] at e1
  have e2 : fa = afK Γ T S K f := by injection e1 with e1; injection e1
  obtain ⟨dd, h1, h2, h3, h4, h5, h6, h7⟩ := tx.defs f d hd
  obtain ⟨fd, FD⟩ := c.defs (List.mem_of_getElem? h1)
  have e3 : dd.dvs K = [] := by unfold He.DefD.dvs; rw [h3]; rfl
  have e4 : dd.kws K = [] := by unfold He.DefD.kws; rw [h4]; rfl
  have e5 : He.fAd K dd.at_ = afK Γ T S K f := by unfold afK; rw [atF_eq hd, h2]
  rw [e3, e4, e5] at FD
  have e6 := ft_eq FD
  have e7 : d.ps.length = 1 := by rw [hp]; rfl
  refine ⟨ftK K (afK Γ T S K f), caK Γ S K, runP T (k + 1) f, fun s u => ?_, plain, fun base hB gB => ?_⟩
  · rw [e6]
    have b := FunD.bindsA (ps := d.ps) FD h7 s [u] (by rw [hp]; rfl)
    rw [hp] at b
    exact b
  · have := fn_all pf (HD base hB gB pf) k f d hd hkn
    rw [e7, hp] at this
    rw [e2]
    exact this
end
theorem cx_none {P : Program} {w : World} (H : Hp) (s : Shared) (e : Value) (s' : Shared) (h : L2.CX P w [] H s (fun _ _ _ => False) e s') : False := by
  obtain ⟨_, _, _, _, _, _, _, _, _, _, _, _, z⟩ := h
  exact z
end DL

set_option maxHeartbeats 4000000
/-! DLs: the meaning, for simp: loops stay folded. -/
namespace DL
open PySem L2
/-- bind, for simp: what follows waits -/
structure Wt {α : Type} (f : α) where
def bnd {α β : Type} (r : R α) (f : α → Env → R β) (w : Wt f := ⟨⟩) : R β := r.bind f
@[simp] theorem bnd_ok {α β : Type} {a : α} {ρ : Env} {f : α → Env → R β} {w : Wt f} : bnd (.ok a ρ) f w = f a ρ := rfl
@[simp] theorem bnd_ex {α β : Type} {x : Exn} {ρ : Env} {f : α → Env → R β} {w : Wt f} : bnd (.ex x ρ : R α) f w = .ex x ρ := rfl
@[simp] theorem bnd_no {α β : Type} {f : α → Env → R β} {w : Wt f} : bnd (.no : R α) f w = .no := rfl
theorem bnd_eq {α β : Type} {r : R α} {f : α → Env → R β} {w : Wt f} : bnd r f w = r.bind f := rfl
def forB (P : Pg) (t : Tg) (b : Sms) (ds : List D) (ρ : Env) : R Fl := forF (fun d ρ => (R.lift (t.bind d ρ) ρ).bind fun ρ _ => exB P b ρ) ds ρ
def whlB (P : Pg) (c : Cd) (b : Sms) (n : Nat) (ρ : Env) : R Fl := whlF (tc P c) (exB P b) n ρ
def lcB (P : Pg) (e : Ex) (own : List Nat) (t : Tg) (c : Cdo) (ds : List D) (ρ : Env) : R (List D) := loopC (fun d ρ => (R.lift (t.bind d (wipeE ρ own)) ρ).bind fun ρ _ => (tco P c ρ).bind fun b ρ => if b = true then (fz (ev P e ρ)).bind fun d ρ => .ok [d] ρ else .ok [] ρ) ds ρ
def lcnB (P : Pg) (e : Ex) (own : List Nat) (t : Tg) (c : Cdo) (ds : List D) (ρ : Env) : R (List D) := loopC (fun d ρ => (R.lift (t.bind d (wipeE ρ own)) ρ).bind fun ρ _ => (tco P c ρ).bind fun b ρ => if b = true then (ev P e ρ).bind fun c ρ => (R.lift (rowOf c) ρ).bind fun d ρ => .ok [d] ρ else .ok [] ρ) ds ρ
def dcB (P : Pg) (k v : Ex) (own : List Nat) (t : Tg) (c : Cdo) (ds : List D) (ρ : Env) : R (List D) := loopC (fun d ρ => (R.lift (t.bind d (wipeE ρ own)) ρ).bind fun ρ _ => (tco P c ρ).bind fun b ρ => if b = true then (fz (ev P k ρ)).bind fun x ρ => (fz (ev P v ρ)).bind fun y ρ => .ok [x, y] ρ else .ok [] ρ) ds ρ
def capR {α : Type} (n : Nat) (r : R α) : R α := if n ≤ cap then r else .no
@[simp] theorem capR_ok {α : Type} {n : Nat} {r : R α} (h : n ≤ 16777216) : capR n r = r := if_pos h
/-! slots read -/
def evV (c : Option (Option Cell)) (ρ : Env) (i : Nat) : R Cell := match c with
    | some (some (.sh d)) => .ok (.sh d) ρ
    | some (some (.ow d)) => .ok (.sh d) (ρ.set i (some (.sh d)))
    | some (some (.nst ds)) => .ok (.sh (.lst ds)) (ρ.set i (some (.sh (.lst ds))))
    | _ => .no
def alV (c : Option (Option Cell)) (j : Nat) : Option D := match c with
    | some (some (.nst ds)) => ds[j]?
    | _ => none
def pkO (d : Option D) (ρ : Env) : R D := match d with
    | some d => .ok d ρ
    | none => .no
def pkV (c : Option (Option Cell)) (ρ : Env) : R D := match c with
    | some (some (.sh d)) => .ok d ρ
    | some (some (.ow d)) => .ok d ρ
    | some (some (.al s j)) => (match ρ[s]? with
      | some (some (.nst ds)) => (match ds[j]? with
        | some d => .ok d ρ
        | none => .no)
      | _ => .no)
    | _ => .no
def mvV (c : Option (Option Cell)) (ρ : Env) (i : Nat) : R Cell := match c with
    | some (some (.sh d)) => .ok (.sh d) ρ
    | some (some (.ow d)) => .ok (.ow d) (ρ.set i none)
    | some (some (.nst ds)) => .ok (.sh (.lst ds)) (ρ.set i none)
    | _ => .no
section
variable {ρ : Env} {i s j : Nat} {d : D} {ds : List D}
@[simp] theorem evV_sh : evV (some (some (.sh d))) ρ i = .ok (.sh d) ρ := rfl
@[simp] theorem evV_ow : evV (some (some (.ow d))) ρ i = .ok (.sh d) (ρ.set i (some (.sh d))) := rfl
@[simp] theorem evV_nst : evV (some (some (.nst ds))) ρ i = .ok (.sh (.lst ds)) (ρ.set i (some (.sh (.lst ds)))) := rfl
@[simp] theorem pkV_sh : pkV (some (some (.sh d))) ρ = .ok d ρ := rfl
@[simp] theorem pkV_ow : pkV (some (some (.ow d))) ρ = .ok d ρ := rfl
@[simp] theorem pkV_al : pkV (some (some (.al s j))) ρ = pkO (alV ρ[s]? j) ρ := by
  show (match ρ[s]? with
      | some (some (Cell.nst ds)) => (match ds[j]? with
        | some d => (R.ok d ρ : R D)
        | none => .no)
      | _ => .no) = _
  cases h : ρ[s]? with
  | none => rfl
  | some c => cases c with
    | none => rfl
    | some c => cases c with
      | nst ds => cases h2 : ds[j]? <;> simp [alV, pkO, h2]
      | _ => rfl
@[simp] theorem alV_nst : alV (some (some (.nst ds))) j = ds[j]? := rfl
@[simp] theorem pkO_some : pkO (some d) ρ = .ok d ρ := rfl
@[simp] theorem mvV_sh : mvV (some (some (.sh d))) ρ i = .ok (.sh d) ρ := rfl
@[simp] theorem mvV_ow : mvV (some (some (.ow d))) ρ i = .ok (.ow d) (ρ.set i none) := rfl
@[simp] theorem mvV_nst : mvV (some (some (.nst ds))) ρ i = .ok (.sh (.lst ds)) (ρ.set i none) := rfl
end
/-! nested lists -/
def setNK (i : Nat) (o : Option (List D)) (ρ : Env) : R Fl := match o with
    | some ds => if i < ρ.length then .ok .nx ((killA ρ i).set i (some (.nst ds))) else .no
    | none => .no
def nstG (c : Option (Option Cell)) (r : R Fl) : R Fl := match c with
    | some (some (.nst _)) => r
    | _ => .no
def nalJ (t s : Nat) (o : Option Nat) (ρ : Env) : R Fl := match o with
    | some j => if t ≠ s ∧ t < ρ.length then .ok .nx (ρ.set t (some (.al s j))) else .no
    | none => .no
def nalK (t s : Nat) (k : D) (c : Option (Option Cell)) (ρ : Env) : R Fl := match k, c with
    | .int k, some (some (.nst ds)) => nalJ t s (ixN ds.length k) ρ
    | _, _ => .no
def nrowJ (s : Nat) (ds : List D) (d : D) (o : Option Nat) (ρ : Env) : R Fl := match o with
    | some j => .ok .nx ((killA ρ s).set s (some (.nst (ds.set j d))))
    | none => .no
def nrowK (s : Nat) (o : Option D) (c1 c2 : Option (Option Cell)) (ρ : Env) : R Fl := match o, c1, c2 with
    | some d, some (some (.sh (.int k))), some (some (.nst ds)) => nrowJ s ds d (ixN ds.length k) ρ
    | _, _, _ => .no
def nappK (s : Nat) (o : Option D) (c : Option (Option Cell)) (ρ : Env) : R Fl := match o, c with
    | some d, some (some (.nst ds)) => if ds.length < cap then .ok .nx ((killA ρ s).set s (some (.nst (ds ++ [d])))) else .no
    | _, _ => .no
def finsK (t s v : Nat) (c1 c2 : Option (Option Cell)) (ρ : Env) : R Fl := match c1, c2 with
    | some (some (.nst ds)), some (some (.sh x)) => if (t ≠ s ∧ t ≠ v ∧ t < ρ.length) ∧ ds.all rowFew = true then .ok .nx (((killA ρ s).set s (some (.nst (ds.map (insRow x))))).set t none) else .no
    | _, _ => .no
def lendJ (i s : Nat) (ds : List D) (ρ : Env) (r : R Cell) : R Fl := match r with
    | .ok c _ => if (c.isP = true ∧ c.d.noL = true) ∧ (i < ρ.length ∧ i ≠ s) ∧ ds.all isLs = true then .ok .nx (ρ.set i (some c)) else .no
    | _ => .no
def lendK (f : List D → R Cell) (i s : Nat) (c : Option (Option Cell)) (ρ : Env) : R Fl := match c with
    | some (some (.nst ds)) => lendJ i s ds ρ (f ds)
    | _ => .no
section
variable {ρ ρ' : Env} {i s j t v : Nat} {k : Int} {d x : D} {ds : List D} {r : R Fl} {c : Cell}
@[simp] theorem setNK_s : setNK i (some ds) ρ = if i < ρ.length then .ok .nx ((killA ρ i).set i (some (.nst ds))) else .no := rfl
@[simp] theorem nstG_s : nstG (some (some (.nst ds))) r = r := rfl
@[simp] theorem nalJ_s : nalJ t s (some j) ρ = if t ≠ s ∧ t < ρ.length then .ok .nx (ρ.set t (some (.al s j))) else .no := rfl
@[simp] theorem nalK_s : nalK t s (.int k) (some (some (.nst ds))) ρ = nalJ t s (ixN ds.length k) ρ := rfl
@[simp] theorem nrowJ_s : nrowJ s ds d (some j) ρ = .ok .nx ((killA ρ s).set s (some (.nst (ds.set j d)))) := rfl
@[simp] theorem nrowK_s : nrowK s (some d) (some (some (.sh (.int k)))) (some (some (.nst ds))) ρ = nrowJ s ds d (ixN ds.length k) ρ := rfl
@[simp] theorem nappK_s : nappK s (some d) (some (some (.nst ds))) ρ = if ds.length < cap then .ok .nx ((killA ρ s).set s (some (.nst (ds ++ [d])))) else .no := rfl
@[simp] theorem finsK_s : finsK t s v (some (some (.nst ds))) (some (some (.sh x))) ρ = if (t ≠ s ∧ t ≠ v ∧ t < ρ.length) ∧ ds.all rowFew = true then .ok .nx (((killA ρ s).set s (some (.nst (ds.map (insRow x))))).set t none) else .no := rfl
@[simp] theorem lendJ_ok : lendJ i s ds ρ (.ok c ρ') = if (c.isP = true ∧ c.d.noL = true) ∧ (i < ρ.length ∧ i ≠ s) ∧ ds.all isLs = true then .ok .nx (ρ.set i (some c)) else .no := rfl
@[simp] theorem lendK_s (f : List D → R Cell) : lendK f i s (some (some (.nst ds))) ρ = lendJ i s ds ρ (f ds) := rfl
@[simp] theorem rowOf_ow : rowOf (.ow d) = some d := rfl
@[simp] theorem asN_nst : asN (.nst ds) = some ds := rfl
@[simp] theorem asN_nil : asN (.ow (.lst [])) = some [] := rfl
@[simp] theorem killA_nil : killA [] s = [] := rfl
@[simp] theorem killA_non : killA (none :: ρ) s = none :: killA ρ s := rfl
@[simp] theorem killA_sh : killA (some (.sh d) :: ρ) s = some (.sh d) :: killA ρ s := rfl
@[simp] theorem killA_ow : killA (some (.ow d) :: ρ) s = some (.ow d) :: killA ρ s := rfl
@[simp] theorem killA_ns : killA (some (.nst ds) :: ρ) s = some (.nst ds) :: killA ρ s := rfl
@[simp] theorem killA_al : killA (some (.al t j) :: ρ) s = (if t = s then none else some (.al t j)) :: killA ρ s := rfl
end
/-! owned slots -/
def curV (c : Option (Option Cell)) (ρ : Env) : Option D := match c with
  | some (some (.ow d)) => some d
  | some (some (.al t j)) => (match ρ[t]? with
    | some (some (.nst ds)) => ds[j]?
    | _ => none)
  | _ => none
def putN (c : Option (Option Cell)) (t j : Nat) (d : D) (ρ : Env) : Env := match c with
    | some (some (.nst ds)) => ρ.set t (some (.nst (ds.set j d)))
    | _ => ρ
def putV (c : Option (Option Cell)) (ρ : Env) (s : Nat) (d : D) : Env := match c with
  | some (some (.al t j)) => putN ρ[t]? t j d ρ
  | _ => ρ.set s (some (.ow d))
def isLV : Option D → Bool
  | some (.lst _) => true
  | _ => false
def chgV (c : Option D) (ρ : Env) (s : Nat) (f : D → Option D) : Option Env := match c with
  | some d => (f d).map fun d' => putO ρ s d'
  | none => none
def popV (c : Option D) (ρ : Env) (s : Nat) (i : Option Int) (k : D → Env → R Fl) : R Fl := match c with
  | some d => bnd (R.lift (popD d i) ρ) fun p ρ => k p.1 (putO ρ s p.2)
  | none => .no
section
variable {ρ : Env} {i s j t : Nat} {d : D} {ds : List D}
theorem curO_eq : curO ρ s = curV ρ[s]? ρ := rfl
theorem putO_eq : putO ρ s d = putV ρ[s]? ρ s d := rfl
@[simp] theorem isL_eq : isL ρ s = isLV (curV ρ[s]? ρ) := rfl
@[simp] theorem isO_eq : isO ρ s = (curV ρ[s]? ρ).isSome := rfl
@[simp] theorem chgO_eq (f : D → Option D) : chgO ρ s f = chgV (curV ρ[s]? ρ) ρ s f := rfl
@[simp] theorem popK_eq (i : Option Int) (k : D → Env → R Fl) : popK ρ s i k = popV (curV ρ[s]? ρ) ρ s i k := rfl
@[simp] theorem curV_ow : curV (some (some (.ow d))) ρ = some d := rfl
@[simp] theorem curV_al : curV (some (some (.al t j))) ρ = alV ρ[t]? j := rfl
@[simp] theorem putO_simp : putO ρ s d = putV ρ[s]? ρ s d := rfl
@[simp] theorem putV_ow {e : D} : putV (some (some (.ow e))) ρ s d = ρ.set s (some (.ow d)) := rfl
@[simp] theorem putV_al : putV (some (some (.al t j))) ρ s d = putN ρ[t]? t j d ρ := rfl
@[simp] theorem putN_nst : putN (some (some (.nst ds))) t j d ρ = ρ.set t (some (.nst (ds.set j d))) := rfl
@[simp] theorem isLV_lst (xs : List D) : isLV (some (.lst xs)) = true := rfl
@[simp] theorem chgV_some (f : D → Option D) : chgV (some d) ρ s f = (f d).map fun d' => putO ρ s d' := rfl
@[simp] theorem popV_some (i : Option Int) (k : D → Env → R Fl) : popV (some d) ρ s i k = bnd (R.lift (popD d i) ρ) fun p ρ => k p.1 (putO ρ s p.2) := rfl
@[simp] theorem appD_lst {x : D} {xs : List D} (h : xs.length < 16777216) : appD x (.lst xs) = some (.lst (xs ++ [x])) := if_pos h
@[simp] theorem extD_lst {ys : List D} {xs : List D} (h : xs.length + ys.length ≤ 16777216) : extD ys (.lst xs) = some (.lst (xs ++ ys)) := if_pos h
@[simp] theorem insD_lst {x : D} {xs : List D} {i : Int} (h : xs.length < 16777216 ∧ 0 ≤ i ∧ i < 9223372036854775808) : insD i x (.lst xs) = some (.lst (xs.take i.toNat ++ [x] ++ xs.drop i.toNat)) := if_pos h
@[simp] theorem setD_lst {x : D} {xs : List D} {i : Int} (h : 0 ≤ i ∧ i < xs.length) : setD (.int i) x (.lst xs) = some (.lst (xs.set i.toNat x)) := by
  show (ixN xs.length i).map _ = _
  unfold ixN
  rw [if_pos h.1, if_pos h.2]; rfl
@[simp] theorem setD_dct {x k : D} {xs : List (Key × D)} (h : xs.length < 16777216) : setD k x (.dct xs) = (keyD k).map fun k => .dct (putDk k x xs) := if_pos h
@[simp] theorem popD_at {xs : List D} {i : Int} (h : 0 ≤ i ∧ i < xs.length) (h2 : i < 9223372036854775808) : popD (.lst xs) (some i) = (xs[i.toNat]?).map fun y => (y, .lst (xs.eraseIdx i.toNat)) := by
  show (if _ then _ else _) = _
  rw [if_pos ⟨by omega, by exact h2⟩]
  have : seqIndex? i xs.length = some i.toNat := by
    have e : ixN xs.length i = some i.toNat := by unfold ixN; rw [if_pos h.1, if_pos h.2]
    exact (ixN_seq e).1
  rw [this]; rfl
@[simp] theorem fldD_ins {n c : Nat} {f : Str} {x : D} {fs : List (Str × D)} (h : c < n ∧ fs.length < 1000) : fldD n f x (.ins c fs) = some (.ins c (putD f x fs)) := if_pos h
end
section
variable {P : Pg} {ρ : Env}
@[simp] theorem ev_v (i : Nat) : ev P (.v i) ρ = evV ρ[i]? ρ i := rfl
@[simp] theorem ev_non : ev P .non ρ = .ok (.sh .non) ρ := rfl
@[simp] theorem ev_bl (b : Bool) : ev P (.bl b) ρ = .ok (.sh (.bl b)) ρ := rfl
@[simp] theorem ev_int (i : Int) : ev P (.int i) ρ = .ok (.sh (.int i)) ρ := rfl
@[simp] theorem ev_str (s : Str) : ev P (.str s) ρ = .ok (.sh (.str s)) ρ := rfl
@[simp] theorem ev_g (n : Nat) : ev P (.g n) ρ = bnd (R.lift P.con[n]? ρ) fun d ρ => .ok (.sh d) ρ := rfl
@[simp] theorem ev_bin (o : Bo) (a b : Ex) : ev P (.bin o a b) ρ = bnd (pk a ρ (ev P a ρ)) fun x ρ => bnd (pk b ρ (ev P b ρ)) fun y ρ => R.lift (binD o x y) ρ := rfl
@[simp] theorem ev_neg (a : Ex) : ev P (.neg a) ρ = bnd (pk a ρ (ev P a ρ)) fun x ρ => (match x with
    | .int i => .ok (.sh (.int (-i))) ρ
    | _ => .no) := rfl
@[simp] theorem ev_cmp (o : Co) (a b : Ex) : ev P (.cmp o a b) ρ = bnd (pk a ρ (ev P a ρ)) fun x ρ => bnd (pk b ρ (ev P b ρ)) fun y ρ => cmpR P o x y ρ := rfl
@[simp] theorem ev_chn (o p : Co) (a b c : Ex) : ev P (.chn o p a b c) ρ = bnd (pk a ρ (ev P a ρ)) fun x ρ => bnd (pk b ρ (ev P b ρ)) fun y ρ => bnd (R.lift (cmpD o x y) ρ) fun k ρ =>
      if k = true then bnd (pk c ρ (ev P c ρ)) fun z ρ => bnd (R.lift (cmpD p y z) ρ) fun k ρ => .ok (.sh (.bl k)) ρ else .ok (.sh (.bl false)) ρ := rfl
@[simp] theorem ev_and (a b : Ex) : ev P (.and a b) ρ = bnd (fz (ev P a ρ)) fun x ρ => bnd (R.lift (trD x) ρ) fun k ρ => if k = true then ev P b ρ else .ok (.sh x) ρ := rfl
@[simp] theorem ev_or (a b : Ex) : ev P (.or a b) ρ = bnd (fz (ev P a ρ)) fun x ρ => bnd (R.lift (trD x) ρ) fun k ρ => if k = true then .ok (.sh x) ρ else ev P b ρ := rfl
@[simp] theorem ev_not (a : Ex) : ev P (.not a) ρ = bnd (pk a ρ (ev P a ρ)) fun x ρ => bnd (R.lift (trD x) ρ) fun k ρ => .ok (.sh (.bl (!k))) ρ := rfl
@[simp] theorem ev_ite (c : Cd) (a b : Ex) : ev P (.ite c a b) ρ = bnd (tc P c ρ) fun k ρ => if k = true then ev P a ρ else ev P b ρ := rfl
@[simp] theorem ev_tup (es : Exs) : ev P (.tup es) ρ = bnd (evs P es ρ) fun ds ρ => capR ds.length (.ok (.sh (.tup ds)) ρ) := rfl
@[simp] theorem ev_lst (es : Exs) : ev P (.lst es) ρ = bnd (evs P es ρ) fun ds ρ => capR ds.length (.ok (.ow (.lst ds)) ρ) := rfl
@[simp] theorem ev_ix (a b : Ex) : ev P (.ix a b) ρ = bnd (pk a ρ (ev P a ρ)) fun x ρ => bnd (pk b ρ (ev P b ρ)) fun y ρ => bnd (R.lift (ixD x y) ρ) fun d ρ => .ok (.sh d) ρ := rfl
@[simp] theorem ev_sl (a : Ex) (l h : Exo) : ev P (.sl a l h) ρ = bnd (pk a ρ (ev P a ρ)) fun x ρ => bnd (evo P l ρ) fun l ρ => bnd (evo P h ρ) fun h ρ => R.lift (slD x l h) ρ := rfl
@[simp] theorem ev_rv (a : Ex) : ev P (.rv a) ρ = bnd (pk a ρ (ev P a ρ)) fun x ρ => (match x with
    | .lst xs => .ok (.ow (.lst xs.reverse)) ρ
    | _ => .no) := rfl
@[simp] theorem ev_call (f : Nat) (es : Exs) : ev P (.call f es) ρ = bnd (evs P es ρ) fun ds ρ => (P.call f ds).r ρ := rfl
@[simp] theorem ev_callk (f : Nat) (es : Exs) (kn : List Str) (ks : Exs) : ev P (.callk f es kn ks) ρ = bnd (evs P es ρ) fun ds ρ => bnd (evs P ks ρ) fun ys ρ => bnd (R.lift ((P.ps[f]?).bind fun ps => kwArr ps ds kn ys) ρ) fun zs ρ => (P.call f zs).r ρ := rfl
@[simp] theorem ev_mk (c f : Nat) (es : Exs) : ev P (.mk c f es) ρ = bnd (evs P es ρ) fun ds ρ => (P.call f ds).r ρ := rfl
@[simp] theorem ev_mkk (c f : Nat) (es : Exs) (kn : List Str) (ks : Exs) : ev P (.mkk c f es kn ks) ρ = bnd (evs P es ρ) fun ds ρ => bnd (evs P ks ρ) fun ys ρ => bnd (R.lift ((P.ps[f]?).bind fun ps => kwArr (ps.drop 1) ds kn ys) ρ) fun zs ρ => (P.call f zs).r ρ := rfl
@[simp] theorem ev_om (c f : Nat) (o : Ex) (m : Str) (es : Exs) : ev P (.om c f o m es) ρ = bnd (fz (ev P o ρ)) fun x ρ => (match x with
    | .ins c' fs => if c' = c ∧ fs.lookup m = none then bnd (evs P es ρ) fun ds ρ => (P.call f (.ins c' fs :: ds)).r ρ else .no
    | _ => .no) := rfl
@[simp] theorem ev_omk (c f : Nat) (o : Ex) (m : Str) (es : Exs) (kn : List Str) (ks : Exs) : ev P (.omk c f o m es kn ks) ρ = bnd (fz (ev P o ρ)) fun x ρ => (match x with
    | .ins c' fs => if c' = c ∧ fs.lookup m = none then bnd (evs P es ρ) fun ds ρ => bnd (evs P ks ρ) fun ys ρ => bnd (R.lift ((P.ps[f]?).bind fun ps => kwArr ps (.ins c' fs :: ds) kn ys) ρ) fun zs ρ => (P.call f zs).r ρ else .no
    | _ => .no) := rfl
@[simp] theorem ev_bi (b : Bi) (es : Exs) : ev P (.bi b es) ρ = bnd (evps P es ρ) fun ds ρ => R.lift (biD b ds) ρ := rfl
@[simp] theorem ev_isi (e : Ex) (tu : Bool) (ts : List Ty) : ev P (.isi e tu ts) ρ = bnd (pk e ρ (ev P e ρ)) fun x ρ => if insOk P.ncls x = true then .ok (.sh (.bl (ts.any (tyD x)))) ρ else .no := rfl
@[simp] theorem ev_mt (m : Mt) (o : Ex) (es : Exs) : ev P (.mt m o es) ρ = bnd (pk o ρ (ev P o ρ)) fun x ρ => if mtOk m x = true then bnd (evs P es ρ) fun ds ρ => R.lift (mtD m x ds) ρ else .no := rfl
@[simp] theorem ev_fld (o : Ex) (f : Str) : ev P (.fld o f) ρ = bnd (pk o ρ (ev P o ρ)) fun x ρ => (match x with
    | .ins c fs => if c < P.ncls then bnd (R.lift (fs.lookup f) ρ) fun d ρ => .ok (.sh d) ρ else .no
    | _ => .no) := rfl
@[simp] theorem ev_nlen (s : Nat) : ev P (.nlen s) ρ = (match ρ[s]? with
    | some (some (.nst ds)) => .ok (.sh (.int ds.length)) ρ
    | _ => .no) := rfl
@[simp] theorem ev_lc (e : Ex) (own own' : List Nat) (t : Tg) (i : It) (c : Cdo) : ev P (.lc e own (.c own' t i c .n)) ρ = bnd ((bnd (evi P i ρ) fun ds ρ => lcB P e own' t c ds ρ).calm) fun ds ρ' => .ok (.ow (.lst ds)) (backE ρ ρ' own) := rfl
@[simp] theorem ev_lcn (e : Ex) (own own' : List Nat) (t : Tg) (i : It) (c : Cdo) : ev P (.lcn e own (.c own' t i c .n)) ρ = bnd ((bnd (evi P i ρ) fun ds ρ => lcnB P e own' t c ds ρ).calm) fun ds ρ' => .ok (.nst ds) (backE ρ ρ' own) := rfl
@[simp] theorem ev_dc (k v : Ex) (own own' : List Nat) (t : Tg) (i : It) (c : Cdo) : ev P (.dc k v own (.c own' t i c .n)) ρ = bnd ((bnd (evi P i ρ) fun ds ρ => dcB P k v own' t c ds ρ).calm) fun ds ρ' => bnd (R.lift (pairsD ds) (backE ρ ρ' own)) fun l ρ => .ok (.ow (.dct (putAll l))) ρ := rfl
@[simp] theorem ev_dsp (es : Exs) : ev P (.dsp es) ρ = bnd (evs P es ρ) fun ds ρ => bnd (R.lift (pairsD ds) ρ) fun l ρ => .ok (.ow (.dct (putAll l))) ρ := rfl
@[simp] theorem evs_n : evs P .n ρ = .ok [] ρ := rfl
@[simp] theorem evs_c (e : Ex) (es : Exs) : evs P (.c e es) ρ = bnd (fz (ev P e ρ)) fun d ρ => bnd (evs P es ρ) fun ds ρ => .ok (d :: ds) ρ := rfl
@[simp] theorem evs_s (e : Ex) (es : Exs) : evs P (.s e es) ρ = bnd (pk e ρ (ev P e ρ)) fun x ρ => bnd (R.lift (starD x) ρ) fun xs ρ => bnd (evs P es ρ) fun ds ρ => .ok (xs ++ ds) ρ := rfl
@[simp] theorem evps_n : evps P .n ρ = .ok [] ρ := rfl
@[simp] theorem evps_c (e : Ex) (es : Exs) : evps P (.c e es) ρ = bnd (pk e ρ (ev P e ρ)) fun d ρ => bnd (evps P es ρ) fun ds ρ => .ok (d :: ds) ρ := rfl
@[simp] theorem evo_n : evo P .n ρ = .ok none ρ := rfl
@[simp] theorem evo_s (e : Ex) : evo P (.s e) ρ = bnd (pk e ρ (ev P e ρ)) fun x ρ => bnd (R.lift (intO x) ρ) fun i ρ => .ok (some i) ρ := rfl
@[simp] theorem tc_e (e : Ex) : tc P (.e e) ρ = bnd (pk e ρ (ev P e ρ)) fun x ρ => R.lift (trD x) ρ := rfl
@[simp] theorem tc_and (a b : Cd) : tc P (.and a b) ρ = bnd (tc P a ρ) fun k ρ => if k = true then tc P b ρ else .ok false ρ := rfl
@[simp] theorem tc_or (a b : Cd) : tc P (.or a b) ρ = bnd (tc P a ρ) fun k ρ => if k = true then .ok true ρ else tc P b ρ := rfl
@[simp] theorem tc_not (a : Cd) : tc P (.not a) ρ = bnd (tc P a ρ) fun k ρ => .ok (!k) ρ := rfl
@[simp] theorem tc_ite (c a b : Cd) : tc P (.ite c a b) ρ = bnd (tc P c ρ) fun k ρ => if k = true then tc P a ρ else tc P b ρ := rfl
@[simp] theorem tco_n : tco P .n ρ = .ok true ρ := rfl
@[simp] theorem tco_s (c : Cd) : tco P (.s c) ρ = tc P c ρ := rfl
@[simp] theorem evi_e (e : Ex) : evi P (.e e) ρ = bnd (fz (ev P e ρ)) fun x ρ => R.lift (walkD x) ρ := rfl
@[simp] theorem evi_rng (es : Exs) : evi P (.rng es) ρ = bnd (evs P es ρ) fun ds ρ => R.lift (rngD ds) ρ := rfl
@[simp] theorem evi_enu (e : Ex) : evi P (.enu e) ρ = bnd (fz (ev P e ρ)) fun x ρ => (match x with
    | .lst ds => .ok (enuD ds) ρ
    | .tup ds => .ok (enuD ds) ρ
    | _ => .no) := rfl
@[simp] theorem exS_set (i : Nat) (e : Ex) : exS P (.set (.n i) e) ρ = bnd (ev P e ρ) fun c ρ => if i < ρ.length ∧ c.isP = true then .ok .nx (ρ.set i (some c)) else .no := rfl
@[simp] theorem exS_setT (t : Tg) (e : Ex) : exS P (.set (.t t) e) ρ = bnd (fz (ev P e ρ)) fun d ρ => bnd (R.lift ((Tg.t t).bind d ρ) ρ) fun ρ _ => .ok .nx ρ := rfl
@[simp] theorem exS_seti (s : Nat) (i e : Ex) : exS P (.seti s i e) ρ = bnd (fz (ev P e ρ)) fun x ρ => if isO ρ s = true then bnd (pk i ρ (ev P i ρ)) fun k ρ => bnd (R.lift (chgO ρ s (setD k x)) ρ) fun ρ _ => .ok .nx ρ else .no := rfl
@[simp] theorem exS_setf (s : Nat) (f : Str) (e : Ex) : exS P (.setf s f e) ρ = bnd (fz (ev P e ρ)) fun x ρ => bnd (R.lift (chgO ρ s (fldD P.ncls f x)) ρ) fun ρ _ => .ok .nx ρ := rfl
@[simp] theorem exS_app (s : Nat) (e : Ex) : exS P (.app s e) ρ = if isL ρ s = true then bnd (fz (ev P e ρ)) fun x ρ => bnd (R.lift (chgO ρ s (appD x)) ρ) fun ρ _ => .ok .nx ρ else .no := rfl
@[simp] theorem exS_ext (s : Nat) (e : Ex) : exS P (.ext s e) ρ = if isL ρ s = true then bnd (pk e ρ (ev P e ρ)) fun x ρ => (match x with
    | .lst ys => bnd (R.lift (chgO ρ s (extD ys)) ρ) fun ρ _ => .ok .nx ρ
    | _ => .no) else .no := rfl
@[simp] theorem exS_insr (s : Nat) (i e : Ex) : exS P (.insr s i e) ρ = if isL ρ s = true then bnd (fz (ev P i ρ)) fun k ρ => bnd (fz (ev P e ρ)) fun x ρ => (match k with
    | .int k => bnd (R.lift (chgO ρ s (insD k x)) ρ) fun ρ _ => .ok .nx ρ
    | _ => .no) else .no := rfl
@[simp] theorem exS_pop (t s : Nat) (e : Exo) : exS P (.pop t s e) ρ = if isL ρ s = true then bnd (evo P e ρ) fun i ρ => popK ρ s i fun d ρ => if t < ρ.length then .ok .nx (ρ.set t (some (.sh d))) else .no else .no := rfl
@[simp] theorem exS_popx (s : Nat) (e : Exo) : exS P (.popx s e) ρ = if isL ρ s = true then bnd (evo P e ρ) fun i ρ => popK ρ s i fun _ ρ => .ok .nx ρ else .no := rfl
@[simp] theorem exS_expr (e : Ex) : exS P (.expr e) ρ = bnd (ev P e ρ) fun _ ρ => .ok .nx ρ := rfl
@[simp] theorem exS_iff (c : Cd) (a b : Sms) : exS P (.iff c a b) ρ = bnd (tc P c ρ) fun k ρ => if k = true then exB P a ρ else exB P b ρ := rfl
@[simp] theorem exS_for (t : Tg) (i : It) (b : Sms) : exS P (.for_ t i b) ρ = bnd (evi P i ρ) fun ds ρ => forB P t b ds ρ := rfl
@[simp] theorem exS_whl (c : Cd) (b : Sms) : exS P (.whl c b) ρ = whlB P c b P.wf ρ := rfl
@[simp] theorem exS_ret (e : Ex) : exS P (.ret e) ρ = bnd (mv e ρ (ev P e ρ)) fun c ρ => .ok (.rt c) ρ := rfl
@[simp] theorem exS_retn : exS P .retn ρ = .ok (.rt (.sh .non)) ρ := rfl
@[simp] theorem exS_pass : exS P .pass ρ = .ok .nx ρ := rfl
@[simp] theorem exS_brk : exS P .brk ρ = .ok .bk ρ := rfl
@[simp] theorem exS_cnt : exS P .cnt ρ = .ok .ct ρ := rfl
@[simp] theorem exS_setN (i : Nat) (e : Ex) : exS P (.setN i e) ρ = bnd (ev P e ρ) fun c ρ => setNK i (asN c) ρ := rfl
@[simp] theorem exS_nal (t s : Nat) (i : Ex) : exS P (.nal t s i) ρ = nstG ρ[s]? (bnd (pk i ρ (ev P i ρ)) fun k ρ => nalK t s k ρ[s]? ρ) := rfl
@[simp] theorem exS_nrow (s i : Nat) (e : Ex) : exS P (.nrow s i e) ρ = bnd (ev P e ρ) fun c ρ => nrowK s (rowOf c) ρ[i]? ρ[s]? ρ := rfl
@[simp] theorem exS_napp (s : Nat) (e : Ex) : exS P (.napp s e) ρ = nstG ρ[s]? (bnd (ev P e ρ) fun c ρ => nappK s (rowOf c) ρ[s]? ρ) := rfl
@[simp] theorem exS_fins (t s v : Nat) : exS P (.fins t s v) ρ = finsK t s v ρ[s]? ρ[v]? ρ := rfl
@[simp] theorem exS_lend (i : Nat) (us : List Nat) (s : Nat) (e : Ex) : exS P (.lend i us s e) ρ = lendK (fun ds => ev P e (lendE ρ us s ds)) i s ρ[s]? ρ := rfl
@[simp] theorem exS_rse (c : Nat) (es : Exs) : exS P (.rse c es) ρ = bnd (evs P es ρ) fun ds ρ => (match mkX P.xs c ds with
    | some x => .ex x ρ
    | none => .no) := rfl
@[simp] theorem exS_triR (b : Sms) (c s : Option Nat) (h : Hst) : exS P (.tri b c s h) ρ = (match exB P b ρ with
    | .ex x ρ' => if (1000 ≤ x.cls ∧ x.cls < 1000 + P.nx) ∧ okS s ρ' = true then (if P.sub x.cls c = true then hsR P.sub x h (unset ρ' s) else .ex x ρ') else .no
    | r => r) := rfl
@[simp] theorem ev_srt (f : Nat) (e : Ex) : ev P (.srt f e) ρ = bnd (pk e ρ (ev P e ρ)) fun x ρ => bnd (R.lift (starD x) ρ) fun xs ρ => bnd (R.lift (sortK (P.call f) xs) ρ) fun ys ρ => .ok (.ow (.lst ys)) ρ := rfl
def stuK (w i : Nat) (o : Option (List D)) (t : Bool) (ρ : Env) : R Fl := match o with
    | some (x :: xs) => if (w < ρ.length ∧ i < ρ.length) ∧ (w ≠ i ∧ t = true) then .ok .nx ((ρ.set w (some (.sh x))).set i (some (.ow (.lst xs)))) else .no
    | _ => .no
@[simp] theorem stuK_s (w i : Nat) (x : D) (xs : List D) (t : Bool) : stuK w i (some (x :: xs)) t ρ = if (w < ρ.length ∧ i < ρ.length) ∧ (w ≠ i ∧ t = true) then .ok .nx ((ρ.set w (some (.sh x))).set i (some (.ow (.lst xs)))) else .no := rfl
@[simp] theorem exS_stu (w i : Nat) (e : Ex) : exS P (.stu w i e) ρ = bnd (fz (ev P e ρ)) fun d ρ => stuK w i (starD d) (isTupD d) ρ := rfl
def mchV (P : Pg) (c : Option (Option Cell)) (ms : Mcs) (ρ : Env) : R Fl := match c with
    | some (some (.sh d)) => exM P ms d ρ
    | _ => .no
@[simp] theorem mchV_sh (ms : Mcs) (d : D) : mchV P (some (some (.sh d))) ms ρ = exM P ms d ρ := rfl
@[simp] theorem exS_mch (s : Nat) (ms : Mcs) : exS P (.mch s ms) ρ = mchV P ρ[s]? ms ρ := rfl
@[simp] theorem exM_n (d : D) : exM P .n d ρ = .ok .nx ρ := rfl
@[simp] theorem exM_d (b : Sms) (d : D) : exM P (.d b) d ρ = exB P b ρ := rfl
@[simp] theorem exM_c (x : Str) (g : Cdo) (b : Sms) (r : Mcs) (d : D) : exM P (.c x g b r) d ρ = bnd (R.lift (eqD d (.str x)) ρ) fun k ρ => if k = true then bnd (tco P g ρ) fun k ρ => if k = true then exB P b ρ else exM P r d ρ else exM P r d ρ := rfl
@[simp] theorem exB_n : exB P .n ρ = .ok .nx ρ := rfl
/-- what stands behind a statement -/
def thenB (P : Pg) (t : Sms) (fl : Fl) (ρ : Env) : R Fl := match fl with
  | .nx => exB P t ρ
  | fl => .ok fl ρ
@[simp] theorem thenB_nx (t : Sms) : thenB P t .nx ρ = exB P t ρ := rfl
@[simp] theorem thenB_rt (t : Sms) (c : Cell) : thenB P t (.rt c) ρ = .ok (.rt c) ρ := rfl
@[simp] theorem thenB_bk (t : Sms) : thenB P t .bk ρ = .ok .bk ρ := rfl
@[simp] theorem thenB_ct (t : Sms) : thenB P t .ct ρ = .ok .ct ρ := rfl
theorem exB_c (s : Sm) (t : Sms) : exB P (.c s t) ρ = bnd (exS P s ρ) (thenB P t) := rfl
@[simp] theorem outFn_rt (c : Cell) : outFn (.ok (.rt c) ρ) = .ok c := rfl
@[simp] theorem outFn_nx : outFn (.ok .nx ρ) = .ok (.sh .non) := rfl
@[simp] theorem outFn_ex (x : Exn) : outFn (.ex x ρ) = .ex x := rfl
@[simp] theorem tbind_n (i : Nat) (d : D) : Tg.bind (.n i) d ρ = if i < ρ.length then some (ρ.set i (some (.sh d))) else none := rfl
@[simp] theorem tbind_t (t : Tg) (ds : List D) : Tg.bind (.t t) (.tup ds) ρ = Tg.binds t ds ρ := rfl
@[simp] theorem tbinds_z : Tg.binds .z [] ρ = some ρ := rfl
@[simp] theorem tbinds_c (a b : Tg) (d : D) (ds : List D) : Tg.binds (.c a b) (d :: ds) ρ = (Tg.bind a d ρ).bind fun ρ => Tg.binds b ds ρ := rfl
@[simp] theorem forB_nil (t : Tg) (b : Sms) : forB P t b [] ρ = .ok .nx ρ := rfl
end
section
variable {T : Tbl} {c : Nat → List D → FR}
@[simp] theorem pg_call : (T.pg c).call = c := rfl
@[simp] theorem pg_con : (T.pg c).con = T.con := rfl
@[simp] theorem pg_eqs : (T.pg c).eqs = T.eqs := rfl
@[simp] theorem pg_ncls : (T.pg c).ncls = T.ncls := rfl
@[simp] theorem pg_xs : (T.pg c).xs = T.xs := rfl
@[simp] theorem pg_sub : (T.pg c).sub = T.sub := rfl
@[simp] theorem pg_nx : (T.pg c).nx = T.nx := rfl
@[simp] theorem pg_wf : (T.pg c).wf = T.wf := rfl
@[simp] theorem pg_ps : (T.pg c).ps = T.defs.map (·.ps) := rfl
end
section
variable {ρ : Env} {r : R Cell}
@[simp] theorem pk_v (i : Nat) : pk (.v i) ρ r = pkV ρ[i]? ρ := rfl
@[simp] theorem mv_v (i : Nat) : mv (.v i) ρ r = mvV ρ[i]? ρ i := rfl
@[simp] theorem pk_non  : pk .non ρ r = fz r := rfl
@[simp] theorem mv_non  : mv .non ρ r = r := rfl
@[simp] theorem pk_bl (b : Bool) : pk (.bl b) ρ r = fz r := rfl
@[simp] theorem mv_bl (b : Bool) : mv (.bl b) ρ r = r := rfl
@[simp] theorem pk_int (i : Int) : pk (.int i) ρ r = fz r := rfl
@[simp] theorem mv_int (i : Int) : mv (.int i) ρ r = r := rfl
@[simp] theorem pk_str (s : Str) : pk (.str s) ρ r = fz r := rfl
@[simp] theorem mv_str (s : Str) : mv (.str s) ρ r = r := rfl
@[simp] theorem pk_g (n : Nat) : pk (.g n) ρ r = fz r := rfl
@[simp] theorem mv_g (n : Nat) : mv (.g n) ρ r = r := rfl
@[simp] theorem pk_bin (o : Bo) (a b : Ex) : pk (.bin o a b) ρ r = fz r := rfl
@[simp] theorem mv_bin (o : Bo) (a b : Ex) : mv (.bin o a b) ρ r = r := rfl
@[simp] theorem pk_neg (a : Ex) : pk (.neg a) ρ r = fz r := rfl
@[simp] theorem mv_neg (a : Ex) : mv (.neg a) ρ r = r := rfl
@[simp] theorem pk_cmp (o : Co) (a b : Ex) : pk (.cmp o a b) ρ r = fz r := rfl
@[simp] theorem mv_cmp (o : Co) (a b : Ex) : mv (.cmp o a b) ρ r = r := rfl
@[simp] theorem pk_chn (o p : Co) (a b c : Ex) : pk (.chn o p a b c) ρ r = fz r := rfl
@[simp] theorem mv_chn (o p : Co) (a b c : Ex) : mv (.chn o p a b c) ρ r = r := rfl
@[simp] theorem pk_and (a b : Ex) : pk (.and a b) ρ r = fz r := rfl
@[simp] theorem mv_and (a b : Ex) : mv (.and a b) ρ r = r := rfl
@[simp] theorem pk_or (a b : Ex) : pk (.or a b) ρ r = fz r := rfl
@[simp] theorem mv_or (a b : Ex) : mv (.or a b) ρ r = r := rfl
@[simp] theorem pk_not (a : Ex) : pk (.not a) ρ r = fz r := rfl
@[simp] theorem mv_not (a : Ex) : mv (.not a) ρ r = r := rfl
@[simp] theorem pk_ite (c : Cd) (a b : Ex) : pk (.ite c a b) ρ r = fz r := rfl
@[simp] theorem mv_ite (c : Cd) (a b : Ex) : mv (.ite c a b) ρ r = r := rfl
@[simp] theorem pk_tup (es : Exs) : pk (.tup es) ρ r = fz r := rfl
@[simp] theorem mv_tup (es : Exs) : mv (.tup es) ρ r = r := rfl
@[simp] theorem pk_lst (es : Exs) : pk (.lst es) ρ r = fz r := rfl
@[simp] theorem mv_lst (es : Exs) : mv (.lst es) ρ r = r := rfl
@[simp] theorem pk_ix (a b : Ex) : pk (.ix a b) ρ r = fz r := rfl
@[simp] theorem mv_ix (a b : Ex) : mv (.ix a b) ρ r = r := rfl
@[simp] theorem pk_sl (a : Ex) (l h : Exo) : pk (.sl a l h) ρ r = fz r := rfl
@[simp] theorem mv_sl (a : Ex) (l h : Exo) : mv (.sl a l h) ρ r = r := rfl
@[simp] theorem pk_rv (a : Ex) : pk (.rv a) ρ r = fz r := rfl
@[simp] theorem mv_rv (a : Ex) : mv (.rv a) ρ r = r := rfl
@[simp] theorem pk_call (f : Nat) (es : Exs) : pk (.call f es) ρ r = fz r := rfl
@[simp] theorem mv_call (f : Nat) (es : Exs) : mv (.call f es) ρ r = r := rfl
@[simp] theorem pk_callk (f : Nat) (es : Exs) (kn : List Str) (ks : Exs) : pk (.callk f es kn ks) ρ r = fz r := rfl
@[simp] theorem mv_callk (f : Nat) (es : Exs) (kn : List Str) (ks : Exs) : mv (.callk f es kn ks) ρ r = r := rfl
@[simp] theorem pk_mk (c f : Nat) (es : Exs) : pk (.mk c f es) ρ r = fz r := rfl
@[simp] theorem mv_mk (c f : Nat) (es : Exs) : mv (.mk c f es) ρ r = r := rfl
@[simp] theorem pk_mkk (c f : Nat) (es : Exs) (kn : List Str) (ks : Exs) : pk (.mkk c f es kn ks) ρ r = fz r := rfl
@[simp] theorem mv_mkk (c f : Nat) (es : Exs) (kn : List Str) (ks : Exs) : mv (.mkk c f es kn ks) ρ r = r := rfl
@[simp] theorem pk_om (c f : Nat) (o : Ex) (m : Str) (es : Exs) : pk (.om c f o m es) ρ r = fz r := rfl
@[simp] theorem mv_om (c f : Nat) (o : Ex) (m : Str) (es : Exs) : mv (.om c f o m es) ρ r = r := rfl
@[simp] theorem pk_omk (c f : Nat) (o : Ex) (m : Str) (es : Exs) (kn : List Str) (ks : Exs) : pk (.omk c f o m es kn ks) ρ r = fz r := rfl
@[simp] theorem mv_omk (c f : Nat) (o : Ex) (m : Str) (es : Exs) (kn : List Str) (ks : Exs) : mv (.omk c f o m es kn ks) ρ r = r := rfl
@[simp] theorem pk_bi (b : Bi) (es : Exs) : pk (.bi b es) ρ r = fz r := rfl
@[simp] theorem mv_bi (b : Bi) (es : Exs) : mv (.bi b es) ρ r = r := rfl
@[simp] theorem pk_bit (b : Bi) (it : It) : pk (.bit b it) ρ r = fz r := rfl
@[simp] theorem mv_bit (b : Bi) (it : It) : mv (.bit b it) ρ r = r := rfl
@[simp] theorem pk_isi (e : Ex) (tup : Bool) (ts : List Ty) : pk (.isi e tup ts) ρ r = fz r := rfl
@[simp] theorem mv_isi (e : Ex) (tup : Bool) (ts : List Ty) : mv (.isi e tup ts) ρ r = r := rfl
@[simp] theorem pk_mt (m : Mt) (o : Ex) (es : Exs) : pk (.mt m o es) ρ r = fz r := rfl
@[simp] theorem mv_mt (m : Mt) (o : Ex) (es : Exs) : mv (.mt m o es) ρ r = r := rfl
@[simp] theorem pk_fld (o : Ex) (f : Str) : pk (.fld o f) ρ r = fz r := rfl
@[simp] theorem mv_fld (o : Ex) (f : Str) : mv (.fld o f) ρ r = r := rfl
@[simp] theorem pk_lcn (e : Ex) (own : List Nat) (gs : Gens) : pk (.lcn e own gs) ρ r = fz r := rfl
@[simp] theorem mv_lcn (e : Ex) (own : List Nat) (gs : Gens) : mv (.lcn e own gs) ρ r = r := rfl
@[simp] theorem pk_nlen (s : Nat) : pk (.nlen s) ρ r = fz r := rfl
@[simp] theorem mv_nlen (s : Nat) : mv (.nlen s) ρ r = r := rfl
@[simp] theorem pk_lc (e : Ex) (own : List Nat) (gs : Gens) : pk (.lc e own gs) ρ r = fz r := rfl
@[simp] theorem mv_lc (e : Ex) (own : List Nat) (gs : Gens) : mv (.lc e own gs) ρ r = r := rfl
@[simp] theorem pk_dc (k v : Ex) (own : List Nat) (gs : Gens) : pk (.dc k v own gs) ρ r = fz r := rfl
@[simp] theorem mv_dc (k v : Ex) (own : List Nat) (gs : Gens) : mv (.dc k v own gs) ρ r = r := rfl
@[simp] theorem pk_dsp (es : Exs) : pk (.dsp es) ρ r = fz r := rfl
@[simp] theorem mv_dsp (es : Exs) : mv (.dsp es) ρ r = r := rfl
@[simp] theorem pk_srt (f : Nat) (e : Ex) : pk (.srt f e) ρ r = fz r := rfl
@[simp] theorem mv_srt (f : Nat) (e : Ex) : mv (.srt f e) ρ r = r := rfl
end
@[simp] theorem binD_add (i j : Int) : binD .add (.int i) (.int j) = some (.sh (.int (i + j))) := rfl
@[simp] theorem binD_sub (i j : Int) : binD .sub (.int i) (.int j) = some (.sh (.int (i - j))) := rfl
theorem binD_mulL {i j : Int} (h : -18446744073709551616 < i ∧ i < 18446744073709551616) : binD .mul (.int i) (.int j) = some (.sh (.int (i * j))) := if_pos (.inl h)
theorem binD_mulR {i j : Int} (h : -18446744073709551616 < j ∧ j < 18446744073709551616) : binD .mul (.int i) (.int j) = some (.sh (.int (i * j))) := if_pos (.inr h)
@[simp] theorem binD_fdv {i j : Int} (h : 0 < j ∧ j < 1073741824) : binD .fdv (.int i) (.int j) = some (.sh (.int (i / j))) := if_pos h
@[simp] theorem binD_mod {i j : Int} (h : 0 < j) : binD .mod (.int i) (.int j) = some (.sh (.int (i % j))) := if_pos h
@[simp] theorem binD_addS {x y : Str} (h : x.length + y.length ≤ 1000000) : binD .add (.str x) (.str y) = some (.sh (.str (x ++ y))) := if_pos h
@[simp] theorem binD_addT {x y : List D} (h : x.length + y.length ≤ 16777216) : binD .add (.tup x) (.tup y) = some (.sh (.tup (x ++ y))) := if_pos h
@[simp] theorem binD_addL {x y : List D} (h : x.length + y.length ≤ 16777216) : binD .add (.lst x) (.lst y) = some (.ow (.lst (x ++ y))) := if_pos h
@[simp] theorem starD_tup (xs : List D) : starD (.tup xs) = some xs := rfl
@[simp] theorem starD_lst (xs : List D) : starD (.lst xs) = some xs := rfl
@[simp] theorem isTupD_tup (xs : List D) : isTupD (.tup xs) = true := rfl
@[simp] theorem mtOk_get (kvs : List (Key × D)) : mtOk .get (.dct kvs) = true := rfl
@[simp] theorem mtOk_up (x : Str) : mtOk .upper (.str x) = true := rfl
@[simp] theorem mtD_get2 (kvs : List (Key × D)) (k d : D) : mtD .get (.dct kvs) [k, d] = (keyD k).map fun k => .sh ((lookK k kvs).getD d) := rfl
@[simp] theorem biD_strS (x : Str) : biD .str [.str x] = some (.sh (.str x)) := rfl
@[simp] theorem biD_repr (d : D) : biD .repr [d] = reprD d := by cases d <;> rfl
@[simp] theorem cmpD_lt (i j : Int) : cmpD .lt (.int i) (.int j) = some (decide (i < j)) := rfl
@[simp] theorem cmpD_le (i j : Int) : cmpD .le (.int i) (.int j) = some (decide (i ≤ j)) := rfl
@[simp] theorem cmpD_gt (i j : Int) : cmpD .gt (.int i) (.int j) = some (decide (j < i)) := rfl
@[simp] theorem cmpD_ge (i j : Int) : cmpD .ge (.int i) (.int j) = some (decide (j ≤ i)) := rfl
@[simp] theorem cmpD_eq (d e : D) : cmpD .eq d e = eqD d e := rfl
@[simp] theorem cmpD_ne (d e : D) : cmpD .ne d e = (eqD d e).map not := rfl
@[simp] theorem cmpD_in (d e : D) : cmpD .in_ d e = inD d e := rfl
@[simp] theorem cmpD_nin (d e : D) : cmpD .nin d e = (inD d e).map not := rfl
@[simp] theorem trD_bl (b : Bool) : trD (.bl b) = some b := rfl
@[simp] theorem trD_int (i : Int) : trD (.int i) = some (i != 0) := rfl
@[simp] theorem trD_non : trD .non = some false := rfl
@[simp] theorem walkD_lst (xs : List D) : walkD (.lst xs) = some xs := rfl
@[simp] theorem walkD_tup (xs : List D) : walkD (.tup xs) = some xs := rfl
@[simp] theorem intO_int (i : Int) : intO (.int i) = some i := rfl
@[simp] theorem lenD_lst (xs : List D) : lenD (.lst xs) = some xs.length := rfl
@[simp] theorem lenD_tup (xs : List D) : lenD (.tup xs) = some xs.length := rfl
@[simp] theorem lenD_str (x : Str) : lenD (.str x) = some x.length := rfl
@[simp] theorem lenD_dct (xs : List (Key × D)) : lenD (.dct xs) = some xs.length := rfl
@[simp] theorem biD_len (d : D) : biD .len [d] = (lenD d).map fun n => .sh (.int n) := by cases d <;> rfl
@[simp] theorem biD_int (i : Int) : biD .int [.int i] = some (.sh (.int i)) := rfl
@[simp] theorem biD_intB (b : Bool) : biD .int [.bl b] = some (.sh (.int (if b then 1 else 0))) := rfl
@[simp] theorem biD_listL (xs : List D) : biD .list [.lst xs] = some (.ow (.lst xs)) := rfl
@[simp] theorem biD_listT (xs : List D) : biD .list [.tup xs] = some (.ow (.lst xs)) := rfl
@[simp] theorem biD_tupL (xs : List D) : biD .tuple [.lst xs] = some (.sh (.tup xs)) := rfl
@[simp] theorem biD_tupT (xs : List D) : biD .tuple [.tup xs] = some (.sh (.tup xs)) := rfl
@[simp] theorem biD_max (i j : Int) : biD .max [.int i, .int j] = some (.sh (.int (max i j))) := rfl
@[simp] theorem biD_min (i j : Int) : biD .min [.int i, .int j] = some (.sh (.int (min i j))) := rfl
/-- the place i of a list, seen from its front -/
theorem atI_nat {α : Type} {xs : List α} {i : Int} (h : 0 ≤ i ∧ i < xs.length) : atI xs i = xs[i.toNat]? := by
  unfold atI ixN
  rw [if_pos h.1, if_pos h.2, Option.bind_some]
@[simp] theorem ixD_lst {xs : List D} {i : Int} (h : 0 ≤ i ∧ i < xs.length) : ixD (.lst xs) (.int i) = xs[i.toNat]? := atI_nat h
@[simp] theorem ixD_tup {xs : List D} {i : Int} (h : 0 ≤ i ∧ i < xs.length) : ixD (.tup xs) (.int i) = xs[i.toNat]? := atI_nat h
@[simp] theorem ixD_dct (kvs : List (Key × D)) (k : D) : ixD (.dct kvs) k = (keyD k).bind fun k => lookK k kvs := rfl
@[simp] theorem keyD_int (i : Int) : keyD (.int i) = some (.inl i) := rfl
@[simp] theorem keyD_str (x : Str) : keyD (.str x) = some (.inr x) := rfl
@[simp] theorem rngD1 {n : Int} (h : -4611686018427387904 ≤ n ∧ n ≤ 16777216) : rngD [.int n] = some ((List.range n.toNat).map fun (k : Nat) => .int (k : Int)) := by
  show (if _ then _ else _) = _
  rw [if_pos (by exact h)]
  simp
@[simp] theorem rngD2 {a b : Int} (h : (-4611686018427387904 ≤ a ∧ a < 4611686018427387904) ∧ (-4611686018427387904 ≤ b ∧ b < 4611686018427387904) ∧ b - a ≤ 16777216) : rngD [.int a, .int b] = some ((List.range (b - a).toNat).map fun (k : Nat) => .int (a + (k : Int))) := by
  show (if _ then _ else _) = _
  rw [if_pos (by exact h)]
@[simp] theorem cmpR_int (P : Pg) (o : Co) (i : Int) (y : D) (ρ : Env) : cmpR P o (.int i) y ρ = bnd (R.lift (cmpD o (.int i) y) ρ) fun b ρ => .ok (.sh (.bl b)) ρ := rfl
@[simp] theorem cmpR_str (P : Pg) (o : Co) (i : Str) (y : D) (ρ : Env) : cmpR P o (.str i) y ρ = bnd (R.lift (cmpD o (.str i) y) ρ) fun b ρ => .ok (.sh (.bl b)) ρ := rfl
@[simp] theorem cmpR_lst (P : Pg) (o : Co) (i : List D) (y : D) (ρ : Env) : cmpR P o (.lst i) y ρ = bnd (R.lift (cmpD o (.lst i) y) ρ) fun b ρ => .ok (.sh (.bl b)) ρ := rfl
@[simp] theorem cmpR_tup (P : Pg) (o : Co) (i : List D) (y : D) (ρ : Env) : cmpR P o (.tup i) y ρ = bnd (R.lift (cmpD o (.tup i) y) ρ) fun b ρ => .ok (.sh (.bl b)) ρ := rfl
@[simp] theorem cmpR_bool (P : Pg) (o : Co) (i : Bool) (y : D) (ρ : Env) : cmpR P o (.bl i) y ρ = bnd (R.lift (cmpD o (.bl i) y) ρ) fun b ρ => .ok (.sh (.bl b)) ρ := rfl
@[simp] theorem cmpR_non (P : Pg) (o : Co) (y : D) (ρ : Env) : cmpR P o .non y ρ = bnd (R.lift (cmpD o .non y) ρ) fun b ρ => .ok (.sh (.bl b)) ρ := rfl
theorem eqD_of {d e : D} {p q : PyData} (h1 : d.py = some p) (h2 : e.py = some q) (h3 : min p.depth q.depth ≤ 190) : eqD d e = some (PyData.eqv p q) := by
  unfold eqD
  rw [h1, h2]
  exact if_pos h3
@[simp] theorem eqD_int (i j : Int) : eqD (.int i) (.int j) = some (i == j) := by
  rw [eqD_of (p := .int i) (q := .int j) rfl rfl (by simp [PyData.depth])]; rfl
@[simp] theorem eqD_str (i j : Str) : eqD (.str i) (.str j) = some (i == j) := by
  rw [eqD_of (p := .str i) (q := .str j) rfl rfl (by simp [PyData.depth])]; rfl
@[simp] theorem insOk_str (n : Nat) (x : Str) : insOk n (.str x) = true := rfl
@[simp] theorem insOk_int (n : Nat) (x : Int) : insOk n (.int x) = true := rfl
@[simp] theorem insOk_bl (n : Nat) (x : Bool) : insOk n (.bl x) = true := rfl
@[simp] theorem insOk_non (n : Nat) : insOk n .non = true := rfl
@[simp] theorem insOk_tup (n : Nat) (x : List D) : insOk n (.tup x) = true := rfl
@[simp] theorem insOk_lst (n : Nat) (x : List D) : insOk n (.lst x) = true := rfl
@[simp] theorem insOk_dct (n : Nat) (x : List (Key × D)) : insOk n (.dct x) = true := rfl
end DL

set_option maxHeartbeats 4000000
/-! DLt: rules of loops over data. -/
namespace DL
open PySem L2
theorem chr_inj : ∀ {a b : List Char}, a.map Char.toNat = b.map Char.toNat → a = b
  | [], [], _ => rfl
  | [], _ :: _, h => by cases h
  | _ :: _, [], h => by cases h
  | a :: as, b :: bs, h => by
    rw [List.map_cons, List.map_cons] at h
    injection h with h1 h2
    rw [chr_inj h2, Char.toNat_inj.mp h1]
@[simp] theorem str_inj (a b : String) : Str.ofString a = Str.ofString b ↔ a = b := by
  constructor
  · intro h
    rw [Str.ofString_eq_toList, Str.ofString_eq_toList] at h
    injection h with h
    have h := congrArg Array.toList h
    simp only at h
    exact String.toList_inj.mp (chr_inj h)
  · intro h; rw [h]
@[simp] theorem binD_pow {i j : Int} (h : 0 ≤ j ∧ j ≤ 1000000 ∧ i.natAbs < 18446744073709551616) : binD .pow (.int i) (.int j) = some (.sh (.int (i ^ j.toNat))) := if_pos h
mutual
theorem py_refl : ∀ (d : D) (p : PyData), D.py d = some p → PyData.eqv p p = true
  | .non, p, h => by cases h; rfl
  | .bl b, p, h => by cases h; simp [PyData.eqv]
  | .int i, p, h => by cases h; simp [PyData.eqv]
  | .str x, p, h => by cases h; simp [PyData.eqv]
  | .tup xs, p, h => by
    unfold D.py at h
    obtain ⟨ps, h1, h2⟩ := Option.map_eq_some_iff.mp h
    subst h2
    simp only [PyData.eqv]
    exact pyAll_refl xs ps h1
  | .lst xs, p, h => by
    unfold D.py at h
    obtain ⟨ps, h1, h2⟩ := Option.map_eq_some_iff.mp h
    subst h2
    simp only [PyData.eqv]
    exact pyAll_refl xs ps h1
  | .dct _, p, h => by cases h
  | .ins _ _, p, h => by cases h
theorem pyAll_refl : ∀ (ds : List D) (ps : List PyData), D.pyAll ds = some ps → PyData.eqvAll ps ps = true
  | [], ps, h => by cases h; rfl
  | d :: ds, ps, h => by
    unfold D.pyAll at h
    split at h
    · rename_i p qs h1 h2
      cases h
      simp only [PyData.eqvAll]
      rw [py_refl d p h1, pyAll_refl ds qs h2]; rfl
    · cases h
end
/-- plain data: no dict, no object, n deep at most -/
def plB : Nat → D → Bool
  | _, .non => true
  | _, .bl _ => true
  | _, .int _ => true
  | _, .str _ => true
  | n + 1, .tup xs => xs.all (plB n)
  | n + 1, .lst xs => xs.all (plB n)
  | _, _ => false
theorem plB_py : ∀ (n : Nat) (d : D), plB n d = true → ∃ p, d.py = some p ∧ p.depth ≤ n := by
  have all : ∀ (n : Nat), (∀ d, plB n d = true → ∃ p, D.py d = some p ∧ p.depth ≤ n) → ∀ ds : List D, ds.all (plB n) = true → ∃ ps, D.pyAll ds = some ps ∧ PyData.depthAll ps ≤ n := by
    intro n hn ds
    induction ds with
    | nil => intro _; exact ⟨[], rfl, by simp [PyData.depthAll]⟩
    | cons d ds ih =>
      intro h
      rw [List.all_cons, Bool.and_eq_true] at h
      obtain ⟨p, h1, h2⟩ := hn d h.1
      obtain ⟨ps, h3, h4⟩ := ih h.2
      refine ⟨p :: ps, by unfold D.pyAll; rw [h1, h3], ?_⟩
      simp only [PyData.depthAll]; omega
  intro n
  induction n with
  | zero =>
    intro d h
    cases d with
    | non => exact ⟨_, rfl, by simp [PyData.depth]⟩
    | bl b => exact ⟨_, rfl, by simp [PyData.depth]⟩
    | int i => exact ⟨_, rfl, by simp [PyData.depth]⟩
    | str x => exact ⟨_, rfl, by simp [PyData.depth]⟩
    | _ => simp [plB] at h
  | succ n ih =>
    intro d h
    cases d with
    | non => exact ⟨_, rfl, by simp [PyData.depth]⟩
    | bl b => exact ⟨_, rfl, by simp [PyData.depth]⟩
    | int i => exact ⟨_, rfl, by simp [PyData.depth]⟩
    | str x => exact ⟨_, rfl, by simp [PyData.depth]⟩
    | tup xs =>
      obtain ⟨ps, h1, h2⟩ := all n ih xs h
      exact ⟨.tuple ps, by unfold D.py; rw [h1]; rfl, by simp only [PyData.depth]; omega⟩
    | lst xs =>
      obtain ⟨ps, h1, h2⟩ := all n ih xs h
      exact ⟨.list ps, by unfold D.py; rw [h1]; rfl, by simp only [PyData.depth]; omega⟩
    | _ => simp [plB] at h
theorem eqD_self {d : D} (h : plB 100 d = true) : eqD d d = some true := by
  obtain ⟨p, h1, h2⟩ := plB_py 100 d h
  rw [eqD_of h1 h1 (by omega), py_refl d p h1]
@[simp] theorem inD_dct (x : Str) (kvs : List (Key × D)) : inD (.str x) (.dct kvs) = some (lookK (.inr x) kvs).isSome := rfl
theorem cutL_tail {α : Type} (x : α) (xs : List α) : cutL (x :: xs) (some 1) none = xs := by
  unfold cutL
  have h1 : HT.sIx (x :: xs).length 0 (some 1) = 1 := by
    unfold HT.sIx
    simp only [List.length_cons]
    split <;> omega
  have h2 : HT.sIx (x :: xs).length (x :: xs).length none = xs.length + 1 := by
    unfold HT.sIx; simp
  rw [h1, h2]
  simp
@[simp] theorem slD_tailT (x : D) (xs : List D) : slD (.tup (x :: xs)) (some 1) none = some (.sh (.tup xs)) := by
  show some (Cell.sh (.tup (cutL _ _ _))) = _
  rw [cutL_tail]
@[simp] theorem slD_tailL (x : D) (xs : List D) : slD (.lst (x :: xs)) (some 1) none = some (.ow (.lst xs)) := by
  show some (Cell.ow (.lst (cutL _ _ _))) = _
  rw [cutL_tail]
@[simp] theorem lookup_str {α : Type} (a b : String) (v : α) (l : List (Str × α)) : List.lookup (Str.ofString a) ((Str.ofString b, v) :: l) = if a = b then some v else List.lookup (Str.ofString a) l := by
  rw [List.lookup_cons]
  by_cases h : a = b
  · subst h; simp
  · have : (Str.ofString a == Str.ofString b) = false := by rw [beq_eq_false_iff_ne]; exact fun z => h ((str_inj a b).mp z)
    rw [this, if_neg h]
theorem erase_map {α β : Type} (f : α → β) : ∀ (l : List α) (i : Nat), (l.map f).eraseIdx i = (l.eraseIdx i).map f
  | [], _ => rfl
  | _ :: _, 0 => rfl
  | x :: l, i + 1 => by rw [List.map_cons, List.eraseIdx_cons_succ, List.eraseIdx_cons_succ, List.map_cons, erase_map f l i]
theorem erase_perm {α : Type} : ∀ (l : List α) (i : Nat) (h : i < l.length), (l[i] :: l.eraseIdx i).Perm l
  | [], _, h => by simp at h
  | x :: l, 0, _ => List.Perm.refl _
  | x :: l, i + 1, h => by
    rw [List.eraseIdx_cons_succ, List.getElem_cons_succ]
    exact (List.Perm.swap _ _ _).trans ((erase_perm l i (by simpa using h)).cons x)
theorem cutL_to {α : Type} (xs : List α) {h : Int} (h0 : 0 ≤ h) : cutL xs none (some h) = xs.take h.toNat := by
  unfold cutL
  have h1 : HT.sIx xs.length 0 none = 0 := rfl
  have h2 : HT.sIx xs.length xs.length (some h) = min h.toNat xs.length := by
    unfold HT.sIx
    simp only
    rw [if_neg (by omega)]
  rw [h1, h2]
  simp [List.take_take]
theorem cutL_from {α : Type} (xs : List α) {h : Int} (h0 : 0 ≤ h) : cutL xs (some h) none = xs.drop h.toNat := by
  unfold cutL
  have h1 : HT.sIx xs.length 0 (some h) = min h.toNat xs.length := by
    unfold HT.sIx
    simp only
    rw [if_neg (by omega)]
  have h2 : HT.sIx xs.length xs.length none = xs.length := rfl
  rw [h1, h2]
  by_cases z : h.toNat ≤ xs.length
  · rw [Nat.min_eq_left z]
    rw [List.take_of_length_le (by rw [List.length_drop]; exact Nat.le_refl _)]
  · rw [Nat.min_eq_right (by omega), List.drop_eq_nil_of_le (show xs.length ≤ xs.length by omega), List.drop_eq_nil_of_le (show xs.length ≤ h.toNat by omega)]
    simp
theorem slD_toL {xs : List D} {h : Int} (h0 : 0 ≤ h) : slD (.lst xs) none (some h) = some (.ow (.lst (xs.take h.toNat))) := by
  show some (Cell.ow (.lst (cutL _ _ _))) = _
  rw [cutL_to _ h0]
theorem slD_fromL {xs : List D} {h : Int} (h0 : 0 ≤ h) : slD (.lst xs) (some h) none = some (.ow (.lst (xs.drop h.toNat))) := by
  show some (Cell.ow (.lst (cutL _ _ _))) = _
  rw [cutL_from _ h0]
theorem pyAll_ints (l : List Int) : D.pyAll (l.map .int) = some (l.map .int) := by
  induction l with
  | nil => rfl
  | cons x l ih => show (match D.py (.int x), D.pyAll (l.map .int) with | some p, some ps => some (p :: ps) | _, _ => none) = _; rw [ih]; rfl
theorem any_ints (x : Int) (l : List Int) : (l.map PyData.int).any (fun z => PyData.eqv z (.int x)) = decide (x ∈ l) := by
  induction l with
  | nil => rfl
  | cons y l ih =>
    rw [List.map_cons, List.any_cons, ih]
    have : PyData.eqv (.int y) (.int x) = (y == x) := rfl
    rw [this]
    by_cases h : y = x
    · subst h; simp
    · have h' : ¬ x = y := fun z => h z.symm
      simp [h, h']
theorem inSeq_ints (x : Int) (l : List Int) : inSeq (.int x) (l.map .int) = some (decide (x ∈ l)) := by
  unfold inSeq
  rw [pyAll_ints]
  show (if min _ (PyData.depth (.int x)) ≤ 190 then _ else _) = _
  have : PyData.depth (.int x) = 0 := by simp [PyData.depth]
  rw [if_pos (by omega), any_ints]
theorem inD_ints (x : Int) (l : List Int) : inD (.int x) (.lst (l.map .int)) = some (decide (x ∈ l)) := inSeq_ints x l
theorem inD_intsT (x : Int) (l : List Int) : inD (.int x) (.tup (l.map .int)) = some (decide (x ∈ l)) := inSeq_ints x l
/-- one turn of a for -/
def stepB (P : Pg) (t : Tg) (b : Sms) (d : D) (ρ : Env) : R Fl := bnd (R.lift (t.bind d ρ) ρ) fun ρ _ => exB P b ρ
theorem stepB_n {P : Pg} {i : Nat} {b : Sms} {d : D} {ρ : Env} (h : i < ρ.length) : stepB P (.n i) b d ρ = exB P b (ρ.set i (some (.sh d))) := by
  unfold stepB; rw [tbind_n, if_pos h]; rfl
def contB (P : Pg) (t : Tg) (b : Sms) (ds : List D) (fl : Fl) (ρ : Env) : R Fl := match fl with
  | .nx => forB P t b ds ρ
  | .ct => forB P t b ds ρ
  | .bk => .ok .nx ρ
  | .rt c => .ok (.rt c) ρ
theorem forB_cons (P : Pg) (t : Tg) (b : Sms) (d : D) (ds : List D) (ρ : Env) : forB P t b (d :: ds) ρ = (stepB P t b d ρ).bind (contB P t b ds) := rfl
theorem forB_rule {P : Pg} {t : Tg} {b : Sms} {Post : R Fl → Prop} (I : List D → Env → Prop) (hn : ∀ ρ, I [] ρ → Post (.ok .nx ρ))
    (hc : ∀ d ds ρ, I (d :: ds) ρ → (∃ ρ', stepB P t b d ρ = .ok .nx ρ' ∧ I ds ρ') ∨ (∃ ρ', stepB P t b d ρ = .ok .ct ρ' ∧ I ds ρ') ∨ (∃ ρ', stepB P t b d ρ = .ok .bk ρ' ∧ Post (.ok .nx ρ')) ∨ (∃ c ρ', stepB P t b d ρ = .ok (.rt c) ρ' ∧ Post (.ok (.rt c) ρ')) ∨ ∃ x ρ', stepB P t b d ρ = .ex x ρ' ∧ Post (.ex x ρ')) :
    ∀ (ds : List D) (ρ : Env), I ds ρ → Post (forB P t b ds ρ)
  | [], ρ, h => hn ρ h
  | d :: ds, ρ, h => by
    rw [forB_cons]
    rcases hc d ds ρ h with ⟨ρ', e, h⟩ | ⟨ρ', e, h⟩ | ⟨ρ', e, h⟩ | ⟨c, ρ', e, h⟩ | ⟨x, ρ', e, h⟩
    · rw [e]; exact forB_rule I hn hc ds ρ' h
    · rw [e]; exact forB_rule I hn hc ds ρ' h
    · rw [e]; exact h
    · rw [e]; exact h
    · rw [e]; exact h
/-- a loop that goes to its end: the slots keep I -/
theorem forB_all {P : Pg} {t : Tg} {b : Sms} (I : List D → Env → Prop) (hc : ∀ d ds ρ, I (d :: ds) ρ → ∃ ρ', (stepB P t b d ρ = .ok .nx ρ' ∨ stepB P t b d ρ = .ok .ct ρ') ∧ I ds ρ') (ds : List D) (ρ : Env) (h : I ds ρ) : ∃ ρ', forB P t b ds ρ = .ok .nx ρ' ∧ I [] ρ' :=
  forB_rule (Post := fun r => ∃ ρ', r = .ok .nx ρ' ∧ I [] ρ') I (fun ρ h => ⟨ρ, rfl, h⟩) (fun d ds ρ h => by
    obtain ⟨ρ', e | e, h⟩ := hc d ds ρ h
    · exact .inl ⟨ρ', e, h⟩
    · exact .inr (.inl ⟨ρ', e, h⟩)) ds ρ h
/-- .. over a list of things, with a state -/
theorem forB_fold {α S ι : Type} {P : Pg} {t : Tg} {b : Sms} {enc : α → D} (E : ι → S → Env) (g : S → α → S) (xs : List α) (hs : ∀ o s x, x ∈ xs → ∃ o', stepB P t b (enc x) (E o s) = .ok .nx (E o' (g s x))) :
    ∀ (o : ι) (s : S), ∃ o', forB P t b (xs.map enc) (E o s) = .ok .nx (E o' (xs.foldl g s)) := by
  induction xs with
  | nil => exact fun o s => ⟨o, rfl⟩
  | cons x xs ih =>
    intro o s
    obtain ⟨o1, e1⟩ := hs o s x List.mem_cons_self
    obtain ⟨o2, e2⟩ := ih (fun o s y hy => hs o s y (List.mem_cons_of_mem _ hy)) o1 (g s x)
    refine ⟨o2, ?_⟩
    rw [List.map_cons, forB_cons, e1]
    exact e2
/-- .. with what stands before the rest of the things -/
theorem forB_pre {α : Type} {P : Pg} {t : Tg} {b : Sms} {enc : α → D} (I : List α → Env → Prop) (hs : ∀ x rest ρ, I (x :: rest) ρ → ∃ ρ', stepB P t b (enc x) ρ = .ok .nx ρ' ∧ I rest ρ') : ∀ (xs : List α) (ρ : Env), I xs ρ → ∃ ρ', forB P t b (xs.map enc) ρ = .ok .nx ρ' ∧ I [] ρ'
  | [], ρ, h => ⟨ρ, rfl, h⟩
  | x :: xs, ρ, h => by
    obtain ⟨ρ1, e1, h1⟩ := hs x xs ρ h
    obtain ⟨ρ2, e2, h2⟩ := forB_pre I hs xs ρ1 h1
    refine ⟨ρ2, ?_, h2⟩
    rw [List.map_cons, forB_cons, e1]
    exact e2
/-- .. for k in range(n) -/
theorem forB_rng {P : Pg} {t : Tg} {b : Sms} (n : Nat) (I : Nat → Env → Prop) (hs : ∀ k ρ, k < n → I k ρ → ∃ ρ', stepB P t b (.int k) ρ = .ok .nx ρ' ∧ I (k + 1) ρ') (ρ : Env) (h : I 0 ρ) : ∃ ρ', forB P t b ((List.range n).map fun (k : Nat) => .int (k : Int)) ρ = .ok .nx ρ' ∧ I n ρ' := by
  obtain ⟨ρ', e, j, ej, hj, h'⟩ := forB_pre (P := P) (t := t) (b := b) (enc := fun (k : Nat) => D.int (k : Int)) (fun rest ρ => ∃ k, rest = (List.range n).drop k ∧ k ≤ n ∧ I k ρ) (fun x rest ρ ⟨k, e, hk, hI⟩ => by
    have hlt : k < n := by
      by_cases z : k < n
      · exact z
      · rw [List.drop_eq_nil_of_le (by rw [List.length_range]; omega)] at e; cases e
    rw [List.drop_eq_getElem_cons (by rw [List.length_range]; exact hlt), List.getElem_range] at e
    injection e with e1 e2
    subst e1 e2
    obtain ⟨ρ', e3, h3⟩ := hs x ρ hlt hI
    exact ⟨ρ', e3, x + 1, rfl, hlt, h3⟩) (List.range n) ρ ⟨0, rfl, Nat.zero_le _, h⟩
  have hk : j = n := by
    have := congrArg List.length ej
    simp at this
    omega
  subst hk
  exact ⟨ρ', e, h'⟩
/-- a loop that looks for the first thing with p -/
theorem forB_find {α ι : Type} {P : Pg} {t : Tg} {b : Sms} {enc : α → D} (E : ι → Env) (p : α → Bool) (r : α → Cell) (xs : List α)
    (hs : ∀ o x, x ∈ xs → (p x = false ∧ ∃ o', stepB P t b (enc x) (E o) = .ok .nx (E o')) ∨ (p x = true ∧ ∃ ρ, stepB P t b (enc x) (E o) = .ok (.rt (r x)) ρ)) :
    ∀ (o : ι), (xs.find? p = none ∧ ∃ o', forB P t b (xs.map enc) (E o) = .ok .nx (E o')) ∨ ∃ x ρ, xs.find? p = some x ∧ forB P t b (xs.map enc) (E o) = .ok (.rt (r x)) ρ := by
  induction xs with
  | nil => exact fun o => .inl ⟨rfl, o, rfl⟩
  | cons x xs ih =>
    intro o
    rw [List.map_cons, forB_cons]
    rcases hs o x List.mem_cons_self with ⟨h, o', e⟩ | ⟨h, ρ, e⟩
    · rw [e, List.find?_cons, h]
      exact ih (fun o y hy => hs o y (List.mem_cons_of_mem _ hy)) o'
    · rw [e, List.find?_cons, h]
      exact .inr ⟨x, ρ, rfl, rfl⟩
/-- .. and raises there -/
theorem forB_findX {α ι : Type} {P : Pg} {t : Tg} {b : Sms} {enc : α → D} (E : ι → Env) (p : α → Bool) (r : α → Exn) (xs : List α)
    (hs : ∀ o x, x ∈ xs → (p x = false ∧ ∃ o', stepB P t b (enc x) (E o) = .ok .nx (E o')) ∨ (p x = true ∧ ∃ ρ, stepB P t b (enc x) (E o) = .ex (r x) ρ)) :
    ∀ (o : ι), (xs.find? p = none ∧ ∃ o', forB P t b (xs.map enc) (E o) = .ok .nx (E o')) ∨ ∃ x ρ, xs.find? p = some x ∧ forB P t b (xs.map enc) (E o) = .ex (r x) ρ := by
  induction xs with
  | nil => exact fun o => .inl ⟨rfl, o, rfl⟩
  | cons x xs ih =>
    intro o
    rw [List.map_cons, forB_cons]
    rcases hs o x List.mem_cons_self with ⟨h, o', e⟩ | ⟨h, ρ, e⟩
    · rw [e, List.find?_cons, h]
      exact ih (fun o y hy => hs o y (List.mem_cons_of_mem _ hy)) o'
    · rw [e, List.find?_cons, h]
      exact .inr ⟨x, ρ, rfl, rfl⟩
theorem enuD_map {α : Type} (f : α → D) (xs : List α) : enuD (xs.map f) = xs.zipIdx.map fun p => .tup [.int p.2, f p.1] := by
  unfold enuD
  rw [List.zipIdx_map, List.map_map]
  rfl
/-! ### comprehensions -/
def turnB (P : Pg) (e : Ex) (t : Tg) (c : Cdo) (d : D) (ρ : Env) : R (List D) := bnd (R.lift (t.bind d ρ) ρ) fun ρ _ => bnd (tco P c ρ) fun b ρ => if b = true then bnd (fz (ev P e ρ)) fun d ρ => .ok [d] ρ else .ok [] ρ
def turnNB (P : Pg) (e : Ex) (t : Tg) (c : Cdo) (d : D) (ρ : Env) : R (List D) := bnd (R.lift (t.bind d ρ) ρ) fun ρ _ => bnd (tco P c ρ) fun b ρ => if b = true then bnd (ev P e ρ) fun c ρ => bnd (R.lift (rowOf c) ρ) fun d ρ => .ok [d] ρ else .ok [] ρ
def turnDB (P : Pg) (k v : Ex) (t : Tg) (c : Cdo) (d : D) (ρ : Env) : R (List D) := bnd (R.lift (t.bind d ρ) ρ) fun ρ _ => bnd (tco P c ρ) fun b ρ => if b = true then bnd (fz (ev P k ρ)) fun x ρ => bnd (fz (ev P v ρ)) fun y ρ => .ok [x, y] ρ else .ok [] ρ
theorem bind_lift_irr {α β : Type} (o : Option α) (ρ ρ' : Env) (k : α → R β) : (R.lift o ρ).bind (fun a _ => k a) = (R.lift o ρ').bind (fun a _ => k a) := by cases o <;> rfl
theorem lcB_eq (P : Pg) (e : Ex) (own : List Nat) (t : Tg) (c : Cdo) (ds : List D) (ρ : Env) : lcB P e own t c ds ρ = loopC (fun d ρ => turnB P e t c d (wipeE ρ own)) ds ρ := by
  unfold lcB
  congr 1
  funext d ρ
  exact bind_lift_irr _ _ _ _
theorem lcnB_eq (P : Pg) (e : Ex) (own : List Nat) (t : Tg) (c : Cdo) (ds : List D) (ρ : Env) : lcnB P e own t c ds ρ = loopC (fun d ρ => turnNB P e t c d (wipeE ρ own)) ds ρ := by
  unfold lcnB
  congr 1
  funext d ρ
  exact bind_lift_irr _ _ _ _
theorem dcB_eq (P : Pg) (k v : Ex) (own : List Nat) (t : Tg) (c : Cdo) (ds : List D) (ρ : Env) : dcB P k v own t c ds ρ = loopC (fun d ρ => turnDB P k v t c d (wipeE ρ own)) ds ρ := by
  unfold dcB
  congr 1
  funext d ρ
  exact bind_lift_irr _ _ _ _
theorem loopC_inv {α : Type} {enc : α → D} {own : List Nat} {f : D → Env → R (List D)} {g : α → List D} (I : Env → Prop) : ∀ (xs : List α) (_ : ∀ x ∈ xs, ∀ ρ, I ρ → ∃ ρ', f (enc x) ρ = .ok (g x) ρ' ∧ I (wipeE ρ' own)) (_ : (xs.flatMap g).length ≤ cap) (ρ : Env) (_ : I (wipeE ρ own)),
    ∃ ρ', loopC (fun d ρ => f d (wipeE ρ own)) (xs.map enc) ρ = .ok (xs.flatMap g) ρ' ∧ I (wipeE ρ' own)
  | [], _, _, ρ, h => ⟨ρ, rfl, h⟩
  | x :: xs, hs, hl, ρ, h => by
    rw [List.flatMap_cons, List.length_append] at hl
    obtain ⟨ρ1, e1, h1⟩ := hs x List.mem_cons_self _ h
    obtain ⟨ρ2, e2, h2⟩ := loopC_inv I xs (fun y hy => hs y (List.mem_cons_of_mem _ hy)) (by omega) ρ1 h1
    refine ⟨ρ2, ?_, h2⟩
    rw [List.map_cons, List.flatMap_cons]
    unfold loopC
    rw [e1, R.bind_ok, e2, R.bind_ok, if_pos hl]
theorem backE_wipe {ρ0 ρ ρ' : Env} {own : List Nat} (h : wipeE ρ' own = wipeE ρ own) : backE ρ0 ρ' own = backE ρ0 ρ own := by
  have hl : ρ'.length = ρ.length := by have := congrArg List.length h; rw [wipeE_length, wipeE_length] at this; exact this
  apply List.ext_getElem?
  intro i
  unfold backE
  rw [List.getElem?_mapIdx, List.getElem?_mapIdx]
  by_cases z : i ∈ own
  · by_cases hi : i < ρ.length
    · rw [List.getElem?_eq_getElem hi, List.getElem?_eq_getElem (show i < ρ'.length by omega)]
      simp [z]
    · have h1 : ρ[i]? = none := List.getElem?_eq_none (by omega)
      have h2 : ρ'[i]? = none := List.getElem?_eq_none (by omega)
      rw [h1, h2]
  · have := congrArg (·[i]?) h
    simp only [wipeE_out z] at this
    rw [this]
/-- a list comprehension whose turns leave the slots as they are -/
theorem lc_val {α : Type} {enc : α → D} {P : Pg} {e : Ex} {own : List Nat} {t : Tg} {c : Cdo} {xs : List α} {g : α → List D} {ρ : Env} (hs : ∀ x ∈ xs, ∃ ρ', turnB P e t c (enc x) (wipeE ρ own) = .ok (g x) ρ' ∧ wipeE ρ' own = wipeE ρ own) (hl : (xs.flatMap g).length ≤ cap) :
    ∃ ρ', lcB P e own t c (xs.map enc) ρ = .ok (xs.flatMap g) ρ' ∧ ∀ ρ0, backE ρ0 ρ' own = backE ρ0 ρ own := by
  obtain ⟨ρ', e1, h1⟩ := loopC_inv (own := own) (f := turnB P e t c) (I := (· = wipeE ρ own)) xs (fun x hx r hr => by rw [hr]; exact hs x hx) hl ρ rfl
  exact ⟨ρ', by rw [lcB_eq]; exact e1, fun ρ0 => backE_wipe h1⟩
theorem lcn_val {α : Type} {enc : α → D} {P : Pg} {e : Ex} {own : List Nat} {t : Tg} {c : Cdo} {xs : List α} {g : α → List D} {ρ : Env} (hs : ∀ x ∈ xs, ∃ ρ', turnNB P e t c (enc x) (wipeE ρ own) = .ok (g x) ρ' ∧ wipeE ρ' own = wipeE ρ own) (hl : (xs.flatMap g).length ≤ cap) :
    ∃ ρ', lcnB P e own t c (xs.map enc) ρ = .ok (xs.flatMap g) ρ' ∧ ∀ ρ0, backE ρ0 ρ' own = backE ρ0 ρ own := by
  obtain ⟨ρ', e1, h1⟩ := loopC_inv (own := own) (f := turnNB P e t c) (I := (· = wipeE ρ own)) xs (fun x hx r hr => by rw [hr]; exact hs x hx) hl ρ rfl
  exact ⟨ρ', by rw [lcnB_eq]; exact e1, fun ρ0 => backE_wipe h1⟩
theorem dc_val {α : Type} {enc : α → D} {P : Pg} {k v : Ex} {own : List Nat} {t : Tg} {c : Cdo} {xs : List α} {g : α → List D} {ρ : Env} (hs : ∀ x ∈ xs, ∃ ρ', turnDB P k v t c (enc x) (wipeE ρ own) = .ok (g x) ρ' ∧ wipeE ρ' own = wipeE ρ own) (hl : (xs.flatMap g).length ≤ cap) :
    ∃ ρ', dcB P k v own t c (xs.map enc) ρ = .ok (xs.flatMap g) ρ' ∧ ∀ ρ0, backE ρ0 ρ' own = backE ρ0 ρ own := by
  obtain ⟨ρ', e1, h1⟩ := loopC_inv (own := own) (f := turnDB P k v t c) (I := (· = wipeE ρ own)) xs (fun x hx r hr => by rw [hr]; exact hs x hx) hl ρ rfl
  exact ⟨ρ', by rw [dcB_eq]; exact e1, fun ρ0 => backE_wipe h1⟩
/-- r hands on a, and then W -/
def okW {α : Type} (r : R α) (a : α) (W : Env → Prop) : Prop := match r with
  | .ok b ρ => b = a ∧ W ρ
  | _ => False
@[simp] theorem okW_ok {α : Type} {a b : α} {ρ : Env} {W : Env → Prop} : okW (.ok b ρ) a W ↔ b = a ∧ W ρ := Iff.rfl
theorem okW_ex {α : Type} {r : R α} {a : α} {W : Env → Prop} (h : okW r a W) : ∃ ρ, r = .ok a ρ ∧ W ρ := by
  cases r with
  | ok b ρ => exact ⟨ρ, by rw [h.1], h.2⟩
  | ex _ _ => exact h.elim
  | no => exact h.elim
theorem flat_one {α β : Type} (h : α → β) (xs : List α) : xs.flatMap (fun x => [h x]) = xs.map h := by
  induction xs with
  | nil => rfl
  | cons x xs ih => rw [List.flatMap_cons, ih]; rfl
theorem flat_if {α β : Type} (p : α → Bool) (h : α → β) (xs : List α) : xs.flatMap (fun x => if p x = true then [h x] else []) = (xs.filter p).map h := by
  induction xs with
  | nil => rfl
  | cons x xs ih =>
    rw [List.flatMap_cons, ih, List.filter_cons]
    split <;> rfl
theorem lc_mapW {α : Type} {enc : α → D} {P : Pg} {e : Ex} {own : List Nat} {t : Tg} {c : Cdo} {xs : List α} (h : α → D) {ρ : Env} (ρ0 : Env) (hs : ∀ x ∈ xs, okW (turnB P e t c (enc x) (wipeE ρ own)) [h x] (fun ρ' => wipeE ρ' own = wipeE ρ own)) (hl : xs.length ≤ 16777216) (hb : backE ρ0 ρ own = ρ := by rfl) :
    ∃ ρ', lcB P e own t c (xs.map enc) ρ = .ok (xs.map h) ρ' ∧ backE ρ0 ρ' own = ρ := by
  obtain ⟨ρ', e1, e2⟩ := lc_val (g := fun x => [h x]) (fun x hx => okW_ex (hs x hx)) (by rw [flat_one, List.length_map]; exact hl)
  exact ⟨ρ', by rw [e1, flat_one], (e2 ρ0).trans hb⟩
theorem lc_filterW {α : Type} {enc : α → D} {P : Pg} {e : Ex} {own : List Nat} {t : Tg} {c : Cdo} {xs : List α} (p : α → Bool) (h : α → D) {ρ : Env} (ρ0 : Env) (hs : ∀ x ∈ xs, okW (turnB P e t c (enc x) (wipeE ρ own)) (if p x = true then [h x] else []) (fun ρ' => wipeE ρ' own = wipeE ρ own)) (hl : xs.length ≤ 16777216) (hb : backE ρ0 ρ own = ρ := by rfl) :
    ∃ ρ', lcB P e own t c (xs.map enc) ρ = .ok ((xs.filter p).map h) ρ' ∧ backE ρ0 ρ' own = ρ := by
  obtain ⟨ρ', e1, e2⟩ := lc_val (g := fun x => if p x = true then [h x] else []) (fun x hx => okW_ex (hs x hx)) (by
    rw [flat_if, List.length_map]
    exact Nat.le_trans (List.length_filter_le _ _) hl)
  exact ⟨ρ', by rw [e1, flat_if], (e2 ρ0).trans hb⟩
theorem lcn_mapW {α : Type} {enc : α → D} {P : Pg} {e : Ex} {own : List Nat} {t : Tg} {c : Cdo} {xs : List α} (h : α → D) {ρ : Env} (ρ0 : Env) (hs : ∀ x ∈ xs, okW (turnNB P e t c (enc x) (wipeE ρ own)) [h x] (fun ρ' => wipeE ρ' own = wipeE ρ own)) (hl : xs.length ≤ 16777216) (hb : backE ρ0 ρ own = ρ := by rfl) :
    ∃ ρ', lcnB P e own t c (xs.map enc) ρ = .ok (xs.map h) ρ' ∧ backE ρ0 ρ' own = ρ := by
  obtain ⟨ρ', e1, e2⟩ := lcn_val (g := fun x => [h x]) (fun x hx => okW_ex (hs x hx)) (by rw [flat_one, List.length_map]; exact hl)
  exact ⟨ρ', by rw [e1, flat_one], (e2 ρ0).trans hb⟩
/-- a dict comprehension: keys, values -/
theorem dc_mapW {α : Type} {enc : α → D} {P : Pg} {k v : Ex} {own : List Nat} {t : Tg} {c : Cdo} {xs : List α} (h1 h2 : α → D) {ρ : Env} (ρ0 : Env) (hs : ∀ x ∈ xs, okW (turnDB P k v t c (enc x) (wipeE ρ own)) [h1 x, h2 x] (fun ρ' => wipeE ρ' own = wipeE ρ own)) (hl : 2 * xs.length ≤ 16777216) (hb : backE ρ0 ρ own = ρ := by rfl) :
    ∃ ρ', dcB P k v own t c (xs.map enc) ρ = .ok (xs.flatMap fun x => [h1 x, h2 x]) ρ' ∧ backE ρ0 ρ' own = ρ := by
  obtain ⟨ρ', e1, e2⟩ := dc_val (g := fun x => [h1 x, h2 x]) (fun x hx => okW_ex (hs x hx)) (by
    have : ∀ l : List α, (l.flatMap fun x => [h1 x, h2 x]).length = 2 * l.length := by
      intro l
      induction l with
      | nil => rfl
      | cons x xs ih => rw [List.flatMap_cons, List.length_append, ih, List.length_cons]; simp; omega
    rw [this]; exact hl)
  exact ⟨ρ', e1, (e2 ρ0).trans hb⟩
@[simp] theorem outMk_ex {c : Nat} {x : Exn} {ρ : Env} : outMk c (.ex x ρ) = .ex x := rfl
@[simp] theorem outMk_nx {c : Nat} {fs : List (Str × D)} {ρ : Env} : outMk c (.ok .nx (some (.ow (.ins c fs)) :: ρ)) = .ok (.ow (.ins c fs)) := by
  show (if c = c then _ else _) = _
  rw [if_pos rfl]
theorem lc_map {α : Type} {enc : α → D} {P : Pg} {e : Ex} {own : List Nat} {t : Tg} {c : Cdo} {xs : List α} (h : α → D) {ρ : Env} (hs : ∀ x ∈ xs, okW (turnB P e t c (enc x) (wipeE ρ own)) [h x] (fun ρ' => wipeE ρ' own = wipeE ρ own)) (hl : xs.length ≤ 16777216) (hb : backE ρ ρ own = ρ) :
    ∃ ρ', lcB P e own t c (xs.map enc) ρ = .ok (xs.map h) ρ' ∧ backE ρ ρ' own = ρ := lc_mapW h ρ hs hl hb
theorem lc_filter {α : Type} {enc : α → D} {P : Pg} {e : Ex} {own : List Nat} {t : Tg} {c : Cdo} {xs : List α} (p : α → Bool) (h : α → D) {ρ : Env} (hs : ∀ x ∈ xs, okW (turnB P e t c (enc x) (wipeE ρ own)) (if p x = true then [h x] else []) (fun ρ' => wipeE ρ' own = wipeE ρ own)) (hl : xs.length ≤ 16777216) (hb : backE ρ ρ own = ρ) :
    ∃ ρ', lcB P e own t c (xs.map enc) ρ = .ok ((xs.filter p).map h) ρ' ∧ backE ρ ρ' own = ρ := lc_filterW p h ρ hs hl hb
theorem lcn_map {α : Type} {enc : α → D} {P : Pg} {e : Ex} {own : List Nat} {t : Tg} {c : Cdo} {xs : List α} (h : α → D) {ρ : Env} (hs : ∀ x ∈ xs, okW (turnNB P e t c (enc x) (wipeE ρ own)) [h x] (fun ρ' => wipeE ρ' own = wipeE ρ own)) (hl : xs.length ≤ 16777216) (hb : backE ρ ρ own = ρ) :
    ∃ ρ', lcnB P e own t c (xs.map enc) ρ = .ok (xs.map h) ρ' ∧ backE ρ ρ' own = ρ := lcn_mapW h ρ hs hl hb
theorem dc_map {α : Type} {enc : α → D} {P : Pg} {k v : Ex} {own : List Nat} {t : Tg} {c : Cdo} {xs : List α} (h1 h2 : α → D) {ρ : Env} (hs : ∀ x ∈ xs, okW (turnDB P k v t c (enc x) (wipeE ρ own)) [h1 x, h2 x] (fun ρ' => wipeE ρ' own = wipeE ρ own)) (hl : 2 * xs.length ≤ 16777216) (hb : backE ρ ρ own = ρ) :
    ∃ ρ', dcB P k v own t c (xs.map enc) ρ = .ok (xs.flatMap fun x => [h1 x, h2 x]) ρ' ∧ backE ρ ρ' own = ρ := dc_mapW h1 h2 ρ hs hl hb
end DL

set_option maxHeartbeats 4000000
/-! What a call of a def is of law_k56_worlds_made, printed by gen2.py. -/
namespace Cr
open DL PySem
section
variable {k : Nat}
theorem u0 {a0 a1 : D} : runP T (k + 1) 0 [a0, a1] = outFn (exB (T.pg (runP T k)) b0 [some (.sh a0), some (.sh a1), none]) := rfl
theorem u1 {a0 : D} : runP T (k + 1) 1 [a0] = outFn (exB (T.pg (runP T k)) b1 [some (.sh a0)]) := rfl
theorem u2 {a0 : D} : runP T (k + 1) 2 [a0] = outFn (exB (T.pg (runP T k)) b2 [some (.sh a0), none, none]) := rfl
theorem u3 {a0 : D} : runP T (k + 1) 3 [a0] = outFn (exB (T.pg (runP T k)) b3 [some (.sh a0), none, none]) := rfl
theorem u4 {a0 : D} : runP T (k + 1) 4 [a0] = outFn (exB (T.pg (runP T k)) b4 [some (.sh a0)]) := rfl
theorem u5 {a0 a1 : D} : runP T (k + 1) 5 [a0, a1] = outFn (exB (T.pg (runP T k)) b5 [some (.sh a0), some (.sh a1)]) := rfl
theorem u6 {a0 a1 : D} : runP T (k + 1) 6 [a0, a1] = outFn (exB (T.pg (runP T k)) b6 [some (.sh a0), some (.sh a1), none, none]) := rfl
theorem u7 {a0 a1 : D} : runP T (k + 1) 7 [a0, a1] = outFn (exB (T.pg (runP T k)) b7 [some (.sh a0), some (.sh a1), none, none]) := rfl
theorem u8 {a0 a1 a2 : D} : runP T (k + 1) 8 [a0, a1, a2] = outFn (exB (T.pg (runP T k)) b8 [some (.sh a0), some (.sh a1), some (.sh a2), none]) := rfl
theorem u9 {a0 a1 a2 : D} : runP T (k + 1) 9 [a0, a1, a2] = outMk 0 (exB (T.pg (runP T k)) b9 [some (.ow (.ins 0 [])), some (.sh a0), some (.sh a1), some (.sh a2), none, none, none]) := rfl
theorem u10 {a0 a1 a2 : D} : runP T (k + 1) 10 [a0, a1, a2] = outFn (exB (T.pg (runP T k)) b10 [some (.sh a0), some (.sh a1), some (.sh a2), none, none]) := rfl
theorem u11 {a0 a1 a2 : D} : runP T (k + 1) 11 [a0, a1, a2] = outFn (exB (T.pg (runP T k)) b11 [some (.sh a0), some (.sh a1), some (.sh a2), none, none, none]) := rfl
theorem u12 {a0 : D} : runP T (k + 1) 12 [a0] = outMk 1 (exB (T.pg (runP T k)) b12 [some (.ow (.ins 1 [])), some (.sh a0), none, none, none, none, none, none]) := rfl
theorem u13 {a0 a1 : D} : runP T (k + 1) 13 [a0, a1] = outFn (exB (T.pg (runP T k)) b13 [some (.sh a0), some (.sh a1)]) := rfl
theorem u14 {a0 a1 : D} : runP T (k + 1) 14 [a0, a1] = outFn (exB (T.pg (runP T k)) b14 [some (.sh a0), some (.sh a1)]) := rfl
theorem u15 {a0 a1 : D} : runP T (k + 1) 15 [a0, a1] = outFn (exB (T.pg (runP T k)) b15 [some (.sh a0), some (.sh a1)]) := rfl
theorem u16 {a0 : D} : runP T (k + 1) 16 [a0] = outFn (exB (T.pg (runP T k)) b16 [some (.sh a0)]) := rfl
theorem u17 {a0 a1 : D} : runP T (k + 1) 17 [a0, a1] = outFn (exB (T.pg (runP T k)) b17 [some (.sh a0), some (.sh a1), none, none]) := rfl
theorem u18 {a0 a1 : D} : runP T (k + 1) 18 [a0, a1] = outFn (exB (T.pg (runP T k)) b18 [some (.sh a0), some (.sh a1), none, none, none, none, none, none]) := rfl
theorem u19 {a0 : D} : runP T (k + 1) 19 [a0] = outFn (exB (T.pg (runP T k)) b19 [some (.sh a0), none, none, none, none, none, none, none, none]) := rfl
theorem u20 {a0 a1 a2 a3 a4 : D} : runP T (k + 1) 20 [a0, a1, a2, a3, a4] = outFn (exB (T.pg (runP T k)) b20 [some (.sh a0), some (.sh a1), some (.sh a2), some (.sh a3), some (.sh a4), none, none, none, none, none, none, none, none, none]) := rfl
theorem u21 {a0 : D} : runP T (k + 1) 21 [a0] = outFn (exB (T.pg (runP T k)) b21 [some (.sh a0), none, none]) := rfl
theorem u22 {a0 a1 : D} : runP T (k + 1) 22 [a0, a1] = outFn (exB (T.pg (runP T k)) b22 [some (.sh a0), some (.sh a1), none, none]) := rfl
theorem u23 {a0 a1 a2 a3 a4 : D} : runP T (k + 1) 23 [a0, a1, a2, a3, a4] = outFn (exB (T.pg (runP T k)) b23 [some (.sh a0), some (.sh a1), some (.sh a2), some (.sh a3), some (.sh a4), none, none, none, none]) := rfl
theorem u24 {a0 : D} : runP T (k + 1) 24 [a0] = outFn (exB (T.pg (runP T k)) b24 [some (.sh a0), none, none, none]) := rfl
theorem u25 {a0 a1 a2 a3 : D} : runP T (k + 1) 25 [a0, a1, a2, a3] = outFn (exB (T.pg (runP T k)) b25 [some (.sh a0), some (.sh a1), some (.sh a2), some (.sh a3), none, none, none, none, none, none, none, none]) := rfl
theorem u26 {a0 a1 a2 : D} : runP T (k + 1) 26 [a0, a1, a2] = outFn (exB (T.pg (runP T k)) b26 [some (.sh a0), some (.sh a1), some (.sh a2), none, none, none]) := rfl
theorem u27 {a0 a1 a2 a3 a4 : D} : runP T (k + 1) 27 [a0, a1, a2, a3, a4] = outFn (exB (T.pg (runP T k)) b27 [some (.sh a0), some (.sh a1), some (.sh a2), some (.sh a3), some (.sh a4), none, none, none, none, none, none, none]) := rfl
theorem u28 {a0 a1 a2 : D} : runP T (k + 1) 28 [a0, a1, a2] = outFn (exB (T.pg (runP T k)) b28 [some (.sh a0), some (.sh a1), some (.sh a2), none, none, none]) := rfl
theorem u29 {a0 : D} : runP T (k + 1) 29 [a0] = outFn (exB (T.pg (runP T k)) b29 [some (.sh a0), none, none, none, none, none, none, none, none, none, none, none, none, none, none, none, none, none, none, none, none, none]) := rfl
theorem u30 {a0 a1 : D} : runP T (k + 1) 30 [a0, a1] = outFn (exB (T.pg (runP T k)) b30 [some (.sh a0), some (.sh a1), none, none, none]) := rfl
theorem u31 {a0 a1 a2 : D} : runP T (k + 1) 31 [a0, a1, a2] = outFn (exB (T.pg (runP T k)) b31 [some (.sh a0), some (.sh a1), some (.sh a2), none, none, none, none, none]) := rfl
theorem u32 {a0 a1 a2 a3 : D} : runP T (k + 1) 32 [a0, a1, a2, a3] = outFn (exB (T.pg (runP T k)) b32 [some (.sh a0), some (.sh a1), some (.sh a2), some (.sh a3), none, none]) := rfl
theorem u33 {a0 a1 a2 a3 : D} : runP T (k + 1) 33 [a0, a1, a2, a3] = outFn (exB (T.pg (runP T k)) b33 [some (.sh a0), some (.sh a1), some (.sh a2), some (.sh a3), none, none, none]) := rfl
theorem u34 {a0 a1 a2 a3 : D} : runP T (k + 1) 34 [a0, a1, a2, a3] = outFn (exB (T.pg (runP T k)) b34 [some (.sh a0), some (.sh a1), some (.sh a2), some (.sh a3), none, none, none, none, none]) := rfl
theorem u35 {a0 a1 a2 a3 a4 a5 : D} : runP T (k + 1) 35 [a0, a1, a2, a3, a4, a5] = outFn (exB (T.pg (runP T k)) b35 [some (.sh a0), some (.sh a1), some (.sh a2), some (.sh a3), some (.sh a4), some (.sh a5), none, none, none, none, none, none, none]) := rfl
theorem u36 {a0 : D} : runP T (k + 1) 36 [a0] = outFn (exB (T.pg (runP T k)) b36 [some (.sh a0), none, none, none, none, none, none, none, none, none, none, none, none, none, none, none, none]) := rfl
end
end Cr

set_option maxHeartbeats 4000000
/-! The core text is the program's of law_k56_worlds_made, printed by gen2.py. -/
namespace Cr
open DL PySem PySem.Spec PyProof.Rows L2
theorem c0 : chB Γ n0 d0.fx b0 (defScope s0) (defBody s0) = true := by kernel_rfl
theorem c1 : chB Γ n1 d1.fx b1 (defScope s1) (defBody s1) = true := by kernel_rfl
theorem c2 : chB Γ n2 d2.fx b2 (defScope s2) (defBody s2) = true := by kernel_rfl
theorem c3 : chB Γ n3 d3.fx b3 (defScope s3) (defBody s3) = true := by kernel_rfl
theorem c4 : chB Γ n4 d4.fx b4 (defScope s4) (defBody s4) = true := by kernel_rfl
theorem c5 : chB Γ n5 d5.fx b5 (defScope s5) (defBody s5) = true := by kernel_rfl
theorem c6 : chB Γ n6 d6.fx b6 (defScope s6) (defBody s6) = true := by kernel_rfl
theorem c7 : chB Γ n7 d7.fx b7 (defScope s7) (defBody s7) = true := by kernel_rfl
theorem c8 : chB Γ n8 d8.fx b8 (defScope s8) (defBody s8) = true := by kernel_rfl
theorem c9 : chB Γ n9 d9.fx b9 (defScope s9) (defBody s9) = true := by kernel_rfl
theorem c10 : chB Γ n10 d10.fx b10 (defScope s10) (defBody s10) = true := by kernel_rfl
theorem c11 : chB Γ n11 d11.fx b11 (defScope s11) (defBody s11) = true := by kernel_rfl
theorem c12 : chB Γ n12 d12.fx b12 (defScope s12) (defBody s12) = true := by kernel_rfl
theorem c13 : chB Γ n13 d13.fx b13 (defScope s13) (defBody s13) = true := by kernel_rfl
theorem c14 : chB Γ n14 d14.fx b14 (defScope s14) (defBody s14) = true := by kernel_rfl
theorem c15 : chB Γ n15 d15.fx b15 (defScope s15) (defBody s15) = true := by kernel_rfl
theorem c16 : chB Γ n16 d16.fx b16 (defScope s16) (defBody s16) = true := by kernel_rfl
theorem c17 : chB Γ n17 d17.fx b17 (defScope s17) (defBody s17) = true := by kernel_rfl
theorem c18 : chB Γ n18 d18.fx b18 (defScope s18) (defBody s18) = true := by kernel_rfl
theorem c19 : chB Γ n19 d19.fx b19 (defScope s19) (defBody s19) = true := by kernel_rfl
theorem c20 : chB Γ n20 d20.fx b20 (defScope s20) (defBody s20) = true := by kernel_rfl
theorem c21 : chB Γ n21 d21.fx b21 (defScope s21) (defBody s21) = true := by kernel_rfl
theorem c22 : chB Γ n22 d22.fx b22 (defScope s22) (defBody s22) = true := by kernel_rfl
theorem c23 : chB Γ n23 d23.fx b23 (defScope s23) (defBody s23) = true := by kernel_rfl
theorem c24 : chB Γ n24 d24.fx b24 (defScope s24) (defBody s24) = true := by kernel_rfl
theorem c25 : chB Γ n25 d25.fx b25 (defScope s25) (defBody s25) = true := by kernel_rfl
theorem c26 : chB Γ n26 d26.fx b26 (defScope s26) (defBody s26) = true := by kernel_rfl
theorem c27 : chB Γ n27 d27.fx b27 (defScope s27) (defBody s27) = true := by kernel_rfl
theorem c28 : chB Γ n28 d28.fx b28 (defScope s28) (defBody s28) = true := by kernel_rfl
theorem c29 : chB Γ n29 d29.fx b29 (defScope s29) (defBody s29) = true := by kernel_rfl
theorem c30 : chB Γ n30 d30.fx b30 (defScope s30) (defBody s30) = true := by kernel_rfl
theorem c31 : chB Γ n31 d31.fx b31 (defScope s31) (defBody s31) = true := by kernel_rfl
theorem c32 : chB Γ n32 d32.fx b32 (defScope s32) (defBody s32) = true := by kernel_rfl
theorem c33 : chB Γ n33 d33.fx b33 (defScope s33) (defBody s33) = true := by kernel_rfl
theorem c34 : chB Γ n34 d34.fx b34 (defScope s34) (defBody s34) = true := by kernel_rfl
theorem c35 : chB Γ n35 d35.fx b35 (defScope s35) (defBody s35) = true := by kernel_rfl
theorem c36 : chB Γ n36 d36.fx b36 (defScope s36) (defBody s36) = true := by kernel_rfl
end Cr

set_option maxHeartbeats 0
/-! What the head of law_k56_worlds_made tells, printed by gen2.py. -/
namespace Cr
open DL PySem PySem.Spec PyProof.Rows L2
theorem sc0 : FnScope n0 d0.ps (defScope s0) := ⟨rfl, rfl, rfl, by decide +kernel, rfl, by decide +kernel, by decide +kernel⟩
theorem bn0 (kV doc pm : Value) (an : Option Addr) (cdv ct : Value) (us : List Value) (h : us.length = d0.ps.length) : bindArgs (PySem.W.fnOf f0.name f0.qual f0.params f0.body f0.scope .none kV doc pm an cdv ct) ⟨us, []⟩ = pure (d0.ps.zip us) := match us, h with
  | [_, _], _ => rfl
theorem sc1 : FnScope n1 d1.ps (defScope s1) := ⟨rfl, rfl, rfl, by decide +kernel, rfl, by decide +kernel, by decide +kernel⟩
theorem bn1 (kV doc pm : Value) (an : Option Addr) (cdv ct : Value) (us : List Value) (h : us.length = d1.ps.length) : bindArgs (PySem.W.fnOf f1.name f1.qual f1.params f1.body f1.scope .none kV doc pm an cdv ct) ⟨us, []⟩ = pure (d1.ps.zip us) := match us, h with
  | [_], _ => rfl
theorem sc2 : FnScope n2 d2.ps (defScope s2) := ⟨rfl, rfl, rfl, by decide +kernel, rfl, by decide +kernel, by decide +kernel⟩
theorem bn2 (kV doc pm : Value) (an : Option Addr) (cdv ct : Value) (us : List Value) (h : us.length = d2.ps.length) : bindArgs (PySem.W.fnOf f2.name f2.qual f2.params f2.body f2.scope .none kV doc pm an cdv ct) ⟨us, []⟩ = pure (d2.ps.zip us) := match us, h with
  | [_], _ => rfl
theorem sc3 : FnScope n3 d3.ps (defScope s3) := ⟨rfl, rfl, rfl, by decide +kernel, rfl, by decide +kernel, by decide +kernel⟩
theorem bn3 (kV doc pm : Value) (an : Option Addr) (cdv ct : Value) (us : List Value) (h : us.length = d3.ps.length) : bindArgs (PySem.W.fnOf f3.name f3.qual f3.params f3.body f3.scope .none kV doc pm an cdv ct) ⟨us, []⟩ = pure (d3.ps.zip us) := match us, h with
  | [_], _ => rfl
theorem sc4 : FnScope n4 d4.ps (defScope s4) := ⟨rfl, rfl, rfl, by decide +kernel, rfl, by decide +kernel, by decide +kernel⟩
theorem bn4 (kV doc pm : Value) (an : Option Addr) (cdv ct : Value) (us : List Value) (h : us.length = d4.ps.length) : bindArgs (PySem.W.fnOf f4.name f4.qual f4.params f4.body f4.scope .none kV doc pm an cdv ct) ⟨us, []⟩ = pure (d4.ps.zip us) := match us, h with
  | [_], _ => rfl
theorem sc5 : FnScope n5 d5.ps (defScope s5) := ⟨rfl, rfl, rfl, by decide +kernel, rfl, by decide +kernel, by decide +kernel⟩
theorem bn5 (kV doc pm : Value) (an : Option Addr) (cdv ct : Value) (us : List Value) (h : us.length = d5.ps.length) : bindArgs (PySem.W.fnOf f5.name f5.qual f5.params f5.body f5.scope .none kV doc pm an cdv ct) ⟨us, []⟩ = pure (d5.ps.zip us) := match us, h with
  | [_, _], _ => rfl
theorem sc6 : FnScope n6 d6.ps (defScope s6) := ⟨rfl, rfl, rfl, by decide +kernel, rfl, by decide +kernel, by decide +kernel⟩
theorem bn6 (kV doc pm : Value) (an : Option Addr) (cdv ct : Value) (us : List Value) (h : us.length = d6.ps.length) : bindArgs (PySem.W.fnOf f6.name f6.qual f6.params f6.body f6.scope .none kV doc pm an cdv ct) ⟨us, []⟩ = pure (d6.ps.zip us) := match us, h with
  | [_, _], _ => rfl
theorem sc7 : FnScope n7 d7.ps (defScope s7) := ⟨rfl, rfl, rfl, by decide +kernel, rfl, by decide +kernel, by decide +kernel⟩
theorem bn7 (kV doc pm : Value) (an : Option Addr) (cdv ct : Value) (us : List Value) (h : us.length = d7.ps.length) : bindArgs (PySem.W.fnOf f7.name f7.qual f7.params f7.body f7.scope .none kV doc pm an cdv ct) ⟨us, []⟩ = pure (d7.ps.zip us) := match us, h with
  | [_, _], _ => rfl
theorem sc8 : FnScope n8 d8.ps (defScope s8) := ⟨rfl, rfl, rfl, by decide +kernel, rfl, by decide +kernel, by decide +kernel⟩
theorem bn8 (kV doc pm : Value) (an : Option Addr) (cdv ct : Value) (us : List Value) (h : us.length = d8.ps.length) : bindArgs (PySem.W.fnOf f8.name f8.qual f8.params f8.body f8.scope .none kV doc pm an cdv ct) ⟨us, []⟩ = pure (d8.ps.zip us) := match us, h with
  | [_, _, _], _ => rfl
theorem sc9 : FnScope n9 d9.ps (defScope s9) := ⟨rfl, rfl, rfl, by decide +kernel, rfl, by decide +kernel, by decide +kernel⟩
theorem bn9 (kV doc pm : Value) (an : Option Addr) (cdv ct : Value) (us : List Value) (h : us.length = d9.ps.length) : bindArgs (PySem.W.fnOf f9.name f9.qual f9.params f9.body f9.scope .none kV doc pm an cdv ct) ⟨us, []⟩ = pure (d9.ps.zip us) := match us, h with
  | [_, _, _, _], _ => rfl
theorem sc10 : FnScope n10 d10.ps (defScope s10) := ⟨rfl, rfl, rfl, by decide +kernel, rfl, by decide +kernel, by decide +kernel⟩
theorem bn10 (kV doc pm : Value) (an : Option Addr) (cdv ct : Value) (us : List Value) (h : us.length = d10.ps.length) : bindArgs (PySem.W.fnOf f10.name f10.qual f10.params f10.body f10.scope .none kV doc pm an cdv ct) ⟨us, []⟩ = pure (d10.ps.zip us) := match us, h with
  | [_, _, _], _ => rfl
theorem sc11 : FnScope n11 d11.ps (defScope s11) := ⟨rfl, rfl, rfl, by decide +kernel, rfl, by decide +kernel, by decide +kernel⟩
theorem bn11 (kV doc pm : Value) (an : Option Addr) (cdv ct : Value) (us : List Value) (h : us.length = d11.ps.length) : bindArgs (PySem.W.fnOf f11.name f11.qual f11.params f11.body f11.scope .none kV doc pm an cdv ct) ⟨us, []⟩ = pure (d11.ps.zip us) := match us, h with
  | [_, _, _], _ => rfl
theorem sc12 : FnScope n12 d12.ps (defScope s12) := ⟨rfl, rfl, rfl, by decide +kernel, rfl, by decide +kernel, by decide +kernel⟩
theorem bn12 (kV doc pm : Value) (an : Option Addr) (cdv ct : Value) (us : List Value) (h : us.length = d12.ps.length) : bindArgs (PySem.W.fnOf f12.name f12.qual f12.params f12.body f12.scope .none kV doc pm an cdv ct) ⟨us, []⟩ = pure (d12.ps.zip us) := match us, h with
  | [_, _], _ => rfl
theorem sc13 : FnScope n13 d13.ps (defScope s13) := ⟨rfl, rfl, rfl, by decide +kernel, rfl, by decide +kernel, by decide +kernel⟩
theorem bn13 (kV doc pm : Value) (an : Option Addr) (cdv ct : Value) (us : List Value) (h : us.length = d13.ps.length) : bindArgs (PySem.W.fnOf f13.name f13.qual f13.params f13.body f13.scope .none kV doc pm an cdv ct) ⟨us, []⟩ = pure (d13.ps.zip us) := match us, h with
  | [_, _], _ => rfl
theorem sc14 : FnScope n14 d14.ps (defScope s14) := ⟨rfl, rfl, rfl, by decide +kernel, rfl, by decide +kernel, by decide +kernel⟩
theorem bn14 (kV doc pm : Value) (an : Option Addr) (cdv ct : Value) (us : List Value) (h : us.length = d14.ps.length) : bindArgs (PySem.W.fnOf f14.name f14.qual f14.params f14.body f14.scope .none kV doc pm an cdv ct) ⟨us, []⟩ = pure (d14.ps.zip us) := match us, h with
  | [_, _], _ => rfl
theorem sc15 : FnScope n15 d15.ps (defScope s15) := ⟨rfl, rfl, rfl, by decide +kernel, rfl, by decide +kernel, by decide +kernel⟩
theorem bn15 (kV doc pm : Value) (an : Option Addr) (cdv ct : Value) (us : List Value) (h : us.length = d15.ps.length) : bindArgs (PySem.W.fnOf f15.name f15.qual f15.params f15.body f15.scope .none kV doc pm an cdv ct) ⟨us, []⟩ = pure (d15.ps.zip us) := match us, h with
  | [_, _], _ => rfl
theorem sc16 : FnScope n16 d16.ps (defScope s16) := ⟨rfl, rfl, rfl, by decide +kernel, rfl, by decide +kernel, by decide +kernel⟩
theorem bn16 (kV doc pm : Value) (an : Option Addr) (cdv ct : Value) (us : List Value) (h : us.length = d16.ps.length) : bindArgs (PySem.W.fnOf f16.name f16.qual f16.params f16.body f16.scope .none kV doc pm an cdv ct) ⟨us, []⟩ = pure (d16.ps.zip us) := match us, h with
  | [_], _ => rfl
theorem sc17 : FnScope n17 d17.ps (defScope s17) := ⟨rfl, rfl, rfl, by decide +kernel, rfl, by decide +kernel, by decide +kernel⟩
theorem bn17 (kV doc pm : Value) (an : Option Addr) (cdv ct : Value) (us : List Value) (h : us.length = d17.ps.length) : bindArgs (PySem.W.fnOf f17.name f17.qual f17.params f17.body f17.scope .none kV doc pm an cdv ct) ⟨us, []⟩ = pure (d17.ps.zip us) := match us, h with
  | [_, _], _ => rfl
theorem sc18 : FnScope n18 d18.ps (defScope s18) := ⟨rfl, rfl, rfl, by decide +kernel, rfl, by decide +kernel, by decide +kernel⟩
theorem bn18 (kV doc pm : Value) (an : Option Addr) (cdv ct : Value) (us : List Value) (h : us.length = d18.ps.length) : bindArgs (PySem.W.fnOf f18.name f18.qual f18.params f18.body f18.scope .none kV doc pm an cdv ct) ⟨us, []⟩ = pure (d18.ps.zip us) := match us, h with
  | [_, _], _ => rfl
theorem sc19 : FnScope n19 d19.ps (defScope s19) := ⟨rfl, rfl, rfl, by decide +kernel, rfl, by decide +kernel, by decide +kernel⟩
theorem bn19 (kV doc pm : Value) (an : Option Addr) (cdv ct : Value) (us : List Value) (h : us.length = d19.ps.length) : bindArgs (PySem.W.fnOf f19.name f19.qual f19.params f19.body f19.scope .none kV doc pm an cdv ct) ⟨us, []⟩ = pure (d19.ps.zip us) := match us, h with
  | [_], _ => rfl
theorem sc20 : FnScope n20 d20.ps (defScope s20) := ⟨rfl, rfl, rfl, by decide +kernel, rfl, by decide +kernel, by decide +kernel⟩
theorem bn20 (kV doc pm : Value) (an : Option Addr) (cdv ct : Value) (us : List Value) (h : us.length = d20.ps.length) : bindArgs (PySem.W.fnOf f20.name f20.qual f20.params f20.body f20.scope .none kV doc pm an cdv ct) ⟨us, []⟩ = pure (d20.ps.zip us) := match us, h with
  | [_, _, _, _, _], _ => rfl
theorem sc21 : FnScope n21 d21.ps (defScope s21) := ⟨rfl, rfl, rfl, by decide +kernel, rfl, by decide +kernel, by decide +kernel⟩
theorem bn21 (kV doc pm : Value) (an : Option Addr) (cdv ct : Value) (us : List Value) (h : us.length = d21.ps.length) : bindArgs (PySem.W.fnOf f21.name f21.qual f21.params f21.body f21.scope .none kV doc pm an cdv ct) ⟨us, []⟩ = pure (d21.ps.zip us) := match us, h with
  | [_], _ => rfl
theorem sc22 : FnScope n22 d22.ps (defScope s22) := ⟨rfl, rfl, rfl, by decide +kernel, rfl, by decide +kernel, by decide +kernel⟩
theorem bn22 (kV doc pm : Value) (an : Option Addr) (cdv ct : Value) (us : List Value) (h : us.length = d22.ps.length) : bindArgs (PySem.W.fnOf f22.name f22.qual f22.params f22.body f22.scope .none kV doc pm an cdv ct) ⟨us, []⟩ = pure (d22.ps.zip us) := match us, h with
  | [_, _], _ => rfl
theorem sc23 : FnScope n23 d23.ps (defScope s23) := ⟨rfl, rfl, rfl, by decide +kernel, rfl, by decide +kernel, by decide +kernel⟩
theorem bn23 (kV doc pm : Value) (an : Option Addr) (cdv ct : Value) (us : List Value) (h : us.length = d23.ps.length) : bindArgs (PySem.W.fnOf f23.name f23.qual f23.params f23.body f23.scope .none kV doc pm an cdv ct) ⟨us, []⟩ = pure (d23.ps.zip us) := match us, h with
  | [_, _, _, _, _], _ => rfl
theorem sc24 : FnScope n24 d24.ps (defScope s24) := ⟨rfl, rfl, rfl, by decide +kernel, rfl, by decide +kernel, by decide +kernel⟩
theorem bn24 (kV doc pm : Value) (an : Option Addr) (cdv ct : Value) (us : List Value) (h : us.length = d24.ps.length) : bindArgs (PySem.W.fnOf f24.name f24.qual f24.params f24.body f24.scope .none kV doc pm an cdv ct) ⟨us, []⟩ = pure (d24.ps.zip us) := match us, h with
  | [_], _ => rfl
theorem sc25 : FnScope n25 d25.ps (defScope s25) := ⟨rfl, rfl, rfl, by decide +kernel, rfl, by decide +kernel, by decide +kernel⟩
theorem bn25 (kV doc pm : Value) (an : Option Addr) (cdv ct : Value) (us : List Value) (h : us.length = d25.ps.length) : bindArgs (PySem.W.fnOf f25.name f25.qual f25.params f25.body f25.scope .none kV doc pm an cdv ct) ⟨us, []⟩ = pure (d25.ps.zip us) := match us, h with
  | [_, _, _, _], _ => rfl
theorem sc26 : FnScope n26 d26.ps (defScope s26) := ⟨rfl, rfl, rfl, by decide +kernel, rfl, by decide +kernel, by decide +kernel⟩
theorem bn26 (kV doc pm : Value) (an : Option Addr) (cdv ct : Value) (us : List Value) (h : us.length = d26.ps.length) : bindArgs (PySem.W.fnOf f26.name f26.qual f26.params f26.body f26.scope .none kV doc pm an cdv ct) ⟨us, []⟩ = pure (d26.ps.zip us) := match us, h with
  | [_, _, _], _ => rfl
theorem sc27 : FnScope n27 d27.ps (defScope s27) := ⟨rfl, rfl, rfl, by decide +kernel, rfl, by decide +kernel, by decide +kernel⟩
theorem bn27 (kV doc pm : Value) (an : Option Addr) (cdv ct : Value) (us : List Value) (h : us.length = d27.ps.length) : bindArgs (PySem.W.fnOf f27.name f27.qual f27.params f27.body f27.scope .none kV doc pm an cdv ct) ⟨us, []⟩ = pure (d27.ps.zip us) := match us, h with
  | [_, _, _, _, _], _ => rfl
theorem sc28 : FnScope n28 d28.ps (defScope s28) := ⟨rfl, rfl, rfl, by decide +kernel, rfl, by decide +kernel, by decide +kernel⟩
theorem bn28 (kV doc pm : Value) (an : Option Addr) (cdv ct : Value) (us : List Value) (h : us.length = d28.ps.length) : bindArgs (PySem.W.fnOf f28.name f28.qual f28.params f28.body f28.scope .none kV doc pm an cdv ct) ⟨us, []⟩ = pure (d28.ps.zip us) := match us, h with
  | [_, _, _], _ => rfl
theorem sc29 : FnScope n29 d29.ps (defScope s29) := ⟨rfl, rfl, rfl, by decide +kernel, rfl, by decide +kernel, by decide +kernel⟩
theorem bn29 (kV doc pm : Value) (an : Option Addr) (cdv ct : Value) (us : List Value) (h : us.length = d29.ps.length) : bindArgs (PySem.W.fnOf f29.name f29.qual f29.params f29.body f29.scope .none kV doc pm an cdv ct) ⟨us, []⟩ = pure (d29.ps.zip us) := match us, h with
  | [_], _ => rfl
theorem sc30 : FnScope n30 d30.ps (defScope s30) := ⟨rfl, rfl, rfl, by decide +kernel, rfl, by decide +kernel, by decide +kernel⟩
theorem bn30 (kV doc pm : Value) (an : Option Addr) (cdv ct : Value) (us : List Value) (h : us.length = d30.ps.length) : bindArgs (PySem.W.fnOf f30.name f30.qual f30.params f30.body f30.scope .none kV doc pm an cdv ct) ⟨us, []⟩ = pure (d30.ps.zip us) := match us, h with
  | [_, _], _ => rfl
theorem sc31 : FnScope n31 d31.ps (defScope s31) := ⟨rfl, rfl, rfl, by decide +kernel, rfl, by decide +kernel, by decide +kernel⟩
theorem bn31 (kV doc pm : Value) (an : Option Addr) (cdv ct : Value) (us : List Value) (h : us.length = d31.ps.length) : bindArgs (PySem.W.fnOf f31.name f31.qual f31.params f31.body f31.scope .none kV doc pm an cdv ct) ⟨us, []⟩ = pure (d31.ps.zip us) := match us, h with
  | [_, _, _], _ => rfl
theorem sc32 : FnScope n32 d32.ps (defScope s32) := ⟨rfl, rfl, rfl, by decide +kernel, rfl, by decide +kernel, by decide +kernel⟩
theorem bn32 (kV doc pm : Value) (an : Option Addr) (cdv ct : Value) (us : List Value) (h : us.length = d32.ps.length) : bindArgs (PySem.W.fnOf f32.name f32.qual f32.params f32.body f32.scope .none kV doc pm an cdv ct) ⟨us, []⟩ = pure (d32.ps.zip us) := match us, h with
  | [_, _, _, _], _ => rfl
theorem sc33 : FnScope n33 d33.ps (defScope s33) := ⟨rfl, rfl, rfl, by decide +kernel, rfl, by decide +kernel, by decide +kernel⟩
theorem bn33 (kV doc pm : Value) (an : Option Addr) (cdv ct : Value) (us : List Value) (h : us.length = d33.ps.length) : bindArgs (PySem.W.fnOf f33.name f33.qual f33.params f33.body f33.scope .none kV doc pm an cdv ct) ⟨us, []⟩ = pure (d33.ps.zip us) := match us, h with
  | [_, _, _, _], _ => rfl
theorem sc34 : FnScope n34 d34.ps (defScope s34) := ⟨rfl, rfl, rfl, by decide +kernel, rfl, by decide +kernel, by decide +kernel⟩
theorem bn34 (kV doc pm : Value) (an : Option Addr) (cdv ct : Value) (us : List Value) (h : us.length = d34.ps.length) : bindArgs (PySem.W.fnOf f34.name f34.qual f34.params f34.body f34.scope .none kV doc pm an cdv ct) ⟨us, []⟩ = pure (d34.ps.zip us) := match us, h with
  | [_, _, _, _], _ => rfl
theorem sc35 : FnScope n35 d35.ps (defScope s35) := ⟨rfl, rfl, rfl, by decide +kernel, rfl, by decide +kernel, by decide +kernel⟩
theorem bn35 (kV doc pm : Value) (an : Option Addr) (cdv ct : Value) (us : List Value) (h : us.length = d35.ps.length) : bindArgs (PySem.W.fnOf f35.name f35.qual f35.params f35.body f35.scope .none kV doc pm an cdv ct) ⟨us, []⟩ = pure (d35.ps.zip us) := match us, h with
  | [_, _, _, _, _, _], _ => rfl
theorem sc36 : FnScope n36 d36.ps (defScope s36) := ⟨rfl, rfl, rfl, by decide +kernel, rfl, by decide +kernel, by decide +kernel⟩
theorem bn36 (kV doc pm : Value) (an : Option Addr) (cdv ct : Value) (us : List Value) (h : us.length = d36.ps.length) : bindArgs (PySem.W.fnOf f36.name f36.qual f36.params f36.body f36.scope .none kV doc pm an cdv ct) ⟨us, []⟩ = pure (d36.ps.zip us) := match us, h with
  | [_], _ => rfl
theorem bx0 (kV doc pm : Value) (an : Option Addr) (cdv ct : Value) (us : List Value) (h : us.length = 1 + 1) : bindArgs (PySem.W.fnOf x0.name x0.qual x0.params x0.body x0.scope .none kV doc pm an cdv ct) ⟨us, []⟩ = pure (((("self" : Str) :: ["index"])).zip us) := match us, h with
  | [_, _], _ => rfl
theorem bx1 (kV doc pm : Value) (an : Option Addr) (cdv ct : Value) (us : List Value) (h : us.length = 1 + 1) : bindArgs (PySem.W.fnOf x1.name x1.qual x1.params x1.body x1.scope .none kV doc pm an cdv ct) ⟨us, []⟩ = pure (((("self" : Str) :: ["index"])).zip us) := match us, h with
  | [_, _], _ => rfl
theorem bx2 (kV doc pm : Value) (an : Option Addr) (cdv ct : Value) (us : List Value) (h : us.length = 1 + 1) : bindArgs (PySem.W.fnOf x2.name x2.qual x2.params x2.body x2.scope .none kV doc pm an cdv ct) ⟨us, []⟩ = pure (((("self" : Str) :: ["variable"])).zip us) := match us, h with
  | [_, _], _ => rfl
theorem kw0 (kV doc pm : Value) (an : Option Addr) (cdv ct : Value) (us ws zs : List Value) (h : us.length = 1) (ha : arr d9.ps us ["signature", "size", "tables"] ws = some zs) : bindArgs (PySem.W.fnOf f9.name f9.qual f9.params f9.body f9.scope .none kV doc pm an cdv ct) ⟨us, (["signature", "size", "tables"] : List Str).zip ws⟩ = pure (d9.ps.zip zs) := by
  have hl := arr_len ha
  match us, ws, h, hl with
  | [u0], [w0, w1, w2], _, _ =>
    have e : arr d9.ps [u0] ["signature", "size", "tables"] [w0, w1, w2] = some [u0, w0, w1, w2] := by rfl
    rw [e] at ha; cases ha; rfl
theorem kw1 (kV doc pm : Value) (an : Option Addr) (cdv ct : Value) (us ws zs : List Value) (h : us.length = 1) (ha : arr d11.ps us ["term", "values"] ws = some zs) : bindArgs (PySem.W.fnOf f11.name f11.qual f11.params f11.body f11.scope .none kV doc pm an cdv ct) ⟨us, (["term", "values"] : List Str).zip ws⟩ = pure (d11.ps.zip zs) := by
  have hl := arr_len ha
  match us, ws, h, hl with
  | [u0], [w0, w1], _, _ =>
    have e : arr d11.ps [u0] ["term", "values"] [w0, w1] = some [u0, w0, w1] := by rfl
    rw [e] at ha; cases ha; rfl
theorem tx : TxOk Γ T S fn where
  defs := fun f d h => by
    match f, h with
    | 0, h => cases h; exact ⟨f0, rfl, rfl, rfl, rfl, by decide, fun _ => ⟨sc0, c0⟩, bn0⟩
    | 1, h => cases h; exact ⟨f1, rfl, rfl, rfl, rfl, by decide, fun _ => ⟨sc1, c1⟩, bn1⟩
    | 2, h => cases h; exact ⟨f2, rfl, rfl, rfl, rfl, by decide, fun _ => ⟨sc2, c2⟩, bn2⟩
    | 3, h => cases h; exact ⟨f3, rfl, rfl, rfl, rfl, by decide, fun _ => ⟨sc3, c3⟩, bn3⟩
    | 4, h => cases h; exact ⟨f4, rfl, rfl, rfl, rfl, by decide, fun _ => ⟨sc4, c4⟩, bn4⟩
    | 5, h => cases h; exact ⟨f5, rfl, rfl, rfl, rfl, by decide, fun _ => ⟨sc5, c5⟩, bn5⟩
    | 6, h => cases h; exact ⟨f6, rfl, rfl, rfl, rfl, by decide, fun _ => ⟨sc6, c6⟩, bn6⟩
    | 7, h => cases h; exact ⟨f7, rfl, rfl, rfl, rfl, by decide, fun _ => ⟨sc7, c7⟩, bn7⟩
    | 8, h => cases h; exact ⟨f8, rfl, rfl, rfl, rfl, by decide, fun _ => ⟨sc8, c8⟩, bn8⟩
    | 9, h => cases h; exact ⟨f9, rfl, rfl, rfl, rfl, by decide, fun _ => ⟨sc9, c9⟩, bn9⟩
    | 10, h => cases h; exact ⟨f10, rfl, rfl, rfl, rfl, by decide, fun _ => ⟨sc10, c10⟩, bn10⟩
    | 11, h => cases h; exact ⟨f11, rfl, rfl, rfl, rfl, by decide, fun _ => ⟨sc11, c11⟩, bn11⟩
    | 12, h => cases h; exact ⟨f12, rfl, rfl, rfl, rfl, by decide, fun _ => ⟨sc12, c12⟩, bn12⟩
    | 13, h => cases h; exact ⟨f13, rfl, rfl, rfl, rfl, by decide, fun _ => ⟨sc13, c13⟩, bn13⟩
    | 14, h => cases h; exact ⟨f14, rfl, rfl, rfl, rfl, by decide, fun _ => ⟨sc14, c14⟩, bn14⟩
    | 15, h => cases h; exact ⟨f15, rfl, rfl, rfl, rfl, by decide, fun _ => ⟨sc15, c15⟩, bn15⟩
    | 16, h => cases h; exact ⟨f16, rfl, rfl, rfl, rfl, by decide, fun _ => ⟨sc16, c16⟩, bn16⟩
    | 17, h => cases h; exact ⟨f17, rfl, rfl, rfl, rfl, by decide, fun _ => ⟨sc17, c17⟩, bn17⟩
    | 18, h => cases h; exact ⟨f18, rfl, rfl, rfl, rfl, by decide, fun _ => ⟨sc18, c18⟩, bn18⟩
    | 19, h => cases h; exact ⟨f19, rfl, rfl, rfl, rfl, by decide, fun _ => ⟨sc19, c19⟩, bn19⟩
    | 20, h => cases h; exact ⟨f20, rfl, rfl, rfl, rfl, by decide, fun _ => ⟨sc20, c20⟩, bn20⟩
    | 21, h => cases h; exact ⟨f21, rfl, rfl, rfl, rfl, by decide, fun _ => ⟨sc21, c21⟩, bn21⟩
    | 22, h => cases h; exact ⟨f22, rfl, rfl, rfl, rfl, by decide, fun _ => ⟨sc22, c22⟩, bn22⟩
    | 23, h => cases h; exact ⟨f23, rfl, rfl, rfl, rfl, by decide, fun _ => ⟨sc23, c23⟩, bn23⟩
    | 24, h => cases h; exact ⟨f24, rfl, rfl, rfl, rfl, by decide, fun _ => ⟨sc24, c24⟩, bn24⟩
    | 25, h => cases h; exact ⟨f25, rfl, rfl, rfl, rfl, by decide, fun _ => ⟨sc25, c25⟩, bn25⟩
    | 26, h => cases h; exact ⟨f26, rfl, rfl, rfl, rfl, by decide, fun _ => ⟨sc26, c26⟩, bn26⟩
    | 27, h => cases h; exact ⟨f27, rfl, rfl, rfl, rfl, by decide, fun _ => ⟨sc27, c27⟩, bn27⟩
    | 28, h => cases h; exact ⟨f28, rfl, rfl, rfl, rfl, by decide, fun _ => ⟨sc28, c28⟩, bn28⟩
    | 29, h => cases h; exact ⟨f29, rfl, rfl, rfl, rfl, by decide, fun _ => ⟨sc29, c29⟩, bn29⟩
    | 30, h => cases h; exact ⟨f30, rfl, rfl, rfl, rfl, by decide, fun _ => ⟨sc30, c30⟩, bn30⟩
    | 31, h => cases h; exact ⟨f31, rfl, rfl, rfl, rfl, by decide, fun _ => ⟨sc31, c31⟩, bn31⟩
    | 32, h => cases h; exact ⟨f32, rfl, rfl, rfl, rfl, by decide, fun _ => ⟨sc32, c32⟩, bn32⟩
    | 33, h => cases h; exact ⟨f33, rfl, rfl, rfl, rfl, by decide, fun _ => ⟨sc33, c33⟩, bn33⟩
    | 34, h => cases h; exact ⟨f34, rfl, rfl, rfl, rfl, by decide, fun _ => ⟨sc34, c34⟩, bn34⟩
    | 35, h => cases h; exact ⟨f35, rfl, rfl, rfl, rfl, by decide, fun _ => ⟨sc35, c35⟩, bn35⟩
    | 36, h => cases h; exact ⟨f36, rfl, rfl, rfl, rfl, by decide, fun _ => ⟨sc36, c36⟩, bn36⟩
    | _ + 37, h => cases h
  kws := fun f n kn d hk hd dd hdd => by
    have hk : (f, n, kn) ∈ ([(9, 1, ["signature", "size", "tables"]), (11, 1, ["term", "values"])] : List (Nat × Nat × List Str)) := hk
    simp only [List.mem_cons, List.not_mem_nil, or_false, Prod.mk.injEq] at hk
    rcases hk with ⟨rfl, rfl, rfl⟩ | ⟨rfl, rfl, rfl⟩
    · cases hd; cases hdd; exact kw0
    · cases hd; cases hdd; exact kw1
  xcs := fun c nm fs h => by
    match c, h with
    | 0, h => cases h; exact ⟨rfl, rfl, by decide, by decide, x0, List.mem_of_getElem? (i := 37) rfl, rfl, rfl, rfl, ⟨rfl, rfl, rfl, by decide +kernel, rfl, by decide +kernel, by decide +kernel⟩, by kernel_rfl, bx0⟩
    | 1, h => cases h; exact ⟨rfl, rfl, by decide, by decide, x1, List.mem_of_getElem? (i := 38) rfl, rfl, rfl, rfl, ⟨rfl, rfl, rfl, by decide +kernel, rfl, by decide +kernel, by decide +kernel⟩, by kernel_rfl, bx1⟩
    | 2, h => cases h; exact ⟨rfl, rfl, by decide, by decide, x2, List.mem_of_getElem? (i := 39) rfl, rfl, rfl, rfl, ⟨rfl, rfl, rfl, by decide +kernel, rfl, by decide +kernel, by decide +kernel⟩, by kernel_rfl, bx2⟩
    | _ + 3, h => cases h
  con := fun n x h => by
    match n, h with
    | 0, h => cases h; rfl
    | 1, h => cases h; rfl
    | _ + 2, h => cases h
theorem okT : okB Γ T S = true := by kernel_rfl
end Cr

set_option maxHeartbeats 1000000
namespace Cr
open DL PySem L2
variable {k : Nat}
@[simp] theorem T_ncls : T.ncls = 2 := rfl
@[simp] theorem T_nx : T.nx = 3 := rfl
@[simp] theorem T_x0 (d : DL.D) : mkX T.xs 0 [d] = some ⟨1000, [("index", d)]⟩ := rfl
@[simp] theorem T_x1 (d : DL.D) : mkX T.xs 1 [d] = some ⟨1001, [("index", d)]⟩ := rfl
@[simp] theorem T_x2 (d : DL.D) : mkX T.xs 2 [d] = some ⟨1002, [("variable", d)]⟩ := rfl
theorem r5 {size arity : Int} (hk : 1 ≤ k) (hs : 0 ≤ size ∧ size < 1000) (ha : 0 ≤ arity ∧ arity < 3) : runP T k 5 [.int size, .int arity] = .ok (.sh (.int (if arity = 0 then 1 else if arity = 1 then size else size * size))) := by
  obtain ⟨k, rfl⟩ : ∃ j, k = j + 1 := ⟨k - 1, by omega⟩
  rw [u5]
  have h : arity = 0 ∨ arity = 1 ∨ arity = 2 := by omega
  rcases h with h | h | h <;> subst h <;> simp -dsimp -implicitDefEqProofs (disch := first | omega | (simp; done) | (simp; omega)) [exB_c, cap, b5, binD_mulL]
def idx (n : Int) (l : List Int) : Int := l.foldl (fun i a => i * n + a) 0
theorem r6 {n : Int} {l : List Int} (hk : 1 ≤ k) (hn : 0 ≤ n ∧ n < 1000) : runP T k 6 [.int n, .lst (l.map .int)] = .ok (.sh (.int (idx n l))) := by
  obtain ⟨k, rfl⟩ : ∃ j, k = j + 1 := ⟨k - 1, by omega⟩
  rw [u6]
  simp -dsimp -implicitDefEqProofs (disch := first | omega | (simp; done) | (simp; omega)) [exB_c, cap, b6]
  obtain ⟨o, e⟩ := forB_fold (P := T.pg (runP T k)) (t := .n 3) (b := b6_f1) (enc := D.int) (fun (o : Option Cell) (s : Int) => [some (.sh (.int n)), some (.sh (.lst (l.map .int))), some (.sh (.int s)), o]) (fun i a => i * n + a) l (fun o s x hx => ⟨some (.sh (.int x)), by
    rw [stepB_n (by simp)]
    simp -dsimp -implicitDefEqProofs (disch := first | omega | (simp; done) | (simp; omega)) [exB_c, cap, b6_f1, binD_mulR]⟩) none 0
  rw [e]
  simp -dsimp -implicitDefEqProofs (disch := first | omega | (simp; done) | (simp; omega)) [exB_c, cap, idx]
def symB (n : Nat) (t : List Int) : Bool := (List.range n).all fun x => (List.range x).all fun y => t.getD (x * n + y) 0 == t.getD (y * n + x) 0
theorem lt_sq {x y n : Nat} (hx : x < n) (hy : y < n) : x * n + y < n * n := by
  have : (x + 1) * n ≤ n * n := Nat.mul_le_mul_right n hx
  rw [Nat.add_mul] at this; omega
theorem r7 {n : Nat} {t : List Int} (hk : 1 ≤ k) (hl : t.length = n * n) (hn : n < 1000) : runP T k 7 [.int n, .tup (t.map .int)] = .ok (.sh (.bl (symB n t))) := by
  obtain ⟨k, rfl⟩ : ∃ j, k = j + 1 := ⟨k - 1, by omega⟩
  rw [u7]
  simp -dsimp -implicitDefEqProofs (disch := first | omega | (simp; done) | (simp; omega)) [exB_c, cap, b7]
  have inner : ∀ (x : Nat) (hx : x < n) (o3 : Option Cell), (((List.range x).find? fun y => !(t.getD (x * n + y) 0 == t.getD (y * n + x) 0)) = none ∧ ∃ o', forB (T.pg (runP T k)) (.n 3) b7_f1 ((List.range x).map fun (y : Nat) => D.int y) [some (.sh (.int n)), some (.sh (.tup (t.map .int))), some (.sh (.int x)), o3] = .ok .nx [some (.sh (.int n)), some (.sh (.tup (t.map .int))), some (.sh (.int x)), o']) ∨
      ∃ (y : Nat) (ρ : DL.Env), ((List.range x).find? fun y => !(t.getD (x * n + y) 0 == t.getD (y * n + x) 0)) = some y ∧ forB (T.pg (runP T k)) (.n 3) b7_f1 ((List.range x).map fun (y : Nat) => D.int y) [some (.sh (.int n)), some (.sh (.tup (t.map .int))), some (.sh (.int x)), o3] = .ok (.rt (.sh (.bl false))) ρ := by
    intro x hx o3
    refine forB_find (enc := fun (y : Nat) => D.int y) (fun (o : Option Cell) => [some (.sh (.int n)), some (.sh (.tup (t.map .int))), some (.sh (.int x)), o]) _ (fun _ => .sh (.bl false)) _ (fun o y hy => ?_) o3
    have hy' : y < x := List.mem_range.mp hy
    have h1 : x * n + y < n * n := lt_sq hx (by omega)
    have h2 : y * n + x < n * n := lt_sq (by omega) hx
    have c1 : (x : Int) * n + y < t.length := by rw [hl]; exact_mod_cast h1
    have c2 : (y : Int) * n + x < t.length := by rw [hl]; exact_mod_cast h2
    have e1 : ((x : Int) * n + y).toNat = x * n + y := by
      have : (x : Int) * n + y = ((x * n + y : Nat) : Int) := by simp
      rw [this]; rfl
    have e2 : ((y : Int) * n + x).toNat = y * n + x := by
      have : (y : Int) * n + x = ((y * n + x : Nat) : Int) := by simp
      rw [this]; rfl
    have p1 : 0 ≤ (x : Int) * n := Int.mul_nonneg (by omega) (by omega)
    have p2 : 0 ≤ (y : Int) * n := Int.mul_nonneg (by omega) (by omega)
    rw [stepB_n (by simp)]
    simp -dsimp -implicitDefEqProofs (disch := first | omega | (simp; done) | (simp; omega)) [exB_c, cap, b7_f1, binD_mulR, e1, e2, hl]
    by_cases h : t[x * n + y] = t[y * n + x]
    · exact .inl ⟨h, some (.sh (.int y)), by simp -dsimp -implicitDefEqProofs (disch := first | omega | (simp; done) | (simp; omega)) [exB_c, cap, h]⟩
    · exact .inr ⟨h, by simp -dsimp -implicitDefEqProofs (disch := first | omega | (simp; done) | (simp; omega)) [exB_c, cap, h]⟩
  rcases forB_find (P := T.pg (runP T k)) (t := .n 2) (b := b7_f2) (enc := fun (x : Nat) => D.int x) (fun (o : Option Cell × Option Cell) => [some (.sh (.int n)), some (.sh (.tup (t.map .int))), o.1, o.2])
    (fun x => ((List.range x).find? fun y => !(t.getD (x * n + y) 0 == t.getD (y * n + x) 0)).isSome) (fun _ => .sh (.bl false)) (List.range n) (fun o x hx => by
      have hx' : x < n := List.mem_range.mp hx
      rw [stepB_n (by simp)]
      rcases inner x hx' o.2 with ⟨h, o', e⟩ | ⟨y, ρ, h, e⟩
      · refine .inl ⟨by rw [h]; rfl, ⟨some (.sh (.int x)), o'⟩, ?_⟩
        simp -dsimp -implicitDefEqProofs (disch := first | omega | (simp; done) | (simp; omega)) [exB_c, cap, b7_f2, e]
      · refine .inr ⟨by rw [h]; rfl, ρ, ?_⟩
        simp -dsimp -implicitDefEqProofs (disch := first | omega | (simp; done) | (simp; omega)) [exB_c, cap, b7_f2, e]) (none, none) with ⟨h, o, e⟩ | ⟨x, ρ, h, e⟩
  · simp -dsimp -implicitDefEqProofs (disch := first | omega | (simp; done) | (simp; omega)) [exB_c, cap, e]
    unfold symB
    rw [List.find?_eq_none] at h
    rw [List.all_eq_true]
    intro x hx
    have := h x hx
    rw [List.all_eq_true]
    intro y hy
    cases hb : (t.getD (x * n + y) 0 == t.getD (y * n + x) 0) with
    | true => rfl
    | false =>
      exfalso
      apply this
      rw [List.find?_isSome]
      exact ⟨y, hy, by rw [hb]; rfl⟩
  · simp -dsimp -implicitDefEqProofs (disch := first | omega | (simp; done) | (simp; omega)) [exB_c, cap, e]
    unfold symB
    have h1 := List.find?_some h
    have h2 := List.mem_of_find?_eq_some h
    rw [List.find?_isSome] at h1
    obtain ⟨y, hy, hb⟩ := h1
    rw [Bool.eq_false_iff]
    intro ha
    rw [List.all_eq_true] at ha
    have := ha x h2
    rw [List.all_eq_true] at this
    rw [this y hy] at hb
    cases hb
/-! ### symbols -/
abbrev Sy := Str × Int × Bool
def encS (s : Sy) : D := .tup [.str s.1, .int s.2.1, .bl s.2.2]
def tlen (n : Nat) (a : Int) : Nat := if a = 0 then 1 else if a = 1 then n else n * n
def tabB (n : Nat) (s : Sy) (t : List Int) : Bool := decide (t.length = tlen n s.2.1) && (t.all (fun x => decide (0 ≤ x) && decide (x < n)) && (!s.2.2 || symB n t))
/-- is_table -/
theorem r8 {n : Nat} {s : Sy} {t : List Int} (hk : 2 ≤ k) (hn : n < 1000) (hs : 0 ≤ s.2.1 ∧ s.2.1 < 3) (h2 : s.2.2 = true → s.2.1 = 2) : runP T k 8 [.int n, encS s, .tup (t.map .int)] = .ok (.sh (.bl (tabB n s t))) := by
  obtain ⟨k, rfl⟩ : ∃ j, k = j + 1 := ⟨k - 1, by omega⟩
  obtain ⟨f, a, b⟩ := s
  rw [u8]
  have e5 := r5 (k := k) (size := n) (arity := a) (by omega) (by omega) hs
  simp -dsimp -implicitDefEqProofs (disch := first | omega | (simp; done) | (simp; omega)) [exB_c, cap, b8, encS, e5]
  have hlen : ((t.length : Int) = if a = 0 then 1 else if a = 1 then (n : Int) else n * n) ↔ t.length = tlen n a := by
    unfold tlen
    split
    · omega
    · split
      · omega
      · constructor
        · intro h; exact_mod_cast h
        · intro h; rw [h]; simp
  by_cases hl : t.length = tlen n a
  · have hl' := hlen.mpr hl
    simp -dsimp -implicitDefEqProofs (disch := first | omega | (simp; done) | (simp; omega)) [exB_c, cap, hl']
    rcases forB_find (P := T.pg (runP T k)) (t := .n 3) (b := b8_f1) (enc := D.int) (fun (o : Option Cell) => [some (.sh (.int n)), some (.sh (.tup [.str f, .int a, .bl b])), some (.sh (.tup (t.map .int))), o])
      (fun x => !(decide (0 ≤ x) && decide (x < n))) (fun _ => .sh (.bl false)) t (fun o x hx => by
        rw [stepB_n (by simp)]
        by_cases h1 : 0 ≤ x <;> by_cases h2 : x < n
        · exact .inl ⟨by simp [h1, h2], some (.sh (.int x)), by simp -dsimp -implicitDefEqProofs (disch := first | omega | (simp; done) | (simp; omega)) [exB_c, cap, b8_f1, h1, h2]⟩
        · exact .inr ⟨by simp [h1, h2], by simp -dsimp -implicitDefEqProofs (disch := first | omega | (simp; done) | (simp; omega)) [exB_c, cap, b8_f1, h1, h2]⟩
        · exact .inr ⟨by simp [h1, h2], by simp -dsimp -implicitDefEqProofs (disch := first | omega | (simp; done) | (simp; omega)) [exB_c, cap, b8_f1, h1, h2]⟩
        · exact .inr ⟨by simp [h1, h2], by simp -dsimp -implicitDefEqProofs (disch := first | omega | (simp; done) | (simp; omega)) [exB_c, cap, b8_f1, h1, h2]⟩) none with ⟨h, o, e⟩ | ⟨x, ρ, h, e⟩
    · have ha : (t.all fun x => decide (0 ≤ x) && decide (x < n)) = true := by
        rw [List.find?_eq_none] at h
        rw [List.all_eq_true]
        intro x hx
        simpa using h x hx
      cases b with
      | false => simp -dsimp -implicitDefEqProofs (disch := first | omega | (simp; done) | (simp; omega)) [exB_c, cap, e, tabB, hl, ha]
      | true =>
        have e2 : a = 2 := h2 rfl
        subst e2
        have e7 := r7 (k := k) (n := n) (t := t) (by omega) (by rw [hl]; rfl) hn
        simp -dsimp -implicitDefEqProofs (disch := first | omega | (simp; done) | (simp; omega)) [exB_c, cap, e, tabB, hl, ha, e7]
    · have ha : (t.all fun x => decide (0 ≤ x) && decide (x < n)) = false := by
        have h1 := List.find?_some h
        have h2 := List.mem_of_find?_eq_some h
        rw [Bool.eq_false_iff]
        intro ha
        rw [List.all_eq_true] at ha
        rw [ha x h2] at h1
        cases h1
      simp -dsimp -implicitDefEqProofs (disch := first | omega | (simp; done) | (simp; omega)) [exB_c, cap, e, tabB, hl, ha]
  · have hl' := mt hlen.mp hl
    simp -dsimp -implicitDefEqProofs (disch := first | omega | (simp; done) | (simp; omega)) [exB_c, cap, hl', tabB, hl]
end Cr

set_option maxHeartbeats 1000000
namespace Cr
open DL PySem L2
variable {k : Nat}
/-! ### the world is made -/
def tabD (ss : List Sy) : List (Key × DL.D) := ss.zipIdx.map fun p => (.inr p.1.1, .tup [.int p.2, .int p.1.2.1, .bl p.1.2.2])
def sigD (ss : List Sy) : DL.D := .ins 1 [("symbols", .tup (ss.map encS)), ("table", .dct (tabD ss))]
def encT (t : List Int) : DL.D := .tup (t.map .int)
def worldD (ss : List Sy) (n : Nat) (bs : List (List Int)) : DL.D := .ins 0 [("signature", sigD ss), ("size", .int n), ("tables", .tup (bs.map encT))]
/-- a row passed: a tuple or a list -/
def encR (r : Bool × List Int) : DL.D := if r.1 then .tup (r.2.map .int) else .lst (r.2.map .int)
structure WfS (ss : List Sy) : Prop where
  ar : ∀ s ∈ ss, 0 ≤ s.2.1 ∧ s.2.1 < 3
  tw : ∀ s ∈ ss, s.2.2 = true → s.2.1 = 2
  few : ss.length ≤ 40
  nd : (ss.map (·.1)).Nodup
def badAt (ss : List Sy) (n : Nat) (bs : List (List Int)) : Option (List Int × Nat) := bs.zipIdx.find? fun p => !(tabB n (ss.getD p.2 ("", 0, false)) p.1)
theorem r9 {ss : List Sy} {n : Nat} {rs : List (Bool × List Int)} {out : DL.D} (hk : 3 ≤ k) (w : WfS ss) (hn : n < 1000) (hl : rs.length = ss.length) (ho : out = .lst (rs.map encR) ∨ out = .tup (rs.map encR)) :
    runP T k 9 [sigD ss, .int n, out] = match badAt ss n (rs.map (·.2)) with
      | none => .ok (.ow (worldD ss n (rs.map (·.2))))
      | some p => .ex ⟨1001, [("index", .int p.2)]⟩ := by
  obtain ⟨k, rfl⟩ : ∃ j, k = j + 1 := ⟨k - 1, by omega⟩
  rw [u9]
  have hw : walkD out = some (rs.map encR) := by rcases ho with h | h <;> subst h <;> rfl
  obtain ⟨ρ', e, hb⟩ := lc_map (P := T.pg (runP T k)) (e := b9_e1) (own := [6]) (t := .n 6) (c := .n) (enc := encR) (xs := rs) (fun r => encT r.2) (ρ := [some (.ow (.ins 0 [])), some (.sh (sigD ss)), some (.sh (.int n)), some (.sh out), none, none, none]) (fun r hr => by
    obtain ⟨b, t⟩ := r
    unfold turnB
    cases b <;> simp -dsimp -implicitDefEqProofs (disch := first | omega | (simp; done) | (simp; omega)) [exB_c, cap, wipeE, encR, b9_e1, encT]) (by have := w.few; omega) rfl
  simp -dsimp -implicitDefEqProofs (disch := first | omega | (simp; done) | (simp; omega)) [exB_c, cap, b9, hw, e, hb]
  have em : rs.map (fun r => encT r.2) = (rs.map (·.2)).map encT := by rw [List.map_map]; rfl
  rw [em]
  generalize hbs : rs.map (·.2) = bs
  have hbl : bs.length = ss.length := by rw [← hbs, List.length_map]; exact hl
  rw [enuD_map]
  have hget : ∀ p ∈ bs.zipIdx, ∃ h : p.2 < ss.length, ss.getD p.2 ("", 0, false) = ss[p.2] := fun p hp => by
    have h1 : p.2 < bs.length := by
      have := List.mem_zipIdx hp
      omega
    refine ⟨by omega, ?_⟩
    rw [List.getD_eq_getElem?_getD, List.getElem?_eq_getElem (by omega)]; rfl
  rcases forB_findX (P := T.pg (runP T k)) (t := .t (.c (.n 5) (.c (.n 6) .z))) (b := b9_f1) (enc := fun (p : List Int × Nat) => D.tup [.int p.2, encT p.1]) (fun (o : Option Cell × Option Cell) => [some (.ow (.ins 0 [])), some (.sh (sigD ss)), some (.sh (.int n)), some (.sh out), some (.sh (.tup (bs.map encT))), o.1, o.2])
    (fun p => !(tabB n (ss.getD p.2 ("", 0, false)) p.1)) (fun p => ⟨1001, [("index", .int p.2)]⟩) bs.zipIdx (fun o p hp => by
      obtain ⟨h1, h2⟩ := hget p hp
      have hm : ss[p.2] ∈ ss := List.getElem_mem h1
      have e8 := r8 (k := k) (n := n) (s := ss[p.2]) (t := p.1) (by omega) hn (w.ar _ hm) (w.tw _ hm)
      rw [← encT] at e8
      rw [h2]
      cases hb : tabB n ss[p.2] p.1 with
      | true =>
        rw [hb] at e8
        exact .inl ⟨rfl, (some (.sh (.int p.2)), some (.sh (encT p.1))), by unfold stepB; simp -dsimp -implicitDefEqProofs (disch := first | omega | (simp; done) | (simp; omega)) [exB_c, cap, b9_f1, e8, sigD]⟩
      | false =>
        rw [hb] at e8
        exact .inr ⟨rfl, by unfold stepB; simp -dsimp -implicitDefEqProofs (disch := first | omega | (simp; done) | (simp; omega)) [exB_c, cap, b9_f1, e8, sigD]⟩) (none, none) with ⟨h, o, e⟩ | ⟨p, ρ, h, e⟩
  · unfold badAt
    rw [h]
    simp -dsimp -implicitDefEqProofs (disch := first | omega | (simp; done) | (simp; omega)) [exB_c, cap, e, putD, worldD]
  · unfold badAt
    rw [h]
    simp -dsimp -implicitDefEqProofs (disch := first | omega | (simp; done) | (simp; omega)) [exB_c, cap, e]
end Cr

set_option maxHeartbeats 1000000
namespace Cr
open DL PySem L2
variable {k : Nat}
/-! ### what a term is worth -/
inductive Tm where
  | v (x : Str) | c (f : Str) | u (f : Str) (t : Tm) | b (f : Str) (s t : Tm)
def encM : Tm → DL.D
  | .v x => .str x
  | .c f => .tup [.str f]
  | .u f t => .tup [.str f, encM t]
  | .b f s t => .tup [.str f, encM s, encM t]
def Tm.ht : Tm → Nat
  | .v _ => 0
  | .c _ => 1
  | .u _ t => t.ht + 1
  | .b _ s t => max s.ht t.ht + 1
def Tm.vars : Tm → List Str
  | .v x => [x]
  | .c _ => []
  | .u _ t => t.vars
  | .b _ s t => s.vars ++ t.vars
/-- f stands in the signature with arity a -/
def HasS (ss : List Sy) (f : Str) (a : Int) : Prop := ∃ b, (f, a, b) ∈ ss
def Tm.wf (ss : List Sy) : Tm → Prop
  | .v _ => True
  | .c f => HasS ss f 0
  | .u f t => HasS ss f 1 ∧ t.wf ss
  | .b f s t => HasS ss f 2 ∧ s.wf ss ∧ t.wf ss
def rk (ss : List Sy) (f : Str) : Nat := (ss.map (·.1)).idxOf f
def valT (ss : List Sy) (n : Nat) (bs : List (List Int)) (e : Str → Int) : Tm → Int
  | .v x => e x
  | .c f => (bs.getD (rk ss f) []).getD 0 0
  | .u f t => (bs.getD (rk ss f) []).getD (valT ss n bs e t).toNat 0
  | .b f s t => (bs.getD (rk ss f) []).getD (valT ss n bs e s * n + valT ss n bs e t).toNat 0
theorem lookK_append {kv : Key × DL.D} {k0 : Key} {l : List (Key × DL.D)} : lookK k0 (kv :: l) = if kv.1 = k0 then some kv.2 else lookK k0 l := by
  unfold lookK
  rw [List.find?_cons]
  by_cases h : kv.1 = k0
  · simp [h]
  · simp [h]
theorem look_tab (ss : List Sy) (nd : (ss.map (·.1)).Nodup) (j : Nat) {s : Sy} (hs : s ∈ ss) : lookK (.inr s.1) ((ss.zipIdx j).map fun p => ((.inr p.1.1 : Key), DL.D.tup [.int p.2, .int p.1.2.1, .bl p.1.2.2])) = some (.tup [.int ((j + rk ss s.1 : Nat) : Int), .int s.2.1, .bl s.2.2]) := by
  induction ss generalizing j with
  | nil => cases hs
  | cons x ss ih =>
    rw [List.zipIdx_cons, List.map_cons, lookK_append]
    rw [List.map_cons, List.nodup_cons] at nd
    by_cases h : x.1 = s.1
    · have hx : x = s := by
        rcases List.mem_cons.mp hs with z | z
        · exact z.symm
        · exact absurd (List.mem_map.mpr ⟨s, z, h.symm⟩) nd.1
      subst hx
      simp [rk]
    · have hs' : s ∈ ss := by
        rcases List.mem_cons.mp hs with z | z
        · exact absurd (by rw [z]) h
        · exact z
      rw [if_neg (fun z => h (Sum.inr.inj z)), ih nd.2 (j + 1) hs']
      have : rk (x :: ss) s.1 = rk ss s.1 + 1 := by
        unfold rk
        rw [List.map_cons, List.idxOf_cons, beq_eq_false_iff_ne.mpr h]
        rfl
      rw [this]
      have e : ((j + 1 + rk ss s.1 : Nat) : Int) = ((j + (rk ss s.1 + 1) : Nat) : Int) := by congr 1; omega
      rw [e]
theorem rk_lt {ss : List Sy} {s : Sy} (hs : s ∈ ss) : rk ss s.1 < ss.length := by
  have := List.idxOf_lt_length_iff.mpr (List.mem_map.mpr ⟨s, hs, rfl⟩ : s.1 ∈ ss.map (·.1))
  rwa [List.length_map] at this
/-- rank -/
theorem r14 {ss : List Sy} {f : Str} {a : Int} (hk : 1 ≤ k) (w : WfS ss) (h : HasS ss f a) : runP T k 14 [sigD ss, .str f] = .ok (.sh (.int (rk ss f))) := by
  obtain ⟨k, rfl⟩ : ∃ j, k = j + 1 := ⟨k - 1, by omega⟩
  obtain ⟨b, hm⟩ := h
  have hl := look_tab ss w.nd 0 hm
  rw [Nat.zero_add] at hl
  have hl : lookK (.inr f) (tabD ss) = some (.tup [.int (rk ss f), .int a, .bl b]) := hl
  rw [u14]
  simp -dsimp -implicitDefEqProofs (disch := first | omega | (simp; done) | (simp; omega)) [exB_c, cap, b14, sigD, hl]
structure WfB (ss : List Sy) (n : Nat) (bs : List (List Int)) : Prop where
  len : bs.length = ss.length
  tl : ∀ s ∈ ss, (bs.getD (rk ss s.1) []).length = tlen n s.2.1
  rng : ∀ t ∈ bs, ∀ x ∈ t, 0 ≤ x ∧ x < n
theorem getD_rng {n : Nat} {bs : List (List Int)} (h : ∀ t ∈ bs, ∀ x ∈ t, 0 ≤ x ∧ x < (n : Int)) {i j : Nat} (hj : j < (bs.getD i []).length) : 0 ≤ (bs.getD i []).getD j 0 ∧ (bs.getD i []).getD j 0 < n := by
  have hi : i < bs.length := by
    by_cases z : i < bs.length
    · exact z
    · rw [List.getD_eq_getElem?_getD, List.getElem?_eq_none (by omega)] at hj
      simp at hj
  have e1 : bs.getD i [] = bs[i] := by rw [List.getD_eq_getElem?_getD, List.getElem?_eq_getElem hi]; rfl
  rw [e1] at hj ⊢
  have e2 : bs[i].getD j 0 = bs[i][j] := by rw [List.getD_eq_getElem?_getD, List.getElem?_eq_getElem hj]; rfl
  rw [e2]
  exact h _ (List.getElem_mem hi) _ (List.getElem_mem hj)
theorem nn {a b n : Int} (ha : 0 ≤ a ∧ a < n) (hb : 0 ≤ b ∧ b < n) : 0 ≤ a * n + b ∧ a * n + b < n * n := by
  have h1 : 0 ≤ a * n := Int.mul_nonneg ha.1 (by omega)
  have h2 : (a + 1) * n ≤ n * n := Int.mul_le_mul_of_nonneg_right (by omega) (by omega)
  rw [Int.add_mul] at h2
  omega
theorem val_rng {ss : List Sy} {n : Nat} {bs : List (List Int)} {e : Str → Int} (wb : WfB ss n bs) (hn : 0 < n) : ∀ (t : Tm), t.wf ss → (∀ x ∈ t.vars, 0 ≤ e x ∧ e x < n) → 0 ≤ valT ss n bs e t ∧ valT ss n bs e t < n
  | .v x, _, h => h x (by simp [Tm.vars])
  | .c f, ⟨b, hm⟩, h => getD_rng wb.rng (by rw [wb.tl _ hm]; simp [tlen])
  | .u f t, ⟨⟨b, hm⟩, ht⟩, h => by
    have ih := val_rng wb hn t ht h
    exact getD_rng wb.rng (by rw [wb.tl _ hm]; simp [tlen]; omega)
  | .b f s t, ⟨⟨b, hm⟩, hs, ht⟩, h => by
    have i1 := val_rng wb hn s hs fun x hx => h x (by simp [Tm.vars, hx])
    have i2 := val_rng wb hn t ht fun x hx => h x (by simp [Tm.vars, hx])
    have := nn i1 i2
    refine getD_rng wb.rng (by
      rw [wb.tl _ hm]
      show _ < (if (2 : Int) = 0 then 1 else if (2 : Int) = 1 then n else n * n)
      simp
      have h3 : ((n * n : Nat) : Int) = (n : Int) * n := by simp
      omega)
end Cr

set_option maxHeartbeats 1000000
namespace Cr
open DL PySem L2
theorem tabs_at {bs : List (List Int)} {i : Nat} (h : i < bs.length) : (bs.map encT)[i]? = some (encT (bs.getD i [])) := by
  rw [List.getElem?_map, List.getElem?_eq_getElem h, List.getD_eq_getElem?_getD, List.getElem?_eq_getElem h]; rfl
theorem tab_at {t : List Int} {i : Int} (h : 0 ≤ i ∧ i < t.length) : ixD (encT t) (.int i) = some (.int (t.getD i.toNat 0)) := by
  unfold encT
  rw [ixD_tup (by rw [List.length_map]; exact h), List.getElem?_map, List.getD_eq_getElem?_getD, List.getElem?_eq_getElem (by omega)]; rfl
/-- the end of thing_of: the table's entry -/
theorem r10 {ss : List Sy} {n : Nat} {bs : List (List Int)} {e : Str → Int} {things : List (Key × DL.D)} (w : WfS ss) (wb : WfB ss n bs) (hn : 0 < n ∧ n < 1000) : ∀ (t : Tm), t.wf ss → (∀ x ∈ t.vars, lookK (.inr x) things = some (.int (e x)) ∧ 0 ≤ e x ∧ e x < n) → ∀ {k : Nat}, t.ht + 2 ≤ k →
    runP T k 10 [worldD ss n bs, encM t, .dct things] = .ok (.sh (.int (valT ss n bs e t)))
  | .v x, _, hv, k, hk => by
    obtain ⟨k, rfl⟩ : ∃ j, k = j + 1 := ⟨k - 1, by omega⟩
    have h1 := (hv x (by simp [Tm.vars])).1
    rw [u10]
    simp -dsimp -implicitDefEqProofs (disch := first | omega | (simp; done) | (simp; omega)) [exB_c, cap, b10, encM, tyD, h1, valT]
  | .c f, hf, hv, k, hk => by
    obtain ⟨k, rfl⟩ : ∃ j, k = j + 1 := ⟨k - 1, by omega⟩
    have hk : 2 ≤ k := by simp only [Tm.ht] at hk; omega
    have hf0 := hf
    obtain ⟨b, hm⟩ := hf0
    have hr := rk_lt hm
    have h14 := r14 (k := k) (by omega) w hf
    have h6 : runP T k 6 [.int n, .lst []] = .ok (.sh (.int 0)) := r6 (k := k) (n := n) (l := []) (by omega) (by omega)
    have hgd : bs.getD (rk ss f) [] = bs[rk ss f]'(by rw [wb.len]; exact hr) := by rw [List.getD_eq_getElem?_getD, List.getElem?_eq_getElem (by rw [wb.len]; exact hr)]; rfl
    have hl := wb.tl _ hm
    have hl : (bs.getD (rk ss f) []).length = _ := hl
    rw [hgd] at hl
    have hx := tab_at (t := bs[rk ss f]'(by rw [wb.len]; exact hr)) (i := 0) (by rw [hl]; simp [tlen])
    have hlen := wb.len
    have hr' : rk ss f < ss.length := hr
    rw [u10]
    obtain ⟨ρ', e1, e2⟩ := lc_map (P := T.pg (runP T k)) (e := b10_e1) (own := [4]) (t := .n 4) (c := .n) (enc := encM) (xs := []) (fun t => .int (valT ss n bs e t)) (ρ := [some (.sh (worldD ss n bs)), some (.sh (.tup [.str f])), some (.sh (.dct things)), none, none]) (fun _ z => by cases z) (by simp) rfl
    simp only [List.map_nil] at e1
    simp only [worldD, sigD] at e1 e2 h14 ⊢
    simp -dsimp -implicitDefEqProofs (disch := first | omega | (simp; done) | (simp; omega)) [exB_c, cap, b10, encM, tyD, e1, e2, h14, h6, hx]
    rw [valT, hgd, List.getD_eq_getElem?_getD]
  | .u f t, ⟨hf, hwt⟩, hv, k, hk => by
    obtain ⟨k, rfl⟩ : ∃ j, k = j + 1 := ⟨k - 1, by omega⟩
    have hk : t.ht + 2 ≤ k := by simp only [Tm.ht] at hk; omega
    have ih := r10 w wb hn t hwt hv hk
    have hrg := val_rng (e := e) wb hn.1 t hwt fun x hx => (hv x hx).2
    have hf0 := hf
    obtain ⟨b, hm⟩ := hf0
    have hr := rk_lt hm
    have h14 := r14 (k := k) (by omega) w hf
    have h6 : runP T k 6 [.int n, .lst [.int (valT ss n bs e t)]] = .ok (.sh (.int (valT ss n bs e t))) := by
      have := r6 (k := k) (n := n) (l := [valT ss n bs e t]) (by omega) (by omega)
      simpa [idx] using this
    have hgd : bs.getD (rk ss f) [] = bs[rk ss f]'(by rw [wb.len]; exact hr) := by rw [List.getD_eq_getElem?_getD, List.getElem?_eq_getElem (by rw [wb.len]; exact hr)]; rfl
    have hl := wb.tl _ hm
    have hl : (bs.getD (rk ss f) []).length = _ := hl
    rw [hgd] at hl
    have hx := tab_at (t := bs[rk ss f]'(by rw [wb.len]; exact hr)) (i := valT ss n bs e t) (by rw [hl]; simp [tlen]; omega)
    have hlen := wb.len
    have hr' : rk ss f < ss.length := hr
    rw [u10]
    obtain ⟨ρ', e1, e2⟩ := lc_map (P := T.pg (runP T k)) (e := b10_e1) (own := [4]) (t := .n 4) (c := .n) (enc := encM) (xs := [t]) (fun t => .int (valT ss n bs e t)) (ρ := [some (.sh (worldD ss n bs)), some (.sh (.tup [.str f, encM t])), some (.sh (.dct things)), none, none]) (fun x hx => by
      have := List.mem_singleton.mp hx
      subst this
      unfold turnB
      have ih' := ih
      unfold worldD at ih'
      simp -dsimp -implicitDefEqProofs (disch := first | omega | (simp; done) | (simp; omega)) [exB_c, cap, wipeE, b10_e1, worldD, ih']) (by simp) rfl
    simp only [List.map_cons, List.map_nil] at e1
    simp only [worldD, sigD] at e1 e2 h14 ⊢
    simp -dsimp -implicitDefEqProofs (disch := first | omega | (simp; done) | (simp; omega)) [exB_c, cap, b10, encM, tyD, e1, e2, h14, h6, hx]
    rw [valT, hgd, List.getD_eq_getElem?_getD]
  | .b f s t, ⟨hf, hws, hwt⟩, hv, k, hk => by
    obtain ⟨k, rfl⟩ : ∃ j, k = j + 1 := ⟨k - 1, by omega⟩
    have hk1 : s.ht + 2 ≤ k := by simp only [Tm.ht] at hk; omega
    have hk2 : t.ht + 2 ≤ k := by simp only [Tm.ht] at hk; omega
    have hv1 := fun x hx => hv x (by simp only [Tm.vars, List.mem_append]; exact .inl hx)
    have hv2 := fun x hx => hv x (by simp only [Tm.vars, List.mem_append]; exact .inr hx)
    have i1 := r10 w wb hn s hws hv1 hk1
    have i2 := r10 w wb hn t hwt hv2 hk2
    have g1 := val_rng (e := e) wb hn.1 s hws fun x hx => (hv1 x hx).2
    have g2 := val_rng (e := e) wb hn.1 t hwt fun x hx => (hv2 x hx).2
    have g3 := nn g1 g2
    have hf0 := hf
    obtain ⟨b, hm⟩ := hf0
    have hr := rk_lt hm
    have h14 := r14 (k := k) (by omega) w hf
    have h6 : runP T k 6 [.int n, .lst [.int (valT ss n bs e s), .int (valT ss n bs e t)]] = .ok (.sh (.int (valT ss n bs e s * n + valT ss n bs e t))) := by
      have := r6 (k := k) (n := n) (l := [valT ss n bs e s, valT ss n bs e t]) (by omega) (by omega)
      simpa [idx] using this
    have hgd : bs.getD (rk ss f) [] = bs[rk ss f]'(by rw [wb.len]; exact hr) := by rw [List.getD_eq_getElem?_getD, List.getElem?_eq_getElem (by rw [wb.len]; exact hr)]; rfl
    have hl := wb.tl _ hm
    have hl : (bs.getD (rk ss f) []).length = _ := hl
    rw [hgd] at hl
    have hx := tab_at (t := bs[rk ss f]'(by rw [wb.len]; exact hr)) (i := valT ss n bs e s * n + valT ss n bs e t) (by
      rw [hl]
      have e1 : tlen n 2 = n * n := rfl
      rw [e1]
      have e3 : ((n * n : Nat) : Int) = (n : Int) * n := by simp
      rw [e3]; exact g3)
    have hlen := wb.len
    have hr' : rk ss f < ss.length := hr
    rw [u10]
    obtain ⟨ρ', e1, e2⟩ := lc_map (P := T.pg (runP T k)) (e := b10_e1) (own := [4]) (t := .n 4) (c := .n) (enc := encM) (xs := [s, t]) (fun t => .int (valT ss n bs e t)) (ρ := [some (.sh (worldD ss n bs)), some (.sh (.tup [.str f, encM s, encM t])), some (.sh (.dct things)), none, none]) (fun x hx => by
      unfold worldD at i1 i2
      unfold turnB
      rcases List.mem_cons.mp hx with z | z
      · subst z
        simp -dsimp -implicitDefEqProofs (disch := first | omega | (simp; done) | (simp; omega)) [exB_c, cap, wipeE, b10_e1, worldD, i1]
      · have := List.mem_singleton.mp z
        subst this
        simp -dsimp -implicitDefEqProofs (disch := first | omega | (simp; done) | (simp; omega)) [exB_c, cap, wipeE, b10_e1, worldD, i2]) (by simp) rfl
    simp only [List.map_cons, List.map_nil] at e1
    simp only [worldD, sigD] at e1 e2 h14 ⊢
    simp -dsimp -implicitDefEqProofs (disch := first | omega | (simp; done) | (simp; omega)) [exB_c, cap, b10, encM, tyD, e1, e2, h14, h6, hx]
    rw [valT, hgd, List.getD_eq_getElem?_getD]
end Cr

set_option maxHeartbeats 1000000
namespace Cr
open DL PySem L2
variable {k : Nat}
theorem pyAll_strs (l : List Str) : D.pyAll (l.map .str) = some (l.map .str) := by
  induction l with
  | nil => rfl
  | cons x l ih => show (match D.py (.str x), D.pyAll (l.map .str) with | some p, some ps => some (p :: ps) | _, _ => none) = _; rw [ih]; rfl
theorem any_strs (x : Str) (l : List Str) : (l.map PyData.str).any (fun z => PyData.eqv z (.str x)) = decide (x ∈ l) := by
  induction l with
  | nil => rfl
  | cons y l ih =>
    rw [List.map_cons, List.any_cons, ih]
    have : PyData.eqv (.str y) (.str x) = (y == x) := rfl
    rw [this]
    by_cases h : y = x
    · subst h; simp
    · have h' : ¬ x = y := fun z => h z.symm
      simp [h, h']
theorem inSeq_strs (x : Str) (l : List Str) : inSeq (.str x) (l.map .str) = some (decide (x ∈ l)) := by
  unfold inSeq
  rw [pyAll_strs]
  show (if min _ (PyData.depth (.str x)) ≤ 190 then _ else _) = _
  have : PyData.depth (.str x) = 0 := by simp [PyData.depth]
  rw [if_pos (by omega), any_strs]
theorem inD_strs (x : Str) (l : List Str) : inD (.str x) (.lst (l.map .str)) = some (decide (x ∈ l)) := inSeq_strs x l
/-! ### the variables -/
theorem r2 : ∀ (k : Nat) (ts : List Tm), (∀ t ∈ ts, t.ht + 1 ≤ k) → 1 ≤ k → (ts.flatMap Tm.vars).length ≤ 16777216 → runP T k 2 [.tup (ts.map encM)] = .ok (.ow (.lst ((ts.flatMap Tm.vars).map .str)))
  | 0, _, _, h, _ => by omega
  | k + 1, ts, hts, _, hl => by
    rw [u2]
    have loop : ∀ (us : List Tm) (acc : List Str) (o : Option Cell), (∀ t ∈ us, t.ht ≤ k) → acc.length + (us.flatMap Tm.vars).length ≤ 16777216 → ∃ o', forB (T.pg (runP T k)) (.n 2) b2_f1 (us.map encM) [some (.sh (.tup (ts.map encM))), some (.ow (.lst (acc.map .str))), o] = .ok .nx [some (.sh (.tup (ts.map encM))), some (.ow (.lst ((acc ++ us.flatMap Tm.vars).map .str))), o'] := by
      intro us
      induction us with
      | nil => intro acc o _ _; exact ⟨o, by simp⟩
      | cons t us ih =>
        intro acc o hk hl
        rw [List.flatMap_cons, List.length_append] at hl
        have key : ∃ o', stepB (T.pg (runP T k)) (.n 2) b2_f1 (encM t) [some (.sh (.tup (ts.map encM))), some (.ow (.lst (acc.map .str))), o] = .ok .nx [some (.sh (.tup (ts.map encM))), some (.ow (.lst ((acc ++ t.vars).map .str))), o'] := by
          have hkt := hk t List.mem_cons_self
          cases t with
          | v x =>
            refine ⟨some (.sh (.str x)), ?_⟩
            simp only [Tm.vars, List.length_singleton] at hl
            rw [stepB_n (by simp)]
            simp -dsimp -implicitDefEqProofs (disch := first | omega | (simp; done) | (simp; omega)) [exB_c, cap, b2_f1, encM, tyD, Tm.vars]
          | c f =>
            refine ⟨some (.sh (encM (.c f))), ?_⟩
            have h2 := r2 k [] (fun _ z => by cases z) (by simp only [Tm.ht] at hkt; omega) (by simp)
            simp only [List.map_nil, List.flatMap_nil] at h2
            rw [stepB_n (by simp)]
            simp -dsimp -implicitDefEqProofs (disch := first | omega | (simp; done) | (simp; omega)) [exB_c, cap, b2_f1, encM, tyD, Tm.vars, h2]
          | u f t =>
            refine ⟨some (.sh (encM (.u f t))), ?_⟩
            simp only [Tm.vars] at hl
            simp only [Tm.ht] at hkt
            have h2 := r2 k [t] (fun s hs => by rw [List.mem_singleton.mp hs]; omega) (by omega) (by simp; omega)
            simp only [List.map_cons, List.map_nil, List.flatMap_cons, List.flatMap_nil, List.append_nil] at h2
            rw [stepB_n (by simp)]
            simp -dsimp -implicitDefEqProofs (disch := first | omega | (simp; done) | (simp; omega)) [exB_c, cap, b2_f1, encM, tyD, Tm.vars, h2]
          | b f s t =>
            refine ⟨some (.sh (encM (.b f s t))), ?_⟩
            simp only [Tm.vars, List.length_append] at hl
            simp only [Tm.ht] at hkt
            have h2 := r2 k [s, t] (fun r hr => by
              rcases List.mem_cons.mp hr with z | z
              · subst z; omega
              · rw [List.mem_singleton.mp z]; omega) (by omega) (by simp; omega)
            simp only [List.map_cons, List.map_nil, List.flatMap_cons, List.flatMap_nil, List.append_nil] at h2
            rw [stepB_n (by simp)]
            simp -dsimp -implicitDefEqProofs (disch := first | omega | (simp; done) | (simp; omega)) [exB_c, cap, b2_f1, encM, tyD, Tm.vars, h2]
        obtain ⟨o1, e1⟩ := key
        obtain ⟨o2, e2⟩ := ih (acc ++ t.vars) o1 (fun s hs => hk s (List.mem_cons_of_mem _ hs)) (by rw [List.length_append]; omega)
        refine ⟨o2, ?_⟩
        rw [List.map_cons, forB_cons, e1]
        rw [List.flatMap_cons, ← List.append_assoc]
        exact e2
    obtain ⟨o, e⟩ := loop ts [] none (fun t ht => by have := hts t ht; omega) (by simpa using hl)
    simp only [List.map_nil, List.nil_append] at e
    simp -dsimp -implicitDefEqProofs (disch := first | omega | (simp; done) | (simp; omega)) [exB_c, cap, b2, e]
/-- first occurrences -/
def dd (l : List Str) : List Str := l.foldl (fun acc x => if x ∈ acc then acc else acc ++ [x]) []
theorem dd_len (l acc : List Str) : (l.foldl (fun acc x => if x ∈ acc then acc else acc ++ [x]) acc).length ≤ acc.length + l.length := by
  induction l generalizing acc with
  | nil => simp
  | cons x l ih =>
    rw [List.foldl_cons]
    refine Nat.le_trans (ih _) ?_
    split
    · simp
    · simp; omega
theorem r3 {ts : List Tm} (hk : 2 ≤ k) (hts : ∀ t ∈ ts, t.ht + 2 ≤ k) (hl : (ts.flatMap Tm.vars).length < 16777216) : runP T k 3 [.tup (ts.map encM)] = .ok (.sh (.tup ((dd (ts.flatMap Tm.vars)).map .str))) := by
  obtain ⟨k, rfl⟩ : ∃ j, k = j + 1 := ⟨k - 1, by omega⟩
  have h2 := r2 k ts (fun t ht => by have := hts t ht; omega) (by omega) (by omega)
  rw [u3]
  have loop : ∀ (l acc : List Str) (o : Option Cell), acc.length + l.length < 16777216 → ∃ o', forB (T.pg (runP T k)) (.n 2) b3_f1 (l.map .str) [some (.sh (.tup (ts.map encM))), some (.ow (.lst (acc.map .str))), o] = .ok .nx [some (.sh (.tup (ts.map encM))), some (.ow (.lst ((l.foldl (fun acc x => if x ∈ acc then acc else acc ++ [x]) acc).map .str))), o'] := by
    intro l
    induction l with
    | nil => intro acc o _; exact ⟨o, rfl⟩
    | cons x l ih =>
      intro acc o hl
      rw [List.length_cons] at hl
      have key : stepB (T.pg (runP T k)) (.n 2) b3_f1 (.str x) [some (.sh (.tup (ts.map encM))), some (.ow (.lst (acc.map .str))), o] = .ok .nx [some (.sh (.tup (ts.map encM))), some (.ow (.lst ((if x ∈ acc then acc else acc ++ [x]).map .str))), some (.sh (.str x))] := by
        rw [stepB_n (by simp)]
        by_cases h : x ∈ acc
        · simp -dsimp -implicitDefEqProofs (disch := first | omega | (simp; done) | (simp; omega)) [exB_c, cap, b3_f1, inD_strs, h]
        · simp -dsimp -implicitDefEqProofs (disch := first | omega | (simp; done) | (simp; omega)) [exB_c, cap, b3_f1, inD_strs, h]
      obtain ⟨o2, e2⟩ := ih (if x ∈ acc then acc else acc ++ [x]) (some (.sh (.str x))) (by split <;> (try simp) <;> omega)
      refine ⟨o2, ?_⟩
      rw [List.map_cons, forB_cons, key]
      exact e2
  obtain ⟨o, e⟩ := loop (ts.flatMap Tm.vars) [] none (by simpa using hl)
  simp only [List.map_nil] at e
  simp -dsimp -implicitDefEqProofs (disch := first | omega | (simp; done) | (simp; omega)) [exB_c, cap, b3, h2, e, dd]
theorem r4 {t : Tm} (hk : t.ht + 3 ≤ k) (hl : t.vars.length < 16777216) : runP T k 4 [encM t] = .ok (.sh (.tup ((dd t.vars).map .str))) := by
  obtain ⟨k, rfl⟩ : ∃ j, k = j + 1 := ⟨k - 1, by omega⟩
  have h3 := r3 (k := k) (ts := [t]) (by omega) (fun s hs => by rw [List.mem_singleton.mp hs]; omega) (by simpa using hl)
  simp only [List.map_cons, List.map_nil, List.flatMap_cons, List.flatMap_nil, List.append_nil] at h3
  rw [u4]
  simp -dsimp -implicitDefEqProofs (disch := first | omega | (simp; done) | (simp; omega)) [exB_c, cap, b4, h3]
/-! ### values -/
abbrev Asg := List (Key × DL.D)
def putV2 (l : List (Str × Int)) : Asg := putAll (l.map fun p => (.inr p.1, .int p.2))
theorem lookK_put (k0 k1 : Key) (d : DL.D) : ∀ l : Asg, lookK k0 (putDk k1 d l) = if k1 = k0 then some d else lookK k0 l := by
  intro l
  have h1 : ∀ l : Asg, (l.any fun kv => decide (kv.1 = k1)) = true → lookK k0 (l.map fun kv => if kv.1 = k1 then (kv.1, d) else kv) = if k1 = k0 then some d else lookK k0 l := by
    intro l
    induction l with
    | nil => intro h; cases h
    | cons kv l ih =>
      intro h
      rw [List.map_cons, lookK_append, lookK_append]
      by_cases z : kv.1 = k1
      · rw [if_pos z]
        dsimp only
        by_cases z2 : k1 = k0
        · rw [if_pos (z.trans z2), if_pos z2]
        · rw [if_neg (fun q => z2 (z.symm.trans q)), if_neg z2, if_neg (fun q => z2 (z.symm.trans q))]
          by_cases z3 : (l.any fun kv => decide (kv.1 = k1)) = true
          · rw [ih z3, if_neg z2]
          · have : l.map (fun kv => if kv.1 = k1 then (kv.1, d) else kv) = l := by
              rw [List.map_congr_left (g := id)]
              · simp
              · intro a ha
                rw [if_neg fun q => z3 (List.any_eq_true.mpr ⟨a, ha, decide_eq_true q⟩)]; rfl
            rw [this]
      · rw [if_neg z]
        rw [List.any_cons, decide_eq_false z, Bool.false_or] at h
        rw [ih h]
        by_cases z2 : k1 = k0
        · rw [if_pos z2, if_neg (fun q => z (q.trans z2.symm)), if_pos z2]
        · rw [if_neg z2, if_neg z2]
  unfold putDk
  split
  · exact h1 l ‹_›
  · rename_i h
    have h2 : ∀ l : Asg, ¬ (l.any fun kv => decide (kv.1 = k1)) = true → lookK k0 (l ++ [(k1, d)]) = if k1 = k0 then some d else lookK k0 l := by
      intro l
      induction l with
      | nil => intro _; rw [List.nil_append, lookK_append]
      | cons kv l ih =>
        intro h
        rw [List.any_cons, Bool.or_eq_true, not_or] at h
        rw [List.cons_append, lookK_append, lookK_append, ih h.2]
        have z : ¬ kv.1 = k1 := fun q => h.1 (decide_eq_true q)
        by_cases z2 : k1 = k0
        · rw [if_pos z2, if_neg (fun q => z (q.trans z2.symm)), if_pos z2]
        · rw [if_neg z2, if_neg z2]
    exact h2 l h
theorem putV2_snoc (l : List (Str × Int)) (p : Str × Int) : putV2 (l ++ [p]) = putDk (.inr p.1) (.int p.2) (putV2 l) := by
  unfold putV2 putAll
  rw [List.map_append, List.foldl_append]; rfl
theorem snocInd {α : Type} {M : List α → Prop} (h0 : M []) (h1 : ∀ l a, M l → M (l ++ [a])) (l : List α) : M l := by
  have : ∀ l : List α, M l.reverse := by
    intro l
    induction l with
    | nil => exact h0
    | cons a l ih => rw [List.reverse_cons]; exact h1 _ _ ih
  have h := this l.reverse
  rwa [List.reverse_reverse] at h
/-- every value is a thing -/
theorem putV2_rng {n : Int} : ∀ (l : List (Str × Int)), (∀ p ∈ l, 0 ≤ p.2 ∧ p.2 < n) → ∀ (x : Str) (d : DL.D), lookK (.inr x) (putV2 l) = some d → ∃ i, d = .int i ∧ 0 ≤ i ∧ i < n := by
  intro l
  refine snocInd (M := fun l => (∀ p ∈ l, 0 ≤ p.2 ∧ p.2 < n) → ∀ (x : Str) (d : DL.D), lookK (.inr x) (putV2 l) = some d → ∃ i, d = .int i ∧ 0 ≤ i ∧ i < n) ?_ ?_ l
  · intro _ x d h; cases h
  · intro l p ih hl x d h
    rw [putV2_snoc, lookK_put] at h
    split at h
    · cases h
      exact ⟨p.2, rfl, hl p (by simp)⟩
    · exact ih (fun q hq => hl q (by simp [hq])) x d h
theorem putAll_len (l : Asg) : (putAll l).length ≤ l.length := by
  refine snocInd (M := fun l => (putAll l).length ≤ l.length) ?_ ?_ l
  · exact Nat.le_refl _
  · intro l p ih
    unfold putAll at ih ⊢
    rw [List.foldl_append, List.length_append]
    show (putDk _ _ _).length ≤ _
    unfold putDk
    split
    · rw [List.length_map]; exact Nat.le_trans ih (by simp)
    · rw [List.length_append]; simp; exact ih
end Cr

set_option maxHeartbeats 1000000
namespace Cr
open DL PySem L2
variable {k : Nat}
def encP (p : Str × Int) : DL.D := .tup [.str p.1, .int p.2]
theorem pairs_flat (l : List (Str × Int)) : pairsD (l.flatMap fun p => [DL.D.str p.1, DL.D.int p.2]) = some (l.map fun p => ((.inr p.1 : Key), DL.D.int p.2)) := by
  induction l with
  | nil => rfl
  | cons p l ih =>
    rw [List.flatMap_cons, List.cons_append, List.cons_append, List.nil_append]
    unfold pairsD
    rw [ih]; rfl
theorem find_dd (p : Str → Bool) (l : List Str) : (dd l).find? p = l.find? p := by
  have key : ∀ (l acc : List Str), (l.foldl (fun acc x => if x ∈ acc then acc else acc ++ [x]) acc).find? p = (acc.find? p).or (l.find? p) := by
    intro l
    induction l with
    | nil => intro acc; simp
    | cons x l ih =>
      intro acc
      rw [List.foldl_cons, ih]
      split
      · rename_i h
        cases ha : acc.find? p with
        | some y => rfl
        | none =>
          rw [List.find?_eq_none] at ha
          rw [List.find?_cons, Bool.eq_false_iff.mpr (ha x h)]
      · rw [List.find?_append]
        cases ha : acc.find? p with
        | some y => rfl
        | none =>
          rw [List.find?_cons]
          cases hx : p x with
          | true => simp [hx]
          | false => simp [hx]
  have := key l []
  simpa [dd] using this
theorem putV2_eq (l : List (Str × Int)) : putAll (l.map fun p => ((.inr p.1 : Key), DL.D.int p.2)) = putV2 l := rfl
def missing (V : Asg) (x : Str) : Bool := (lookK (.inr x) V).isNone
def valOf (V : Asg) (x : Str) : Int := match lookK (.inr x) V with
  | some (.int i) => i
  | _ => 0
theorem r11 {ss : List Sy} {n : Nat} {bs : List (List Int)} {t : Tm} {l : List (Str × Int)} {vals : DL.D} (w : WfS ss) (wb : WfB ss n bs) (hn : 0 < n ∧ n < 1000) (ht : t.wf ss) (hk : t.ht + 4 ≤ k) (hvl : t.vars.length < 16777216) (hl : ∀ p ∈ l, 0 ≤ p.2 ∧ p.2 < (n : Int)) (hll : l.length < 1000) (hv : vals = .lst (l.map encP) ∨ vals = .tup (l.map encP)) :
    runP T k 11 [worldD ss n bs, encM t, vals] = match t.vars.find? (missing (putV2 l)) with
      | none => .ok (.sh (.int (valT ss n bs (valOf (putV2 l)) t)))
      | some x => .ex ⟨1002, [("variable", .str x)]⟩ := by
  obtain ⟨k, rfl⟩ : ∃ j, k = j + 1 := ⟨k - 1, by omega⟩
  have h4 := r4 (k := k) (t := t) (by omega) hvl
  have hw : walkD vals = some (l.map encP) := by rcases hv with h | h <;> subst h <;> rfl
  rw [u11]
  obtain ⟨ρ', e1, e2⟩ := dc_map (P := T.pg (runP T k)) (k := .v 4) (v := .v 5) (own := [4, 5]) (t := .t (.c (.n 4) (.c (.n 5) .z))) (c := .n) (enc := encP) (xs := l) (fun p => .str p.1) (fun p => .int p.2) (ρ := [some (.sh (worldD ss n bs)), some (.sh (encM t)), some (.sh vals), none, none, none]) (fun p hp => by
    unfold turnDB
    simp -dsimp -implicitDefEqProofs (disch := first | omega | (simp; done) | (simp; omega)) [exB_c, cap, wipeE, encP]) (by omega) rfl
  rcases forB_findX (P := T.pg (runP T k)) (t := .n 4) (b := b11_f1) (enc := DL.D.str) (fun (o : Option Cell) => [some (.sh (worldD ss n bs)), some (.sh (encM t)), some (.sh vals), some (.ow (.dct (putV2 l))), o, none])
    (missing (putV2 l)) (fun x => ⟨1002, [("variable", .str x)]⟩) (dd t.vars) (fun o x hx => by
      rw [stepB_n (by simp)]
      unfold missing
      cases h : lookK (.inr x) (putV2 l) with
      | some d => exact .inl ⟨rfl, some (.sh (.str x)), by simp -dsimp -implicitDefEqProofs (disch := first | omega | (simp; done) | (simp; omega)) [exB_c, cap, b11_f1, h]⟩
      | none => exact .inr ⟨rfl, by simp -dsimp -implicitDefEqProofs (disch := first | omega | (simp; done) | (simp; omega)) [exB_c, cap, b11_f1, h]⟩) none with ⟨h, o, e⟩ | ⟨x, ρ, h, e⟩
  · rw [find_dd] at h
    rw [h]
    have hvars : ∀ x ∈ t.vars, lookK (.inr x) (putV2 l) = some (.int (valOf (putV2 l) x)) ∧ 0 ≤ valOf (putV2 l) x ∧ valOf (putV2 l) x < n := fun x hx => by
      rw [List.find?_eq_none] at h
      have h1 := h x hx
      unfold missing at h1
      cases h2 : lookK (.inr x) (putV2 l) with
      | none => rw [h2] at h1; exact absurd rfl h1
      | some d =>
        obtain ⟨i, ed, hi⟩ := putV2_rng (n := n) l hl x d h2
        subst ed
        have : valOf (putV2 l) x = i := by unfold valOf; rw [h2]
        rw [this]; exact ⟨rfl, hi⟩
    have h10 := r10 w wb hn t ht hvars (k := k) (by omega)
    unfold worldD at e1 e2 e h10 ⊢
    simp -dsimp -implicitDefEqProofs (disch := first | omega | (simp; done) | (simp; omega)) [exB_c, cap, b11, hw, e1, e2, pairs_flat, putV2_eq, h4, e, h10]
  · rw [find_dd] at h
    rw [h]
    simp -dsimp -implicitDefEqProofs (disch := first | omega | (simp; done) | (simp; omega)) [exB_c, cap, b11, hw, e1, e2, pairs_flat, putV2_eq, h4, e]
end Cr

set_option maxHeartbeats 1000000
namespace Cr
open DL PySem L2
variable {k : Nat}
def GoodN (x : Str) : Prop := ∀ k, 2 ≤ k → runP T k 1 [.str x] = .ok (.sh (.bl true))
theorem good_of {x : Str} (h : ∀ j, runP T (j + 2) 1 [.str x] = .ok (.sh (.bl true))) : GoodN x := fun k hk => by
  obtain ⟨j, rfl⟩ : ∃ j, k = j + 2 := ⟨k - 2, by omega⟩
  exact h j
theorem good_all : ∀ x ∈ (["g", "g2h2g2h1", "hg", "g1", "g2h2g2h2", "gg", "h1", "h2", "g2", "h", "g3", "h3", "gh", "hh", "g0", "h0", "g13", "h13", "g01", "g10"] : List Str), GoodN x := by
  intro x hx
  simp only [List.mem_cons, List.not_mem_nil, or_false] at hx
  rcases hx with h | h | h | h | h | h | h | h | h | h | h | h | h | h | h | h | h | h | h | h <;> subst h <;> exact good_of fun j => by kernel_rfl
theorem in012 {a : Int} (h : 0 ≤ a ∧ a < 3) : inD (.int a) (.tup [.int 0, .int 1, .int 2]) = some true := by
  have h : a = 0 ∨ a = 1 ∨ a = 2 := by omega
  rcases h with h | h | h <;> subst h <;> rfl
theorem look_none (ss : List Sy) (j : Nat) {f : Str} (h : f ∉ ss.map (·.1)) : lookK (.inr f) ((ss.zipIdx j).map fun p => ((.inr p.1.1 : Key), DL.D.tup [.int p.2, .int p.1.2.1, .bl p.1.2.2])) = none := by
  induction ss generalizing j with
  | nil => rfl
  | cons x ss ih =>
    rw [List.map_cons, List.mem_cons, not_or] at h
    rw [List.zipIdx_cons, List.map_cons, lookK_append, if_neg (fun z => h.1 (Sum.inr.inj z).symm)]
    exact ih (j + 1) h.2
theorem tab_snoc (pre : List Sy) (s : Sy) (h : s.1 ∉ pre.map (·.1)) : putDk (.inr s.1) (.tup [.int pre.length, .int s.2.1, .bl s.2.2]) (tabD pre) = tabD (pre ++ [s]) := by
  have h1 : ¬ ((tabD pre).any fun kv => decide (kv.1 = Sum.inr s.1)) = true := fun z => by
    obtain ⟨kv, m, e⟩ := List.any_eq_true.mp z
    unfold tabD at m
    obtain ⟨p, hp, ep⟩ := List.mem_map.mp m
    subst ep
    have e := Sum.inr.inj (of_decide_eq_true e)
    apply h
    rw [← e]
    exact List.mem_map.mpr ⟨p.1, (List.mem_zipIdx_iff_getElem?.mp hp |> fun q => List.mem_of_getElem? q), rfl⟩
  unfold putDk
  rw [if_neg h1]
  unfold tabD
  rw [List.zipIdx_append, List.map_append]
  simp
theorem r12 {ss : List Sy} (hk : 3 ≤ k) (w : WfS ss) (g : ∀ s ∈ ss, GoodN s.1) : runP T k 12 [.lst (ss.map encS)] = .ok (.ow (sigD ss)) := by
  obtain ⟨k, rfl⟩ : ∃ j, k = j + 1 := ⟨k - 1, by omega⟩
  rw [u12]
  have loop : ∀ (rest pre : List Sy) (o4 o5 o6 o7 : Option Cell), ss = pre ++ rest → ∃ q4 q5 q6 q7 : Option Cell, forB (T.pg (runP T k)) (.t (.c (.n 4) (.c (.t (.c (.n 5) (.c (.n 6) (.c (.n 7) .z)))) .z))) b12_f1 ((rest.zipIdx pre.length).map fun p => .tup [.int p.2, encS p.1])
      [some (.ow (.ins 1 [])), some (.sh (.lst (ss.map encS))), some (.ow (.lst (pre.map encS))), some (.ow (.dct (tabD pre))), o4, o5, o6, o7] =
      .ok .nx [some (.ow (.ins 1 [])), some (.sh (.lst (ss.map encS))), some (.ow (.lst (ss.map encS))), some (.ow (.dct (tabD ss))), q4, q5, q6, q7] := by
    intro rest
    induction rest with
    | nil =>
      intro pre o4 o5 o6 o7 e
      rw [List.append_nil] at e
      subst e
      exact ⟨o4, o5, o6, o7, rfl⟩
    | cons s rest ih =>
      intro pre o4 o5 o6 o7 e
      have hm : s ∈ ss := by rw [e]; simp
      have hfew := w.few
      have hpl : pre.length < 40 := by rw [e, List.length_append, List.length_cons] at hfew; omega
      have hnot : s.1 ∉ pre.map (·.1) := fun z => by
        have := w.nd
        rw [e, List.map_append, List.nodup_append] at this
        exact this.2.2 s.1 z s.1 (by simp) rfl
      have h1 := g s hm k (by omega)
      have h2 : lookK (.inr s.1) (tabD pre) = none := look_none pre 0 hnot
      have h3 := in012 (w.ar s hm)
      have h4 := tab_snoc pre s hnot
      have h5 := w.tw s hm
      have h6 : (tabD pre).length < 16777216 := by unfold tabD; simp; omega
      obtain ⟨f, a, b⟩ := s
      have key : stepB (T.pg (runP T k)) (.t (.c (.n 4) (.c (.t (.c (.n 5) (.c (.n 6) (.c (.n 7) .z)))) .z))) b12_f1 (.tup [.int pre.length, encS (f, a, b)])
          [some (.ow (.ins 1 [])), some (.sh (.lst (ss.map encS))), some (.ow (.lst (pre.map encS))), some (.ow (.dct (tabD pre))), o4, o5, o6, o7] =
          .ok .nx [some (.ow (.ins 1 [])), some (.sh (.lst (ss.map encS))), some (.ow (.lst ((pre ++ [(f, a, b)]).map encS))), some (.ow (.dct (tabD (pre ++ [(f, a, b)])))), some (.sh (.int pre.length)), some (.sh (.str f)), some (.sh (.int a)), some (.sh (.bl b))] := by
        unfold stepB
        dsimp only at h1 h2 h3 h4 h5
        cases b with
        | false => simp -dsimp -implicitDefEqProofs (disch := first | omega | (simp; done) | (simp; omega)) [exB_c, cap, b12_f1, encS, h1, h2, h3, h4]
        | true =>
          have e2 := h5 rfl
          subst e2
          simp -dsimp -implicitDefEqProofs (disch := first | omega | (simp; done) | (simp; omega)) [exB_c, cap, b12_f1, encS, h1, h2, h3, h4]
      obtain ⟨p4, p5, p6, p7, e2⟩ := ih (pre ++ [(f, a, b)]) (some (.sh (.int pre.length))) (some (.sh (.str f))) (some (.sh (.int a))) (some (.sh (.bl b))) (by rw [e]; simp)
      refine ⟨p4, p5, p6, p7, ?_⟩
      rw [List.zipIdx_cons, List.map_cons, forB_cons]
      dsimp only
      rw [key]
      rw [List.length_append, List.length_singleton] at e2
      exact e2
  obtain ⟨o4, o5, o6, o7, e⟩ := loop ss [] none none none none rfl
  rw [List.length_nil] at e
  have e0 := enuD_map encS ss
  simp only [List.map_nil] at e
  have e3 : tabD [] = [] := rfl
  rw [e3] at e
  simp -dsimp -implicitDefEqProofs (disch := first | omega | (simp; done) | (simp; omega)) [exB_c, cap, b12, pairsD, putAll, e0, e, putD, sigD]
end Cr

set_option maxHeartbeats 1000000
namespace Cr
open DL PySem L2
variable {k : Nat}
theorem r15 {ss : List Sy} (hk : 1 ≤ k) : runP T k 15 [sigD ss, sigD ss] = .ok (.sh (.bl true)) := by
  obtain ⟨k, rfl⟩ : ∃ j, k = j + 1 := ⟨k - 1, by omega⟩
  have h : eqD (.tup (ss.map encS)) (.tup (ss.map encS)) = some true := eqD_self (by simp [plB, encS])
  rw [u15]
  simp -dsimp -implicitDefEqProofs (disch := first | omega | (simp; done) | (simp; omega)) [exB_c, cap, b15, sigD, tyD, insOk, h]
theorem r16 {i : Int} (hk : 1 ≤ k) : runP T k 16 [.int i] = .ok (.sh (.bl true)) := by
  obtain ⟨k, rfl⟩ : ∃ j, k = j + 1 := ⟨k - 1, by omega⟩
  rw [u16]
  simp -dsimp -implicitDefEqProofs (disch := first | omega | (simp; done) | (simp; omega)) [exB_c, cap, b16, tyD]
theorem r17 {ns : List Int} {j : Nat} (hk : 1 ≤ k) (hj : j < 1000) : ∃ z, runP T k 17 [.lst (ns.map .int), .int j] = .ok (.sh (.int z)) := by
  obtain ⟨k, rfl⟩ : ∃ j, k = j + 1 := ⟨k - 1, by omega⟩
  rw [u17]
  by_cases h : j < ns.length
  · exact ⟨ns[j], by simp -dsimp -implicitDefEqProofs (disch := first | omega | (simp; done) | (simp; omega)) [exB_c, cap, b17, h]⟩
  · obtain ⟨o, e⟩ := forB_fold (P := T.pg (runP T k)) (t := .n 3) (b := b17_f1) (enc := D.int) (fun (o : Option Cell) (s : Int) => [some (.sh (.lst (ns.map .int))), some (.sh (.int j)), some (.sh (.int s)), o]) (fun s x => (s * 31 + x % 1000003) % 1000003) ns (fun o s x hx => ⟨some (.sh (.int x)), by
      rw [stepB_n (by simp)]
      simp -dsimp -implicitDefEqProofs (disch := first | omega | (simp; done) | (simp; omega)) [exB_c, cap, b17_f1, binD_mulR]⟩) none 17
    have h' : ¬ ((j : Int) < ns.length) := by omega
    exact ⟨_, by simp -dsimp -implicitDefEqProofs (disch := first | omega | (simp; done) | (simp; omega)) [exB_c, cap, b17, h', e, binD_mulR]; rfl⟩
/-- digits below their sizes -/
structure Dig (row sizes : List Int) : Prop where
  len : row.length = sizes.length
  rng : ∀ (i : Nat) (x y : Int), row[i]? = some x → sizes[i]? = some y → 0 ≤ x ∧ x < y
theorem Dig.snoc {row sizes : List Int} {x y : Int} {rest : List Int} (h : Dig row (sizes)) (hx : 0 ≤ x ∧ x < y) : Dig (row ++ [x]) (sizes ++ [y]) where
  len := by simp [h.len]
  rng := fun i a b ha hb => by
    by_cases z : i < row.length
    · rw [List.getElem?_append_left z] at ha
      rw [List.getElem?_append_left (by rw [← h.len]; exact z)] at hb
      exact h.rng i a b ha hb
    · have : i = row.length := by
        have := lt_of_get ha
        rw [List.length_append, List.length_singleton] at this
        omega
      subst this
      simp at ha
      rw [h.len] at hb
      simp at hb
      subst ha hb
      exact hx
theorem r18 {c : Int} {sizes : List Int} (hk : 1 ≤ k) (hs : ∀ y ∈ sizes, 0 < y ∧ y < 1000000) (hl : sizes.length < 1000) : ∃ row, Dig row sizes ∧ runP T k 18 [.int c, .lst (sizes.map .int)] = .ok (.ow (.lst (row.map .int))) := by
  obtain ⟨k, rfl⟩ : ∃ j, k = j + 1 := ⟨k - 1, by omega⟩
  rw [u18]
  by_cases h : c ≥ 1000000000000000000
  · obtain ⟨ρ', e, done, row, r, o, e1, e2, e3⟩ := forB_pre (P := T.pg (runP T k)) (t := .n 4) (b := b18_f1) (enc := D.int) (fun rest ρ => ∃ (done row : List Int) (r : Int) (o : Option Cell), sizes = done ++ rest ∧ Dig row done ∧ ρ = [some (.sh (.int c)), some (.sh (.lst (sizes.map .int))), some (.ow (.lst (row.map .int))), some (.sh (.int r)), o, none, none, none]) (fun x rest ρ ⟨done, row, r, o, e1, e2, e3⟩ => by
      subst e3
      have hx := hs x (by rw [e1]; simp)
      have hrl : row.length < 1000 := by rw [e2.len]; rw [e1, List.length_append] at hl; omega
      refine ⟨[some (.sh (.int c)), some (.sh (.lst (sizes.map .int))), some (.ow (.lst ((row ++ [r % x]).map .int))), some (.sh (.int (r / x))), some (.sh (.int x)), none, none, none], ?_, done ++ [x], row ++ [r % x], r / x, some (.sh (.int x)), by rw [e1]; simp, e2.snoc (rest := []) ⟨Int.emod_nonneg _ (by omega), Int.emod_lt_of_pos _ hx.1⟩, rfl⟩
      rw [stepB_n (by simp)]
      simp -dsimp -implicitDefEqProofs (disch := first | omega | (simp; done) | (simp; omega)) [exB_c, cap, b18_f1]) sizes _ ⟨[], [], c - 1000000000000000000, none, rfl, ⟨rfl, fun i a b ha _ => by simp at ha⟩, rfl⟩
    subst e3
    rw [List.append_nil] at e1
    subst e1
    simp only [List.map_nil] at e
    refine ⟨row, e2, ?_⟩
    simp -dsimp -implicitDefEqProofs (disch := first | omega | (simp; done) | (simp; omega)) [exB_c, cap, b18, h, e]
  · obtain ⟨ρ', e, row, s, o6, o7, e2, hs2, e3⟩ := forB_rng (P := T.pg (runP T k)) (t := .n 6) (b := b18_f2) sizes.length (fun j ρ => ∃ (row : List Int) (s : Int) (o6 o7 : Option Cell), Dig row (sizes.take j) ∧ (0 ≤ s ∧ s < 2147483647) ∧ ρ = [some (.sh (.int c)), some (.sh (.lst (sizes.map .int))), some (.ow (.lst (row.map .int))), some (.sh (.int c)), none, some (.sh (.int s)), o6, o7]) (fun j ρ hj ⟨row, s, o6, o7, e2, hs2, e3⟩ => by
      subst e3
      have hx := hs sizes[j] (List.getElem_mem hj)
      have hrl : row.length < 1000 := by rw [e2.len, List.length_take]; omega
      generalize hs1 : (s * 48271 + 974711 * (j : Int) + 12345) % 2147483647 = s1
      have hs1' : 0 ≤ s1 ∧ s1 < 2147483647 := by omega
      generalize ht : (s1 * (s1 / 65537 + 3)) % 2147483629 = tw
      refine ⟨[some (.sh (.int c)), some (.sh (.lst (sizes.map .int))), some (.ow (.lst ((row ++ [tw / 19 % sizes[j]]).map .int))), some (.sh (.int c)), none, some (.sh (.int s1)), some (.sh (.int j)), some (.sh (.int tw))], ?_, row ++ [tw / 19 % sizes[j]], s1, some (.sh (.int j)), some (.sh (.int tw)), ?_, hs1', rfl⟩
      · rw [stepB_n (by simp)]
        simp -dsimp -implicitDefEqProofs (disch := first | omega | (simp; done) | (simp; omega)) [exB_c, cap, b18_f2, binD_mulR, binD_mulL, hs1, ht]
      · rw [List.take_succ_eq_append_getElem hj]
        exact e2.snoc (rest := []) ⟨Int.emod_nonneg _ (by omega), Int.emod_lt_of_pos _ hx.1⟩) _ ⟨[], c % 2147483629, none, none, ⟨by simp, fun i a b ha _ => by simp at ha⟩, by omega, rfl⟩
    subst e3
    rw [List.take_length] at e2
    simp only [List.map_nil] at e
    refine ⟨row, e2, ?_⟩
    simp -dsimp -implicitDefEqProofs (disch := first | omega | (simp; done) | (simp; omega)) [exB_c, cap, b18, h, e]
end Cr

set_option maxHeartbeats 1000000
namespace Cr
open DL PySem L2
variable {k : Nat}
abbrev Pl := Int × Bool
def encPl (p : Pl) : DL.D := .lst [.int p.1, .bl p.2]
def menu10 : List Str := ["g", "g2h2g2h1", "hg", "g1", "g2h2g2h2", "gg", "h1", "h2", "g2", "h"]
def opt (c : Bool) (p : Pl) : List Pl := if c then [p] else []
theorem opt_len (c : Bool) (p : Pl) : (opt c p).length ≤ 1 := by unfold opt; split <;> simp
structure R19 (ss : List Sy) : Prop where
  few : 0 < ss.length ∧ ss.length ≤ 7
  ar : ∀ s ∈ ss, s.2 = (0, false) ∨ s.2 = (1, false) ∨ s.2 = (2, false) ∨ s.2 = (2, true)
  con : ∃ f, (f, 0, false) ∈ ss
  two : ∃ f, (f, 2, true) ∈ ss
  nm : ∃ r0 : Nat, ss.map (·.1) = (List.range ss.length).map fun j => menu10.getD ((r0 + 3 * j) % 10) ""
theorem r19 {row : List Int} (hk : 1 ≤ k) (hd : Dig row [10, 6, 4, 3, 4, 3, 720, 12]) : ∃ ss, R19 ss ∧ runP T k 19 [.lst (row.map .int)] = .ok (.ow (.lst (ss.map encS))) := by
  obtain ⟨k, rfl⟩ : ∃ j, k = j + 1 := ⟨k - 1, by omega⟩
  have hl := hd.len
  match row, hl with
  | [r0, r1, r2, r3, r4, r5, r6, r7], _ =>
  have g0 := hd.rng 0 r0 10 rfl rfl
  have g6 := hd.rng 6 r6 720 rfl rfl
  obtain ⟨n0, rfl⟩ : ∃ n : Nat, r0 = n := ⟨r0.toNat, by omega⟩
  rw [u19]
  have st1 : ∀ (pl : List Pl) (e : List (Option Cell)) (_ : pl.length ≤ 10), exS (T.pg (runP T k)) b19_i1 (some (.sh (.lst [((.int n0 : DL.D)), .int r1, .int r2, .int r3, .int r4, .int r5, .int r6, .int r7])) :: some (.ow (.lst (menu10.map .str))) :: some (.ow (.lst (pl.map encPl))) :: e) = .ok .nx (some (.sh (.lst [((.int n0 : DL.D)), .int r1, .int r2, .int r3, .int r4, .int r5, .int r6, .int r7])) :: some (.ow (.lst (menu10.map .str))) :: some (.ow (.lst ((pl ++ opt (decide (0 < r1)) (0, false)).map encPl))) :: e) := by
    intro pl e hp
    by_cases h : 0 < r1
    · simp -dsimp -implicitDefEqProofs (disch := first | omega | (simp; done) | (simp; omega)) [exB_c, cap, b19_i1, h, opt, encPl]
    · simp -dsimp -implicitDefEqProofs (disch := first | omega | (simp; done) | (simp; omega)) [exB_c, cap, b19_i1, h, opt, encPl]
  have st2 : ∀ (pl : List Pl) (e : List (Option Cell)) (_ : pl.length ≤ 10), exS (T.pg (runP T k)) b19_i2 (some (.sh (.lst [((.int n0 : DL.D)), .int r1, .int r2, .int r3, .int r4, .int r5, .int r6, .int r7])) :: some (.ow (.lst (menu10.map .str))) :: some (.ow (.lst (pl.map encPl))) :: e) = .ok .nx (some (.sh (.lst [((.int n0 : DL.D)), .int r1, .int r2, .int r3, .int r4, .int r5, .int r6, .int r7])) :: some (.ow (.lst (menu10.map .str))) :: some (.ow (.lst ((pl ++ opt (decide (0 < r2)) (1, false)).map encPl))) :: e) := by
    intro pl e hp
    by_cases h : 0 < r2
    · simp -dsimp -implicitDefEqProofs (disch := first | omega | (simp; done) | (simp; omega)) [exB_c, cap, b19_i2, h, opt, encPl]
    · simp -dsimp -implicitDefEqProofs (disch := first | omega | (simp; done) | (simp; omega)) [exB_c, cap, b19_i2, h, opt, encPl]
  have st3 : ∀ (pl : List Pl) (e : List (Option Cell)) (_ : pl.length ≤ 10), exS (T.pg (runP T k)) b19_i3 (some (.sh (.lst [((.int n0 : DL.D)), .int r1, .int r2, .int r3, .int r4, .int r5, .int r6, .int r7])) :: some (.ow (.lst (menu10.map .str))) :: some (.ow (.lst (pl.map encPl))) :: e) = .ok .nx (some (.sh (.lst [((.int n0 : DL.D)), .int r1, .int r2, .int r3, .int r4, .int r5, .int r6, .int r7])) :: some (.ow (.lst (menu10.map .str))) :: some (.ow (.lst ((pl ++ opt (decide (0 < r3)) (2, false)).map encPl))) :: e) := by
    intro pl e hp
    by_cases h : 0 < r3
    · simp -dsimp -implicitDefEqProofs (disch := first | omega | (simp; done) | (simp; omega)) [exB_c, cap, b19_i3, h, opt, encPl]
    · simp -dsimp -implicitDefEqProofs (disch := first | omega | (simp; done) | (simp; omega)) [exB_c, cap, b19_i3, h, opt, encPl]
  have st4 : ∀ (pl : List Pl) (e : List (Option Cell)) (_ : pl.length ≤ 10), exS (T.pg (runP T k)) b19_i4 (some (.sh (.lst [((.int n0 : DL.D)), .int r1, .int r2, .int r3, .int r4, .int r5, .int r6, .int r7])) :: some (.ow (.lst (menu10.map .str))) :: some (.ow (.lst (pl.map encPl))) :: e) = .ok .nx (some (.sh (.lst [((.int n0 : DL.D)), .int r1, .int r2, .int r3, .int r4, .int r5, .int r6, .int r7])) :: some (.ow (.lst (menu10.map .str))) :: some (.ow (.lst ((pl ++ opt (decide (r4 = 3)) (2, true)).map encPl))) :: e) := by
    intro pl e hp
    by_cases h : r4 = 3
    · simp -dsimp -implicitDefEqProofs (disch := first | omega | (simp; done) | (simp; omega)) [exB_c, cap, b19_i4, h, opt, encPl]
    · simp -dsimp -implicitDefEqProofs (disch := first | omega | (simp; done) | (simp; omega)) [exB_c, cap, b19_i4, h, opt, encPl]
  have st5 : ∀ (pl : List Pl) (e : List (Option Cell)) (_ : pl.length ≤ 10), exS (T.pg (runP T k)) b19_i5 (some (.sh (.lst [((.int n0 : DL.D)), .int r1, .int r2, .int r3, .int r4, .int r5, .int r6, .int r7])) :: some (.ow (.lst (menu10.map .str))) :: some (.ow (.lst (pl.map encPl))) :: e) = .ok .nx (some (.sh (.lst [((.int n0 : DL.D)), .int r1, .int r2, .int r3, .int r4, .int r5, .int r6, .int r7])) :: some (.ow (.lst (menu10.map .str))) :: some (.ow (.lst ((pl ++ opt (decide (r5 = 2)) (0, false)).map encPl))) :: e) := by
    intro pl e hp
    by_cases h : r5 = 2
    · simp -dsimp -implicitDefEqProofs (disch := first | omega | (simp; done) | (simp; omega)) [exB_c, cap, b19_i5, h, opt, encPl]
    · simp -dsimp -implicitDefEqProofs (disch := first | omega | (simp; done) | (simp; omega)) [exB_c, cap, b19_i5, h, opt, encPl]
  have c1 := opt_len (decide (0 < r1)) (0, false)
  have c2 := opt_len (decide (0 < r2)) (1, false)
  have c3 := opt_len (decide (0 < r3)) (2, false)
  have c4 := opt_len (decide (r4 = 3)) (2, true)
  have c5 := opt_len (decide (r5 = 2)) (0, false)
  -- the plan
  obtain ⟨plan, hplan⟩ : ∃ plan, plan = ([((0 : Int), false), (2, true)] ++ opt (decide (0 < r1)) (0, false) ++ opt (decide (0 < r2)) (1, false) ++ opt (decide (0 < r3)) (2, false) ++ opt (decide (r4 = 3)) (2, true) ++ opt (decide (r5 = 2)) (0, false)) := ⟨_, rfl⟩
  have hplen : plan.length ≤ 7 := by rw [hplan]; simp only [List.length_append, List.length_cons, List.length_nil]; omega
  have hpk : ∀ p ∈ plan, p = (0, false) ∨ p = (1, false) ∨ p = (2, false) ∨ p = (2, true) := by
    have ho : ∀ (c : Bool) (q : Pl), ∀ p ∈ opt c q, p = q := fun c q p hp => by unfold opt at hp; split at hp <;> simp at hp; exact hp
    intro p hp
    rw [hplan] at hp
    simp only [List.mem_append, List.mem_cons, List.not_mem_nil, or_false] at hp
    rcases hp with ((((((h | h) | h) | h) | h) | h) | h)
    · exact .inl h
    · exact .inr (.inr (.inr h))
    · exact .inl (ho _ _ p h)
    · exact .inr (.inl (ho _ _ p h))
    · exact .inr (.inr (.inl (ho _ _ p h)))
    · exact .inr (.inr (.inr (ho _ _ p h)))
    · exact .inl (ho _ _ p h)
  have hp0 : ((0 : Int), false) ∈ plan := by rw [hplan]; simp
  have hp2 : ((2 : Int), true) ∈ plan := by rw [hplan]; simp
  -- the symbols
  obtain ⟨ρ', e, pl, ss, rest, o6, o7, o8, e1, e2, e3, e4⟩ := forB_rng (P := T.pg (runP T k)) (t := .n 6) (b := b19_f1) plan.length (fun j ρ => ∃ (pl : List Pl) (ss : List Sy) (rest : Int) (o6 o7 o8 : Option Cell), (ss.map (·.2) ++ pl).Perm plan ∧ ss.length = j ∧ ss.map (·.1) = (List.range j).map (fun j => menu10.getD ((n0 + 3 * j) % 10) "") ∧
      ρ = [some (.sh (.lst [((.int n0 : DL.D)), .int r1, .int r2, .int r3, .int r4, .int r5, .int r6, .int r7])), some (.ow (.lst (menu10.map .str))), some (.ow (.lst (pl.map encPl))), some (.ow (.lst (ss.map encS))), some (.sh (.int rest)), some (.sh (.int plan.length)), o6, o7, o8]) (fun j ρ hj ⟨pl, ss, rest, o6, o7, o8, e1, e2, e3, e4⟩ => by
    subst e4
    have hpl : pl.length + j = plan.length := by
      have := e1.length_eq
      rw [List.length_append, List.length_map] at this
      omega
    obtain ⟨at_, hat⟩ : ∃ a : Nat, rest % (pl.length : Int) = a := ⟨(rest % (pl.length : Int)).toNat, by
      have := Int.emod_nonneg rest (show (pl.length : Int) ≠ 0 by omega)
      omega⟩
    have hatl : at_ < pl.length := by
      have := Int.emod_lt_of_pos rest (show (0 : Int) < pl.length by omega)
      omega
    have hme : ixD (.lst (menu10.map DL.D.str)) (.int ((n0 + 3 * (j : Int)) % 10)) = some (.str (menu10.getD ((n0 + 3 * j) % 10) "")) := by
      have hml : (n0 + 3 * j) % 10 < 10 := Nat.mod_lt _ (by omega)
      have hm : (n0 + 3 * (j : Int)) % 10 = (((n0 + 3 * j) % 10 : Nat) : Int) := by omega
      rw [hm, ixD_lst (by rw [List.length_map]; show _ ∧ _ < ((10 : Nat) : Int); omega), Int.toNat_natCast, List.getElem?_map, List.getD_eq_getElem?_getD, List.getElem?_eq_getElem (by exact hml)]; rfl
    refine ⟨[some (.sh (.lst [((.int n0 : DL.D)), .int r1, .int r2, .int r3, .int r4, .int r5, .int r6, .int r7])), some (.ow (.lst (menu10.map .str))), some (.ow (.lst ((pl.eraseIdx at_).map encPl))), some (.ow (.lst ((ss ++ [(menu10.getD ((n0 + 3 * j) % 10) "", pl[at_])]).map encS))), some (.sh (.int (rest / (pl.length : Int)))), some (.sh (.int plan.length)), some (.sh (.int j)), some (.sh (.int at_)), some (.sh (encPl pl[at_]))], ?_, pl.eraseIdx at_, ss ++ [(menu10.getD ((n0 + 3 * j) % 10) "", pl[at_])], rest / (pl.length : Int), some (.sh (.int j)), some (.sh (.int at_)), some (.sh (encPl pl[at_])), ?_, ?_, ?_, rfl⟩
    · rw [stepB_n (by simp)]
      have hpe := erase_map encPl pl at_
      have hss : ss.length < 8 := by omega
      have hlen : ((pl.map encPl).length : Int) = pl.length := by simp
      simp -dsimp -implicitDefEqProofs (disch := first | omega | (simp; done) | (simp; omega)) [exB_c, cap, b19_f1, binD_mulR, hat, hme, hpe, encPl, encS]
    · rw [List.map_append, List.append_assoc]
      refine (List.Perm.append_left _ ?_).trans e1
      exact erase_perm pl at_ hatl
    · rw [List.length_append, e2]; rfl
    · rw [List.map_append, e3, List.range_succ, List.map_append]; rfl) _ ⟨plan, [], r6, none, none, none, List.Perm.refl _, rfl, rfl, rfl⟩
  subst e4
  have hpl0 : pl = [] := by
    have := e1.length_eq
    rw [List.length_append, List.length_map] at this
    exact List.length_eq_zero_iff.mp (by omega)
  subst hpl0
  rw [List.append_nil] at e1
  refine ⟨ss, ⟨⟨by rw [e2, hplan]; simp, by omega⟩, fun s hs => hpk s.2 (e1.mem_iff.mp (List.mem_map.mpr ⟨s, hs, rfl⟩)), ?_, ?_, n0, by rw [e3, e2]⟩, ?_⟩
  · obtain ⟨s, h1, h2⟩ := List.mem_map.mp (e1.mem_iff.mpr hp0)
    exact ⟨s.1, by rw [← h2]; exact h1⟩
  · obtain ⟨s, h1, h2⟩ := List.mem_map.mp (e1.mem_iff.mpr hp2)
    exact ⟨s.1, by rw [← h2]; exact h1⟩
  obtain ⟨p0, q0⟩ : ∃ p0 : List Pl, p0 = [((0 : Int), false), (2, true)] := ⟨_, rfl⟩
  obtain ⟨p1, q1⟩ : ∃ p1, p1 = p0 ++ opt (decide (0 < r1)) (0, false) := ⟨_, rfl⟩
  obtain ⟨p2, q2⟩ : ∃ p, p = p1 ++ opt (decide (0 < r2)) (1, false) := ⟨_, rfl⟩
  obtain ⟨p3, q3⟩ : ∃ p, p = p2 ++ opt (decide (0 < r3)) (2, false) := ⟨_, rfl⟩
  obtain ⟨p4, q4⟩ : ∃ p, p = p3 ++ opt (decide (r4 = 3)) (2, true) := ⟨_, rfl⟩
  obtain ⟨p5, q5⟩ : ∃ p, p = p4 ++ opt (decide (r5 = 2)) (0, false) := ⟨_, rfl⟩
  have l0 : p0.length ≤ 2 := by rw [q0]; simp
  have l1 : p1.length ≤ 3 := by rw [q1, List.length_append]; omega
  have l2 : p2.length ≤ 4 := by rw [q2, List.length_append]; omega
  have l3 : p3.length ≤ 5 := by rw [q3, List.length_append]; omega
  have l4 : p4.length ≤ 6 := by rw [q4, List.length_append]; omega
  have hp5 : plan = p5 := by rw [hplan, q5, q4, q3, q2, q1, q0]
  have s1 := st1 p0 [none, none, none, none, none, none] (by omega)
  have s2 := st2 p1 [none, none, none, none, none, none] (by omega)
  have s3 := st3 p2 [none, none, none, none, none, none] (by omega)
  have s4 := st4 p3 [none, none, none, none, none, none] (by omega)
  have s5 := st5 p4 [none, none, none, none, none, none] (by omega)
  rw [← q1] at s1
  rw [← q2] at s2
  rw [← q3] at s3
  rw [← q4] at s4
  rw [← q5] at s5
  have hm : [DL.D.str "g", .str "g2h2g2h1", .str "hg", .str "g1", .str "g2h2g2h2", .str "gg", .str "h1", .str "h2", .str "g2", .str "h"] = menu10.map DL.D.str := rfl
  have hq : [DL.D.lst [.int 0, .bl false], .lst [.int 2, .bl true]] = p0.map encPl := by rw [q0]; rfl
  subst hp5
  simp only [List.map_nil] at e ⊢
  have ml : menu10.length = 10 := rfl
  simp -dsimp -implicitDefEqProofs (disch := first | omega | (simp; done) | (simp; omega)) [exB_c, cap, b19, hm, hq, ml, s1, s2, s3, s4, s5, e]
end Cr

set_option maxHeartbeats 1000000
namespace Cr
open DL PySem L2
variable {k : Nat}
theorem menu_inj : ∀ a < 10, ∀ b < 10, menu10.getD a "" = menu10.getD b "" → a = b := by decide +kernel
def moreS : List Sy := [("g3", 2, true), ("h3", 0, false), ("gh", 1, false), ("hh", 2, false), ("g0", 0, false), ("h0", 2, true), ("g13", 2, false), ("h13", 1, false), ("g01", 0, false), ("g10", 2, true)]
theorem menu_more : ∀ a < 10, menu10.getD a "" ∉ moreS.map (·.1) := by decide +kernel
theorem more_nd : (moreS.map (·.1)).Nodup := by decide +kernel
theorem menu_good : ∀ a < 10, menu10.getD a "" ∈ (["g", "g2h2g2h1", "hg", "g1", "g2h2g2h2", "gg", "h1", "h2", "g2", "h", "g3", "h3", "gh", "hh", "g0", "h0", "g13", "h13", "g01", "g10"] : List Str) := by decide +kernel
theorem more_good : ∀ s ∈ moreS, s.1 ∈ (["g", "g2h2g2h1", "hg", "g1", "g2h2g2h2", "gg", "h1", "h2", "g2", "h", "g3", "h3", "gh", "hh", "g0", "h0", "g13", "h13", "g01", "g10"] : List Str) := by decide +kernel
theorem more_ok : ∀ s ∈ moreS, (0 ≤ s.2.1 ∧ s.2.1 < 3) ∧ (s.2.2 = true → s.2.1 = 2) := by decide +kernel
theorem R19.nd {ss : List Sy} (r : R19 ss) : (ss.map (·.1)).Nodup := by
  obtain ⟨n0, e⟩ := r.nm
  rw [e]
  unfold List.Nodup
  rw [List.pairwise_map]
  refine List.Pairwise.imp_of_mem (fun {a b} ha hb hab h => ?_) List.pairwise_lt_range
  have hl := r.few
  have ha := List.mem_range.mp ha
  have hb := List.mem_range.mp hb
  have := menu_inj _ (Nat.mod_lt _ (by omega)) _ (Nat.mod_lt _ (by omega)) h
  omega
theorem R19.nm_lt {ss : List Sy} (r : R19 ss) {s : Sy} (hs : s ∈ ss) : ∃ a < 10, s.1 = menu10.getD a "" := by
  obtain ⟨n0, e⟩ := r.nm
  have : s.1 ∈ ss.map (·.1) := List.mem_map.mpr ⟨s, hs, rfl⟩
  rw [e] at this
  obtain ⟨j, _, ej⟩ := List.mem_map.mp this
  exact ⟨_, Nat.mod_lt _ (by omega), ej.symm⟩
/-- what a drawn signature is like -/
structure SG (ss : List Sy) : Prop where
  w : WfS ss
  g : ∀ s ∈ ss, GoodN s.1
  few : ss.length ≤ 12
  con : (∃ s ∈ ss, 0 < s.2.1) → ∃ s ∈ ss, s.2.1 = 0
theorem R19.sg {ss : List Sy} (r : R19 ss) : SG ss where
  w := ⟨fun s hs => by rcases r.ar s hs with h | h | h | h <;> rw [h] <;> simp, fun s hs hb => by rcases r.ar s hs with h | h | h | h <;> rw [h] at hb ⊢ <;> simp at hb ⊢, by have := r.few; omega, r.nd⟩
  g := fun s hs => by
    obtain ⟨a, ha, e⟩ := r.nm_lt hs
    rw [e]; exact good_all _ (menu_good a ha)
  few := by have := r.few; omega
  con := fun _ => by
    obtain ⟨f, hf⟩ := r.con
    exact ⟨_, hf, rfl⟩
theorem SG.nil : SG [] where
  w := ⟨(fun _ h => by cases h), (fun _ h => by cases h), by simp, by simp⟩
  g := fun _ h => by cases h
  few := by simp
  con := fun ⟨_, h, _⟩ => by cases h
theorem R19.one {ss : List Sy} (r : R19 ss) : SG (ss.map fun s => (s.1, s.2.1, false)) where
  w := ⟨fun s hs => by
      obtain ⟨t, ht, e⟩ := List.mem_map.mp hs
      subst e
      exact r.sg.w.ar t ht, fun s hs hb => by
      obtain ⟨t, ht, e⟩ := List.mem_map.mp hs
      subst e
      exact absurd hb (by simp), by rw [List.length_map]; have := r.few; omega, by rw [List.map_map]; exact r.nd⟩
  g := fun s hs => by
    obtain ⟨t, ht, e⟩ := List.mem_map.mp hs
    subst e
    exact r.sg.g t ht
  few := by rw [List.length_map]; have := r.few; omega
  con := fun _ => by
    obtain ⟨f, hf⟩ := r.con
    exact ⟨(f, 0, false), List.mem_map.mpr ⟨_, hf, rfl⟩, rfl⟩
theorem SG.filter {ss : List Sy} (r : SG ss) : SG (ss.filter fun s => decide (s.2.1 = 0)) where
  w := ⟨fun s hs => r.w.ar s (List.mem_filter.mp hs).1, fun s hs => r.w.tw s (List.mem_filter.mp hs).1, by have := List.length_filter_le (fun s : Sy => decide (s.2.1 = 0)) ss; have := r.few; omega, r.w.nd.sublist (List.filter_sublist.map _)⟩
  g := fun s hs => r.g s (List.mem_filter.mp hs).1
  few := by have := List.length_filter_le (fun s : Sy => decide (s.2.1 = 0)) ss; have := r.few; omega
  con := fun ⟨s, hs, h⟩ => by
    have := of_decide_eq_true (List.mem_filter.mp hs).2
    omega
theorem R19.more {ss : List Sy} (r : R19 ss) : SG (ss ++ moreS.take (12 - ss.length)) where
  w := ⟨fun s hs => by
      rcases List.mem_append.mp hs with h | h
      · exact r.sg.w.ar s h
      · exact (more_ok s (List.mem_of_mem_take h)).1, fun s hs => by
      rcases List.mem_append.mp hs with h | h
      · exact r.sg.w.tw s h
      · exact (more_ok s (List.mem_of_mem_take h)).2, by rw [List.length_append, List.length_take]; have := r.few; omega, by
      rw [List.map_append, List.nodup_append]
      refine ⟨r.nd, more_nd.sublist ((List.take_sublist _ _).map _), fun a ha b hb e => ?_⟩
      subst e
      obtain ⟨s, hs, es⟩ := List.mem_map.mp ha
      obtain ⟨t, ht, et⟩ := List.mem_map.mp hb
      obtain ⟨j, hj, ej⟩ := r.nm_lt hs
      apply menu_more j hj
      rw [← ej, es, ← et]
      exact List.mem_map.mpr ⟨t, List.mem_of_mem_take ht, rfl⟩⟩
  g := fun s hs => by
    rcases List.mem_append.mp hs with h | h
    · exact r.sg.g s h
    · exact good_all _ (more_good s (List.mem_of_mem_take h))
  few := by rw [List.length_append, List.length_take]; have := r.few; omega
  con := fun _ => by
    obtain ⟨f, hf⟩ := r.con
    exact ⟨_, List.mem_append.mpr (.inl hf), rfl⟩
theorem r24 {row : List Int} (hk : 2 ≤ k) (hd : Dig row [10, 6, 4, 3, 4, 3, 720, 12]) : ∃ ss, SG ss ∧ runP T k 24 [.lst (row.map .int)] = .ok (.ow (.lst (ss.map encS))) := by
  obtain ⟨k, rfl⟩ : ∃ j, k = j + 1 := ⟨k - 1, by omega⟩
  obtain ⟨ss, r, e19⟩ := r19 (k := k) (by omega) hd
  have hl := hd.len
  match row, hl with
  | [r0, r1, r2, r3, r4, r5, r6, r7], _ =>
  rw [u24]
  have hsl := r.few
  simp only [List.map_cons, List.map_nil] at e19 ⊢
  by_cases h11 : r7 = 11
  · subst h11
    exact ⟨[], .nil, by simp -dsimp -implicitDefEqProofs (disch := first | omega | (simp; done) | (simp; omega)) [exB_c, cap, b24, b24_i1, e19]⟩
  by_cases h1 : r7 = 1
  · refine ⟨_, r.one, ?_⟩
    obtain ⟨ρ', e1, e2⟩ := lc_mapW (P := T.pg (runP T k)) (e := b24_e1) (own := [3]) (t := .n 3) (c := .n) (enc := encS) (xs := ss) (fun s => encS (s.1, s.2.1, false)) (ρ := [some (.sh (.lst [.int r0, .int r1, .int r2, .int r3, .int r4, .int r5, .int r6, .int r7])), some (.sh (.lst (ss.map encS))), none, none]) [some (.sh (.lst [.int r0, .int r1, .int r2, .int r3, .int r4, .int r5, .int r6, .int r7])), some (.ow (.lst (ss.map encS))), none, none] (fun s hs => by
      unfold turnB
      simp -dsimp -implicitDefEqProofs (disch := first | omega | (simp; done) | (simp; omega)) [exB_c, cap, wipeE, b24_e1, encS]) (by omega)
    subst h1
    simp -dsimp -implicitDefEqProofs (disch := first | omega | (simp; done) | (simp; omega)) [exB_c, cap, b24, b24_i1, b24_i2, e19, e1, e2, Function.comp_def]
  by_cases h2 : r7 ∈ [(2 : Int), 4]
  · refine ⟨_, r.more, ?_⟩
    have h2' := inD_ints r7 [2, 4]
    rw [decide_eq_true h2] at h2'
    simp only [List.map_cons, List.map_nil] at h2'
    have ht := slD_toL (xs := moreS.map encS) (h := 12 - (ss.length : Int)) (by omega)
    have ht2 : (12 - (ss.length : Int)).toNat = 12 - ss.length := by omega
    have hm : [DL.D.tup [.str "g3", .int 2, .bl true], .tup [.str "h3", .int 0, .bl false], .tup [.str "gh", .int 1, .bl false], .tup [.str "hh", .int 2, .bl false], .tup [.str "g0", .int 0, .bl false], .tup [.str "h0", .int 2, .bl true], .tup [.str "g13", .int 2, .bl false], .tup [.str "h13", .int 1, .bl false], .tup [.str "g01", .int 0, .bl false], .tup [.str "g10", .int 2, .bl true]] = moreS.map encS := rfl
    simp -dsimp -implicitDefEqProofs (disch := first | omega | (simp; done) | (simp; omega)) [exB_c, cap, b24, b24_i1, b24_i2, b24_i3, e19, h11, h1, h2', hm, ht, ht2]
  have h2' := inD_ints r7 [2, 4]
  rw [decide_eq_false h2] at h2'
  simp only [List.map_cons, List.map_nil] at h2'
  by_cases h3 : r7 = 3
  · refine ⟨_, r.sg.filter, ?_⟩
    obtain ⟨ρ', e1, e2⟩ := lc_filterW (P := T.pg (runP T k)) (e := .v 3) (own := [3]) (t := .n 3) (c := b24_c1) (enc := encS) (xs := ss) (fun s => decide (s.2.1 = 0)) encS (ρ := [some (.sh (.lst [.int r0, .int r1, .int r2, .int r3, .int r4, .int r5, .int r6, .int r7])), some (.sh (.lst (ss.map encS))), none, none]) [some (.sh (.lst [.int r0, .int r1, .int r2, .int r3, .int r4, .int r5, .int r6, .int r7])), some (.ow (.lst (ss.map encS))), none, none] (fun s hs => by
      unfold turnB
      by_cases h : s.2.1 = 0
      · simp -dsimp -implicitDefEqProofs (disch := first | omega | (simp; done) | (simp; omega)) [exB_c, cap, wipeE, b24_c1, encS, h]
      · simp -dsimp -implicitDefEqProofs (disch := first | omega | (simp; done) | (simp; omega)) [exB_c, cap, wipeE, b24_c1, encS, h]) (by omega)
    subst h3
    simp -dsimp -implicitDefEqProofs (disch := first | omega | (simp; done) | (simp; omega)) [exB_c, cap, b24, b24_i1, b24_i2, b24_i3, b24_i4, e19, h2', e1, e2]
  · exact ⟨ss, r.sg, by simp -dsimp -implicitDefEqProofs (disch := first | omega | (simp; done) | (simp; omega)) [exB_c, cap, b24, b24_i1, b24_i2, b24_i3, b24_i4, e19, h11, h1, h2', h3]⟩
end Cr

set_option maxHeartbeats 1000000
namespace Cr
open DL PySem L2
variable {k : Nat}
def menu8 : List Str := ["X", "Y1", "X10010", "X1", "Y", "X2", "X01", "X10011"]
theorem menu8_inj : ∀ a < 8, ∀ b < 8, menu8.getD a "" = menu8.getD b "" → a = b := by decide +kernel
def namesL (d m : Nat) : List Str := (List.range m).map fun j => menu8.getD ((d + 3 * j) % 8) ""
theorem namesL_nd (d m : Nat) (hm : m ≤ 8) : (namesL d m).Nodup := by
  unfold namesL List.Nodup
  rw [List.pairwise_map]
  refine List.Pairwise.imp_of_mem (fun {a b} ha hb hab h => ?_) List.pairwise_lt_range
  have ha := List.mem_range.mp ha
  have hb := List.mem_range.mp hb
  have := menu8_inj _ (Nat.mod_lt _ (by omega)) _ (Nat.mod_lt _ (by omega)) h
  omega
theorem namesL_len (d m : Nat) : (namesL d m).length = m := by simp [namesL]
theorem r22 {d m : Nat} (hk : 1 ≤ k) (hm : m ≤ 8) : runP T k 22 [.int d, .int m] = .ok (.ow (.lst ((namesL d m).map .str))) := by
  obtain ⟨k, rfl⟩ : ∃ j, k = j + 1 := ⟨k - 1, by omega⟩
  rw [u22]
  have hml : [DL.D.str "X", .str "Y1", .str "X10010", .str "X1", .str "Y", .str "X2", .str "X01", .str "X10011"] = menu8.map DL.D.str := rfl
  have hl8 : menu8.length = 8 := rfl
  obtain ⟨ρ', e1, e2⟩ := lc_map (P := T.pg (runP T k)) (e := b22_e1) (own := [3]) (t := .n 3) (c := .n) (enc := fun (j : Nat) => DL.D.int (j : Int)) (xs := List.range m) (fun j => .str (menu8.getD ((d + 3 * j) % 8) "")) (ρ := [some (.sh (.int d)), some (.sh (.int m)), some (.ow (.lst (menu8.map .str))), none]) (fun j hj => by
    have hme : ixD (.lst (menu8.map DL.D.str)) (.int (((d : Int) + 3 * (j : Int)) % 8)) = some (.str (menu8.getD ((d + 3 * j) % 8) "")) := by
      have hml : (d + 3 * j) % 8 < 8 := Nat.mod_lt _ (by omega)
      have hm : ((d : Int) + 3 * (j : Int)) % 8 = (((d + 3 * j) % 8 : Nat) : Int) := by omega
      rw [hm, ixD_lst (by rw [List.length_map]; show _ ∧ _ < ((8 : Nat) : Int); omega), Int.toNat_natCast, List.getElem?_map, List.getD_eq_getElem?_getD, List.getElem?_eq_getElem (by exact hml)]; rfl
    have hj' := List.mem_range.mp hj
    unfold turnB
    simp -dsimp -implicitDefEqProofs (disch := first | omega | (simp; done) | (simp; omega)) [exB_c, cap, wipeE, b22_e1, binD_mulR, hme]) (by simp; omega) rfl
  simp -dsimp -implicitDefEqProofs (disch := first | omega | (simp; done) | (simp; omega)) [exB_c, cap, b22, hml, hl8, e1, e2, namesL, Function.comp_def]
/-! ### tables -/
theorem sq_lt {x y n : Nat} (hy : y < x) (hx : x < n) : y * n + x < x * n + y := by
  have : (y + 1) * n ≤ x * n := Nat.mul_le_mul_right n hy
  rw [Nat.add_mul] at this; omega
/-- a table as far as k entries -/
structure TabI (n : Nat) (tw : Bool) (t : List Int) : Prop where
  rng : ∀ x ∈ t, 0 ≤ x ∧ x < (n : Int)
  sym : tw = true → ∀ x y, y < x → x < n → x * n + y < t.length → t.getD (x * n + y) 0 = t.getD (y * n + x) 0
theorem getD_app_l {t : List Int} {v : Int} {i : Nat} (h : i < t.length) : (t ++ [v]).getD i 0 = t.getD i 0 := by
  rw [List.getD_eq_getElem?_getD, List.getD_eq_getElem?_getD, List.getElem?_append_left h]
theorem getD_app_r {t : List Int} {v : Int} : (t ++ [v]).getD t.length 0 = v := by
  rw [List.getD_eq_getElem?_getD, List.getElem?_append_right (Nat.le_refl _)]; simp
theorem TabI.snoc {n : Nat} {tw : Bool} {t : List Int} {v : Int} (h : TabI n tw t) (hv : 0 ≤ v ∧ v < (n : Int)) (hs : tw = true → ∀ x y, y < x → x < n → x * n + y = t.length → v = t.getD (y * n + x) 0) : TabI n tw (t ++ [v]) where
  rng := fun x hx => by
    rcases List.mem_append.mp hx with z | z
    · exact h.rng x z
    · rw [List.mem_singleton.mp z]; exact hv
  sym := fun htw x y hy hx hl => by
    have hq := sq_lt hy hx
    rw [List.length_append, List.length_singleton] at hl
    by_cases z : x * n + y < t.length
    · rw [getD_app_l z, getD_app_l (by omega)]
      exact h.sym htw x y hy hx z
    · have e : x * n + y = t.length := by omega
      rw [e, getD_app_r, getD_app_l (by omega)]
      exact hs htw x y hy hx e
theorem r26 {n : Nat} {s : Sy} {row : List Int} (hk : 1 ≤ k) (hn : 0 < n ∧ n < 100) (hs : 0 ≤ s.2.1 ∧ s.2.1 < 3) (h2 : s.2.2 = true → s.2.1 = 2) (hr : 0 < row.length ∧ row.length < 1000) :
    ∃ t, tabB n s t = true ∧ runP T k 26 [encS s, .int n, .lst (row.map .int)] = .ok (.ow (.lst (t.map .int))) := by
  obtain ⟨k, rfl⟩ : ∃ j, k = j + 1 := ⟨k - 1, by omega⟩
  obtain ⟨f, a, tw⟩ := s
  rw [u26]
  have hlen : (if a = 0 then (1 : Int) else if a = 1 then n else n * n) = ((tlen n a : Nat) : Int) := by
    unfold tlen
    split
    · rfl
    · split
      · rfl
      · simp
  have hnn : (n : Int) * n ≤ 100 * 100 := Int.mul_le_mul (by omega) (by omega) (by omega) (by omega)
  have htl : tlen n a ≤ 10000 := by
    have : ((tlen n a : Nat) : Int) ≤ 10000 := by rw [← hlen]; split <;> (try split) <;> omega
    omega
  obtain ⟨ρ', e, t, o4, o5, e1, e2, e3⟩ := forB_rng (P := T.pg (runP T k)) (t := .n 4) (b := b26_f1) (tlen n a) (fun j ρ => ∃ (t : List Int) (o4 o5 : Option Cell), TabI n tw t ∧ t.length = j ∧ ρ = [some (.sh (encS (f, a, tw))), some (.sh (.int n)), some (.sh (.lst (row.map .int))), some (.ow (.lst (t.map .int))), o4, o5]) (fun j ρ hj ⟨t, o4, o5, e1, e2, e3⟩ => by
    subst e3
    -- the drawn entry
    have m1 : ((j : Int) % (row.length : Int)) = ((j % row.length : Nat) : Int) := by simp
    have m2 : j % row.length < row.length := Nat.mod_lt _ hr.1
    generalize hw : (row[j % row.length] + (j : Int) / (row.length : Int)) % (n : Int) = w
    have hw1 : 0 ≤ w ∧ w < n := by
      rw [← hw]
      exact ⟨Int.emod_nonneg _ (by omega), Int.emod_lt_of_pos _ (by omega)⟩
    have hrow : ixD (.lst (row.map DL.D.int)) (.int ((j : Int) % (row.length : Int))) = some (.int row[j % row.length]) := by
      rw [m1, ixD_lst (by rw [List.length_map]; omega), Int.toNat_natCast, List.getElem?_map, List.getElem?_eq_getElem m2]; rfl
    -- the place
    have q1 : (j : Int) / (n : Int) = ((j / n : Nat) : Int) := by simp
    have q2 : (j : Int) % (n : Int) = ((j % n : Nat) : Int) := by simp
    have dm : n * (j / n) + j % n = j := Nat.div_add_mod j n
    have q3 : j % n < n := Nat.mod_lt _ hn.1
    by_cases hc : tw = true ∧ j % n < j / n
    · obtain ⟨c1, c2⟩ := hc
      subst c1
      have ea := h2 rfl
      dsimp only at ea
      subst ea
      have q4 : j / n < n := by
        have : j < n * n := hj
        exact Nat.div_lt_of_lt_mul this
      have pl : j % n * n + j / n < t.length := by
        have := sq_lt c2 q4
        rw [Nat.mul_comm] at dm
        omega
      have pl' : ((j % n : Nat) : Int) * n + ((j / n : Nat) : Int) = ((j % n * n + j / n : Nat) : Int) := by simp
      have htab : ixD (.lst (t.map DL.D.int)) (.int ((j : Int) % n * n + (j : Int) / n)) = some (.int (t.getD (j % n * n + j / n) 0)) := by
        rw [q1, q2, pl', ixD_lst (by rw [List.length_map]; omega), Int.toNat_natCast, List.getElem?_map, List.getElem?_eq_getElem pl, List.getD_eq_getElem?_getD, List.getElem?_eq_getElem pl]; rfl
      have hvr : 0 ≤ t.getD (j % n * n + j / n) 0 ∧ t.getD (j % n * n + j / n) 0 < n := by
        rw [List.getD_eq_getElem?_getD, List.getElem?_eq_getElem pl]
        exact e1.rng _ (List.getElem_mem pl)
      generalize hv : t.getD (j % n * n + j / n) 0 = v at htab hvr
      refine ⟨[some (.sh (encS (f, 2, true))), some (.sh (.int n)), some (.sh (.lst (row.map .int))), some (.ow (.lst ((t ++ [v]).map .int))), some (.sh (.int j)), some (.sh (.int v))], ?_, t ++ [v], some (.sh (.int j)), some (.sh (.int v)), e1.snoc hvr ?_, by simp [e2], rfl⟩
      · rw [stepB_n (by simp)]
        have c3 : (j : Int) % n < (j : Int) / n := by rw [q1, q2]; omega
        simp -dsimp -implicitDefEqProofs (disch := first | omega | (simp; done) | (simp; omega)) [exB_c, cap, b26_f1, encS, hrow, hw, binD_mulR, c3, htab]
      · intro _ x y hy hx hxy
        rw [e2] at hxy
        have ex : j / n = x := by
          rw [← hxy, Nat.mul_comm, Nat.mul_add_div hn.1, Nat.div_eq_of_lt (by omega)]; rfl
        have ey : j % n = y := by
          rw [← hxy, Nat.mul_comm, Nat.mul_add_mod, Nat.mod_eq_of_lt (by omega)]
        rw [← ex, ← ey]; exact hv.symm
    · refine ⟨[some (.sh (encS (f, a, tw))), some (.sh (.int n)), some (.sh (.lst (row.map .int))), some (.ow (.lst ((t ++ [w]).map .int))), some (.sh (.int j)), some (.sh (.int w))], ?_, t ++ [w], some (.sh (.int j)), some (.sh (.int w)), e1.snoc hw1 ?_, by simp [e2], rfl⟩
      · rw [stepB_n (by simp)]
        cases tw with
        | false => simp -dsimp -implicitDefEqProofs (disch := first | omega | (simp; done) | (simp; omega)) [exB_c, cap, b26_f1, encS, hrow, hw, binD_mulR]
        | true =>
          have c3 : ¬ (j : Int) % n < (j : Int) / n := by
            rw [q1, q2]
            exact fun h => hc ⟨rfl, by exact_mod_cast h⟩
          simp -dsimp -implicitDefEqProofs (disch := first | omega | (simp; done) | (simp; omega)) [exB_c, cap, b26_f1, encS, hrow, hw, binD_mulR, c3]
      · intro htw x y hy hx hxy
        rw [e2] at hxy
        have ex : j / n = x := by
          rw [← hxy, Nat.mul_comm, Nat.mul_add_div hn.1, Nat.div_eq_of_lt (by omega)]; rfl
        have ey : j % n = y := by
          rw [← hxy, Nat.mul_comm, Nat.mul_add_mod, Nat.mod_eq_of_lt (by omega)]
        exact absurd ⟨htw, by omega⟩ hc) _ ⟨[], none, none, ⟨(fun x h => by cases h), fun _ x y _ _ h => by simp at h⟩, rfl, rfl⟩
  subst e3
  refine ⟨t, ?_, ?_⟩
  · unfold tabB symB
    simp only [e2, decide_true, Bool.true_and, Bool.and_eq_true, List.all_eq_true, Bool.or_eq_true, decide_eq_true_eq, beq_iff_eq, List.mem_range, Bool.not_eq_true']
    refine ⟨fun x hx => e1.rng x hx, ?_⟩
    cases htw : tw with
    | false => exact .inl rfl
    | true =>
      refine .inr fun x hx y hy => e1.sym htw x y hy hx ?_
      have ea := h2 htw
      dsimp only at ea
      rw [e2, ea]
      exact lt_sq hx (by omega)
  · simp only [List.map_nil] at e
    have hlen3 : ixD (.lst [.int 1, .int n, .int ((n : Int) * n)]) (.int a) = some (.int (tlen n a : Nat)) := by
      rw [← hlen]
      have h : a = 0 ∨ a = 1 ∨ a = 2 := by
        dsimp only at hs; omega
      rcases h with h | h | h <;> subst h <;> rfl
    simp only [encS] at e
    simp -dsimp -implicitDefEqProofs (disch := first | omega | (simp; done) | (simp; omega)) [exB_c, cap, b26, encS, binD_mulR, hlen3, e]
end Cr

set_option maxHeartbeats 4000000
namespace Cr
open DL PySem L2
variable {k : Nat}
/-- what a drawn term is like -/
structure TG (ss : List Sy) (names : List Str) (h v : Nat) (t : Tm) : Prop where
  wf : t.wf ss
  ht : t.ht ≤ h
  vs : ∀ x ∈ t.vars, x ∈ names
  few : t.vars.length ≤ v
theorem TG.mono {ss : List Sy} {names : List Str} {h v h' v' : Nat} {t : Tm} (g : TG ss names h v t) (hh : h ≤ h') (hv : v ≤ v') : TG ss names h' v' t := ⟨g.wf, Nat.le_trans g.ht hh, g.vs, Nat.le_trans g.few hv⟩
def tailB : Sms := .c (.set (.n 9) (.ix (.v 8) (.bin .mod (.bin .fdv (.v 5) (.int 10)) (.bi .len (.c (.v 8) .n))))) (.c (.set (.n 10) (.lst (.c (.ix (.v 9) (.int 0)) .n))) (.c (.for_ (.n 11) (.rng (.c (.ix (.v 9) (.int 1)) .n)) b20_f1) (.c (.ret (.lst (.c (.bi .tuple (.c (.v 10) .n)) (.c (.v 6) .n)))) .n)))
/-- an item, by a number's rest -/
theorem ix_mod {α : Type} {f : α → DL.D} {xs : List α} {z : Int} (h : 0 < xs.length) : ∃ x ∈ xs, ixD (.lst (xs.map f)) (.int (z % (xs.length : Int))) = some (f x) := by
  have h1 := Int.emod_nonneg z (show (xs.length : Int) ≠ 0 by omega)
  have h2 := Int.emod_lt_of_pos z (show (0 : Int) < xs.length by omega)
  have h3 : (z % (xs.length : Int)).toNat < xs.length := by omega
  refine ⟨xs[(z % (xs.length : Int)).toNat], List.getElem_mem h3, ?_⟩
  rw [ixD_lst (by rw [List.length_map]; exact ⟨h1, h2⟩), List.getElem?_map, List.getElem?_eq_getElem h3]; rfl
section
variable {ss : List Sy} {names : List Str} {row : List Int}
def R20 (ss : List Sy) (names : List Str) (row : List Int) (k d : Nat) : Prop := ∀ a : Nat, ∃ (t : Tm) (a' : Nat), TG ss names (d + 1) (2 ^ d) t ∧ runP T k 20 [.lst (ss.map encS), .lst (names.map .str), .lst (row.map .int), .int a, .int d] = .ok (.ow (.lst [encM t, .int a']))
theorem r20_step {m : List Sy} {e a b a1 i : Nat} {dg c : Int} {q : DL.D} {parts : List DL.D} {t : Tm} {o11 o12 : Option Cell} (hp : parts.length < 10) (e1 : runP T k 20 [.lst (ss.map encS), .lst (names.map .str), .lst (row.map .int), .int b, .int e] = .ok (.ow (.lst [encM t, .int a1]))) :
    stepB (T.pg (runP T k)) (.n 11) b20_f1 (.int i) [some (.sh (.lst (ss.map encS))), some (.sh (.lst (names.map .str))), some (.sh (.lst (row.map .int))), some (.sh (.int a)), some (.sh (.int (e + 1))), some (.sh (.int dg)), some (.sh (.int b)), some (.sh (.int c)), some (.ow (.lst (m.map encS))), some (.sh q), some (.ow (.lst parts)), o11, o12, none] =
    .ok .nx [some (.sh (.lst (ss.map encS))), some (.sh (.lst (names.map .str))), some (.sh (.lst (row.map .int))), some (.sh (.int a)), some (.sh (.int (e + 1))), some (.sh (.int dg)), some (.sh (.int a1)), some (.sh (.int c)), some (.ow (.lst (m.map encS))), some (.sh q), some (.ow (.lst (parts ++ [encM t]))), some (.sh (.int i)), some (.ow (.lst [encM t, .int a1])), none] := by
  rw [stepB_n (by simp)]
  simp -dsimp -implicitDefEqProofs (disch := first | omega | (simp; done) | (simp; omega)) [exB_c, cap, b20_f1, e1]
theorem r20_tail {m : List Sy} {d a : Nat} {dg c : Int} {b : Nat} (w : WfS ss) (hm : 0 < m.length ∧ m.length < 1000) (hms : ∀ s ∈ m, s ∈ ss) (h0 : d = 0 → ∀ s ∈ m, s.2.1 = 0) (ih : ∀ e, d = e + 1 → R20 ss names row k e) (hdg : 0 ≤ dg) :
    ∃ (t : Tm) (a' : Nat), TG ss names (d + 1) (2 ^ d) t ∧ outFn (exB (T.pg (runP T k)) tailB [some (.sh (.lst (ss.map encS))), some (.sh (.lst (names.map .str))), some (.sh (.lst (row.map .int))), some (.sh (.int a)), some (.sh (.int d)), some (.sh (.int dg)), some (.sh (.int b)), some (.sh (.int c)), some (.ow (.lst (m.map encS))), none, none, none, none, none]) = .ok (.ow (.lst [encM t, .int a'])) := by
  obtain ⟨s, hs, hix⟩ := ix_mod (f := encS) (xs := m) (z := dg / 10) hm.1
  have hss := hms s hs
  have har := w.ar s hss
  have h0' := fun z => h0 z s hs
  obtain ⟨f, ar, tw⟩ := s
  dsimp only at har h0'
  have hmem : ∀ a, ar = a → HasS ss f a := fun a e => ⟨tw, by rw [← e]; exact hss⟩
  have h3 : ar = 0 ∨ ar = 1 ∨ ar = 2 := by omega
  rcases h3 with h | h | h
  · subst h
    refine ⟨.c f, b, ⟨hmem 0 rfl, by simp [Tm.ht], by simp [Tm.vars], by simp [Tm.vars]⟩, ?_⟩
    simp -dsimp -implicitDefEqProofs (disch := first | omega | (simp; done) | (simp; omega)) [exB_c, cap, tailB, hix, encS, encM]
  · subst h
    obtain ⟨e, rfl⟩ : ∃ e, d = e + 1 := by
      cases d with
      | zero => exact absurd (h0' rfl) (by decide)
      | succ e => exact ⟨e, rfl⟩
    obtain ⟨t, a1, gt, e1⟩ := ih e rfl b
    refine ⟨.u f t, a1, ⟨⟨hmem 1 rfl, gt.wf⟩, by have := gt.ht; simp only [Tm.ht]; omega, gt.vs, by have := gt.few; simp only [Tm.vars]; rw [Nat.pow_succ]; omega⟩, ?_⟩
    have hr : (List.range 1).map (fun (k : Nat) => DL.D.int (k : Int)) = [.int 0] := rfl
    have st := r20_step (m := m) (a := a) (i := 0) (dg := dg) (c := c) (q := encS (f, 1, tw)) (parts := [.str f]) (o11 := none) (o12 := none) (by simp) e1
    simp only [encS, Int.natCast_zero, List.cons_append, List.nil_append] at st
    have fc := forB_cons (T.pg (runP T k)) (.n 11) b20_f1 (.int 0) []
    simp -dsimp -implicitDefEqProofs (disch := first | omega | (simp; done) | (simp; omega)) [exB_c, cap, tailB, hix, encS, encM, hr, forB_cons, st, contB]
  · subst h
    obtain ⟨e, rfl⟩ : ∃ e, d = e + 1 := by
      cases d with
      | zero => exact absurd (h0' rfl) (by decide)
      | succ e => exact ⟨e, rfl⟩
    obtain ⟨t, a1, gt, e1⟩ := ih e rfl b
    obtain ⟨t2, a2, gt2, e2⟩ := ih e rfl a1
    refine ⟨.b f t t2, a2, ⟨⟨hmem 2 rfl, gt.wf, gt2.wf⟩, by have := gt.ht; have := gt2.ht; simp only [Tm.ht]; omega, fun x hx => by
      rcases List.mem_append.mp hx with z | z
      · exact gt.vs x z
      · exact gt2.vs x z, by have := gt.few; have := gt2.few; simp only [Tm.vars, List.length_append]; rw [Nat.pow_succ]; omega⟩, ?_⟩
    have hr : (List.range 2).map (fun (k : Nat) => DL.D.int (k : Int)) = [.int 0, .int 1] := rfl
    have st := r20_step (m := m) (a := a) (i := 0) (dg := dg) (c := c) (q := encS (f, 2, tw)) (parts := [.str f]) (o11 := none) (o12 := none) (by simp) e1
    have st2 := r20_step (m := m) (a := a) (i := 1) (dg := dg) (c := c) (q := encS (f, 2, tw)) (parts := [.str f, encM t]) (o11 := some (.sh (.int 0))) (o12 := some (.ow (.lst [encM t, .int a1]))) (by simp) e2
    simp only [encS, Int.natCast_zero, Int.natCast_one, List.cons_append, List.nil_append] at st st2
    simp -dsimp -implicitDefEqProofs (disch := first | omega | (simp; done) | (simp; omega)) [exB_c, cap, tailB, hix, encS, encM, hr, forB_cons, st, st2, contB]
/-- the symbols with p, wherever the comprehension stands -/
theorem lcS {c : Cdo} (p : Sy → Bool) (hl : ss.length ≤ 1000) (hc : ∀ (s : Sy) (e : List (Option Cell)), e.length = 13 → tco (T.pg (runP T k)) c (e ++ [some (.sh (encS s))]) = .ok (p s) (e ++ [some (.sh (encS s))])) (e : List (Option Cell)) (he : e.length = 13) :
    ∃ ρ', lcB (T.pg (runP T k)) (.v 13) [13] (.n 13) c (ss.map encS) (e ++ [none]) = .ok ((ss.filter p).map encS) ρ' ∧ backE (e ++ [none]) ρ' [13] = e ++ [none] := by
  have hw : wipeE (e ++ [none]) [13] = e ++ [none] := by
    show (e ++ [none]).set 13 none = _
    rw [List.set_append_right _ _ (by omega), he]; rfl
  have hset : ∀ s : Sy, (e ++ [none]).set 13 (some (Cell.sh (encS s))) = e ++ [some (.sh (encS s))] := fun s => by
    rw [List.set_append_right _ _ (by omega), he]; rfl
  have hget : ∀ s : Sy, (e ++ [some (Cell.sh (encS s))])[13]? = some (some (.sh (encS s))) := fun s => by
    rw [List.getElem?_append_right (by omega), he]; rfl
  refine lc_filter p encS (fun s hs => ?_) (by omega) ?_
  · rw [hw]
    unfold turnB
    rw [tbind_n, if_pos (by rw [List.length_append, he]; decide), hset]
    simp only [R.lift_some, bnd_ok]
    rw [hc s e he]
    cases hp : p s with
    | true =>
      simp only [bnd_ok, if_true, ev_v, hget, evV_sh, fz_ok, Cell.d_sh, okW_ok, true_and]
      show (e ++ [some (Cell.sh (encS s))]).set 13 none = _
      rw [List.set_append_right _ _ (by omega), he]; rfl
    | false =>
      simp only [bnd_ok, if_neg Bool.false_ne_true, okW_ok, true_and]
      show (e ++ [some (Cell.sh (encS s))]).set 13 none = _
      rw [List.set_append_right _ _ (by omega), he]; rfl
  · unfold backE
    apply List.ext_getElem?
    intro i
    rw [List.getElem?_mapIdx]
    by_cases z : i = 13
    · subst z
      rw [List.getElem?_append_right (by omega), he]
      simp [he, backC]
    · have : i ∉ [13] := by simpa using z
      simp [this]
theorem cc20 (c : Cdo) (s : Sy) (e : List (Option Cell)) (he : e.length = 13) : (e ++ [some (Cell.sh (encS s))])[13]? = some (some (.sh (encS s))) := by
  rw [List.getElem?_append_right (by omega), he]; rfl
theorem c20_con (s : Sy) (e : List (Option Cell)) (he : e.length = 13) : tco (T.pg (runP T k)) b20_c1 (e ++ [some (.sh (encS s))]) = .ok (decide (s.2.1 = 0)) (e ++ [some (.sh (encS s))]) := by
  have h := cc20 b20_c1 s e he
  obtain ⟨f, a, tw⟩ := s
  simp -dsimp -implicitDefEqProofs (disch := first | omega | (simp; done) | (simp; omega)) [exB_c, cap, b20_c1, h, encS]
  rfl
theorem c20_two (s : Sy) (e : List (Option Cell)) (he : e.length = 13) : tco (T.pg (runP T k)) b20_c2 (e ++ [some (.sh (encS s))]) = .ok s.2.2 (e ++ [some (.sh (encS s))]) := by
  have h := cc20 b20_c1 s e he
  obtain ⟨f, a, tw⟩ := s
  simp -dsimp -implicitDefEqProofs (disch := first | omega | (simp; done) | (simp; omega)) [exB_c, cap, b20_c2, h, encS]
theorem c20_wide (s : Sy) (e : List (Option Cell)) (he : e.length = 13) : tco (T.pg (runP T k)) b20_c3 (e ++ [some (.sh (encS s))]) = .ok (decide (0 < s.2.1)) (e ++ [some (.sh (encS s))]) := by
  have h := cc20 b20_c1 s e he
  obtain ⟨f, a, tw⟩ := s
  simp -dsimp -implicitDefEqProofs (disch := first | omega | (simp; done) | (simp; omega)) [exB_c, cap, b20_c3, h, encS]
theorem r20 (sg : SG ss) (hcon : ∃ s ∈ ss, s.2.1 = 0) (hwide : ∃ s ∈ ss, 0 < s.2.1) (hn : names.length ≤ 8) (hrow : ∀ x ∈ row, 0 ≤ x) (hrl : row.length < 1000) : ∀ (d : Nat), d ≤ 3 → ∀ (k : Nat), d + 1 ≤ k → R20 ss names row k d
  | d, hd, k, hk => by
    have ihr : ∀ k e, d = e + 1 → e + 1 ≤ k → R20 ss names row k e := fun k e he hk => r20 sg hcon hwide hn hrow hrl e (by omega) k hk
    obtain ⟨k, rfl⟩ : ∃ j, k = j + 1 := ⟨k - 1, by omega⟩
    have ih : ∀ e, d = e + 1 → R20 ss names row k e := fun e he => ihr k e he (by omega)
    clear ihr
    intro a
    have hsl := sg.few
    -- the digit
    obtain ⟨dg, hdg, s1⟩ : ∃ dg : Int, 0 ≤ dg ∧ exS (T.pg (runP T k)) b20_i1 [some (.sh (.lst (ss.map encS))), some (.sh (.lst (names.map .str))), some (.sh (.lst (row.map .int))), some (.sh (.int a)), some (.sh (.int d)), some (.sh (.int 0)), none, none, none, none, none, none, none, none] = .ok .nx [some (.sh (.lst (ss.map encS))), some (.sh (.lst (names.map .str))), some (.sh (.lst (row.map .int))), some (.sh (.int a)), some (.sh (.int d)), some (.sh (.int dg)), none, none, none, none, none, none, none, none] := by
      by_cases h : a < row.length
      · exact ⟨row[a], hrow _ (List.getElem_mem h), by simp -dsimp -implicitDefEqProofs (disch := first | omega | (simp; done) | (simp; omega)) [exB_c, cap, b20_i1, h]⟩
      · have h' : ¬ ((a : Int) < row.length) := by omega
        exact ⟨0, by omega, by simp -dsimp -implicitDefEqProofs (disch := first | omega | (simp; done) | (simp; omega)) [exB_c, cap, b20_i1, h, h']⟩
    obtain ⟨ρ1, l1, l2⟩ := lcS (ss := ss) (k := k) (fun s => decide (s.2.1 = 0)) (by omega) (fun s e he => c20_con s e he) [some (.sh (.lst (ss.map encS))), some (.sh (.lst (names.map .str))), some (.sh (.lst (row.map .int))), some (.sh (.int a)), some (.sh (.int d)), some (.sh (.int dg)), some (.sh (.int ((a : Int) + 1))), some (.sh (.int 8)), none, none, none, none, none] rfl
    simp only [List.cons_append, List.nil_append] at l1 l2
    have hb : b20 = .c (.set (.n 5) (.int 0)) (.c b20_i1 (.c (.set (.n 6) (.bin .add (.v 3) (.int 1))) (.c (.set (.n 7) (.int 8)) (.c (.set (.n 8) (.lc (.v 13) [13] (.c [13] (.n 13) (.e (.v 0)) b20_c1 .n))) (.c b20_i2 (.c b20_i3 (.c b20_i4 tailB))))))) := rfl
    have hcl : 0 < (ss.filter fun s : Sy => decide (s.2.1 = 0)).length ∧ (ss.filter fun s : Sy => decide (s.2.1 = 0)).length < 1000 := by
      obtain ⟨s, h1, h2⟩ := hcon
      have h3 : s ∈ ss.filter fun s : Sy => decide (s.2.1 = 0) := List.mem_filter.mpr ⟨h1, decide_eq_true h2⟩
      have h4 := List.length_filter_le (fun s : Sy => decide (s.2.1 = 0)) ss
      exact ⟨List.length_pos_of_mem h3, by omega⟩
    -- the menu
    obtain ⟨m, c, hm, hms, h0, s23⟩ : ∃ (m : List Sy) (c : Int), (0 < m.length ∧ m.length < 1000) ∧ (∀ s ∈ m, s ∈ ss) ∧ (d = 0 → ∀ s ∈ m, s.2.1 = 0) ∧
        bnd (exS (T.pg (runP T k)) b20_i2 [some (.sh (.lst (ss.map encS))), some (.sh (.lst (names.map .str))), some (.sh (.lst (row.map .int))), some (.sh (.int a)), some (.sh (.int d)), some (.sh (.int dg)), some (.sh (.int ((a : Int) + 1))), some (.sh (.int 8)), some (.ow (.lst ((ss.filter fun s : Sy => decide (s.2.1 = 0)).map encS))), none, none, none, none, none]) (thenB (T.pg (runP T k)) (.c b20_i3 (.c b20_i4 tailB))) =
        exB (T.pg (runP T k)) (.c b20_i4 tailB) [some (.sh (.lst (ss.map encS))), some (.sh (.lst (names.map .str))), some (.sh (.lst (row.map .int))), some (.sh (.int a)), some (.sh (.int d)), some (.sh (.int dg)), some (.sh (.int ((a : Int) + 1))), some (.sh (.int c)), some (.ow (.lst (m.map encS))), none, none, none, none, none] := by
      have hwl : 0 < (ss.filter fun s : Sy => decide (0 < s.2.1)).length ∧ (ss.filter fun s : Sy => decide (0 < s.2.1)).length < 1000 := by
        obtain ⟨s, h1, h2⟩ := hwide
        have h3 : s ∈ ss.filter fun s : Sy => decide (0 < s.2.1) := List.mem_filter.mpr ⟨h1, decide_eq_true h2⟩
        have h4 := List.length_filter_le (fun s : Sy => decide (0 < s.2.1)) ss
        exact ⟨List.length_pos_of_mem h3, by omega⟩
      have h4 := List.length_filter_le (fun s : Sy => s.2.2) ss
      have h5 := List.length_filter_le (fun s : Sy => decide (0 < s.2.1)) ss
      by_cases d1 : d = 1
      · subst d1
        obtain ⟨ρ2, l3, l4⟩ := lcS (ss := ss) (k := k) (fun s => s.2.2) (by omega) (fun s e he => c20_two s e he) [some (.sh (.lst (ss.map encS))), some (.sh (.lst (names.map .str))), some (.sh (.lst (row.map .int))), some (.sh (.int a)), some (.sh (.int 1)), some (.sh (.int dg)), some (.sh (.int ((a : Int) + 1))), some (.sh (.int 4)), some (.ow (.lst ((ss.filter fun s : Sy => decide (s.2.1 = 0)).map encS))), none, none, none, none] rfl
        simp only [List.cons_append, List.nil_append] at l3 l4
        refine ⟨ss ++ ss.filter (fun s => s.2.2), 4, by
          obtain ⟨s, h1, h2⟩ := hcon
          have := List.length_pos_of_mem h1
          rw [List.length_append]; omega, fun s hs => by
          rcases List.mem_append.mp hs with z | z
          · exact z
          · exact (List.mem_filter.mp z).1, (fun z => absurd z (by decide)), ?_⟩
        simp -dsimp -implicitDefEqProofs (disch := first | omega | (simp; done) | (simp; omega)) [exB_c, cap, b20_i2, b20_i3, l3, l4]
      by_cases d2 : d = 0
      · subst d2
        refine ⟨ss.filter fun s : Sy => decide (s.2.1 = 0), 8, hcl, fun s hs => (List.mem_filter.mp hs).1, fun _ s hs => of_decide_eq_true (List.mem_filter.mp hs).2, ?_⟩
        simp -dsimp -implicitDefEqProofs (disch := first | omega | (simp; done) | (simp; omega)) [exB_c, cap, b20_i2, b20_i3]
      · have d3 : ¬ (d : Int) = 1 := by omega
        have d4 : (2 : Int) ≤ d := by omega
        obtain ⟨ρ2, l3, l4⟩ := lcS (ss := ss) (k := k) (fun s => decide (0 < s.2.1)) (by omega) (fun s e he => c20_wide s e he) [some (.sh (.lst (ss.map encS))), some (.sh (.lst (names.map .str))), some (.sh (.lst (row.map .int))), some (.sh (.int a)), some (.sh (.int d)), some (.sh (.int dg)), some (.sh (.int ((a : Int) + 1))), some (.sh (.int 0)), some (.ow (.lst ((ss.filter fun s : Sy => decide (s.2.1 = 0)).map encS))), none, none, none, none] rfl
        obtain ⟨ρ3, l5, l6⟩ := lcS (ss := ss) (k := k) (fun s => s.2.2) (by omega) (fun s e he => c20_two s e he) [some (.sh (.lst (ss.map encS))), some (.sh (.lst (names.map .str))), some (.sh (.lst (row.map .int))), some (.sh (.int a)), some (.sh (.int d)), some (.sh (.int dg)), some (.sh (.int ((a : Int) + 1))), some (.sh (.int 0)), some (.ow (.lst ((ss.filter fun s : Sy => decide (s.2.1 = 0)).map encS))), none, none, none, none] rfl
        simp only [List.cons_append, List.nil_append] at l3 l4 l5 l6
        have e4 : b20_c4 = b20_c2 := rfl
        have e5 : b20_c5 = b20_c1 := rfl
        by_cases hq : dg / 120 % 10 = 1
        · obtain ⟨ρ4, l7, l8⟩ := lcS (ss := ss) (k := k) (fun s => decide (s.2.1 = 0)) (by omega) (fun s e he => c20_con s e he) [some (.sh (.lst (ss.map encS))), some (.sh (.lst (names.map .str))), some (.sh (.lst (row.map .int))), some (.sh (.int a)), some (.sh (.int d)), some (.sh (.int dg)), some (.sh (.int ((a : Int) + 1))), some (.sh (.int 0)), some (.ow (.lst ((ss.filter fun s : Sy => decide (0 < s.2.1)).map encS ++ (ss.filter fun s : Sy => s.2.2).map encS))), none, none, none, none] rfl
          simp only [List.cons_append, List.nil_append] at l7 l8
          refine ⟨ss.filter fun s : Sy => decide (s.2.1 = 0), 0, hcl, fun s hs => (List.mem_filter.mp hs).1, fun z => absurd z d2, ?_⟩
          simp -dsimp -implicitDefEqProofs (disch := first | omega | (simp; done) | (simp; omega)) [exB_c, cap, b20_i2, b20_i3, d3, d4, l3, l4, e4, l5, l6, hq, e5, l7, l8]
        · refine ⟨(ss.filter fun s : Sy => decide (0 < s.2.1)) ++ ss.filter (fun s => s.2.2), 0, by rw [List.length_append]; omega, fun s hs => by
            rcases List.mem_append.mp hs with z | z
            · exact (List.mem_filter.mp z).1
            · exact (List.mem_filter.mp z).1, fun z => absurd z d2, ?_⟩
          simp -dsimp -implicitDefEqProofs (disch := first | omega | (simp; done) | (simp; omega)) [exB_c, cap, b20_i2, b20_i3, d3, d4, l3, l4, e4, l5, l6, hq]
    rw [u20, hb]
    by_cases hnm : 0 < names.length ∧ dg % 10 < c
    · obtain ⟨x, hx, hix⟩ := ix_mod (f := DL.D.str) (xs := names) (z := dg / 10) hnm.1
      refine ⟨.v x, a + 1, ⟨trivial, by simp [Tm.ht], fun y hy => by rw [List.mem_singleton.mp hy]; exact hx, by simp only [Tm.vars, List.length_singleton]; exact Nat.one_le_two_pow⟩, ?_⟩
      have hn1 := hnm.1
      have hn2 := hnm.2
      have hn3 : (0 : Int) < names.length := by omega
      have s4 : ∃ ρ, exS (T.pg (runP T k)) b20_i4 [some (.sh (.lst (ss.map encS))), some (.sh (.lst (names.map .str))), some (.sh (.lst (row.map .int))), some (.sh (.int a)), some (.sh (.int d)), some (.sh (.int dg)), some (.sh (.int ((a : Int) + 1))), some (.sh (.int c)), some (.ow (.lst (m.map encS))), none, none, none, none, none] = .ok (.rt (.ow (.lst [.str x, .int ((a : Int) + 1)]))) ρ := by
        exact ⟨_, by simp -dsimp -implicitDefEqProofs (disch := first | omega | (simp; done) | (simp; omega)) [exB_c, cap, b20_i4, hn1, hn2, hn3, hix]; rfl⟩
      obtain ⟨ρ4, s4⟩ := s4
      simp -dsimp -implicitDefEqProofs (disch := first | omega | (simp; done) | (simp; omega)) [exB_c, cap, s1, l1, l2, s23, s4, encM]
    · obtain ⟨t, a', gt, e⟩ := r20_tail (k := k) (a := a) (dg := dg) (c := c) (b := a + 1) (names := names) (row := row) sg.w hm hms h0 ih hdg
      refine ⟨t, a', gt, ?_⟩
      simp only [Int.natCast_add, Int.natCast_one] at e
      have s4 : exS (T.pg (runP T k)) b20_i4 [some (.sh (.lst (ss.map encS))), some (.sh (.lst (names.map .str))), some (.sh (.lst (row.map .int))), some (.sh (.int a)), some (.sh (.int d)), some (.sh (.int dg)), some (.sh (.int ((a : Int) + 1))), some (.sh (.int c)), some (.ow (.lst (m.map encS))), none, none, none, none, none] = .ok .nx [some (.sh (.lst (ss.map encS))), some (.sh (.lst (names.map .str))), some (.sh (.lst (row.map .int))), some (.sh (.int a)), some (.sh (.int d)), some (.sh (.int dg)), some (.sh (.int ((a : Int) + 1))), some (.sh (.int c)), some (.ow (.lst (m.map encS))), none, none, none, none, none] := by
        by_cases z : 0 < names.length
        · have z2 : ¬ dg % 10 < c := fun q => hnm ⟨z, q⟩
          have z3 : (0 : Int) < names.length := by omega
          simp -dsimp -implicitDefEqProofs (disch := first | omega | (simp; done) | (simp; omega)) [exB_c, cap, b20_i4, z, z2, z3]
        · have z3 : ¬ (0 : Int) < names.length := by omega
          simp -dsimp -implicitDefEqProofs (disch := first | omega | (simp; done) | (simp; omega)) [exB_c, cap, b20_i4, z, z3]
      simp -dsimp -implicitDefEqProofs (disch := first | omega | (simp; done) | (simp; omega)) [exB_c, cap, s1, l1, l2, s23, s4, e]
end
end Cr

set_option maxHeartbeats 4000000
namespace Cr
open DL PySem L2
variable {k : Nat}
theorem r25 {ss : List Sy} {names : List Str} {row : List Int} {many : Nat} (hk : 1 ≤ k) (sg : SG ss) (hcon : ∃ s ∈ ss, s.2.1 = 0) (hwide : ∃ s ∈ ss, 0 < s.2.1) (hn : names.length ≤ 8) (hrow : ∀ x ∈ row, 0 ≤ x) (hrl : row.length = 30) (hm : many ≤ 29) :
    ∃ t, TG ss names (many + 1) (many + 1) t ∧ runP T k 25 [.lst (ss.map encS), .lst (names.map .str), .lst (row.map .int), .int many] = .ok (.sh (encM t)) := by
  obtain ⟨k, rfl⟩ : ∃ j, k = j + 1 := ⟨k - 1, by omega⟩
  have hsl := sg.few
  rw [u25]
  obtain ⟨ρ1, l1, l2⟩ := lc_filter (P := T.pg (runP T k)) (e := b25_e1) (own := [11]) (t := .n 11) (c := b25_c1) (enc := encS) (xs := ss) (fun s : Sy => decide (s.2.1 = 0)) (fun s => encM (.c s.1)) (ρ := [some (.sh (.lst (ss.map encS))), some (.sh (.lst (names.map .str))), some (.sh (.lst (row.map .int))), some (.sh (.int many)), none, none, none, none, none, none, none, none]) (fun s hs => by
    obtain ⟨f, a, tw⟩ := s
    unfold turnB
    by_cases h : a = 0
    · simp -dsimp -implicitDefEqProofs (disch := first | omega | (simp; done) | (simp; omega)) [exB_c, cap, wipeE, b25_c1, b25_e1, encS, encM, h]
    · simp -dsimp -implicitDefEqProofs (disch := first | omega | (simp; done) | (simp; omega)) [exB_c, cap, wipeE, b25_c1, encS, h]) (by omega) rfl
  -- the leaves
  obtain ⟨lv, hlv⟩ : ∃ lv : List Tm, lv = names.map Tm.v ++ (ss.filter fun s : Sy => decide (s.2.1 = 0)).map fun s => Tm.c s.1 := ⟨_, rfl⟩
  have elv : names.map DL.D.str ++ (ss.filter fun s : Sy => decide (s.2.1 = 0)).map (fun s => encM (.c s.1)) = lv.map encM := by
    rw [hlv, List.map_append, List.map_map, List.map_map]; rfl
  have hlvg : ∀ t ∈ lv, TG ss names 1 1 t := fun t ht => by
    rw [hlv] at ht
    rcases List.mem_append.mp ht with z | z
    · obtain ⟨x, hx, e⟩ := List.mem_map.mp z
      subst e
      exact ⟨trivial, by simp [Tm.ht], fun y hy => by rw [List.mem_singleton.mp hy]; exact hx, by simp [Tm.vars]⟩
    · obtain ⟨s, hs, e⟩ := List.mem_map.mp z
      subst e
      obtain ⟨h1, h2⟩ := List.mem_filter.mp hs
      have h2 := of_decide_eq_true h2
      exact ⟨⟨s.2.2, by rw [← h2]; exact h1⟩, by simp [Tm.ht], by simp [Tm.vars], by simp [Tm.vars]⟩
  have hlvl : 0 < lv.length ∧ lv.length < 1000 := by
    obtain ⟨s, h1, h2⟩ := hcon
    have h3 : Tm.c s.1 ∈ lv := by
      rw [hlv]
      exact List.mem_append.mpr (.inr (List.mem_map.mpr ⟨s, List.mem_filter.mpr ⟨h1, decide_eq_true h2⟩, rfl⟩))
    have h4 := List.length_filter_le (fun s : Sy => decide (s.2.1 = 0)) ss
    refine ⟨List.length_pos_of_mem h3, ?_⟩
    rw [hlv, List.length_append, List.length_map, List.length_map]; omega
  obtain ⟨wd, hwd⟩ : ∃ wd, wd = ss.filter fun s : Sy => decide (0 < s.2.1) := ⟨_, rfl⟩
  obtain ⟨ρ2, l3, l4⟩ := lc_filter (P := T.pg (runP T k)) (e := .v 11) (own := [11]) (t := .n 11) (c := b25_c2) (enc := encS) (xs := ss) (fun s : Sy => decide (0 < s.2.1)) encS (ρ := [some (.sh (.lst (ss.map encS))), some (.sh (.lst (names.map .str))), some (.sh (.lst (row.map .int))), some (.sh (.int many)), some (.ow (.lst (lv.map encM))), none, none, none, none, none, none, none]) (fun s hs => by
    obtain ⟨f, a, tw⟩ := s
    unfold turnB
    by_cases h : 0 < a
    · simp -dsimp -implicitDefEqProofs (disch := first | omega | (simp; done) | (simp; omega)) [exB_c, cap, wipeE, b25_c2, encS, h]
    · simp -dsimp -implicitDefEqProofs (disch := first | omega | (simp; done) | (simp; omega)) [exB_c, cap, wipeE, b25_c2, encS, h]) (by omega) rfl
  rw [← hwd] at l3
  have hwl : 0 < wd.length := by
    obtain ⟨s, h1, h2⟩ := hwide
    rw [hwd]
    exact List.length_pos_of_mem (List.mem_filter.mpr ⟨h1, decide_eq_true h2⟩)
  have hws : ∀ s ∈ wd, s ∈ ss ∧ 0 < s.2.1 := fun s hs => by
    rw [hwd] at hs
    obtain ⟨h1, h2⟩ := List.mem_filter.mp hs
    exact ⟨h1, of_decide_eq_true h2⟩
  obtain ⟨t0, ht0, ht0e⟩ := ix_mod (f := encM) (xs := lv) (z := row[0]) hlvl.1
  obtain ⟨ρ', e, t, o7, o8, o9, o10, e1, e2⟩ := forB_rng (P := T.pg (runP T k)) (t := .n 7) (b := b25_f1) many (fun j ρ => ∃ (t : Tm) (o7 o8 o9 o10 : Option Cell), TG ss names (j + 1) (j + 1) t ∧ ρ = [some (.sh (.lst (ss.map encS))), some (.sh (.lst (names.map .str))), some (.sh (.lst (row.map .int))), some (.sh (.int many)), some (.ow (.lst (lv.map encM))), some (.ow (.lst (wd.map encS))), some (.sh (encM t)), o7, o8, o9, o10, none]) (fun j ρ hj ⟨t, o7, o8, o9, o10, e1, e2⟩ => by
    subst e2
    have hjr : 1 + j < row.length := by omega
    have hdg : ixD (.lst (row.map DL.D.int)) (.int (1 + (j : Int))) = some (.int row[1 + j]) := by
      rw [ixD_lst (by rw [List.length_map]; omega), List.getElem?_map]
      have : (1 + (j : Int)).toNat = 1 + j := by omega
      rw [this, List.getElem?_eq_getElem hjr]; rfl
    generalize hd : row[1 + j] = dg at hdg
    obtain ⟨s, hs, hse⟩ := ix_mod (f := encS) (xs := wd) (z := dg / 2) hwl
    obtain ⟨lf, hlf, hlfe⟩ := ix_mod (f := encM) (xs := lv) (z := dg / 24) hlvl.1
    have glf := hlvg lf hlf
    obtain ⟨hss, hs0⟩ := hws s hs
    have har := sg.w.ar s hss
    obtain ⟨f, a, tw⟩ := s
    dsimp only at har hs0
    by_cases ha : a = 1
    · subst ha
      refine ⟨[some (.sh (.lst (ss.map encS))), some (.sh (.lst (names.map .str))), some (.sh (.lst (row.map .int))), some (.sh (.int many)), some (.ow (.lst (lv.map encM))), some (.ow (.lst (wd.map encS))), some (.sh (encM (.u f t))), some (.sh (.int j)), some (.sh (.int dg)), some (.sh (encS (f, 1, tw))), some (.sh (encM lf)), none], ?_, .u f t, _, _, _, _, ⟨⟨⟨tw, hss⟩, e1.wf⟩, by have := e1.ht; simp only [Tm.ht]; omega, e1.vs, by have := e1.few; simp only [Tm.vars]; omega⟩, rfl⟩
      rw [stepB_n (by simp)]
      simp -dsimp -implicitDefEqProofs (disch := first | omega | (simp; done) | (simp; omega)) [exB_c, cap, b25_f1, hdg, hse, hlfe, encS, encM]
    · have ha2 : a = 2 := by omega
      subst ha2
      by_cases hp : dg % 2 = 1
      · refine ⟨[some (.sh (.lst (ss.map encS))), some (.sh (.lst (names.map .str))), some (.sh (.lst (row.map .int))), some (.sh (.int many)), some (.ow (.lst (lv.map encM))), some (.ow (.lst (wd.map encS))), some (.sh (encM (.b f lf t))), some (.sh (.int j)), some (.sh (.int dg)), some (.sh (encS (f, 2, tw))), some (.sh (encM lf)), none], ?_, .b f lf t, _, _, _, _, ⟨⟨⟨tw, hss⟩, glf.wf, e1.wf⟩, by have := e1.ht; have := glf.ht; simp only [Tm.ht]; omega, fun x hx => by
          rcases List.mem_append.mp hx with z | z
          · exact glf.vs x z
          · exact e1.vs x z, by have := e1.few; have := glf.few; simp only [Tm.vars, List.length_append]; omega⟩, rfl⟩
        rw [stepB_n (by simp)]
        simp -dsimp -implicitDefEqProofs (disch := first | omega | (simp; done) | (simp; omega)) [exB_c, cap, b25_f1, hdg, hse, hlfe, encS, encM, hp]
      · refine ⟨[some (.sh (.lst (ss.map encS))), some (.sh (.lst (names.map .str))), some (.sh (.lst (row.map .int))), some (.sh (.int many)), some (.ow (.lst (lv.map encM))), some (.ow (.lst (wd.map encS))), some (.sh (encM (.b f t lf))), some (.sh (.int j)), some (.sh (.int dg)), some (.sh (encS (f, 2, tw))), some (.sh (encM lf)), none], ?_, .b f t lf, _, _, _, _, ⟨⟨⟨tw, hss⟩, e1.wf, glf.wf⟩, by have := e1.ht; have := glf.ht; simp only [Tm.ht]; omega, fun x hx => by
          rcases List.mem_append.mp hx with z | z
          · exact e1.vs x z
          · exact glf.vs x z, by have := e1.few; have := glf.few; simp only [Tm.vars, List.length_append]; omega⟩, rfl⟩
        rw [stepB_n (by simp)]
        simp -dsimp -implicitDefEqProofs (disch := first | omega | (simp; done) | (simp; omega)) [exB_c, cap, b25_f1, hdg, hse, hlfe, encS, encM, hp]) _ ⟨t0, none, none, none, none, hlvg t0 ht0, rfl⟩
  subst e2
  refine ⟨t, e1, ?_⟩
  have hr0 : ixD (.lst (row.map DL.D.int)) (.int 0) = some (.int row[0]) := by
    rw [ixD_lst (by rw [List.length_map]; omega), List.getElem?_map]
    rw [show (0 : Int).toNat = 0 from rfl, List.getElem?_eq_getElem (by omega)]; rfl
  have hadd : binD .add (.lst (names.map DL.D.str)) (.lst ((ss.filter fun s : Sy => decide (s.2.1 = 0)).map (fun s => encM (.c s.1)))) = some (.ow (.lst (lv.map encM))) := by
    have h4 := List.length_filter_le (fun s : Sy => decide (s.2.1 = 0)) ss
    rw [binD_addL (by rw [List.length_map, List.length_map]; omega), elv]
  simp -dsimp -implicitDefEqProofs (disch := first | omega | (simp; done) | (simp; omega)) [exB_c, cap, b25, l1, l2, hadd, l3, l4, hr0, ht0e, e]
end Cr

set_option maxHeartbeats 4000000
namespace Cr
open DL PySem L2
/-! ### the law's own evaluation -/
theorem r21 : ∀ (t : Tm) (k : Nat), t.ht + 1 ≤ k → t.vars.length ≤ 1000 → runP T k 21 [encM t] = .ok (.ow (.lst (t.vars.map .str)))
  | .v x, k, hk, _ => by
    obtain ⟨k, rfl⟩ : ∃ j, k = j + 1 := ⟨k - 1, by omega⟩
    rw [u21]
    simp -dsimp -implicitDefEqProofs (disch := first | omega | (simp; done) | (simp; omega)) [exB_c, cap, b21, encM, tyD, Tm.vars]
  | .c f, k, hk, _ => by
    obtain ⟨k, rfl⟩ : ∃ j, k = j + 1 := ⟨k - 1, by omega⟩
    rw [u21]
    simp -dsimp -implicitDefEqProofs (disch := first | omega | (simp; done) | (simp; omega)) [exB_c, cap, b21, encM, tyD, Tm.vars]
  | .u f t, k, hk, hv => by
    obtain ⟨k, rfl⟩ : ∃ j, k = j + 1 := ⟨k - 1, by omega⟩
    simp only [Tm.ht] at hk
    simp only [Tm.vars] at hv
    have ih := r21 t k (by omega) hv
    rw [u21]
    have st : stepB (T.pg (runP T k)) (.n 2) b21_f1 (encM t) [some (.sh (.tup [.str f, encM t])), some (.ow (.lst [])), none] = .ok .nx [some (.sh (.tup [.str f, encM t])), some (.ow (.lst (t.vars.map .str))), some (.sh (encM t))] := by
      rw [stepB_n (by simp)]
      simp -dsimp -implicitDefEqProofs (disch := first | omega | (simp; done) | (simp; omega)) [exB_c, cap, b21_f1, ih]
    simp -dsimp -implicitDefEqProofs (disch := first | omega | (simp; done) | (simp; omega)) [exB_c, cap, b21, encM, tyD, Tm.vars, forB_cons, st, contB]
  | .b f s t, k, hk, hv => by
    obtain ⟨k, rfl⟩ : ∃ j, k = j + 1 := ⟨k - 1, by omega⟩
    simp only [Tm.ht] at hk
    simp only [Tm.vars, List.length_append] at hv
    have i1 := r21 s k (by omega) (by omega)
    have i2 := r21 t k (by omega) (by omega)
    rw [u21]
    have st : stepB (T.pg (runP T k)) (.n 2) b21_f1 (encM s) [some (.sh (.tup [.str f, encM s, encM t])), some (.ow (.lst [])), none] = .ok .nx [some (.sh (.tup [.str f, encM s, encM t])), some (.ow (.lst (s.vars.map .str))), some (.sh (encM s))] := by
      rw [stepB_n (by simp)]
      simp -dsimp -implicitDefEqProofs (disch := first | omega | (simp; done) | (simp; omega)) [exB_c, cap, b21_f1, i1]
    have st2 : stepB (T.pg (runP T k)) (.n 2) b21_f1 (encM t) [some (.sh (.tup [.str f, encM s, encM t])), some (.ow (.lst (s.vars.map .str))), some (.sh (encM s))] = .ok .nx [some (.sh (.tup [.str f, encM s, encM t])), some (.ow (.lst (s.vars.map .str ++ t.vars.map .str))), some (.sh (encM t))] := by
      rw [stepB_n (by simp)]
      simp -dsimp -implicitDefEqProofs (disch := first | omega | (simp; done) | (simp; omega)) [exB_c, cap, b21_f1, i2]
    simp -dsimp -implicitDefEqProofs (disch := first | omega | (simp; done) | (simp; omega)) [exB_c, cap, b21, encM, tyD, Tm.vars, forB_cons, st, st2, contB]
def encL (t : List Int) : DL.D := .lst (t.map .int)
theorem tabL_at {t : List Int} {i : Int} (h : 0 ≤ i ∧ i < t.length) : ixD (encL t) (.int i) = some (.int (t.getD i.toNat 0)) := by
  unfold encL
  rw [ixD_lst (by rw [List.length_map]; exact h), List.getElem?_map, List.getD_eq_getElem?_getD, List.getElem?_eq_getElem (by omega)]; rfl
theorem head_rk {ss : List Sy} {f : Str} (h : f ∈ ss.map (·.1)) : ((List.range ss.length).filter fun j => decide ((ss.getD j ("", 0, false)).1 = f))[0]? = some (rk ss f) := by
  rw [← List.head?_eq_getElem?, List.head?_filter]
  have hl : rk ss f < ss.length := by
    have := List.idxOf_lt_length_iff.mpr h
    rwa [List.length_map] at this
  have hg : ∀ j (hj : j < ss.length), (ss.getD j ("", 0, false)).1 = (ss.map (·.1))[j]'(by rw [List.length_map]; exact hj) := fun j hj => by
    rw [List.getD_eq_getElem?_getD, List.getElem?_eq_getElem hj, List.getElem_map]; rfl
  rw [List.find?_range_eq_some]
  refine ⟨?_, List.mem_range.mpr hl, fun j hj => ?_⟩
  · apply decide_eq_true
    rw [hg _ hl]
    exact List.getElem_idxOf _
  · have hj2 : j < ss.length := by omega
    rw [Bool.not_eq_true', decide_eq_false_iff_not, hg j hj2]
    intro z
    have := List.not_of_lt_findIdx (p := (· == f)) (xs := ss.map (·.1)) (i := j) (by simpa [rk, List.idxOf] using hj)
    simp [z] at this
theorem r23_at {ss : List Sy} {k n : Nat} {bs : List (List Int)} {things : List (Key × DL.D)} {f : Str} {a : Int} {args : List DL.D} (w : WfS ss) (h : HasS ss f a) : ∃ ρ', lcB (T.pg (runP T k)) (.v 8) [8] (.n 8) b23_c1 ((List.range ss.length).map fun (j : Nat) => DL.D.int (j : Int)) [some (.sh (.lst (ss.map encS))), some (.sh (.int n)), some (.sh (.lst (bs.map encL))), some (.sh (.tup (.str f :: args))), some (.sh (.dct things)), none, none, none, none] = .ok (((List.range ss.length).filter fun j => decide ((ss.getD j ("", 0, false)).1 = f)).map fun (j : Nat) => DL.D.int (j : Int)) ρ' ∧
    backE [some (.sh (.lst (ss.map encS))), some (.sh (.int n)), some (.sh (.lst (bs.map encL))), some (.sh (.tup (.str f :: args))), some (.sh (.dct things)), none, none, none, none] ρ' [8] = [some (.sh (.lst (ss.map encS))), some (.sh (.int n)), some (.sh (.lst (bs.map encL))), some (.sh (.tup (.str f :: args))), some (.sh (.dct things)), none, none, none, none] := by
  refine lc_filter (fun j => decide ((ss.getD j ("", 0, false)).1 = f)) (fun (j : Nat) => DL.D.int (j : Int)) (fun j hj => ?_) (by have := w.few; simp; omega) rfl
  have hj := List.mem_range.mp hj
  have e : ss.getD j ("", 0, false) = ss[j] := by rw [List.getD_eq_getElem?_getD, List.getElem?_eq_getElem hj]; rfl
  rw [e]
  have hx : ixD (.lst (ss.map encS)) (.int j) = some (encS ss[j]) := by
    rw [ixD_lst (by rw [List.length_map]; omega), Int.toNat_natCast, List.getElem?_map, List.getElem?_eq_getElem hj]; rfl
  generalize ss[j] = s at hx
  obtain ⟨g, b, tw⟩ := s
  unfold turnB
  by_cases h : g = f
  · simp -dsimp -implicitDefEqProofs (disch := first | omega | (simp; done) | (simp; omega)) [exB_c, cap, wipeE, b23_c1, hx, encS, h]
  · simp -dsimp -implicitDefEqProofs (disch := first | omega | (simp; done) | (simp; omega)) [exB_c, cap, wipeE, b23_c1, hx, encS, h]
theorem r23 {ss : List Sy} {n : Nat} {bs : List (List Int)} {e : Str → Int} {things : List (Key × DL.D)} (w : WfS ss) (wb : WfB ss n bs) (hn : 0 < n ∧ n < 1000) : ∀ (t : Tm), t.wf ss → (∀ x ∈ t.vars, lookK (.inr x) things = some (.int (e x)) ∧ 0 ≤ e x ∧ e x < n) → ∀ {k : Nat}, t.ht + 1 ≤ k →
    runP T k 23 [.lst (ss.map encS), .int n, .lst (bs.map encL), encM t, .dct things] = .ok (.sh (.int (valT ss n bs e t)))
  | .v x, _, hv, k, hk => by
    obtain ⟨k, rfl⟩ : ∃ j, k = j + 1 := ⟨k - 1, by omega⟩
    have h1 := (hv x (by simp [Tm.vars])).1
    try simp only [List.getD_eq_getElem?_getD] at l1 hi0
    rw [u23]
    simp -dsimp -implicitDefEqProofs (disch := first | omega | (simp; done) | (simp; omega)) [exB_c, cap, b23, encM, tyD, h1, valT]
  | .c f, hf, hv, k, hk => by
    obtain ⟨k, rfl⟩ : ∃ j, k = j + 1 := ⟨k - 1, by omega⟩
    obtain ⟨ρ1, l1, l2⟩ := r23_at (k := k) (n := n) (bs := bs) (things := things) (args := []) w hf
    have hfew := w.few
    obtain ⟨b, hm⟩ := hf
    have hh := head_rk (List.mem_map.mpr ⟨_, hm, rfl⟩ : f ∈ ss.map (·.1))
    have hr : rk ss f < ss.length := rk_lt hm
    have hrl : rk ss f < bs.length := by rw [wb.len]; exact hr
    have hgd : bs.getD (rk ss f) [] = bs[rk ss f] := by rw [List.getD_eq_getElem?_getD, List.getElem?_eq_getElem hrl]; rfl
    have hl : (bs.getD (rk ss f) []).length = _ := wb.tl _ hm
    rw [hgd] at hl
    have hx := tabL_at (t := bs[rk ss f]) (i := 0) (by rw [hl]; simp [tlen])
    have hfl : 0 < ((List.range ss.length).filter fun j => decide ((ss.getD j ("", 0, false)).1 = f)).length := by
      have := lt_of_get hh; exact this
    have hi0 : ixD (.lst (((List.range ss.length).filter fun j => decide ((ss.getD j ("", 0, false)).1 = f)).map fun (j : Nat) => DL.D.int (j : Int))) (.int 0) = some (.int (rk ss f)) := by
      rw [ixD_lst (by rw [List.length_map]; omega), List.getElem?_map, show (0 : Int).toNat = 0 from rfl, hh]; rfl
    try simp only [List.getD_eq_getElem?_getD] at l1 hi0
    rw [u23]
    simp -dsimp -implicitDefEqProofs (disch := first | omega | (simp; done) | (simp; omega)) [exB_c, cap, b23, encM, tyD, l1, l2, hi0, hx]
    rw [valT, hgd, List.getD_eq_getElem?_getD]
  | .u f t, ⟨hf, hwt⟩, hv, k, hk => by
    obtain ⟨k, rfl⟩ : ∃ j, k = j + 1 := ⟨k - 1, by omega⟩
    have hk : t.ht + 1 ≤ k := by simp only [Tm.ht] at hk; omega
    have ih := r23 w wb hn t hwt hv hk
    have hrg := val_rng (e := e) wb hn.1 t hwt fun x hx => (hv x hx).2
    obtain ⟨ρ1, l1, l2⟩ := r23_at (k := k) (n := n) (bs := bs) (things := things) (args := [encM t]) w hf
    have hfew := w.few
    obtain ⟨b, hm⟩ := hf
    have hh := head_rk (List.mem_map.mpr ⟨_, hm, rfl⟩ : f ∈ ss.map (·.1))
    have hr : rk ss f < ss.length := rk_lt hm
    have hrl : rk ss f < bs.length := by rw [wb.len]; exact hr
    have hgd : bs.getD (rk ss f) [] = bs[rk ss f] := by rw [List.getD_eq_getElem?_getD, List.getElem?_eq_getElem hrl]; rfl
    have hl : (bs.getD (rk ss f) []).length = _ := wb.tl _ hm
    rw [hgd] at hl
    have hx := tabL_at (t := bs[rk ss f]) (i := valT ss n bs e t) (by rw [hl]; simp [tlen]; omega)
    have hfl : 0 < ((List.range ss.length).filter fun j => decide ((ss.getD j ("", 0, false)).1 = f)).length := by
      have := lt_of_get hh; exact this
    have hi0 : ixD (.lst (((List.range ss.length).filter fun j => decide ((ss.getD j ("", 0, false)).1 = f)).map fun (j : Nat) => DL.D.int (j : Int))) (.int 0) = some (.int (rk ss f)) := by
      rw [ixD_lst (by rw [List.length_map]; omega), List.getElem?_map, show (0 : Int).toNat = 0 from rfl, hh]; rfl
    have st : stepB (T.pg (runP T k)) (.n 7) b23_f1 (encM t) [some (.sh (.lst (ss.map encS))), some (.sh (.int n)), some (.sh (.lst (bs.map encL))), some (.sh (.tup [.str f, encM t])), some (.sh (.dct things)), some (.sh (.int (rk ss f))), some (.sh (.int 0)), none, none] = .ok .nx [some (.sh (.lst (ss.map encS))), some (.sh (.int n)), some (.sh (.lst (bs.map encL))), some (.sh (.tup [.str f, encM t])), some (.sh (.dct things)), some (.sh (.int (rk ss f))), some (.sh (.int (valT ss n bs e t))), some (.sh (encM t)), none] := by
      rw [stepB_n (by simp)]
      simp -dsimp -implicitDefEqProofs (disch := first | omega | (simp; done) | (simp; omega)) [exB_c, cap, b23_f1, binD_mulR, ih]
    try simp only [List.getD_eq_getElem?_getD] at l1 hi0
    rw [u23]
    simp -dsimp -implicitDefEqProofs (disch := first | omega | (simp; done) | (simp; omega)) [exB_c, cap, b23, encM, tyD, l1, l2, hi0, forB_cons, st, contB, hx]
    rw [valT, hgd, List.getD_eq_getElem?_getD]
  | .b f s t, ⟨hf, hws, hwt⟩, hv, k, hk => by
    obtain ⟨k, rfl⟩ : ∃ j, k = j + 1 := ⟨k - 1, by omega⟩
    have hk1 : s.ht + 1 ≤ k := by simp only [Tm.ht] at hk; omega
    have hk2 : t.ht + 1 ≤ k := by simp only [Tm.ht] at hk; omega
    have hv1 := fun x hx => hv x (by simp only [Tm.vars, List.mem_append]; exact .inl hx)
    have hv2 := fun x hx => hv x (by simp only [Tm.vars, List.mem_append]; exact .inr hx)
    have i1 := r23 w wb hn s hws hv1 hk1
    have i2 := r23 w wb hn t hwt hv2 hk2
    have g1 := val_rng (e := e) wb hn.1 s hws fun x hx => (hv1 x hx).2
    have g2 := val_rng (e := e) wb hn.1 t hwt fun x hx => (hv2 x hx).2
    have g3 := nn g1 g2
    obtain ⟨ρ1, l1, l2⟩ := r23_at (k := k) (n := n) (bs := bs) (things := things) (args := [encM s, encM t]) w hf
    have hfew := w.few
    obtain ⟨b, hm⟩ := hf
    have hh := head_rk (List.mem_map.mpr ⟨_, hm, rfl⟩ : f ∈ ss.map (·.1))
    have hr : rk ss f < ss.length := rk_lt hm
    have hrl : rk ss f < bs.length := by rw [wb.len]; exact hr
    have hgd : bs.getD (rk ss f) [] = bs[rk ss f] := by rw [List.getD_eq_getElem?_getD, List.getElem?_eq_getElem hrl]; rfl
    have hl : (bs.getD (rk ss f) []).length = _ := wb.tl _ hm
    rw [hgd] at hl
    have hx := tabL_at (t := bs[rk ss f]) (i := valT ss n bs e s * n + valT ss n bs e t) (by
      rw [hl]
      have e1 : tlen n 2 = n * n := rfl
      rw [e1]
      have e3 : ((n * n : Nat) : Int) = (n : Int) * n := by simp
      rw [e3]; exact g3)
    have hfl : 0 < ((List.range ss.length).filter fun j => decide ((ss.getD j ("", 0, false)).1 = f)).length := by
      have := lt_of_get hh; exact this
    have hi0 : ixD (.lst (((List.range ss.length).filter fun j => decide ((ss.getD j ("", 0, false)).1 = f)).map fun (j : Nat) => DL.D.int (j : Int))) (.int 0) = some (.int (rk ss f)) := by
      rw [ixD_lst (by rw [List.length_map]; omega), List.getElem?_map, show (0 : Int).toNat = 0 from rfl, hh]; rfl
    have st : stepB (T.pg (runP T k)) (.n 7) b23_f1 (encM s) [some (.sh (.lst (ss.map encS))), some (.sh (.int n)), some (.sh (.lst (bs.map encL))), some (.sh (.tup [.str f, encM s, encM t])), some (.sh (.dct things)), some (.sh (.int (rk ss f))), some (.sh (.int 0)), none, none] = .ok .nx [some (.sh (.lst (ss.map encS))), some (.sh (.int n)), some (.sh (.lst (bs.map encL))), some (.sh (.tup [.str f, encM s, encM t])), some (.sh (.dct things)), some (.sh (.int (rk ss f))), some (.sh (.int (valT ss n bs e s))), some (.sh (encM s)), none] := by
      rw [stepB_n (by simp)]
      simp -dsimp -implicitDefEqProofs (disch := first | omega | (simp; done) | (simp; omega)) [exB_c, cap, b23_f1, binD_mulR, i1]
    have st2 : stepB (T.pg (runP T k)) (.n 7) b23_f1 (encM t) [some (.sh (.lst (ss.map encS))), some (.sh (.int n)), some (.sh (.lst (bs.map encL))), some (.sh (.tup [.str f, encM s, encM t])), some (.sh (.dct things)), some (.sh (.int (rk ss f))), some (.sh (.int (valT ss n bs e s))), some (.sh (encM s)), none] = .ok .nx [some (.sh (.lst (ss.map encS))), some (.sh (.int n)), some (.sh (.lst (bs.map encL))), some (.sh (.tup [.str f, encM s, encM t])), some (.sh (.dct things)), some (.sh (.int (rk ss f))), some (.sh (.int (valT ss n bs e s * n + valT ss n bs e t))), some (.sh (encM t)), none] := by
      rw [stepB_n (by simp)]
      simp -dsimp -implicitDefEqProofs (disch := first | omega | (simp; done) | (simp; omega)) [exB_c, cap, b23_f1, binD_mulR, i2]
    try simp only [List.getD_eq_getElem?_getD] at l1 hi0
    rw [u23]
    simp -dsimp -implicitDefEqProofs (disch := first | omega | (simp; done) | (simp; omega)) [exB_c, cap, b23, encM, tyD, l1, l2, hi0, forB_cons, st, st2, contB, hx]
    rw [valT, hgd, List.getD_eq_getElem?_getD]
end Cr

set_option maxHeartbeats 4000000
namespace Cr
open DL PySem L2
variable {k : Nat}
def syD (ss : List Sy) (i : Nat) : Sy := ss.getD i ("", 0, false)
def fbO (ss : List Sy) (n : Nat) (bs : List (List Int)) : Option Nat := (List.range ss.length).find? fun i => !(tabB n (syD ss i) (bs.getD i []))
def fb (ss : List Sy) (n : Nat) (bs : List (List Int)) : Nat := (fbO ss n bs).getD ss.length
theorem fbO_lt {ss : List Sy} {n : Nat} {bs : List (List Int)} {i : Nat} (h : fbO ss n bs = some i) : i < ss.length := by
  have := List.mem_of_find?_eq_some h
  exact List.mem_range.mp this
/-- one entry is bad -/
def ebad (n : Nat) (tw : Bool) (t : List Int) (i : Nat) : Bool := !(decide (0 ≤ t.getD i 0) && decide (t.getD i 0 < n)) || (tw && !(t.getD i 0 == t.getD (i % n * n + i / n) 0))
theorem ebad_all {n : Nat} {tw : Bool} {t : List Int} (hn : 0 < n) (hl : tw = true → t.length = n * n) : ((List.range t.length).find? (ebad n tw t)).isNone = (t.all (fun x => decide (0 ≤ x) && decide (x < n)) && (!tw || symB n t)) := by
  rw [Bool.eq_iff_iff, Option.isNone_iff_eq_none, List.find?_eq_none, Bool.and_eq_true, List.all_eq_true]
  constructor
  · intro h
    refine ⟨fun x hx => ?_, ?_⟩
    · obtain ⟨i, hi, e⟩ := List.getElem_of_mem hx
      have := h i (List.mem_range.mpr hi)
      have e2 : t.getD i 0 = x := by rw [List.getD_eq_getElem?_getD, List.getElem?_eq_getElem hi, ← e]; rfl
      unfold ebad at this
      rw [e2] at this
      simp only [Bool.or_eq_true, not_or] at this
      simpa using this.1
    · cases tw with
      | false => rfl
      | true =>
        show symB n t = true
        unfold symB
        rw [List.all_eq_true]
        intro x hx
        rw [List.all_eq_true]
        intro y hy
        have hx := List.mem_range.mp hx
        have hy := List.mem_range.mp hy
        have hlt : x * n + y < n * n := lt_sq hx (by omega)
        have := h (x * n + y) (List.mem_range.mpr (by rw [hl rfl]; exact hlt))
        have d1 : (x * n + y) % n = y := by rw [Nat.mul_comm, Nat.mul_add_mod, Nat.mod_eq_of_lt (by omega)]
        have d2 : (x * n + y) / n = x := by rw [Nat.mul_comm, Nat.mul_add_div hn, Nat.div_eq_of_lt (by omega)]; omega
        unfold ebad at this
        rw [d1, d2] at this
        simp only [Bool.or_eq_true, not_or] at this
        simpa using this.2
  · intro ⟨h1, h2⟩ i hi hb
    have hi := List.mem_range.mp hi
    have e2 : t.getD i 0 = t[i] := by rw [List.getD_eq_getElem?_getD, List.getElem?_eq_getElem hi]; rfl
    have g := h1 _ (List.getElem_mem hi)
    unfold ebad at hb
    rw [e2, g] at hb
    cases tw with
    | false => cases hb
    | true =>
      have h2 : symB n t = true := h2
      unfold symB at h2
      rw [List.all_eq_true] at h2
      have hl := hl rfl
      have hq : i / n < n := Nat.div_lt_of_lt_mul (by rw [← hl]; exact hi)
      have hr : i % n < n := Nat.mod_lt _ hn
      have hd : i / n * n + i % n = i := by rw [Nat.mul_comm]; exact Nat.div_add_mod i n
      have key : t.getD (i / n * n + i % n) 0 = t.getD (i % n * n + i / n) 0 := by
        rcases Nat.lt_trichotomy (i % n) (i / n) with z | z | z
        · have a := h2 (i / n) (List.mem_range.mpr hq)
          rw [List.all_eq_true] at a
          exact eq_of_beq (a (i % n) (List.mem_range.mpr z))
        · rw [z]
        · have a := h2 (i % n) (List.mem_range.mpr hr)
          rw [List.all_eq_true] at a
          exact (eq_of_beq (a (i / n) (List.mem_range.mpr z))).symm
      rw [hd, e2] at key
      rw [← key] at hb
      simp at hb
theorem tab_not {n : Nat} {s : Sy} {t : List Int} (hn : 0 < n) (hl : t.length = tlen n s.2.1) (h2 : s.2.2 = true → s.2.1 = 2) : (!(tabB n s t)) = ((List.range t.length).find? (ebad n s.2.2 t)).isSome := by
  have := ebad_all (n := n) (tw := s.2.2) (t := t) hn (fun h => by rw [hl, h2 h]; rfl)
  unfold tabB
  rw [← this, hl]
  cases (List.find? (ebad n s.2.2 t) (List.range (tlen n s.2.1))) <;> simp
theorem r28 {ss : List Sy} {n : Nat} {bs : List (List Int)} (hk : 1 ≤ k) (w : WfS ss) (hn : 0 < n ∧ n < 1000) (hl : bs.length = ss.length) (hb : ∀ t ∈ bs, t.length < 100000) :
    runP T k 28 [.lst (ss.map encS), .int n, .lst (bs.map encL)] = .ok (.sh (.int (fb ss n bs))) := by
  obtain ⟨k, rfl⟩ : ∃ j, k = j + 1 := ⟨k - 1, by omega⟩
  have hfew := w.few
  rw [u28]
  rcases forB_find (P := T.pg (runP T k)) (t := .n 3) (b := b28_f2) (enc := fun (x : Nat) => D.int x) (fun (o : Option Cell × Option Cell × Option Cell) => [some (.sh (.lst (ss.map encS))), some (.sh (.int n)), some (.sh (.lst (bs.map encL))), o.1, o.2.1, o.2.2])
    (fun i => !(tabB n (syD ss i) (bs.getD i []))) (fun i => .sh (.int i)) (List.range ss.length) (fun o i hi => by
      have hi' : i < ss.length := List.mem_range.mp hi
      rw [stepB_n (by simp)]
      have hib : i < bs.length := by omega
      have es : syD ss i = ss[i] := by unfold syD; rw [List.getD_eq_getElem?_getD, List.getElem?_eq_getElem hi']; rfl
      have eb : bs.getD i [] = bs[i] := by rw [List.getD_eq_getElem?_getD, List.getElem?_eq_getElem hib]; rfl
      rw [es, eb]
      have hm : ss[i] ∈ ss := List.getElem_mem hi'
      have har := w.ar _ hm
      have htw := w.tw _ hm
      have htl := hb _ (List.getElem_mem hib)
      have x1 : ixD (.lst (ss.map encS)) (.int i) = some (encS ss[i]) := by
        rw [ixD_lst (by rw [List.length_map]; omega), List.getElem?_map, Int.toNat_natCast, List.getElem?_eq_getElem hi']; rfl
      have x2 : ixD (.lst (bs.map encL)) (.int i) = some (encL bs[i]) := by
        rw [ixD_lst (by rw [List.length_map]; omega), List.getElem?_map, Int.toNat_natCast, List.getElem?_eq_getElem hib]; rfl
      generalize ss[i] = s at *
      generalize bs[i] = t at *
      obtain ⟨f, a, tw⟩ := s
      have har : 0 ≤ a ∧ a < 3 := har
      have htw : tw = true → a = 2 := htw
      have hlen : ((t.length : Int) = if a = 0 then 1 else if a = 1 then (n : Int) else n * n) ↔ t.length = tlen n a := by
        unfold tlen
        split
        · omega
        · split
          · omega
          · constructor
            · intro h; exact_mod_cast h
            · intro h; rw [h]; simp
      have hix : ixD (.lst [.int 1, .int n, .int (n * n)]) (.int a) = some (.int (if a = 0 then 1 else if a = 1 then (n : Int) else n * n)) := by
        have h : a = 0 ∨ a = 1 ∨ a = 2 := by omega
        rcases h with h | h | h <;> subst h <;> rfl
      have hle : lenD (encL t) = some t.length := by unfold encL; simp
      by_cases z : t.length = tlen n a
      · have z' := hlen.mpr z
        have hix2 := hix
        rw [← z'] at hix2
        have zb := tab_not (s := (f, a, tw)) hn.1 z htw
        rw [zb]
        rcases forB_find (P := T.pg (runP T k)) (t := .n 5) (b := b28_f1) (enc := fun (x : Nat) => D.int x) (fun (o : Option Cell) => [some (.sh (.lst (ss.map encS))), some (.sh (.int n)), some (.sh (.lst (bs.map encL))), some (.sh (.int i)), some (.sh (encL t)), o])
          (ebad n tw t) (fun _ => .sh (.int i)) (List.range t.length) (fun o j hj => by
            have hj' : j < t.length := List.mem_range.mp hj
            rw [stepB_n (by simp)]
            have y1 := tabL_at (t := t) (i := (j : Int)) (by omega)
            rw [Int.toNat_natCast] at y1
            have g1 : (t.getD j 0 < 0) ↔ ¬ (0 ≤ t.getD j 0) := by omega
            have g2 : ((n : Int) ≤ t.getD j 0) ↔ ¬ (t.getD j 0 < n) := by omega
            by_cases c1 : 0 ≤ t.getD j 0
            · by_cases c2 : t.getD j 0 < n
              · cases tw with
                | false => exact .inl ⟨by unfold ebad; rw [decide_eq_true c1, decide_eq_true c2]; rfl, some (.sh (.int j)), by simp -dsimp -implicitDefEqProofs (disch := first | omega | (simp; done) | (simp; omega)) [exB_c, cap, b28_f1, x1, y1, g1, g2, c1, c2, encS, -List.getD_eq_getElem?_getD]⟩
                | true =>
                  have ha : a = 2 := htw rfl
                  have hlq : t.length = n * n := by rw [z, ha]; rfl
                  have hjq : j / n < n := Nat.div_lt_of_lt_mul (by omega)
                  have hlt : j % n * n + j / n < n * n := lt_sq (Nat.mod_lt _ hn.1) hjq
                  have y2 := tabL_at (t := t) (i := ((j % n * n + j / n : Nat) : Int)) ⟨Int.natCast_nonneg _, by rw [hlq]; exact Int.ofNat_lt.mpr hlt⟩
                  rw [Int.toNat_natCast] at y2
                  have y3 : ((j % n * n + j / n : Nat) : Int) = (j : Int) % n * n + (j : Int) / n := by simp
                  rw [y3] at y2
                  have y4 : 0 ≤ (j : Int) % n ∧ (j : Int) % n < n := ⟨Int.emod_nonneg _ (by omega), Int.emod_lt_of_pos _ (by omega)⟩
                  by_cases c3 : t.getD j 0 = t.getD (j % n * n + j / n) 0
                  · exact .inl ⟨by unfold ebad; rw [decide_eq_true c1, decide_eq_true c2, ← c3]; simp, some (.sh (.int j)), by simp -dsimp -implicitDefEqProofs (disch := first | omega | (simp; done) | (simp; omega)) [exB_c, cap, b28_f1, x1, y1, y2, g1, g2, c1, c2, ← c3, binD_mulR, encS, -List.getD_eq_getElem?_getD]⟩
                  · exact .inr ⟨by unfold ebad; rw [decide_eq_true c1, decide_eq_true c2]; simpa using c3, by simp -dsimp -implicitDefEqProofs (disch := first | omega | (simp; done) | (simp; omega)) [exB_c, cap, b28_f1, x1, y1, y2, g1, g2, c1, c2, c3, binD_mulR, encS, -List.getD_eq_getElem?_getD]⟩
              · exact .inr ⟨by unfold ebad; rw [decide_eq_false c2, Bool.and_false]; rfl, by simp -dsimp -implicitDefEqProofs (disch := first | omega | (simp; done) | (simp; omega)) [exB_c, cap, b28_f1, x1, y1, g1, g2, c1, c2, -List.getD_eq_getElem?_getD]⟩
            · exact .inr ⟨by unfold ebad; rw [decide_eq_false c1]; rfl, by simp -dsimp -implicitDefEqProofs (disch := first | omega | (simp; done) | (simp; omega)) [exB_c, cap, b28_f1, x1, y1, g1, c1, -List.getD_eq_getElem?_getD]⟩) o.2.2 with ⟨h, o', e⟩ | ⟨y, ρ, h, e⟩
        · refine .inl ⟨?_, (some (.sh (.int i)), some (.sh (encL t)), o'), ?_⟩
          · simp only; rw [h]; rfl
          · simp -dsimp -implicitDefEqProofs (disch := first | omega | (simp; done) | (simp; omega)) [exB_c, cap, b28_f2, x1, x2, encS, hle, binD_mulR, hix2, e]
        · refine .inr ⟨?_, ?_⟩
          · simp only; rw [h]; rfl
          · simp -dsimp -implicitDefEqProofs (disch := first | omega | (simp; done) | (simp; omega)) [exB_c, cap, b28_f2, x1, x2, encS, hle, binD_mulR, hix2, e]
      · have z' := mt hlen.mp z
        refine .inr ⟨?_, ?_⟩
        · unfold tabB; simp [z]
        · simp -dsimp -implicitDefEqProofs (disch := first | omega | (simp; done) | (simp; omega)) [exB_c, cap, b28_f2, x1, x2, encS, hle, binD_mulR, hix, z']) (none, none, none) with ⟨h, o, e⟩ | ⟨x, ρ, h, e⟩
  · have h : fbO ss n bs = none := h
    simp -dsimp -implicitDefEqProofs (disch := first | omega | (simp; done) | (simp; omega)) [exB_c, cap, b28, e, fb, h]
  · have h : fbO ss n bs = some x := h
    simp -dsimp -implicitDefEqProofs (disch := first | omega | (simp; done) | (simp; omega)) [exB_c, cap, b28, e, fb, h]
end Cr

set_option maxHeartbeats 4000000
namespace Cr
open DL PySem L2
variable {k : Nat}
theorem r30_1 {bs : List (List Int)} {form : Int} {o1 o2 : Option Cell} (hb : bs.length ≤ 40) : ∃ ρ', lcB (T.pg (runP T k)) b30_e1 [3] (.n 3) .n (bs.map encL) [some (.sh (.lst (bs.map encL))), some (.sh (.int form)), o1, none, o2] = .ok (bs.map encL) ρ' ∧
    backE [some (.sh (.lst (bs.map encL))), some (.sh (.int form)), o1, none, o2] ρ' [3] = [some (.sh (.lst (bs.map encL))), some (.sh (.int form)), o1, none, o2] :=
  lc_map (P := T.pg (runP T k)) (e := b30_e1) (own := [3]) (t := .n 3) (c := .n) (enc := encL) (xs := bs) encL (fun t ht => by
    unfold turnB
    simp -dsimp -implicitDefEqProofs (disch := first | omega | (simp; done) | (simp; omega)) [exB_c, cap, wipeE, b30_e1, encL]) (by omega) rfl
theorem r30_2 {bs : List (List Int)} {form : Int} {o1 o2 : Option Cell} (hb : bs.length ≤ 40) : ∃ ρ', lcB (T.pg (runP T k)) b30_e2 [3] (.n 3) .n (bs.map encL) [some (.sh (.lst (bs.map encL))), some (.sh (.int form)), o1, none, o2] = .ok (bs.map encT) ρ' ∧
    backE [some (.sh (.lst (bs.map encL))), some (.sh (.int form)), o1, none, o2] ρ' [3] = [some (.sh (.lst (bs.map encL))), some (.sh (.int form)), o1, none, o2] :=
  lc_map (P := T.pg (runP T k)) (e := b30_e2) (own := [3]) (t := .n 3) (c := .n) (enc := encL) (xs := bs) encT (fun t ht => by
    unfold turnB
    simp -dsimp -implicitDefEqProofs (disch := first | omega | (simp; done) | (simp; omega)) [exB_c, cap, wipeE, b30_e2, encL, encT]) (by omega) rfl
def altR (bs : List (List Int)) (form : Int) : List (Bool × List Int) := (List.range bs.length).map fun (i : Nat) => (decide (((i : Int) + form) % 2 = 1), bs.getD i [])
theorem altR_snd (bs : List (List Int)) (form : Int) : (altR bs form).map (·.2) = bs := by
  unfold altR
  rw [List.map_map]
  apply List.ext_getElem
  · simp
  · intro i h1 h2
    simp [List.getElem?_eq_getElem h2]
theorem r30_3 {bs : List (List Int)} {form : Int} {o1 : Option Cell} (hf : 0 ≤ form ∧ form < 6) (hb : bs.length ≤ 40) : ∃ ρ', lcB (T.pg (runP T k)) b30_e3 [4] (.n 4) .n ((List.range bs.length).map fun (j : Nat) => DL.D.int (j : Int)) [some (.sh (.lst (bs.map encL))), some (.sh (.int form)), o1, none, none] = .ok ((altR bs form).map encR) ρ' ∧
    backE [some (.sh (.lst (bs.map encL))), some (.sh (.int form)), o1, none, none] ρ' [4] = [some (.sh (.lst (bs.map encL))), some (.sh (.int form)), o1, none, none] := by
  have := lc_map (P := T.pg (runP T k)) (e := b30_e3) (own := [4]) (t := .n 4) (c := .n) (enc := fun (j : Nat) => DL.D.int (j : Int)) (xs := List.range bs.length) (ρ := [some (.sh (.lst (bs.map encL))), some (.sh (.int form)), o1, none, none]) (fun (i : Nat) => encR (decide (((i : Int) + form) % 2 = 1), bs.getD i [])) (fun i hi => by
    have hi := List.mem_range.mp hi
    have x2 : ixD (.lst (bs.map encL)) (.int i) = some (encL bs[i]) := by
      rw [ixD_lst (by rw [List.length_map]; omega), List.getElem?_map, Int.toNat_natCast, List.getElem?_eq_getElem hi]; rfl
    have eb : bs.getD i [] = bs[i] := by rw [List.getD_eq_getElem?_getD, List.getElem?_eq_getElem hi]; rfl
    rw [eb]
    have hm : ((i : Int) + form) % 2 = 0 ∨ ((i : Int) + form) % 2 = 1 := by omega
    unfold turnB
    rcases hm with h | h <;> simp -dsimp -implicitDefEqProofs (disch := first | omega | (simp; done) | (simp; omega)) [exB_c, cap, wipeE, b30_e3, x2, encL, h, encR]) (by rw [List.length_range]; omega) rfl
  unfold altR
  rw [List.map_map]
  exact this
theorem r30 {bs : List (List Int)} {form : Int} (hk : 1 ≤ k) (hf : 0 ≤ form ∧ form < 6) (hb : bs.length ≤ 40) :
    ∃ rs : List (Bool × List Int), rs.map (·.2) = bs ∧ ∃ c, runP T k 30 [.lst (bs.map encL), .int form] = .ok c ∧ (c = .ow (.lst (rs.map encR)) ∨ c = .sh (.tup (rs.map encR))) := by
  obtain ⟨k, rfl⟩ : ∃ j, k = j + 1 := ⟨k - 1, by omega⟩
  rw [u30]
  have m1 : bs.map encL = (bs.map fun t => (false, t)).map encR := by rw [List.map_map]; rfl
  have m2 : bs.map encT = (bs.map fun t => (true, t)).map encR := by rw [List.map_map]; rfl
  have p1 : (bs.map fun t => (false, t)).map (·.2) = bs := by rw [List.map_map]; exact List.map_id _
  have p2 : (bs.map fun t => (true, t)).map (·.2) = bs := by rw [List.map_map]; exact List.map_id _
  have j1 := inD_ints form [1, 3]
  have j2 := inD_ints form [2, 3, 5]
  simp only [List.map_cons, List.map_nil] at j1 j2
  obtain ⟨ρ1, a1, a2⟩ := r30_1 (k := k) (bs := bs) (form := form) (o1 := none) (o2 := none) hb
  obtain ⟨ρ2, b1, b2⟩ := r30_2 (k := k) (bs := bs) (form := form) (o1 := some (.ow (.lst (bs.map encL)))) (o2 := none) hb
  obtain ⟨ρ3, c1, c2⟩ := r30_3 (k := k) (bs := bs) (form := form) (o1 := some (.ow (.lst (bs.map encL)))) hf hb
  have h : form = 0 ∨ form = 1 ∨ form = 2 ∨ form = 3 ∨ form = 4 ∨ form = 5 := by omega
  rcases h with h | h | h | h | h | h
  · refine ⟨_, p1, _, ?_, .inl rfl⟩
    rw [← m1]; subst h; simp -dsimp -implicitDefEqProofs (disch := first | omega | (simp; done) | (simp; omega)) [exB_c, cap, b30, a1, a2, j1, j2]
  · refine ⟨_, p2, _, ?_, .inl rfl⟩
    rw [← m2]; subst h; simp -dsimp -implicitDefEqProofs (disch := first | omega | (simp; done) | (simp; omega)) [exB_c, cap, b30, a1, a2, b1, b2, j1, j2]
  · refine ⟨_, p1, _, ?_, .inr rfl⟩
    rw [← m1]; subst h; simp -dsimp -implicitDefEqProofs (disch := first | omega | (simp; done) | (simp; omega)) [exB_c, cap, b30, a1, a2, j1, j2]
  · refine ⟨_, p2, _, ?_, .inr rfl⟩
    rw [← m2]; subst h; simp -dsimp -implicitDefEqProofs (disch := first | omega | (simp; done) | (simp; omega)) [exB_c, cap, b30, a1, a2, b1, b2, j1, j2]
  · refine ⟨_, altR_snd bs form, _, ?_, .inl rfl⟩
    subst h; simp -dsimp -implicitDefEqProofs (disch := first | omega | (simp; done) | (simp; omega)) [exB_c, cap, b30, a1, a2, c1, c2, j1, j2]
  · refine ⟨_, altR_snd bs form, _, ?_, .inr rfl⟩
    subst h; simp -dsimp -implicitDefEqProofs (disch := first | omega | (simp; done) | (simp; omega)) [exB_c, cap, b30, a1, a2, c1, c2, j1, j2]
end Cr

set_option maxHeartbeats 4000000
namespace Cr
open DL PySem L2
variable {k : Nat}
theorem triB_ok {P : Pg} {b : Sms} {c s : Option Nat} {h : Hst} {ρ ρ' : DL.Env} {fl : Fl} (e : exB P b ρ = .ok fl ρ') : exS P (.tri b c s h) ρ = .ok fl ρ' := by
  rw [exS_triR, e]
theorem triB_ex {P : Pg} {b : Sms} {c s : Option Nat} {h : Hst} {ρ ρ' : DL.Env} {x : Exn} (e : exB P b ρ = .ex x ρ') (h1 : 1000 ≤ x.cls ∧ x.cls < 1000 + P.nx) (h2 : okS s ρ' = true) (h3 : P.sub x.cls c = true) : exS P (.tri b c s h) ρ = hsR P.sub x h (unset ρ' s) := by
  rw [exS_triR, e]
  simp only [if_pos (And.intro h1 h2), if_pos h3]
def trB : Sms → Sms
  | .c (.tri b _ _ _) _ => b
  | s => s
def trH : Sms → Hst
  | .c (.tri _ _ _ h) _ => h
  | _ => .ret .non
theorem h31_val (d1 d2 d3 : DL.D) (i : Int) : ∃ ρ, hsR subT ⟨1001, [("index", .int i)]⟩ (trH b31) (unset [some (.sh d1), some (.sh d2), some (.sh d3), none, none, none, none, none] (some 3)) = .ok (.rt (.ow (.lst [.str "bad", .int i]))) ρ := ⟨_, rfl⟩
theorem h34_val (d1 d2 d3 d4 : DL.D) (i : Str) : ∃ ρ, hsR subT ⟨1002, [("variable", .str i)]⟩ (trH b34) (unset [some (.sh d1), some (.sh d2), some (.sh d3), some (.sh d4), none, none, none, none, none] (some 4)) = .ok (.rt (.ow (.lst [.str "missing", .str i]))) ρ := ⟨_, rfl⟩
theorem r31 {ss : List Sy} {n : Nat} {rs : List (Bool × List Int)} {out : DL.D} (hk : 4 ≤ k) (w : WfS ss) (hn : n < 1000) (hl : rs.length = ss.length) (ho : out = .lst (rs.map encR) ∨ out = .tup (rs.map encR)) :
    runP T k 31 [sigD ss, .int n, out] = match badAt ss n (rs.map (·.2)) with
      | none => .ok (.ow (.lst [.str "made", worldD ss n (rs.map (·.2))]))
      | some p => .ok (.ow (.lst [.str "bad", .int p.2])) := by
  obtain ⟨k, rfl⟩ : ∃ j, k = j + 1 := ⟨k - 1, by omega⟩
  have e9 := r9 (k := k) (n := n) (by omega) w hn hl ho
  rw [u31]
  have e : b31 = .c (.tri (trB b31) (some 3) (some 3) (trH b31)) .n := rfl
  rw [e, exB_c]
  cases hb : badAt ss n (rs.map (·.2)) with
  | none =>
    rw [hb] at e9
    have hx : exB (T.pg (runP T k)) (trB b31) [some (.sh (sigD ss)), some (.sh (.int n)), some (.sh out), none, none, none, none, none] = .ok (.rt (.ow (.lst [.str "made", worldD ss n (rs.map (·.2))]))) [some (.sh (sigD ss)), some (.sh (.int n)), some (.sh out), none, none, none, none, none] := by
      simp -dsimp -implicitDefEqProofs (disch := first | omega | (simp; done) | (simp; omega)) [exB_c, cap, b31, trB, e9]
    rw [triB_ok hx]
    rfl
  | some p =>
    rw [hb] at e9
    have hx : exB (T.pg (runP T k)) (trB b31) [some (.sh (sigD ss)), some (.sh (.int n)), some (.sh out), none, none, none, none, none] = .ex ⟨1001, [("index", .int p.2)]⟩ [some (.sh (sigD ss)), some (.sh (.int n)), some (.sh out), none, none, none, none, none] := by
      simp -dsimp -implicitDefEqProofs (disch := first | omega | (simp; done) | (simp; omega)) [exB_c, cap, b31, trB, e9]
    obtain ⟨ρ, hv⟩ := h31_val (sigD ss) (.int n) out p.2
    rw [triB_ex (c := some 3) (s := some 3) hx (show (1000 ≤ 1001 ∧ 1001 < 1000 + 3) by decide) rfl (show subT 1001 (some 3) = true by rfl)]
    have hv : hsR (T.pg (runP T k)).sub _ _ _ = _ := hv
    rw [hv]
    rfl
theorem r34 {ss : List Sy} {n : Nat} {bs : List (List Int)} {t : Tm} {l : List (Str × Int)} {vals : DL.D} {sp : Bool} (w : WfS ss) (wb : WfB ss n bs) (hn : 0 < n ∧ n < 1000) (ht : t.wf ss) (hk : t.ht + 5 ≤ k) (hvl : t.vars.length < 16777216) (hl : ∀ p ∈ l, 0 ≤ p.2 ∧ p.2 < (n : Int)) (hll : l.length < 1000) (hv : vals = .lst (l.map encP) ∨ vals = .tup (l.map encP)) :
    runP T k 34 [worldD ss n bs, encM t, vals, .bl sp] = match t.vars.find? (missing (putV2 l)) with
      | none => .ok (.ow (.lst [.str "thing", .int (valT ss n bs (valOf (putV2 l)) t)]))
      | some x => .ok (.ow (.lst [.str "missing", .str x])) := by
  obtain ⟨k, rfl⟩ : ∃ j, k = j + 1 := ⟨k - 1, by omega⟩
  have e11 := r11 (k := k) w wb hn ht (by omega) hvl hl hll hv
  rw [u34]
  have e : b34 = .c (.tri (trB b34) (some 3) (some 4) (trH b34)) .n := rfl
  rw [e, exB_c]
  have hwd : worldD ss n bs = .ins 0 [("signature", sigD ss), ("size", .int n), ("tables", .tup (bs.map encT))] := rfl
  rw [hwd] at e11 ⊢
  have hkw : ∀ x a b : DL.D, ((Option.map (fun x => x.ps) T.defs[11]?).bind fun ps => kwArr ps [x] ["term", "values"] [a, b]) = some [x, a, b] := fun _ _ _ => rfl
  cases hb : t.vars.find? (missing (putV2 l)) with
  | none =>
    rw [hb] at e11
    have hx : exB (T.pg (runP T k)) (trB b34) [some (.sh (.ins 0 [("signature", sigD ss), ("size", .int n), ("tables", .tup (bs.map encT))])), some (.sh (encM t)), some (.sh vals), some (.sh (.bl sp)), none, none, none, none, none] = .ok (.rt (.ow (.lst [.str "thing", .int (valT ss n bs (valOf (putV2 l)) t)]))) [some (.sh (.ins 0 [("signature", sigD ss), ("size", .int n), ("tables", .tup (bs.map encT))])), some (.sh (encM t)), some (.sh vals), some (.sh (.bl sp)), none, none, none, none, none] := by
      cases sp <;> simp -dsimp -implicitDefEqProofs (disch := first | omega | (simp; done) | (simp; omega)) [exB_c, cap, b34, trB, e11, hkw]
    rw [triB_ok hx]
    rfl
  | some x =>
    rw [hb] at e11
    have hx : exB (T.pg (runP T k)) (trB b34) [some (.sh (.ins 0 [("signature", sigD ss), ("size", .int n), ("tables", .tup (bs.map encT))])), some (.sh (encM t)), some (.sh vals), some (.sh (.bl sp)), none, none, none, none, none] = .ex ⟨1002, [("variable", .str x)]⟩ [some (.sh (.ins 0 [("signature", sigD ss), ("size", .int n), ("tables", .tup (bs.map encT))])), some (.sh (encM t)), some (.sh vals), some (.sh (.bl sp)), none, none, none, none, none] := by
      cases sp <;> simp -dsimp -implicitDefEqProofs (disch := first | omega | (simp; done) | (simp; omega)) [exB_c, cap, b34, trB, e11, hkw]
    obtain ⟨ρ, hv⟩ := h34_val (.ins 0 [("signature", sigD ss), ("size", .int n), ("tables", .tup (bs.map encT))]) (encM t) vals (.bl sp) x
    rw [triB_ex (c := some 3) (s := some 4) hx (show (1000 ≤ 1002 ∧ 1002 < 1000 + 3) by decide) rfl (show subT 1002 (some 3) = true by rfl)]
    have hv : hsR (T.pg (runP T k)).sub _ _ _ = _ := hv
    rw [hv]
    rfl
end Cr

set_option maxHeartbeats 4000000
namespace Cr
open DL PySem L2
variable {k : Nat}
theorem zip_rng (bs : List (List Int)) : bs.zipIdx = (List.range bs.length).map fun i => (bs.getD i [], i) := by
  apply List.ext_getElem
  · simp
  · intro i h1 h2
    have h3 : i < bs.length := by simpa using h2
    simp [List.getElem?_eq_getElem h3]
theorem bad_fb {ss : List Sy} {n : Nat} {bs : List (List Int)} (hl : bs.length = ss.length) : badAt ss n bs = (fbO ss n bs).map fun i => (bs.getD i [], i) := by
  unfold badAt fbO
  rw [zip_rng, List.find?_map, hl]
  rfl
theorem pl_ints (l : List Int) (n : Nat) : (l.map DL.D.int).all (plB n) = true := by
  rw [List.all_eq_true]
  intro d hd
  obtain ⟨i, _, e⟩ := List.mem_map.mp hd
  subst e
  cases n <;> rfl
theorem pl_lst (l : List Int) (n : Nat) : plB (n + 1) (.lst (l.map .int)) = true := pl_ints l n
theorem pl_tup (l : List Int) (n : Nat) : plB (n + 1) (.tup (l.map .int)) = true := pl_ints l n
theorem pl_rows (rs : List (Bool × List Int)) (n : Nat) : (rs.map encR).all (plB (n + 1)) = true := by
  rw [List.all_eq_true]
  intro d hd
  obtain ⟨⟨b, t⟩, _, e⟩ := List.mem_map.mp hd
  subst e
  cases b
  · exact pl_lst t n
  · exact pl_tup t n
theorem r32 {ss : List Sy} {n : Nat} {bs : List (List Int)} (hk : 4 ≤ k) (sg : SG ss) (hn : 0 < n ∧ n < 1000) (hl : bs.length = ss.length) (hb : ∀ t ∈ bs, t.length < 100000) :
    runP T k 32 [worldD ss n bs, .lst (ss.map encS), .int n, .lst (bs.map encL)] = .ok (.sh (.bl true)) := by
  obtain ⟨k, rfl⟩ : ∃ j, k = j + 1 := ⟨k - 1, by omega⟩
  have w := sg.w
  have hfew := w.few
  have e12 := r12 (k := k) (ss := ss) (by omega) w sg.g
  have e15 := r15 (k := k) (ss := ss) (by omega)
  have e16 := r16 (k := k) (i := n) (by omega)
  have hq : ∀ ρ, cmpR (T.pg (runP T k)) .eq (sigD ss) (sigD ss) ρ = .ok (.sh (.bl true)) ρ := fun ρ => by
    show (match (runP T k 15 [sigD ss, sigD ss] : FR) with
      | FR.ok (Cell.sh (DL.D.bl true)) => R.ok (Cell.sh (DL.D.bl true)) ρ
      | _ => R.no) = _
    rw [e15]
  have hio : ∀ fs, insOk 2 (.ins 0 fs) = true := fun _ => rfl
  rw [u32]
  obtain ⟨ρ', e, o4, o5, hρ⟩ := forB_rng (P := T.pg (runP T k)) (t := .n 4) (b := b32_f2) bs.length (fun _ ρ => ∃ o4 o5, ρ = [some (.sh (worldD ss n bs)), some (.sh (.lst (ss.map encS))), some (.sh (.int n)), some (.sh (.lst (bs.map encL))), o4, o5]) (fun j ρ hj ⟨o4, o5, hρ⟩ => by
    subst hρ
    have x1 : ixD (.tup (bs.map encT)) (.int j) = some (encT bs[j]) := by
      rw [ixD_tup (by rw [List.length_map]; omega), List.getElem?_map, Int.toNat_natCast, List.getElem?_eq_getElem hj]; rfl
    have x2 : ixD (.lst (bs.map encL)) (.int j) = some (encL bs[j]) := by
      rw [ixD_lst (by rw [List.length_map]; omega), List.getElem?_map, Int.toNat_natCast, List.getElem?_eq_getElem hj]; rfl
    have hq2 := eqD_self (d := .lst (bs[j].map .int)) (pl_lst _ 99)
    have htl := hb _ (List.getElem_mem hj)
    obtain ⟨ρ2, e2, o52, hρ2⟩ := forB_pre (P := T.pg (runP T k)) (t := .n 5) (b := b32_f1) (enc := DL.D.int) (fun _ ρ => ∃ o5, ρ = [some (.sh (worldD ss n bs)), some (.sh (.lst (ss.map encS))), some (.sh (.int n)), some (.sh (.lst (bs.map encL))), some (.sh (.int j)), o5]) (fun x rest ρ ⟨o5, hρ⟩ => by
      subst hρ
      have e16 := r16 (k := k) (i := x) (by omega)
      exact ⟨_, by rw [stepB_n (by simp)]; simp -dsimp -implicitDefEqProofs (disch := first | omega | (simp; done) | (simp; omega)) [exB_c, cap, b32_f1, e16]; rfl, _, rfl⟩) bs[j] [some (.sh (worldD ss n bs)), some (.sh (.lst (ss.map encS))), some (.sh (.int n)), some (.sh (.lst (bs.map encL))), some (.sh (.int j)), o5] ⟨_, rfl⟩
    refine ⟨_, ?_, _, _, hρ2⟩
    rw [stepB_n (by simp)]
    generalize bs[j] = t at *
    simp -dsimp -implicitDefEqProofs (disch := first | omega | (simp; done) | (simp; omega)) [exB_c, cap, b32_f2, worldD, x1, x2, encT, encL, hq2, tyD]
    unfold worldD at e2
    simp -dsimp -implicitDefEqProofs (disch := first | omega | (simp; done) | (simp; omega)) [exB_c, cap, e2]) [some (.sh (worldD ss n bs)), some (.sh (.lst (ss.map encS))), some (.sh (.int n)), some (.sh (.lst (bs.map encL))), none, none] ⟨_, _, rfl⟩
  subst hρ
  rw [hl] at e
  unfold worldD at e ⊢
  simp -dsimp -implicitDefEqProofs (disch := first | omega | (simp; done) | (simp; omega)) [exB_c, cap, b32, hio, e12, hq, e16, e, hl, tyD]
theorem r33 {ss : List Sy} {n : Nat} {bs : List (List Int)} {form : Int} (hk : 5 ≤ k) (sg : SG ss) (hn : 0 < n ∧ n < 1000) (hl : bs.length = ss.length) (hb : ∀ t ∈ bs, t.length < 100000) (hf : 0 ≤ form ∧ form < 6) :
    runP T k 33 [.lst (ss.map encS), .int n, .lst (bs.map encL), .int form] = .ok (.sh (.bl true)) := by
  obtain ⟨k, rfl⟩ : ∃ j, k = j + 1 := ⟨k - 1, by omega⟩
  have w := sg.w
  have hfew := w.few
  have e12 := r12 (k := k) (ss := ss) (by omega) w sg.g
  have e28 := r28 (k := k) (by omega) w hn hl hb
  have e32 := r32 (k := k) (by omega) sg hn hl hb
  obtain ⟨rs, hrs, c, e30, hc⟩ := r30 (k := k) (bs := bs) (form := form) (by omega) hf (by omega)
  have hrl : rs.length = ss.length := by rw [← hl, ← hrs, List.length_map]
  have e31 := fun (out : DL.D) (ho : out = .lst (rs.map encR) ∨ out = .tup (rs.map encR)) => r31 (k := k) (n := n) (out := out) (by omega) w hn.2 hrl ho
  rw [hrs, bad_fb hl] at e31
  have hq1 := eqD_self (d := .lst (rs.map encR)) (pl_rows rs 98)
  have hq2 := eqD_self (d := .tup (rs.map encR)) (pl_rows rs 98)
  rw [u33]
  unfold fb at e28
  cases hbad : fbO ss n bs with
  | none =>
    rw [hbad] at e28 e31
    rcases hc with hc | hc <;> subst hc
    · have e31 := e31 _ (.inl rfl)
      simp -dsimp -implicitDefEqProofs (disch := first | omega | (simp; done) | (simp; omega)) [exB_c, cap, b33, e12, e28, e30, e31, hq1, e32]
    · have e31 := e31 _ (.inr rfl)
      simp -dsimp -implicitDefEqProofs (disch := first | omega | (simp; done) | (simp; omega)) [exB_c, cap, b33, e12, e28, e30, e31, hq2, e32]
  | some i =>
    rw [hbad] at e28 e31
    have hi := fbO_lt hbad
    have e16 := r16 (k := k) (i := (i : Int)) (by omega)
    rcases hc with hc | hc <;> subst hc
    · have e31 := e31 _ (.inl rfl)
      simp -dsimp -implicitDefEqProofs (disch := first | omega | (simp; done) | (simp; omega)) [exB_c, cap, b33, e12, e28, e30, e31, hq1, e16, hi]
    · have e31 := e31 _ (.inr rfl)
      simp -dsimp -implicitDefEqProofs (disch := first | omega | (simp; done) | (simp; omega)) [exB_c, cap, b33, e12, e28, e30, e31, hq2, e16, hi]
end Cr

set_option maxHeartbeats 4000000
namespace Cr
open DL PySem L2
variable {k : Nat}
theorem pl_ents (l : List (Str × Int)) : plB 100 (.lst (l.map encP)) = true := by
  show (l.map encP).all (plB 99) = true
  rw [List.all_eq_true]
  intro d hd
  obtain ⟨p, _, e⟩ := List.mem_map.mp hd
  subst e
  rfl
theorem r35 {ss : List Sy} {n : Nat} {bs : List (List Int)} {t : Tm} {l : List (Str × Int)} (w : WfS ss) (wb : WfB ss n bs) (hn : 0 < n ∧ n < 1000) (ht : t.wf ss) (hk : t.ht + 6 ≤ k) (hvl : t.vars.length ≤ 1000) (hl : ∀ p ∈ l, 0 ≤ p.2 ∧ p.2 < (n : Int)) (hll : l.length < 1000) :
    runP T k 35 [worldD ss n bs, .lst (ss.map encS), .int n, .lst (bs.map encL), encM t, .lst (l.map encP)] = .ok (.sh (.bl true)) := by
  obtain ⟨k, rfl⟩ : ∃ j, k = j + 1 := ⟨k - 1, by omega⟩
  have e34 := fun (sp : Bool) (vals : DL.D) (hv : vals = .lst (l.map encP) ∨ vals = .tup (l.map encP)) => r34 (k := k) (sp := sp) (vals := vals) w wb hn ht (by omega) (by omega) hl hll hv
  have e34a := e34 false _ (.inl rfl)
  have e34b := e34 true _ (.inr rfl)
  have e21 := r21 t k (by omega) hvl
  have hq := eqD_self (pl_ents l)
  have hpd : pairsD [] = some [] := rfl
  have hpa : putAll [] = [] := rfl
  rw [u35]
  obtain ⟨ρ7, e7, pre, o7, hpre, hρ⟩ := forB_pre (P := T.pg (runP T k)) (t := .n 7) (b := b35_f1) (enc := encP) (fun rest ρ => ∃ (pre : List (Str × Int)) (o : Option Cell), l = pre ++ rest ∧ ρ = [some (.sh (worldD ss n bs)), some (.sh (.lst (ss.map encS))), some (.sh (.int n)), some (.sh (.lst (bs.map encL))), some (.sh (encM t)), some (.sh (.lst (l.map encP))), some (.ow (.dct (putV2 pre))), o, none, none, none, none, none]) (fun p rest ρ ⟨pre, o, hpre, hρ⟩ => by
    have hplen : (putV2 pre).length < 16777216 := by
      have h1 := putAll_len (pre.map fun p => (.inr p.1, .int p.2))
      have h2 : l.length = pre.length + (rest.length + 1) := by rw [hpre]; simp
      rw [List.length_map] at h1
      unfold putV2
      omega
    subst hρ
    have hs := putV2_snoc pre p
    refine ⟨_, ?_, pre ++ [p], some (.sh (encP p)), by rw [hpre]; simp, rfl⟩
    rw [stepB_n (by simp), hs]
    simp -dsimp -implicitDefEqProofs (disch := first | omega | (simp; done) | (simp; omega)) [exB_c, cap, b35_f1, encP, setD, hplen]) l _ ⟨[], none, rfl, rfl⟩
  rw [List.append_nil] at hpre
  subst hpre
  subst hρ
  have hp0 : putV2 [] = [] := rfl
  rw [hp0] at e7
  have rngV := putV2_rng (n := n) l hl
  generalize putV2 l = V at *
  have hmv := fun (v9 : Cell) => lc_filter (P := T.pg (runP T k)) (e := .v 12) (own := [12]) (t := .n 12) (c := b35_c1) (enc := DL.D.str) (xs := t.vars) (missing V) DL.D.str (ρ := [some (.sh (worldD ss n bs)), some (.sh (.lst (ss.map encS))), some (.sh (.int n)), some (.sh (.lst (bs.map encL))), some (.sh (encM t)), some (.sh (.lst (l.map encP))), some (.ow (.dct V)), o7, some (.sh (.lst (l.map encP))), some v9, none, none, none]) (fun x hx => by
    unfold turnB
    cases h : lookK (.inr x) V with
    | none => simp -dsimp -implicitDefEqProofs (disch := first | omega | (simp; done) | (simp; omega)) [exB_c, cap, wipeE, b35_c1, missing, h]
    | some d => simp -dsimp -implicitDefEqProofs (disch := first | omega | (simp; done) | (simp; omega)) [exB_c, cap, wipeE, b35_c1, missing, h]) (by omega) rfl
  cases hfl : t.vars.filter (missing V) with
  | nil =>
    have hfd : t.vars.find? (missing V) = none := by
      rw [List.find?_eq_none]
      exact List.filter_eq_nil_iff.mp hfl
    rw [hfd] at e34a e34b
    have hgood : ∀ x ∈ t.vars, lookK (.inr x) V = some (.int (valOf V x)) ∧ 0 ≤ valOf V x ∧ valOf V x < n := fun x hx => by
      have h1 := List.filter_eq_nil_iff.mp hfl x hx
      cases h : lookK (.inr x) V with
      | none => exact absurd (by unfold missing; rw [h]; rfl) h1
      | some d =>
        obtain ⟨i, e, h2, h3⟩ := rngV x d h
        subst e
        have e : valOf V x = i := by unfold valOf; rw [h]
        rw [e]
        exact ⟨rfl, h2, h3⟩
    have e23 := r23 w wb hn t ht hgood (k := k) (by omega)
    have e16 := r16 (k := k) (i := valT ss n bs (valOf V) t) (by omega)
    obtain ⟨ρ', m1, m2⟩ := hmv (.ow (.lst [.str "thing", .int (valT ss n bs (valOf V) t)]))
    rw [hfl] at m1
    have hq2 := eqD_self (d := .lst [.str "thing", .int (valT ss n bs (valOf V) t)]) rfl
    simp -dsimp -implicitDefEqProofs (disch := first | omega | (simp; done) | (simp; omega)) [exB_c, cap, b35, hpd, hpa, e7, e34a, e34b, hq, hq2, e21, m1, m2, e23, e16]
  | cons x rest =>
    have hfd : t.vars.find? (missing V) = some x := by
      rw [← List.head?_filter, hfl]; rfl
    rw [hfd] at e34a e34b
    obtain ⟨ρ', m1, m2⟩ := hmv (.ow (.lst [.str "missing", .str x]))
    rw [hfl] at m1
    have hq2 := eqD_self (d := .lst [.str "missing", .str x]) rfl
    simp -dsimp -implicitDefEqProofs (disch := first | omega | (simp; done) | (simp; omega)) [exB_c, cap, b35, hpd, hpa, e7, e34a, e34b, hq, hq2, e21, m1, m2, tyD]
end Cr

set_option maxHeartbeats 4000000
namespace Cr
open DL PySem L2
variable {k : Nat}
def preS : Nat → Sms → Sms → Sms
  | 0, _, R => R
  | n + 1, .c s t, R => .c s (preS n t R)
  | _ + 1, _, R => R
def dropS : Nat → Sms → Sms
  | 0, s => s
  | n + 1, .c _ t => dropS n t
  | _ + 1, _ => .n
theorem ixN_nat {n a : Nat} (h : a < n) : ixN n (a : Int) = some a := by
  unfold ixN
  rw [if_pos (by omega), if_pos (by omega), Int.toNat_natCast]
theorem ixN_int {n : Nat} {i : Int} (h : 0 ≤ i ∧ i < n) : ixN n i = some i.toNat := by
  unfold ixN
  rw [if_pos h.1, if_pos h.2]
theorem insD_L {t : List Int} {i v : Int} (h : t.length < 1000000) (hi : 0 ≤ i ∧ i < 1000000) : insD i (.int v) (encL t) = some (encL (t.take i.toNat ++ [v] ++ t.drop i.toNat)) := by
  unfold insD encL
  dsimp only
  rw [if_pos (by rw [List.length_map]; unfold cap; omega)]
  simp
theorem popD_L {t : List Int} {i : Int} (h : 0 ≤ i ∧ i < t.length) (h2 : t.length < 1000000) : ∃ y, popD (encL t) (some i) = some (y, encL (t.eraseIdx i.toNat)) := by
  unfold popD encL
  dsimp only
  have e : seqIndex? i (t.map DL.D.int).length = some i.toNat := by
    unfold seqIndex?
    simp [h.1, h.2, Int.not_lt.mpr h.1]
  rw [if_pos (by omega), e]
  have hi : i.toNat < (t.map DL.D.int).length := by rw [List.length_map]; omega
  rw [Option.bind_some, List.getElem?_eq_getElem hi, erase_map]
  exact ⟨_, rfl⟩
theorem setD_L {t : List Int} {i v : Int} (h : 0 ≤ i ∧ i < t.length) : setD (.int i) (.int v) (encL t) = some (encL (t.set i.toNat v)) := by
  show (ixN (t.map DL.D.int).length i).map _ = _
  rw [ixN_int (by rw [List.length_map]; exact h), Option.map_some, ← List.map_set]
  rfl
theorem binD_mulI {v : Int} {m : Int} (h : 0 ≤ m ∧ m ≤ 1000000) : binD .mul (.lst [.int v]) (.int m) = some (.ow (encL (List.replicate m.toNat v))) := by
  show (if _ then _ else _) = _
  rw [if_pos ⟨by omega, by unfold cap; simp; omega⟩]
  have : ∀ j : Nat, (List.replicate j [DL.D.int v]).flatten = (List.replicate j v).map DL.D.int := by
    intro j
    induction j with
    | zero => rfl
    | succ j ih => rw [List.replicate_succ, List.flatten_cons, ih, List.replicate_succ]; rfl
  rw [this]
  rfl
theorem r27_pre {ss : List Sy} {n : Nat} {bs : List (List Int)} {r0 r1 r2 r3 v4 : Int} (w : WfS ss) (hs : 0 < ss.length) (hl : bs.length = ss.length) (h0 : 0 ≤ r0) :
    ∃ (a : Nat) (cr : DL.D), a < ss.length ∧ ∀ R : Sms, exB (T.pg (runP T k)) (preS 4 b27 R) [some (.sh (.lst (ss.map encS))), some (.sh (.int n)), some (.sh (.lst (bs.map encL))), some (.sh (.lst [.int r0, .int r1, .int r2, .int r3])), some (.sh (.int v4)), none, none, none, none, none, none, none] =
      exB (T.pg (runP T k)) R [some (.sh (.lst (ss.map encS))), some (.sh (.int n)), some (.sh (.lst (bs.map encL))), some (.sh (.lst [.int r0, .int r1, .int r2, .int r3])), some (.sh (.int v4)), some (.nst (bs.map encL)), some (.ow cr), some (.sh (.int a)), none, none, none, none] := by
  have hfew := w.few
  obtain ⟨ρ1, a1, a2⟩ := lcn_map (P := T.pg (runP T k)) (e := b27_e1) (own := [8]) (t := .n 8) (c := .n) (enc := encL) (xs := bs) encL (ρ := [some (.sh (.lst (ss.map encS))), some (.sh (.int n)), some (.sh (.lst (bs.map encL))), some (.sh (.lst [.int r0, .int r1, .int r2, .int r3])), some (.sh (.int v4)), none, none, none, none, none, none, none]) (fun t ht => by
    unfold turnNB
    simp -dsimp -implicitDefEqProofs (disch := first | omega | (simp; done) | (simp; omega)) [exB_c, cap, wipeE, b27_e1, encL]) (by omega) rfl
  obtain ⟨cr, hcr⟩ : ∃ cr, cr = (List.range ss.length).filter fun j => (syD ss j).2.2 := ⟨_, rfl⟩
  have hcl : ∀ j ∈ cr, j < ss.length := fun j hj => by
    rw [hcr] at hj
    exact List.mem_range.mp (List.mem_filter.mp hj).1
  have hcf : cr.length ≤ 40 := by
    rw [hcr]
    have := List.length_filter_le (fun j => (syD ss j).2.2) (List.range ss.length)
    rw [List.length_range] at this
    omega
  obtain ⟨ρ2, c1, c2⟩ := lc_filter (P := T.pg (runP T k)) (e := .v 11) (own := [11]) (t := .n 11) (c := b27_c1) (enc := fun (j : Nat) => DL.D.int (j : Int)) (xs := List.range ss.length) (fun j => (syD ss j).2.2) (fun (j : Nat) => DL.D.int (j : Int)) (ρ := [some (.sh (.lst (ss.map encS))), some (.sh (.int n)), some (.sh (.lst (bs.map encL))), some (.sh (.lst [.int r0, .int r1, .int r2, .int r3])), some (.sh (.int v4)), some (.nst (bs.map encL)), none, none, none, none, none, none]) (fun j hj => by
    have hj := List.mem_range.mp hj
    have x1 : ixD (.lst (ss.map encS)) (.int j) = some (encS ss[j]) := by
      rw [ixD_lst (by rw [List.length_map]; omega), List.getElem?_map, Int.toNat_natCast, List.getElem?_eq_getElem hj]; rfl
    have es : syD ss j = ss[j] := by unfold syD; rw [List.getD_eq_getElem?_getD, List.getElem?_eq_getElem hj]; rfl
    rw [es]
    generalize ss[j] = s at *
    obtain ⟨f, ar, tw⟩ := s
    unfold turnB
    cases tw <;> simp -dsimp -implicitDefEqProofs (disch := first | omega | (simp; done) | (simp; omega)) [exB_c, cap, wipeE, b27_c1, x1, encS]) (by rw [List.length_range]; omega) rfl
  rw [← hcr] at c1
  by_cases hz : r1 = 4 ∧ 0 < cr.length
  · obtain ⟨h4, hp⟩ := hz
    have hm : 0 ≤ r0 % (cr.length : Int) ∧ r0 % (cr.length : Int) < cr.length := ⟨Int.emod_nonneg _ (by omega), Int.emod_lt_of_pos _ (by omega)⟩
    have hmn : (r0 % (cr.length : Int)).toNat < cr.length := by omega
    have x2 : ixD (.lst (cr.map fun (j : Nat) => DL.D.int (j : Int))) (.int (r0 % cr.length)) = some (.int (cr[(r0 % (cr.length : Int)).toNat] : Nat)) := by
      rw [ixD_lst (by rw [List.length_map]; omega), List.getElem?_map, List.getElem?_eq_getElem hmn]; rfl
    refine ⟨cr[(r0 % (cr.length : Int)).toNat], .lst (cr.map fun (j : Nat) => DL.D.int (j : Int)), hcl _ (List.getElem_mem _), fun R => ?_⟩
    generalize cr[(r0 % (cr.length : Int)).toNat] = a at *
    subst h4
    simp -dsimp -implicitDefEqProofs (disch := first | omega | (simp; done) | (simp; omega)) [exB_c, cap, b27, preS, a1, a2, c1, c2, x2, hp]
  · have hm : 0 ≤ r0 % (ss.length : Int) ∧ r0 % (ss.length : Int) < ss.length := ⟨Int.emod_nonneg _ (by omega), Int.emod_lt_of_pos _ (by omega)⟩
    refine ⟨(r0 % (ss.length : Int)).toNat, .lst (cr.map fun (j : Nat) => DL.D.int (j : Int)), by omega, fun R => ?_⟩
    have e0 : (((r0 % (ss.length : Int)).toNat : Nat) : Int) = r0 % ss.length := by omega
    rw [e0]
    by_cases h4 : r1 = 4
    · have hp : cr.length = 0 := by omega
      subst h4
      simp -dsimp -implicitDefEqProofs (disch := first | omega | (simp; done) | (simp; omega)) [exB_c, cap, b27, preS, a1, a2, c1, c2, hp]
    · simp -dsimp -implicitDefEqProofs (disch := first | omega | (simp; done) | (simp; omega)) [exB_c, cap, b27, preS, a1, a2, c1, c2, h4]
theorem r27_rest {ss : List Sy} {n : Nat} {bs : List (List Int)} {r0 r1 r2 r3 v4 : Int} {a L : Nat} {cr : DL.D} (w : WfS ss) (hn : 0 < n ∧ n < 100) (hl : bs.length = ss.length) (hb : ∀ t ∈ bs, t.length ≤ L) (hL : 10000 ≤ L ∧ L ≤ 50000) (h1 : 0 ≤ r1 ∧ r1 < 9) (h2 : 0 ≤ r2 ∧ r2 < 1600) (h3 : 0 ≤ r3) (ha : a < ss.length) :
    ∃ (bs' : List (List Int)) (ρ' : DL.Env), bs'.length = bs.length ∧ (∀ t ∈ bs', t.length ≤ L + 1) ∧
    exB (T.pg (runP T k)) (dropS 4 b27) [some (.sh (.lst (ss.map encS))), some (.sh (.int n)), some (.sh (.lst (bs.map encL))), some (.sh (.lst [.int r0, .int r1, .int r2, .int r3])), some (.sh (.int v4)), some (.nst (bs.map encL)), some (.ow cr), some (.sh (.int a)), none, none, none, none] =
      .ok (.rt (.sh (.lst (bs'.map encL)))) ρ' := by
  have hfew := w.few
  have hab : a < bs.length := by omega
  have hx : bs[a]? = some bs[a] := List.getElem?_eq_getElem hab
  have htb := hb _ (List.getElem_mem hab)
  have x1 : ixD (.lst (ss.map encS)) (.int a) = some (encS ss[a]) := by
    rw [ixD_lst (by rw [List.length_map]; omega), List.getElem?_map, Int.toNat_natCast, List.getElem?_eq_getElem ha]; rfl
  have har := w.ar _ (List.getElem_mem ha)
  generalize ss[a] = s at *
  generalize bs[a] = t at *
  obtain ⟨f, ar, tw⟩ := s
  have har : 0 ≤ ar ∧ ar < 3 := har
  have hx2 : bs[a] = t := by
    rw [List.getElem?_eq_getElem hab] at hx
    exact Option.some.inj hx
  have hle : lenD (encL t) = some t.length := by unfold encL; simp
  have hil : isLV (some (encL t)) = true := rfl
  have hixn := ixN_nat (n := bs.length) hab
  -- the place
  obtain ⟨p, hp⟩ : ∃ p, p = r2 % max 1 (t.length : Int) := ⟨_, rfl⟩
  have hp1 : 0 ≤ p ∧ p < max 1 (t.length : Int) := by rw [hp]; exact ⟨Int.emod_nonneg _ (by omega), Int.emod_lt_of_pos _ (by omega)⟩
  have hp2 : 0 < t.length → p < t.length := fun h => by omega
  have hp3 : p < 1000000 := by omega
  have hset : ∀ t' : List Int, (bs.map encL).set a (encL t') = (bs.set a t').map encL := fun t' => List.map_set.symm
  have hlen : ∀ t' : List Int, t'.length ≤ L + 1 → (bs.set a t').length = bs.length ∧ ∀ u ∈ bs.set a t', u.length ≤ L + 1 := fun t' h => ⟨List.length_set, fun u hu => by
    rcases List.mem_or_eq_of_mem_set hu with z | z
    · have := hb u z; omega
    · rw [z]; exact h⟩
  have hres : ∀ t' : List Int, t'.length ≤ L + 1 → ∀ (c : DL.R Fl), (∃ ρ', c = DL.R.ok (.rt (.sh (.lst ((bs.map encL).set a (encL t'))))) ρ') → ∃ (bs' : List (List Int)) (ρ' : DL.Env), bs'.length = bs.length ∧ (∀ t ∈ bs', t.length ≤ L + 1) ∧ c = DL.R.ok (.rt (.sh (.lst (bs'.map encL)))) ρ' := fun t' h c ⟨ρ', e⟩ => ⟨bs.set a t', ρ', (hlen t' h).1, (hlen t' h).2, by rw [e, hset]⟩
  have hmod : 0 < (n : Int) := by omega
  have hnil : encL [] = DL.D.lst [] := rfl
  by_cases c5 : r1 = 5
  · subst c5
    have hi := insD_L (t := t) (i := p) (v := r3 % n) (by omega) (by omega)
    refine hres (t.take p.toNat ++ [r3 % (n : Int)] ++ t.drop p.toNat) (by simp; omega) _ ?_
    · rw [hp] at hi
      simp -dsimp -implicitDefEqProofs (disch := first | omega | (simp; done) | (simp; omega)) [exB_c, cap, b27, dropS, hixn, hp, hx, hx2, hle, hil, hi]
  by_cases c6 : r1 = 6 ∧ 0 < t.length
  · obtain ⟨c6, ht⟩ := c6
    subst c6
    obtain ⟨y, hi⟩ := popD_L (t := t) (i := p) (by omega) (by omega)
    refine hres (t.eraseIdx p.toNat) (by have := List.length_eraseIdx_le t p.toNat; omega) _ ?_
    · rw [hp] at hi
      simp -dsimp -implicitDefEqProofs (disch := first | omega | (simp; done) | (simp; omega)) [exB_c, cap, b27, dropS, hixn, hp, hx, hx2, hle, hil, hi, ht]
  by_cases c7 : r1 = 7
  · subst c7
    have hnn : (n : Int) * n ≤ 100 * 100 := Int.mul_le_mul (by omega) (by omega) (by omega) (by omega)
    have hnn0 : 0 ≤ (n : Int) * n := Int.mul_nonneg (by omega) (by omega)
    obtain ⟨m, hm, hm2⟩ : ∃ m : Int, ixD (.lst [.int n, .int (n * n), .int n]) (.int ar) = some (.int m) ∧ 0 ≤ m ∧ m ≤ 10000 := by
      have h : ar = 0 ∨ ar = 1 ∨ ar = 2 := by omega
      rcases h with h | h | h <;> subst h
      · exact ⟨_, rfl, by omega, by omega⟩
      · exact ⟨_, rfl, by omega, by omega⟩
      · exact ⟨_, rfl, by omega, by omega⟩
    have hb := binD_mulI (v := r3 % n) (m := m) (by omega)
    refine hres (List.replicate m.toNat (r3 % (n : Int))) (by rw [List.length_replicate]; omega) _ ?_
    · simp -dsimp -implicitDefEqProofs (disch := first | omega | (simp; done) | (simp; omega)) [exB_c, cap, b27, dropS, hixn, hp, hx, hx2, hle, hil, hb, hm, x1, encS, binD_mulR]
  by_cases c8 : r1 = 8
  · subst c8
    refine hres [] (by simp) _ ?_
    · simp -dsimp -implicitDefEqProofs (disch := first | omega | (simp; done) | (simp; omega)) [exB_c, cap, b27, dropS, hixn, hp, hx, hx2, hle, hil, hnil]
  by_cases ht : 0 < t.length
  · have c6 : r1 ≠ 6 := fun z => c6 ⟨z, ht⟩
    have hi := tabL_at (t := t) (i := p) (by omega)
    obtain ⟨z, hz⟩ : ∃ z, z = (t.getD p.toNat 0 + 1 + r3 % max 1 ((n : Int) - 1)) % n := ⟨_, rfl⟩
    obtain ⟨v, hv⟩ : ∃ v, ixD (.lst [.int (-1), .int n, .int v4, .int z, .int z, .int 0, .int 0]) (.int r1) = some (.int v) := by
      have h : r1 = 0 ∨ r1 = 1 ∨ r1 = 2 ∨ r1 = 3 ∨ r1 = 4 := by omega
      rcases h with h | h | h | h | h <;> subst h <;> exact ⟨_, rfl⟩
    have hs := setD_L (t := t) (i := p) (v := v) (by omega)
    refine hres (t.set p.toNat v) (by rw [List.length_set]; omega) _ ?_
    · rw [hp] at hs hi hz
      rw [hz] at hv
      simp -dsimp -implicitDefEqProofs (disch := first | omega | (simp; done) | (simp; omega)) [exB_c, cap, b27, dropS, hixn, hp, hx, hx2, hle, hil, hs, hv, hi, ht, c5, c6, c7, c8, -List.getD_eq_getElem?_getD]
  · have ht0 : t.length = 0 := by omega
    have he : ∀ c : DL.R Fl, (∃ ρ', c = DL.R.ok (.rt (.sh (.lst (bs.map encL)))) ρ') → ∃ (bs' : List (List Int)) (ρ' : DL.Env), bs'.length = bs.length ∧ (∀ t ∈ bs', t.length ≤ L + 1) ∧ c = DL.R.ok (.rt (.sh (.lst (bs'.map encL)))) ρ' := fun c ⟨ρ', e⟩ => ⟨bs, ρ', rfl, fun u hu => by have := hb u hu; omega, e⟩
    apply he
    · skip
      simp -dsimp -implicitDefEqProofs (disch := first | omega | (simp; done) | (simp; omega)) [exB_c, cap, b27, dropS, hixn, hp, hx, hx2, hle, hil, ht, ht0, c5, c7, c8]
theorem r27 {ss : List Sy} {n : Nat} {bs : List (List Int)} {row : List Int} {v4 : Int} {L : Nat} (hk : 1 ≤ k) (w : WfS ss) (hs : 0 < ss.length) (hn : 0 < n ∧ n < 100) (hl : bs.length = ss.length) (hb : ∀ t ∈ bs, t.length ≤ L) (hL : 10000 ≤ L ∧ L ≤ 50000) (hd : Dig row [12, 9, 1600, 40]) :
    ∃ bs' : List (List Int), bs'.length = bs.length ∧ (∀ t ∈ bs', t.length ≤ L + 1) ∧
    runP T k 27 [.lst (ss.map encS), .int n, .lst (bs.map encL), .lst (row.map .int), .int v4] = .ok (.sh (.lst (bs'.map encL))) := by
  obtain ⟨k, rfl⟩ : ∃ j, k = j + 1 := ⟨k - 1, by omega⟩
  have hrl := hd.len
  match row, hrl with
  | [r0, r1, r2, r3], _ =>
  have d0 := hd.rng 0 r0 12 rfl rfl
  have d1 := hd.rng 1 r1 9 rfl rfl
  have d2 := hd.rng 2 r2 1600 rfl rfl
  have d3 := hd.rng 3 r3 40 rfl rfl
  obtain ⟨a, cr, ha, hpre⟩ := r27_pre (k := k) (n := n) (r1 := r1) (r2 := r2) (r3 := r3) (v4 := v4) w hs hl d0.1
  obtain ⟨bs', ρ', h1, h2, h3⟩ := r27_rest (k := k) (r0 := r0) (r1 := r1) (r2 := r2) (r3 := r3) (v4 := v4) (a := a) (cr := cr) w hn hl hb hL d1 d2 d3.1 ha
  refine ⟨bs', h1, h2, ?_⟩
  have e : b27 = preS 4 b27 (dropS 4 b27) := rfl
  rw [u27, e]
  have hpre := hpre (dropS 4 b27)
  rw [h3] at hpre
  exact congrArg outFn hpre
end Cr

set_option maxHeartbeats 1000000
namespace Cr
open DL PySem L2
variable {k : Nat}
abbrev No (n : Nat) : DL.Env := List.replicate n none
theorem dig_lst {row : List Int} {c m : Int} (hk : 1 ≤ k) (hm : 0 ≤ m ∧ m ≤ 900) {v : Int} (hv : 0 < v ∧ v < 1000000) : ∃ row, Dig row (List.replicate m.toNat v) ∧ runP T k 18 [.int c, encL (List.replicate m.toNat v)] = .ok (.ow (.lst (row.map .int))) :=
  r18 hk (fun y hy => by rw [List.eq_of_mem_replicate hy]; exact hv) (by rw [List.length_replicate]; omega)
theorem r29_a {ns : List Int} (hk : 2 ≤ k) :
    ∃ (ss : List Sy) (sh : List Int) (n : Nat) (bs : List (List Int)) (o5 : Option Cell), SG ss ∧ Dig sh [8, 44, 6, 8, 8, 6, 6] ∧ (0 < n ∧ n ≤ 40) ∧ bs.length = ss.length ∧ (∀ i < ss.length, tabB n (syD ss i) (bs.getD i []) = true) ∧
    ∀ R : Sms, exB (T.pg (runP T k)) (preS 6 b29 R) [some (.sh (.lst (ns.map .int))), none, none, none, none, none, none, none, none, none, none, none, none, none, none, none, none, none, none, none, none, none] =
      exB (T.pg (runP T k)) R [some (.sh (.lst (ns.map .int))), some (.ow (.lst (ss.map encS))), some (.ow (.lst (sh.map .int))), some (.sh (.int n)), some (.sh (.lst (bs.map encL))), o5, some (.ow (.lst (bs.map encL))), none, none, none, none, none, none, none, none, none, none, none, none, none, none, none] := by
  obtain ⟨z0, c0⟩ := r17 (k := k) (ns := ns) (j := 0) (by omega) (by omega)
  obtain ⟨z1, c1⟩ := r17 (k := k) (ns := ns) (j := 1) (by omega) (by omega)
  obtain ⟨row0, d0, e0⟩ := r18 (k := k) (c := z0) (sizes := [10, 6, 4, 3, 4, 3, 720, 12]) (by omega) (by decide) (by decide)
  obtain ⟨ss, sg, e24⟩ := r24 (k := k) hk d0
  obtain ⟨sh, d1, e1⟩ := r18 (k := k) (c := z1) (sizes := [8, 44, 6, 8, 8, 6, 6]) (by omega) (by decide) (by decide)
  have hfew := sg.few
  have hsl := d1.len
  match sh, hsl with
  | [h0, h1, h2, h3, h4, h5, h6], _ =>
  have b0 := d1.rng 0 h0 8 rfl rfl
  have b1 := d1.rng 1 h1 44 rfl rfl
  have b2 := d1.rng 2 h2 6 rfl rfl
  have b3 := d1.rng 3 h3 8 rfl rfl
  have b4 := d1.rng 4 h4 8 rfl rfl
  have b5 := d1.rng 5 h5 6 rfl rfl
  have b6 := d1.rng 6 h6 6 rfl rfl
  obtain ⟨n, hn, hix⟩ : ∃ n : Nat, (0 < n ∧ n ≤ 40) ∧ ixD (.lst [.int (min 40 (1 + h1)), .int 1, .int 2, .int 2, .int 3, .int 3, .int 4, .int 5]) (.int h0) = some (.int n) := by
    have h : h0 = 0 ∨ h0 = 1 ∨ h0 = 2 ∨ h0 = 3 ∨ h0 = 4 ∨ h0 = 5 ∨ h0 = 6 ∨ h0 = 7 := by omega
    rcases h with h | h | h | h | h | h | h | h <;> subst h
    · refine ⟨(min 40 (1 + h1)).toNat, by omega, ?_⟩
      have : (((min 40 (1 + h1)).toNat : Nat) : Int) = min 40 (1 + h1) := by omega
      rw [this]; rfl
    · exact ⟨1, by omega, rfl⟩
    · exact ⟨2, by omega, rfl⟩
    · exact ⟨2, by omega, rfl⟩
    · exact ⟨3, by omega, rfl⟩
    · exact ⟨3, by omega, rfl⟩
    · exact ⟨4, by omega, rfl⟩
    · exact ⟨5, by omega, rfl⟩
  obtain ⟨ρ', e, bs, o5, hbl, hbt, hρ⟩ := forB_rng (P := T.pg (runP T k)) (t := .n 5) (b := b29_f1) ss.length (fun j ρ => ∃ (bs : List (List Int)) (o5 : Option Cell), bs.length = j ∧ (∀ i < j, tabB n (syD ss i) (bs.getD i []) = true) ∧ ρ = [some (.sh (.lst (ns.map .int))), some (.ow (.lst (ss.map encS))), some (.ow (.lst [.int h0, .int h1, .int h2, .int h3, .int h4, .int h5, .int h6])), some (.sh (.int n)), some (.ow (.lst (bs.map encL))), o5, none, none, none, none, none, none, none, none, none, none, none, none, none, none, none, none]) (fun j ρ hj ⟨bs, o5, hbl, hbt, hρ⟩ => by
    subst hρ
    have x1 : ixD (.lst (ss.map encS)) (.int j) = some (encS ss[j]) := by
      rw [ixD_lst (by rw [List.length_map]; omega), List.getElem?_map, Int.toNat_natCast, List.getElem?_eq_getElem hj]; rfl
    have es : syD ss j = ss[j] := by unfold syD; rw [List.getD_eq_getElem?_getD, List.getElem?_eq_getElem hj]; rfl
    obtain ⟨z, cz⟩ := r17 (k := k) (ns := ns) (j := 2 + j) (by omega) (by omega)
    have ez : ((2 + j : Nat) : Int) = 2 + (j : Int) := by omega
    rw [ez] at cz
    have hb := binD_mulI (v := 60) (m := 36) (by omega)
    obtain ⟨row, dr, er⟩ := dig_lst (k := k) (row := []) (c := z) (m := 36) (v := 60) (by omega) (by omega) (by omega)
    have hrl := dr.len
    have hr36 : (36 : Int).toNat = 36 := rfl
    rw [List.length_replicate, hr36] at hrl
    have hm : ss[j] ∈ ss := List.getElem_mem hj
    obtain ⟨q, hq⟩ : ∃ q, q = List.replicate (36 : Int).toNat (60 : Int) := ⟨_, rfl⟩
    rw [← hq] at hb er
    have eq : encL q = .lst (q.map .int) := rfl
    rw [eq] at hb er
    clear hq
    obtain ⟨t, ht, e26⟩ := r26 (k := k) (n := n) (s := ss[j]) (row := row) (by omega) (by omega) (sg.w.ar _ hm) (sg.w.tw _ hm) (by omega)
    refine ⟨_, ?_, bs ++ [t], some (.sh (.int j)), by rw [List.length_append, hbl]; rfl, fun i hi => ?_, rfl⟩
    · rw [stepB_n (by simp)]
      generalize ss[j] = s at *
      simp -dsimp -implicitDefEqProofs (disch := first | omega | (simp; done) | (simp; omega)) [exB_c, cap, b29_f1, x1, cz, hb, er, e26, encL]
    · by_cases z : i < j
      · have : (bs ++ [t]).getD i [] = bs.getD i [] := by
          rw [List.getD_eq_getElem?_getD, List.getD_eq_getElem?_getD, List.getElem?_append_left (by omega)]
        rw [this]
        exact hbt i z
      · have hij : i = j := by omega
        subst hij
        have : (bs ++ [t]).getD i [] = t := by
          rw [List.getD_eq_getElem?_getD, List.getElem?_append_right (by omega), hbl]; simp
        rw [this, es]
        exact ht) _ ⟨[], none, rfl, (fun i hi => by omega), rfl⟩
  subst hρ
  obtain ⟨ρ2, l1, l2⟩ := lc_mapW (P := T.pg (runP T k)) (e := b29_e1) (own := [19]) (t := .n 19) (c := .n) (enc := encL) (xs := bs) encL (ρ := [some (.sh (.lst (ns.map .int))), some (.ow (.lst (ss.map encS))), some (.ow (.lst [.int h0, .int h1, .int h2, .int h3, .int h4, .int h5, .int h6])), some (.sh (.int n)), some (.sh (.lst (bs.map encL))), o5, none, none, none, none, none, none, none, none, none, none, none, none, none, none, none, none]) [some (.sh (.lst (ns.map .int))), some (.ow (.lst (ss.map encS))), some (.ow (.lst [.int h0, .int h1, .int h2, .int h3, .int h4, .int h5, .int h6])), some (.sh (.int n)), some (.ow (.lst (bs.map encL))), o5, none, none, none, none, none, none, none, none, none, none, none, none, none, none, none, none] (fun t ht => by
    unfold turnB
    simp -dsimp -implicitDefEqProofs (disch := first | omega | (simp; done) | (simp; omega)) [exB_c, cap, wipeE, b29_e1, encL]) (by omega) (by simp [backE, backC])
  refine ⟨ss, _, n, bs, o5, sg, d1, hn, hbl, hbt, fun R => ?_⟩
  simp only [List.map_cons, List.map_nil] at e0 e1 e24 c0 c1
  have c0 : runP T k 17 [.lst (ns.map .int), .int 0] = .ok (.sh (.int z0)) := c0
  have c1 : runP T k 17 [.lst (ns.map .int), .int 1] = .ok (.sh (.int z1)) := c1
  simp only [List.map_nil] at e
  simp -dsimp -implicitDefEqProofs (disch := first | omega | (simp; done) | (simp; omega)) [exB_c, cap, b29, preS, c0, c1, e0, e1, e24, hix, e, l1, l2]
end Cr

set_option maxHeartbeats 1000000
namespace Cr
open DL PySem L2
variable {k : Nat}
theorem r29_b {ns : List Int} {ss : List Sy} {h0 h1 h2 h3 h4 h5 h6 : Int} {n : Nat} {bs : List (List Int)} {o50 : Option Cell} (hk : 2 ≤ k) (sg : SG ss) (b2 : 0 ≤ h2 ∧ h2 < 6) (hn : 0 < n ∧ n ≤ 40) (hbl : bs.length = ss.length) (hb : ∀ t ∈ bs, t.length ≤ 10000) :
    ∃ (bs2 : List (List Int)) (c1 c6 : Cell) (o5 o7 o8 : Option Cell), bs2.length = ss.length ∧ (∀ t ∈ bs2, t.length ≤ 10010) ∧ (c1 = .ow (.lst (ss.map encS)) ∨ c1 = .sh (.lst (ss.map encS))) ∧ (c6 = .ow (.lst (bs2.map encL)) ∨ c6 = .sh (.lst (bs2.map encL))) ∧
    ∀ R : Sms, exB (T.pg (runP T k)) (preS 1 (dropS 6 b29) R) [some (.sh (.lst (ns.map .int))), some (.ow (.lst (ss.map encS))), some (.ow (.lst [.int h0, .int h1, .int h2, .int h3, .int h4, .int h5, .int h6])), some (.sh (.int n)), some (.sh (.lst (bs.map encL))), o50, some (.ow (.lst (bs.map encL))), none, none, none, none, none, none, none, none, none, none, none, none, none, none, none] =
      exB (T.pg (runP T k)) R [some (.sh (.lst (ns.map .int))), some c1, some (.ow (.lst [.int h0, .int h1, .int h2, .int h3, .int h4, .int h5, .int h6])), some (.sh (.int n)), some (.sh (.lst (bs.map encL))), o5, some c6, o7, o8, none, none, none, none, none, none, none, none, none, none, none, none, none] := by
  have hfew := sg.few
  obtain ⟨m, hm, hix⟩ : ∃ m : Nat, m ≤ 3 ∧ ixD (.lst [.int 0, .int 1, .int 1, .int 1, .int 2, .int 3]) (.int h2) = some (.int m) := by
    have h : h2 = 0 ∨ h2 = 1 ∨ h2 = 2 ∨ h2 = 3 ∨ h2 = 4 ∨ h2 = 5 := by omega
    rcases h with h | h | h | h | h | h <;> subst h
    · exact ⟨0, by omega, rfl⟩
    · exact ⟨1, by omega, rfl⟩
    · exact ⟨1, by omega, rfl⟩
    · exact ⟨1, by omega, rfl⟩
    · exact ⟨2, by omega, rfl⟩
    · exact ⟨3, by omega, rfl⟩
  obtain ⟨ρ', e, bs2, c1, c6, o5, o7, o8, q1, q2, q3, q4, hρ⟩ := forB_rng (P := T.pg (runP T k)) (t := .n 5) (b := b29_f2) m (fun j ρ => ∃ (bs2 : List (List Int)) (c1 c6 : Cell) (o5 o7 o8 : Option Cell), bs2.length = ss.length ∧ (∀ t ∈ bs2, t.length ≤ 10000 + j) ∧ (c1 = .ow (.lst (ss.map encS)) ∨ c1 = .sh (.lst (ss.map encS))) ∧ (c6 = .ow (.lst (bs2.map encL)) ∨ c6 = .sh (.lst (bs2.map encL))) ∧
      ρ = [some (.sh (.lst (ns.map .int))), some c1, some (.ow (.lst [.int h0, .int h1, .int h2, .int h3, .int h4, .int h5, .int h6])), some (.sh (.int n)), some (.sh (.lst (bs.map encL))), o5, some c6, o7, o8, none, none, none, none, none, none, none, none, none, none, none, none, none]) (fun j ρ hj ⟨bs2, c1, c6, o5, o7, o8, q1, q2, q3, q4, hρ⟩ => by
    subst hρ
    by_cases hs : 0 < ss.length
    · obtain ⟨z, cz⟩ := r17 (k := k) (ns := ns) (j := 14 + 2 * j) (by omega) (by omega)
      obtain ⟨y, cy⟩ := r17 (k := k) (ns := ns) (j := 15 + 2 * j) (by omega) (by omega)
      have ez : ((14 + 2 * j : Nat) : Int) = 14 + 2 * (j : Int) := by omega
      have ey : ((15 + 2 * j : Nat) : Int) = 15 + 2 * (j : Int) := by omega
      rw [ez] at cz
      rw [ey] at cy
      obtain ⟨row, dr, er⟩ := r18 (k := k) (c := z) (sizes := [12, 9, 1600, 40]) (by omega) (by decide) (by decide)
      simp only [List.map_cons, List.map_nil] at er
      obtain ⟨bs3, w1, w2, w3⟩ := r27 (k := k) (n := n) (v4 := y % 10000000000000000000000000000000000000000 - 100000000000000000000) (L := 10000 + j) (by omega) sg.w hs (by omega) q1 q2 (by omega) dr
      refine ⟨_, ?_, bs3, .sh (.lst (ss.map encS)), .sh (.lst (bs3.map encL)), some (.sh (.int j)), some (.sh (.lst (row.map .int))), some (.sh (.int (y % 10000000000000000000000000000000000000000 - 100000000000000000000))), by rw [w1, q1], by intro t ht; have := w2 t ht; omega, .inr rfl, .inr rfl, rfl⟩
      rw [stepB_n (by simp)]
      rcases q3 with q3 | q3 <;> rcases q4 with q4 | q4 <;> subst q3 <;> subst q4 <;> simp -dsimp -implicitDefEqProofs (disch := first | omega | (simp; done) | (simp; omega)) [exB_c, cap, b29_f2, hs, cz, cy, er, w3, binD_mulR]
    · have hs0 : ss.length = 0 := by omega
      refine ⟨_, ?_, bs2, c1, c6, some (.sh (.int j)), o7, o8, q1, by intro t ht; have := q2 t ht; omega, q3, q4, rfl⟩
      rw [stepB_n (by simp)]
      rcases q3 with q3 | q3 <;> subst q3 <;> simp -dsimp -implicitDefEqProofs (disch := first | omega | (simp; done) | (simp; omega)) [exB_c, cap, b29_f2, hs, hs0]) _ ⟨bs, _, _, o50, none, none, hbl, (by intro t ht; have := hb t ht; omega), .inl rfl, .inl rfl, rfl⟩
  subst hρ
  refine ⟨bs2, c1, c6, o5, o7, o8, q1, (by intro t ht; have := q2 t ht; omega), q3, q4, fun R => ?_⟩
  simp -dsimp -implicitDefEqProofs (disch := first | omega | (simp; done) | (simp; omega)) [exB_c, cap, b29, preS, dropS, hix, e]
end Cr

set_option maxHeartbeats 1000000
namespace Cr
open DL PySem L2
variable {k : Nat}
theorem r29_c {ns : List Int} {ss : List Sy} {h0 h1 h2 h3 h4 h5 h6 : Int} {n : Nat} {bs : List (List Int)} {c1 c6 : Cell} {o5 o7 o8 : Option Cell} (hk : 2 ≤ k) (sg : SG ss) (b1 : 0 ≤ h1 ∧ h1 < 44) (b3 : 0 ≤ h3 ∧ h3 < 8) (b4 : 0 ≤ h4 ∧ h4 < 8) (q1 : c1 = .ow (.lst (ss.map encS)) ∨ c1 = .sh (.lst (ss.map encS))) :
    ∃ (c m : Nat) (lv : DL.D) (t : Tm), c ≤ 6 ∧ m ≤ 100 ∧ TG ss (namesL h3.toNat 6) 30 30 t ∧ (0 < m → ∃ s ∈ ss, 0 < s.2.1) ∧ ∃ wd : List DL.D, wd.length = m ∧
    ∀ R : Sms, exB (T.pg (runP T k)) (preS 5 (dropS 7 b29) R) [some (.sh (.lst (ns.map .int))), some c1, some (.ow (.lst [.int h0, .int h1, .int h2, .int h3, .int h4, .int h5, .int h6])), some (.sh (.int n)), some (.sh (.lst (bs.map encL))), o5, some c6, o7, o8, none, none, none, none, none, none, none, none, none, none, none, none, none] =
      exB (T.pg (runP T k)) R [some (.sh (.lst (ns.map .int))), some (.sh (.lst (ss.map encS))), some (.ow (.lst [.int h0, .int h1, .int h2, .int h3, .int h4, .int h5, .int h6])), some (.sh (.int n)), some (.sh (.lst (bs.map encL))), o5, some c6, o7, o8, some (.ow (.lst ((namesL h3.toNat 6).map .str))), some (.ow (.lst (((namesL h3.toNat 6).take c).map .str))), some (.ow lv), some (.sh (encM t)), some (.ow (.lst wd)), none, none, none, none, none, none, none, none] := by
  have hfew := sg.few
  have e22 := r22 (k := k) (d := h3.toNat) (m := 6) (by omega) (by omega)
  have ed : ((h3.toNat : Nat) : Int) = h3 := by omega
  rw [ed] at e22
  have hnl := namesL_len h3.toNat 6
  obtain ⟨names, hnames⟩ : ∃ names, names = namesL h3.toNat 6 := ⟨_, rfl⟩
  rw [← hnames] at e22 hnl ⊢
  obtain ⟨c, hc, hix⟩ : ∃ c : Nat, c ≤ 6 ∧ ixD (.lst [.int 4, .int 3, .int 6, .int 2, .int 5, .int 3, .int 1, .int 0]) (.int h4) = some (.int c) := by
    have h : h4 = 0 ∨ h4 = 1 ∨ h4 = 2 ∨ h4 = 3 ∨ h4 = 4 ∨ h4 = 5 ∨ h4 = 6 ∨ h4 = 7 := by omega
    rcases h with h | h | h | h | h | h | h | h <;> subst h
    · exact ⟨4, by omega, rfl⟩
    · exact ⟨3, by omega, rfl⟩
    · exact ⟨6, by omega, rfl⟩
    · exact ⟨2, by omega, rfl⟩
    · exact ⟨5, by omega, rfl⟩
    · exact ⟨3, by omega, rfl⟩
    · exact ⟨1, by omega, rfl⟩
    · exact ⟨0, by omega, rfl⟩
  have hsl := slD_toL (xs := names.map DL.D.str) (h := (c : Int)) (by omega)
  rw [Int.toNat_natCast, ← List.map_take] at hsl
  obtain ⟨x0, rest, hx0⟩ : ∃ x0 rest, names = x0 :: rest := by
    cases names with
    | nil => cases hnl
    | cons x0 rest => exact ⟨x0, rest, rfl⟩
  subst hx0
  obtain ⟨sw, hsw⟩ : ∃ sw, sw = ((x0 :: rest).take c).map DL.D.str := ⟨_, rfl⟩
  rw [← hsw] at hsl
  obtain ⟨lv, hlv⟩ : ∃ lv : List Tm, lv = Tm.v x0 :: (ss.filter fun s : Sy => decide (s.2.1 = 0)).map fun s => Tm.c s.1 := ⟨_, rfl⟩
  have elv : DL.D.str x0 :: (ss.filter fun s : Sy => decide (s.2.1 = 0)).map (fun s => encM (.c s.1)) = lv.map encM := by
    rw [hlv, List.map_cons, List.map_map]; rfl
  have hlvl : 0 < lv.length ∧ lv.length ≤ 100 := by
    rw [hlv]
    have := List.length_filter_le (fun s : Sy => decide (s.2.1 = 0)) ss
    simp only [List.length_cons, List.length_map]
    omega
  have hlf := List.length_filter_le (fun s : Sy => decide (s.2.1 = 0)) ss
  obtain ⟨t, htm, hti⟩ := ix_mod (f := encM) (xs := lv) (z := h1) hlvl.1
  have htg : TG ss (x0 :: rest) 30 30 t := by
    rw [hlv] at htm
    rcases List.mem_cons.mp htm with z | z
    · subst z
      exact ⟨trivial, by simp [Tm.ht], fun y hy => by rw [List.mem_singleton.mp hy]; exact List.mem_cons_self, by simp [Tm.vars]⟩
    · obtain ⟨s, hs, e⟩ := List.mem_map.mp z
      subst e
      obtain ⟨hs1, hs2⟩ := List.mem_filter.mp hs
      have hs2 := of_decide_eq_true hs2
      obtain ⟨f, a, tw⟩ := s
      have hs2 : a = 0 := hs2
      subst hs2
      exact ⟨⟨tw, hs1⟩, by simp [Tm.ht], (fun y hy => by cases hy), by simp [Tm.vars]⟩
  refine ⟨c, _, .lst (lv.map encM), t, hc, ?_, htg, ?_, (ss.filter fun s : Sy => decide (0 < s.2.1)).map encS, rfl, fun R => ?_⟩
  · rw [List.length_map]
    have := List.length_filter_le (fun s : Sy => decide (0 < s.2.1)) ss
    omega
  · intro h
    rw [List.length_map] at h
    obtain ⟨s, hs⟩ := List.exists_mem_of_length_pos h
    obtain ⟨hs1, hs2⟩ := List.mem_filter.mp hs
    exact ⟨s, hs1, of_decide_eq_true hs2⟩
  rw [← hsw]
  obtain ⟨ρ1, l1, l2⟩ := lc_filterW (P := T.pg (runP T k)) (e := b29_e2) (own := [20]) (t := .n 20) (c := b29_c1) (enc := encS) (xs := ss) (fun s : Sy => decide (s.2.1 = 0)) (fun s => encM (.c s.1)) (ρ := [some (.sh (.lst (ns.map .int))), some (.sh (.lst (ss.map encS))), some (.ow (.lst [.int h0, .int h1, .int h2, .int h3, .int h4, .int h5, .int h6])), some (.sh (.int n)), some (.sh (.lst (bs.map encL))), o5, some c6, o7, o8, some (.ow (.lst ((x0 :: rest).map .str))), some (.ow (.lst sw)), none, none, none, none, none, none, none, none, none, none, none]) [some (.sh (.lst (ns.map .int))), some c1, some (.ow (.lst [.int h0, .int h1, .int h2, .int h3, .int h4, .int h5, .int h6])), some (.sh (.int n)), some (.sh (.lst (bs.map encL))), o5, some c6, o7, o8, some (.ow (.lst ((x0 :: rest).map .str))), some (.ow (.lst sw)), none, none, none, none, none, none, none, none, none, none, none] (fun s hs => by
    obtain ⟨f, a, tw⟩ := s
    unfold turnB
    by_cases h : a = 0
    · simp -dsimp -implicitDefEqProofs (disch := first | omega | (simp; done) | (simp; omega)) [exB_c, cap, wipeE, b29_c1, b29_e2, encS, encM, h]
    · simp -dsimp -implicitDefEqProofs (disch := first | omega | (simp; done) | (simp; omega)) [exB_c, cap, wipeE, b29_c1, encS, h]) (by omega) (by simp [backE, backC])
  obtain ⟨ρ2, w1, w2⟩ := lc_filter (P := T.pg (runP T k)) (e := .v 20) (own := [20]) (t := .n 20) (c := b29_c2) (enc := encS) (xs := ss) (fun s : Sy => decide (0 < s.2.1)) encS (ρ := [some (.sh (.lst (ns.map .int))), some (.sh (.lst (ss.map encS))), some (.ow (.lst [.int h0, .int h1, .int h2, .int h3, .int h4, .int h5, .int h6])), some (.sh (.int n)), some (.sh (.lst (bs.map encL))), o5, some c6, o7, o8, some (.ow (.lst ((x0 :: rest).map .str))), some (.ow (.lst sw)), some (.ow (.lst (lv.map encM))), some (.sh (encM t)), none, none, none, none, none, none, none, none, none]) (fun s hs => by
    obtain ⟨f, a, tw⟩ := s
    unfold turnB
    by_cases h : 0 < a
    · simp -dsimp -implicitDefEqProofs (disch := first | omega | (simp; done) | (simp; omega)) [exB_c, cap, wipeE, b29_c2, encS, h]
    · simp -dsimp -implicitDefEqProofs (disch := first | omega | (simp; done) | (simp; omega)) [exB_c, cap, wipeE, b29_c2, encS, h]) (by omega) (by simp [backE, backC])
  have e22 : runP T k 22 [.int h3, .int 6] = _ := e22
  simp only [List.map_cons] at hsl e22 l1 l2 w1 w2
  rcases q1 with q1 | q1 <;> subst q1 <;> simp -dsimp -implicitDefEqProofs (disch := first | omega | (simp; done) | (simp; omega)) [exB_c, cap, b29, preS, dropS, e22, hix, hsl, l1, l2, elv, hti, w1, w2]
end Cr

set_option maxHeartbeats 1000000
namespace Cr
open DL PySem L2
variable {k : Nat}
theorem r29_d {ns : List Int} {ss : List Sy} {h0 h1 h2 h3 h4 h5 h6 : Int} {n c m : Nat} {bs : List (List Int)} {c6 : Cell} {o5 o7 o8 : Option Cell} {names : List Str} {lv : DL.D} {t0 : Tm} {wd : List DL.D} (hk : 5 ≤ k) (sg : SG ss) (b5 : 0 ≤ h5 ∧ h5 < 6) (hnl : names.length = 6) (hc : c ≤ 6) (tg : TG ss names 30 30 t0) (hw : 0 < m → ∃ s ∈ ss, 0 < s.2.1) (hwd : wd.length = m) (hm : m ≤ 100) :
    ∃ (t : Tm) (c10 : Cell) (o14 : Option Cell), TG ss names 30 30 t ∧
    ∀ R : Sms, exB (T.pg (runP T k)) (preS 1 (dropS 12 b29) R) [some (.sh (.lst (ns.map .int))), some (.sh (.lst (ss.map encS))), some (.ow (.lst [.int h0, .int h1, .int h2, .int h3, .int h4, .int h5, .int h6])), some (.sh (.int n)), some (.sh (.lst (bs.map encL))), o5, some c6, o7, o8, some (.ow (.lst (names.map .str))), some (.ow (.lst ((names.take c).map .str))), some (.ow lv), some (.sh (encM t0)), some (.ow (.lst wd)), none, none, none, none, none, none, none, none] =
      exB (T.pg (runP T k)) R [some (.sh (.lst (ns.map .int))), some (.sh (.lst (ss.map encS))), some (.ow (.lst [.int h0, .int h1, .int h2, .int h3, .int h4, .int h5, .int h6])), some (.sh (.int n)), some (.sh (.lst (bs.map encL))), o5, some c6, o7, o8, some (.ow (.lst (names.map .str))), some c10, some (.ow lv), some (.sh (encM t)), some (.ow (.lst wd)), o14, none, none, none, none, none, none, none] := by
  have hfew := sg.few
  have hsub : ∀ {h v : Nat} {t : Tm}, TG ss (names.take c) h v t → h ≤ 30 → v ≤ 30 → TG ss names 30 30 t := fun g h1 h2 => ⟨g.wf, by have := g.ht; omega, fun x hx => List.mem_of_mem_take (g.vs x hx), by have := g.few; omega⟩
  have hshl : (names.take c).length ≤ 8 := by rw [List.length_take]; omega
  obtain ⟨z, cz⟩ := r17 (k := k) (ns := ns) (j := 20) (by omega) (by omega)
  have cz : runP T k 17 [.lst (ns.map .int), .int 20] = .ok (.sh (.int z)) := cz
  by_cases hm0 : 0 < m
  · have hwide := hw hm0
    have hcon := sg.con hwide
    have hm1 : 0 < wd.length := by omega
    by_cases h5z : h5 = 0
    · subst h5z
      have hb := binD_mulI (v := 10080) (m := 30) (by omega)
      obtain ⟨row, dr, er⟩ := dig_lst (k := k) (row := []) (c := z) (m := 30) (v := 10080) (by omega) (by omega) (by omega)
      have hrl := dr.len
      have hr30 : (30 : Int).toNat = 30 := rfl
      rw [List.length_replicate, hr30] at hrl
      obtain ⟨q, hq⟩ : ∃ q, q = List.replicate (30 : Int).toNat (10080 : Int) := ⟨_, rfl⟩
      have hrng : ∀ x ∈ row, 0 ≤ x := fun x hx => by
        obtain ⟨i, hi, e⟩ := List.getElem_of_mem hx
        exact (dr.rng i x 10080 (by rw [List.getElem?_eq_getElem hi, e]) (by rw [hr30, List.getElem?_replicate, if_pos (by omega)])).1
      rw [← hq] at hb er
      have eq : encL q = .lst (q.map .int) := rfl
      rw [eq] at hb er
      clear hq dr
      obtain ⟨y, rest, hy⟩ : ∃ y rest, row = y :: rest := by
        cases row with
        | nil => cases hrl
        | cons y rest => exact ⟨y, rest, rfl⟩
      have hy0 := hrng y (by rw [hy]; exact List.mem_cons_self)
      have hmod : 0 ≤ y / 12 % 29 ∧ y / 12 % 29 < 29 := ⟨Int.emod_nonneg _ (by omega), Int.emod_lt_of_pos _ (by omega)⟩
      obtain ⟨t, ht, e25⟩ := r25 (k := k) (names := names.take c) (row := row) (many := (1 + y / 12 % 29).toNat) (by omega) sg hcon hwide hshl hrng hrl (by omega)
      have em : (((1 + y / 12 % 29).toNat : Nat) : Int) = 1 + y / 12 % 29 := by omega
      rw [em] at e25
      have hx0 : ixD (.lst (row.map DL.D.int)) (.int 0) = some (.int y) := by rw [hy, ixD_lst (by simp)]; rfl
      refine ⟨t, .sh (.lst ((names.take c).map .str)), some (.sh (.lst (row.map .int))), hsub ht (by omega) (by omega), fun R => ?_⟩
      clear hy
      generalize (names.take c).map DL.D.str = sw at *
      simp -dsimp -implicitDefEqProofs (disch := first | omega | (simp; done) | (simp; omega)) [exB_c, cap, b29, preS, dropS, hm1, cz, hb, er, hx0, e25]
    · have hb := binD_mulI (v := 1200) (m := 15) (by omega)
      obtain ⟨row, dr, er⟩ := dig_lst (k := k) (row := []) (c := z) (m := 15) (v := 1200) (by omega) (by omega) (by omega)
      have hrl := dr.len
      have hr15 : (15 : Int).toNat = 15 := rfl
      rw [List.length_replicate, hr15] at hrl
      obtain ⟨q, hq⟩ : ∃ q, q = List.replicate (15 : Int).toNat (1200 : Int) := ⟨_, rfl⟩
      have hrng : ∀ x ∈ row, 0 ≤ x := fun x hx => by
        obtain ⟨i, hi, e⟩ := List.getElem_of_mem hx
        exact (dr.rng i x 1200 (by rw [List.getElem?_eq_getElem hi, e]) (by rw [hr15, List.getElem?_replicate, if_pos (by omega)])).1
      rw [← hq] at hb er
      have eq : encL q = .lst (q.map .int) := rfl
      rw [eq] at hb er
      clear hq dr
      obtain ⟨d, hd, hix⟩ : ∃ d : Nat, d ≤ 3 ∧ ixD (.lst [.int 3, .int 2, .int 3, .int 3, .int 1, .int 3]) (.int h5) = some (.int d) := by
        have h : h5 = 0 ∨ h5 = 1 ∨ h5 = 2 ∨ h5 = 3 ∨ h5 = 4 ∨ h5 = 5 := by omega
        rcases h with h | h | h | h | h | h <;> subst h
        · exact ⟨3, by omega, rfl⟩
        · exact ⟨2, by omega, rfl⟩
        · exact ⟨3, by omega, rfl⟩
        · exact ⟨3, by omega, rfl⟩
        · exact ⟨1, by omega, rfl⟩
        · exact ⟨3, by omega, rfl⟩
      obtain ⟨t, a', ht, e20⟩ := r20 (ss := ss) (names := names.take c) (row := row) sg hcon hwide hshl hrng (by omega) d hd k (by omega) 0
      have e20 : runP T k 20 [.lst (ss.map encS), .lst ((names.take c).map .str), .lst (row.map .int), .int 0, .int d] = .ok (.ow (.lst [encM t, .int a'])) := e20
      have hp : 2 ^ d ≤ 2 ^ 3 := Nat.pow_le_pow_right (by omega) hd
      refine ⟨t, .sh (.lst ((names.take c).map .str)), some (.sh (.lst (row.map .int))), hsub ht (by omega) (by omega), fun R => ?_⟩
      generalize (names.take c).map DL.D.str = sw at *
      simp -dsimp -implicitDefEqProofs (disch := first | omega | (simp; done) | (simp; omega)) [exB_c, cap, b29, preS, dropS, hm1, cz, hb, er, hix, e20, h5z]
  · have hm1 : wd.length = 0 := by omega
    refine ⟨t0, .ow (.lst ((names.take c).map .str)), none, tg, fun R => ?_⟩
    generalize (names.take c).map DL.D.str = sw at *
    simp -dsimp -implicitDefEqProofs (disch := first | omega | (simp; done) | (simp; omega)) [exB_c, cap, b29, preS, dropS, hm1]
end Cr

set_option maxHeartbeats 1000000
namespace Cr
open DL PySem L2
variable {k : Nat}
theorem lc_mapB {α : Type} {enc : α → DL.D} {P : Pg} {e : Ex} {own : List Nat} {t : Tg} {c : Cdo} {xs : List α} (h : α → DL.D) {ρ : DL.Env} (ρ0 E : DL.Env) (hs : ∀ x ∈ xs, okW (turnB P e t c (enc x) (wipeE ρ own)) [h x] (fun ρ' => wipeE ρ' own = wipeE ρ own)) (hl : xs.length ≤ 16777216) (hb : backE ρ0 ρ own = E) :
    ∃ ρ', lcB P e own t c (xs.map enc) ρ = .ok (xs.map h) ρ' ∧ backE ρ0 ρ' own = E := by
  obtain ⟨ρ', e1, e2⟩ := lc_val (g := fun x => [h x]) (fun x hx => okW_ex (hs x hx)) (by rw [flat_one, List.length_map]; exact hl)
  exact ⟨ρ', by rw [e1, flat_one], (e2 ρ0).trans hb⟩
theorem backC_idem (o : Option Cell) : backC (backC o) = backC o := by
  cases o with
  | none => rfl
  | some c => cases c <;> rfl
theorem r29_e {ns : List Int} {ss : List Sy} {h0 h1 h2 h3 h4 h5 h6 : Int} {n : Nat} {bs bs2 : List (List Int)} {c6 c10 : Cell} {o5 o7 o8 o14 : Option Cell} {names : List Str} {lv : DL.D} {t : Tm} {wd : List DL.D} (hk : 2 ≤ k) (hn : 0 < n) (hnl : names.length = 6) (q6 : c6 = .ow (.lst (bs2.map encL)) ∨ c6 = .sh (.lst (bs2.map encL))) :
    ∃ (l l2 : List (Str × Int)), l.length ≤ 6 ∧ (∀ p ∈ l, 0 ≤ p.2 ∧ p.2 < (n : Int)) ∧ l2.length ≤ 6 ∧ (∀ p ∈ l2, 0 ≤ p.2 ∧ p.2 < (n : Int)) ∧ ∃ ρ' : DL.Env,
    exB (T.pg (runP T k)) (dropS 13 b29) [some (.sh (.lst (ns.map .int))), some (.sh (.lst (ss.map encS))), some (.ow (.lst [.int h0, .int h1, .int h2, .int h3, .int h4, .int h5, .int h6])), some (.sh (.int n)), some (.sh (.lst (bs.map encL))), o5, some c6, o7, o8, some (.ow (.lst (names.map .str))), some c10, some (.ow lv), some (.sh (encM t)), some (.ow (.lst wd)), o14, none, none, none, none, none, none, none] =
      .ok (.rt (.ow (.lst [.lst (ss.map encS), .int n, .lst (bs.map encL), .lst (bs2.map encL), encM t, .lst (l.map encP), .lst (l2.map encP), .int h6]))) ρ' := by
  obtain ⟨z, cz⟩ := r17 (k := k) (ns := ns) (j := 21) (by omega) (by omega)
  have cz : runP T k 17 [.lst (ns.map .int), .int 21] = .ok (.sh (.int z)) := cz
  have hb : binD .mul (.lst [.int 40]) (.int 6) = some (.ow (.lst [.int 40, .int 40, .int 40, .int 40, .int 40, .int 40])) := binD_mulI (v := 40) (m := 6) (by omega)
  obtain ⟨row, dr, er⟩ := r18 (k := k) (c := z) (sizes := [40, 40, 40, 40, 40, 40, 128, 6]) (by omega) (by decide) (by decide)
  simp only [List.map_cons, List.map_nil] at er
  have hrl : row.length = 8 := dr.len
  have hri : ∀ (i : Nat) (h : i < 8), ixD (.lst (row.map DL.D.int)) (.int (i : Int)) = some (.int (row.getD i 0)) := fun i h => by
    have := tabL_at (t := row) (i := (i : Int)) (by omega)
    rw [Int.toNat_natCast] at this
    exact this
  have hni : ∀ (i : Nat) (h : i < 6), ixD (.lst (names.map DL.D.str)) (.int (i : Int)) = some (.str (names.getD i "")) := fun i h => by
    have h1 : i < names.length := by omega
    rw [ixD_lst (by rw [List.length_map]; omega), List.getElem?_map, Int.toNat_natCast, List.getD_eq_getElem?_getD, List.getElem?_eq_getElem h1]; rfl
  have e6 : ixD (.lst (row.map DL.D.int)) (.int 6) = some (.int (row.getD 6 0)) := hri 6 (by omega)
  have e7 : ixD (.lst (row.map DL.D.int)) (.int 7) = some (.int (row.getD 7 0)) := hri 7 (by omega)
  have b6 : 0 ≤ row.getD 6 0 ∧ row.getD 6 0 < 128 := dr.rng 6 _ 128 (by rw [List.getD_eq_getElem?_getD, List.getElem?_eq_getElem (by omega)]; rfl) rfl
  have b7 : 0 ≤ row.getD 7 0 ∧ row.getD 7 0 < 6 := dr.rng 7 _ 6 (by rw [List.getD_eq_getElem?_getD, List.getElem?_eq_getElem (by omega)]; rfl) rfl
  obtain ⟨fn, hfn⟩ : ∃ fn : Nat → Str × Int, fn = fun j => (names.getD j "", row.getD j 0 % (n : Int)) := ⟨_, rfl⟩
  obtain ⟨full0, hf0⟩ : ∃ full0 : List (Str × Int), full0 = (List.range 6).map fn := ⟨_, rfl⟩
  obtain ⟨full, hfu⟩ : ∃ full : List (Str × Int), full = full0.drop (row.getD 7 0).toNat ++ full0.take (row.getD 7 0).toNat := ⟨_, rfl⟩
  have hful : full.length = 6 := by
    rw [hfu, List.length_append, List.length_drop, List.length_take, hf0, List.length_map, List.length_range]; omega
  have hf0l : full0.length = 6 := by rw [hf0, List.length_map, List.length_range]
  have hfr : ∀ p ∈ full, 0 ≤ p.2 ∧ p.2 < (n : Int) := fun p hp => by
    have hp0 : p ∈ full0 := by
      rw [hfu] at hp
      rcases List.mem_append.mp hp with h | h
      · exact List.mem_of_mem_drop h
      · exact List.mem_of_mem_take h
    rw [hf0] at hp0
    obtain ⟨j, _, e⟩ := List.mem_map.mp hp0
    rw [← e, hfn]
    exact ⟨Int.emod_nonneg _ (by omega), Int.emod_lt_of_pos _ (by omega)⟩
  obtain ⟨pw, hpw⟩ : ∃ pw : Nat → Nat, pw = fun j => 2 ^ j := ⟨_, rfl⟩
  obtain ⟨pg, hpg⟩ : ∃ pg : Nat → Bool, pg = fun j => decide (row.getD 6 0 / ((pw j : Nat) : Int) % 2 = 1) && decide (row.getD 6 0 < 64) := ⟨_, rfl⟩
  obtain ⟨gone, hgo⟩ : ∃ gone : List Str, gone = ((List.range 6).filter pg).map fun j => names.getD j "" := ⟨_, rfl⟩
  have hgl : gone.length ≤ 6 := by
    rw [hgo, List.length_map]
    have := List.length_filter_le pg (List.range 6)
    rw [List.length_range] at this; exact this
  generalize hw6 : row.getD 6 0 = w6 at *
  generalize hw7 : row.getD 7 0 = w7 at *
  have s1 := slD_fromL (xs := full0.map encP) (h := w7) (by omega)
  have s2 := slD_toL (xs := full0.map encP) (h := w7) (by omega)
  rw [← List.map_drop] at s1
  rw [← List.map_take] at s2
  obtain ⟨d1, hd1⟩ : ∃ d1, d1 = (full0.drop w7.toNat).map encP := ⟨_, rfl⟩
  obtain ⟨d2, hd2⟩ : ∃ d2, d2 = (full0.take w7.toNat).map encP := ⟨_, rfl⟩
  rw [← hd1] at s1
  rw [← hd2] at s2
  have hd12 : d1 ++ d2 = full.map encP := by rw [hd1, hd2, hfu, List.map_append]
  have hl1 : d1.length + d2.length = 6 := by rw [← List.length_append, hd12, List.length_map, hful]
  obtain ⟨v5, hv5⟩ : ∃ v, backC o5 = v := ⟨_, rfl⟩
  have hvi : backC v5 = v5 := by rw [← hv5]; exact backC_idem o5
  obtain ⟨ρ1, l1, l2⟩ := lc_mapB (P := T.pg (runP T k)) (e := b29_e3) (own := [5]) (t := .n 5) (c := .n) (enc := fun (j : Nat) => DL.D.int (j : Int)) (xs := List.range 6) (fun j => encP (fn j)) (ρ := [some (.sh (.lst (ns.map .int))), some (.sh (.lst (ss.map encS))), some (.ow (.lst [.int h0, .int h1, .int h2, .int h3, .int h4, .int h5, .int h6])), some (.sh (.int n)), some (.sh (.lst (bs.map encL))), o5, some c6, o7, o8, some (.ow (.lst (names.map .str))), some c10, some (.ow lv), some (.sh (encM t)), some (.ow (.lst wd)), o14, some (.ow (.lst (row.map .int))), none, none, none, none, none, none]) [some (.sh (.lst (ns.map .int))), some (.sh (.lst (ss.map encS))), some (.ow (.lst [.int h0, .int h1, .int h2, .int h3, .int h4, .int h5, .int h6])), some (.sh (.int n)), some (.sh (.lst (bs.map encL))), o5, some c6, o7, o8, some (.ow (.lst (names.map .str))), some c10, some (.ow lv), some (.sh (encM t)), some (.ow (.lst wd)), o14, some (.ow (.lst (row.map .int))), none, none, none, none, none, none] [some (.sh (.lst (ns.map .int))), some (.sh (.lst (ss.map encS))), some (.ow (.lst [.int h0, .int h1, .int h2, .int h3, .int h4, .int h5, .int h6])), some (.sh (.int n)), some (.sh (.lst (bs.map encL))), v5, some c6, o7, o8, some (.ow (.lst (names.map .str))), some c10, some (.ow lv), some (.sh (encM t)), some (.ow (.lst wd)), o14, some (.ow (.lst (row.map .int))), none, none, none, none, none, none] (fun j hj => by
    have hj := List.mem_range.mp hj
    have y1 := hri j (by omega)
    have y2 := hni j hj
    rw [hfn]
    unfold turnB
    simp -dsimp -implicitDefEqProofs (disch := first | omega | (simp; done) | (simp; omega)) [exB_c, cap, wipeE, b29_e3, y1, y2, encP, -List.getD_eq_getElem?_getD]) (by simp) (by simp [backE, hv5])
  have hf0m : (List.range 6).map (fun j => encP (fn j)) = full0.map encP := by rw [hf0, List.map_map]; rfl
  rw [hf0m] at l1
  obtain ⟨ρ2, g1, g2⟩ := lc_filter (P := T.pg (runP T k)) (e := b29_e4) (own := [5]) (t := .n 5) (c := b29_c3) (enc := fun (j : Nat) => DL.D.int (j : Int)) (xs := List.range 6) pg (fun j => .str (names.getD j "")) (ρ := [some (.sh (.lst (ns.map .int))), some (.sh (.lst (ss.map encS))), some (.ow (.lst [.int h0, .int h1, .int h2, .int h3, .int h4, .int h5, .int h6])), some (.sh (.int n)), some (.sh (.lst (bs.map encL))), v5, some c6, o7, o8, some (.ow (.lst (names.map .str))), some c10, some (.ow lv), some (.sh (encM t)), some (.ow (.lst wd)), o14, some (.ow (.lst (row.map .int))), some (.ow (.lst (full.map encP))), none, none, none, none, none]) (fun j hj => by
    have hj := List.mem_range.mp hj
    have y2 := hni j hj
    have y3 : ixD (.lst [.int 1, .int 2, .int 4, .int 8, .int 16, .int 32]) (.int j) = some (.int ((pw j : Nat) : Int)) := by
      subst hpw
      have h : j = 0 ∨ j = 1 ∨ j = 2 ∨ j = 3 ∨ j = 4 ∨ j = 5 := by omega
      rcases h with h | h | h | h | h | h <;> subst h <;> rfl
    have y4 : 0 < pw j ∧ pw j ≤ 2 ^ 5 := by
      subst hpw
      exact ⟨Nat.pow_pos (by omega), Nat.pow_le_pow_right (by omega) (by omega)⟩
    rw [hpg]
    unfold turnB
    by_cases c1 : w6 / (pw j : Int) % 2 = 1
    · by_cases c2 : w6 < 64
      · simp -dsimp -implicitDefEqProofs (disch := first | omega | (simp; done) | (simp; omega)) [exB_c, cap, wipeE, b29_c3, b29_e4, y2, y3, e6, c1, c2, -List.getD_eq_getElem?_getD]
      · simp -dsimp -implicitDefEqProofs (disch := first | omega | (simp; done) | (simp; omega)) [exB_c, cap, wipeE, b29_c3, b29_e4, y2, y3, e6, c1, c2, -List.getD_eq_getElem?_getD]
    · simp -dsimp -implicitDefEqProofs (disch := first | omega | (simp; done) | (simp; omega)) [exB_c, cap, wipeE, b29_c3, b29_e4, y2, y3, e6, c1, -List.getD_eq_getElem?_getD]) (by simp) (by simp [backE, hvi])
  have hgm : ((List.range 6).filter pg).map (fun j => DL.D.str (names.getD j "")) = gone.map .str := by rw [hgo, List.map_map]; rfl
  rw [hgm] at g1
  obtain ⟨ρ3, f1, f2⟩ := lc_filterW (P := T.pg (runP T k)) (e := .v 21) (own := [21]) (t := .n 21) (c := b29_c4) (enc := encP) (xs := full) (fun p => decide (p.1 ∉ gone)) encP (ρ := [some (.sh (.lst (ns.map .int))), some (.sh (.lst (ss.map encS))), some (.ow (.lst [.int h0, .int h1, .int h2, .int h3, .int h4, .int h5, .int h6])), some (.sh (.int n)), some (.sh (.lst (bs.map encL))), v5, some c6, o7, o8, some (.ow (.lst (names.map .str))), some c10, some (.ow lv), some (.sh (encM t)), some (.ow (.lst wd)), o14, some (.ow (.lst (row.map .int))), some (.sh (.lst (full.map encP))), some (.ow (.lst (gone.map .str))), none, none, none, none]) [some (.sh (.lst (ns.map .int))), some (.sh (.lst (ss.map encS))), some (.ow (.lst [.int h0, .int h1, .int h2, .int h3, .int h4, .int h5, .int h6])), some (.sh (.int n)), some (.sh (.lst (bs.map encL))), v5, some c6, o7, o8, some (.ow (.lst (names.map .str))), some c10, some (.ow lv), some (.sh (encM t)), some (.ow (.lst wd)), o14, some (.ow (.lst (row.map .int))), some (.ow (.lst (full.map encP))), some (.ow (.lst (gone.map .str))), none, none, none, none] (fun p hp => by
    have y := inD_strs p.1 gone
    unfold turnB
    by_cases h : p.1 ∈ gone
    · simp -dsimp -implicitDefEqProofs (disch := first | omega | (simp; done) | (simp; omega)) [exB_c, cap, wipeE, b29_c4, encP, y, h]
    · simp -dsimp -implicitDefEqProofs (disch := first | omega | (simp; done) | (simp; omega)) [exB_c, cap, wipeE, b29_c4, encP, y, h]) (by omega) (by simp [backE, backC])
  refine ⟨full, full.filter fun p => decide (p.1 ∉ gone), by omega, hfr, ?_, fun p hp => hfr p (List.mem_filter.mp hp).1, ?_⟩
  · have := List.length_filter_le (fun p : Str × Int => decide (p.1 ∉ gone)) full; omega
  have hff : full.filter (fun p => decide (p.1 ∉ gone)) = full.filter (fun p => decide (p.1 ∉ gone)) := rfl
  generalize full.filter (fun p => decide (p.1 ∉ gone)) = l2' at *
  rcases q6 with q6 | q6 <;> subst q6 <;> simp -dsimp -implicitDefEqProofs (disch := first | omega | (simp; done) | (simp; omega)) [exB_c, cap, b29, dropS, cz, hb, er, l1, l2, e6, e7, s1, s2, hd12, hl1, g1, g2, f1, f2, -List.getD_eq_getElem?_getD]
end Cr

set_option maxHeartbeats 1000000
namespace Cr
open DL PySem L2
variable {k : Nat}
structure Drw (ss : List Sy) (n : Nat) (bs bs2 : List (List Int)) (t : Tm) (l l2 : List (Str × Int)) (form : Int) : Prop where
  sg : SG ss
  hn : 0 < n ∧ n ≤ 40
  bl : bs.length = ss.length
  tb : ∀ i < ss.length, tabB n (syD ss i) (bs.getD i []) = true
  hbs : ∀ t ∈ bs, t.length ≤ 10000
  bl2 : bs2.length = ss.length
  hbs2 : ∀ t ∈ bs2, t.length ≤ 10010
  wf : t.wf ss
  ht : t.ht ≤ 30
  vs : t.vars.length ≤ 30
  ll : l.length ≤ 6
  lr : ∀ p ∈ l, 0 ≤ p.2 ∧ p.2 < (n : Int)
  ll2 : l2.length ≤ 6
  lr2 : ∀ p ∈ l2, 0 ≤ p.2 ∧ p.2 < (n : Int)
  f : 0 ≤ form ∧ form < 6
theorem tab_short {n : Nat} {s : Sy} {t : List Int} (hn : n ≤ 40) (h : tabB n s t = true) : t.length ≤ 10000 := by
  unfold tabB at h
  rw [Bool.and_eq_true] at h
  have h := of_decide_eq_true h.1
  have h2 : n * n ≤ 40 * 40 := Nat.mul_le_mul hn hn
  rw [h]
  unfold tlen
  split
  · omega
  · split <;> omega
theorem r29 {ns : List Int} (hk : 6 ≤ k) : ∃ (ss : List Sy) (n : Nat) (bs bs2 : List (List Int)) (t : Tm) (l l2 : List (Str × Int)) (form : Int), Drw ss n bs bs2 t l l2 form ∧
    runP T k 29 [.lst (ns.map .int)] = .ok (.ow (.lst [.lst (ss.map encS), .int n, .lst (bs.map encL), .lst (bs2.map encL), encM t, .lst (l.map encP), .lst (l2.map encP), .int form])) := by
  obtain ⟨k, rfl⟩ : ∃ j, k = j + 1 := ⟨k - 1, by omega⟩
  obtain ⟨ss, sh, n, bs, o5, sg, d1, hn, hbl, hbt, ha⟩ := r29_a (k := k) (ns := ns) (by omega)
  have hbs : ∀ t ∈ bs, t.length ≤ 10000 := fun t ht => by
    obtain ⟨i, hi, e⟩ := List.getElem_of_mem ht
    have := hbt i (by omega)
    rw [List.getD_eq_getElem?_getD, List.getElem?_eq_getElem hi] at this
    have h2 := tab_short hn.2 this
    rw [← e]; exact h2
  have hsl := d1.len
  match sh, hsl, d1, ha with
  | [h0, h1, h2, h3, h4, h5, h6], _, d1, ha =>
  have b1 := d1.rng 1 h1 44 rfl rfl
  have b2 := d1.rng 2 h2 6 rfl rfl
  have b3 := d1.rng 3 h3 8 rfl rfl
  have b4 := d1.rng 4 h4 8 rfl rfl
  have b5 := d1.rng 5 h5 6 rfl rfl
  have b6 := d1.rng 6 h6 6 rfl rfl
  obtain ⟨bs2, c1, c6, p5, o7, o8, q1, q2, q3, q4, hb⟩ := r29_b (k := k) (ns := ns) (h0 := h0) (h1 := h1) (h3 := h3) (h4 := h4) (h5 := h5) (h6 := h6) (o50 := o5) (by omega) sg b2 hn hbl hbs
  obtain ⟨c, m, lv, t0, hc, hm, tg0, hw, wd, hwd, hcc⟩ := r29_c (k := k) (ns := ns) (h0 := h0) (h2 := h2) (h5 := h5) (h6 := h6) (n := n) (bs := bs) (c6 := c6) (o5 := p5) (o7 := o7) (o8 := o8) (by omega) sg b1 b3 b4 q3
  have hnl := namesL_len h3.toNat 6
  obtain ⟨t, c10, o14, tg, hd⟩ := r29_d (k := k) (ns := ns) (h0 := h0) (h1 := h1) (h2 := h2) (h3 := h3) (h4 := h4) (h6 := h6) (n := n) (bs := bs) (c6 := c6) (o5 := p5) (o7 := o7) (o8 := o8) (lv := lv) (wd := wd) (by omega) sg b5 hnl hc tg0 hw hwd hm
  obtain ⟨l, l2, w1, w2, w3, w4, ρ', he⟩ := r29_e (k := k) (ns := ns) (ss := ss) (h0 := h0) (h1 := h1) (h2 := h2) (h3 := h3) (h4 := h4) (h5 := h5) (h6 := h6) (bs := bs) (c10 := c10) (o5 := p5) (o7 := o7) (o8 := o8) (o14 := o14) (lv := lv) (t := t) (wd := wd) (by omega) hn.1 hnl q4
  refine ⟨ss, n, bs, bs2, t, l, l2, h6, ⟨sg, hn, hbl, hbt, hbs, q1, q2, tg.wf, tg.ht, tg.few, w1, w2, w3, w4, b6⟩, ?_⟩
  have e : b29 = preS 6 b29 (preS 1 (dropS 6 b29) (preS 5 (dropS 7 b29) (preS 1 (dropS 12 b29) (dropS 13 b29)))) := rfl
  have hall := (ha (preS 1 (dropS 6 b29) (preS 5 (dropS 7 b29) (preS 1 (dropS 12 b29) (dropS 13 b29))))).trans ((hb _).trans ((hcc _).trans ((hd _).trans he)))
  rw [u29, e]
  exact congrArg outFn hall
end Cr

set_option maxHeartbeats 1000000
namespace Cr
open DL PySem L2
variable {k : Nat}
theorem noLs_map {α : Type} (f : α → DL.D) (xs : List α) (h : ∀ x, (f x).noL = true) : DL.D.noLs (xs.map f) = true := by
  induction xs with
  | nil => rfl
  | cons x xs ih =>
    rw [List.map_cons]
    unfold DL.D.noLs
    rw [h x, ih]; rfl
theorem noLk_map {α : Type} (f : α → Key × DL.D) (xs : List α) (h : ∀ x, (f x).2.noL = true) : DL.D.noLk (xs.map f) = true := by
  induction xs with
  | nil => rfl
  | cons x xs ih =>
    rw [List.map_cons]
    have hx := h x
    show ((f x).2.noL && DL.D.noLk (xs.map f)) = true
    rw [hx, ih]; rfl
theorem noL_encT (t : List Int) : (encT t).noL = true := noLs_map DL.D.int t fun _ => rfl
theorem noL_world (ss : List Sy) (n : Nat) (bs : List (List Int)) : (worldD ss n bs).noL = true := by
  have h1 : DL.D.noLs (ss.map encS) = true := noLs_map encS ss fun _ => rfl
  have h2 : DL.D.noLk (tabD ss) = true := noLk_map _ _ fun _ => rfl
  have h3 : DL.D.noLs (bs.map encT) = true := noLs_map encT bs noL_encT
  show ((DL.D.noLs (ss.map encS) && (DL.D.noLk (tabD ss) && true)) && (true && (DL.D.noLs (bs.map encT) && true))) = true
  rw [h1, h2, h3]; rfl
/-! ### the tables are good -/
structure Good (ss : List Sy) (n : Nat) (bs : List (List Int)) : Prop where
  len : bs.length = ss.length
  tb : ∀ i < ss.length, tabB n (syD ss i) (bs.getD i []) = true
theorem tab_len {n : Nat} {s : Sy} {t : List Int} (h : tabB n s t = true) : t.length = tlen n s.2.1 := by
  unfold tabB at h
  rw [Bool.and_eq_true] at h
  exact of_decide_eq_true h.1
theorem tab_rng {n : Nat} {s : Sy} {t : List Int} (h : tabB n s t = true) : ∀ x ∈ t, 0 ≤ x ∧ x < (n : Int) := by
  unfold tabB at h
  rw [Bool.and_eq_true, Bool.and_eq_true, List.all_eq_true] at h
  intro x hx
  have := h.2.1 x hx
  simpa using this
theorem syD_rk {ss : List Sy} (nd : (ss.map (·.1)).Nodup) {s : Sy} (hs : s ∈ ss) : syD ss (rk ss s.1) = s := by
  obtain ⟨i, hi, e⟩ := List.getElem_of_mem hs
  have hr : rk ss s.1 = i := by
    unfold rk
    have hi' : i < (ss.map (·.1)).length := by rw [List.length_map]; exact hi
    have : s.1 = (ss.map (·.1))[i] := by rw [List.getElem_map, e]
    rw [this]
    exact nd.idxOf_getElem i hi'
  rw [hr]
  unfold syD
  rw [List.getD_eq_getElem?_getD, List.getElem?_eq_getElem hi, e]; rfl
theorem Good.wb {ss : List Sy} {n : Nat} {bs : List (List Int)} (g : Good ss n bs) (nd : (ss.map (·.1)).Nodup) : WfB ss n bs where
  len := g.len
  tl := fun s hs => by
    have := tab_len (g.tb _ (rk_lt hs))
    rw [syD_rk nd hs] at this
    exact this
  rng := fun t ht => by
    obtain ⟨i, hi, e⟩ := List.getElem_of_mem ht
    have := tab_rng (g.tb i (by rw [← g.len]; exact hi))
    rw [List.getD_eq_getElem?_getD, List.getElem?_eq_getElem hi] at this
    rw [← e]; exact this
theorem Good.bad {ss : List Sy} {n : Nat} {bs : List (List Int)} (g : Good ss n bs) : badAt ss n bs = none := by
  have : fbO ss n bs = none := by
    unfold fbO
    rw [List.find?_eq_none]
    intro i hi
    rw [g.tb i (List.mem_range.mp hi)]
    simp
  rw [bad_fb g.len, this]; rfl
def mv (n : Nat) (t : List Int) : List Int := t.map fun x => (x + 1) % (n : Int)
theorem mv_get {n : Nat} {t : List Int} {i : Nat} (h : i < t.length) : (mv n t).getD i 0 = (t.getD i 0 + 1) % (n : Int) := by
  unfold mv
  rw [List.getD_eq_getElem?_getD, List.getD_eq_getElem?_getD, List.getElem?_map, List.getElem?_eq_getElem h]; rfl
theorem mv_tab {n : Nat} {s : Sy} {t : List Int} (hn : 0 < n) (h2 : s.2.2 = true → s.2.1 = 2) (h : tabB n s t = true) : tabB n s (mv n t) = true := by
  have hl := tab_len h
  unfold tabB at h ⊢
  rw [Bool.and_eq_true, Bool.and_eq_true] at h ⊢
  refine ⟨decide_eq_true (by unfold mv; rw [List.length_map]; exact hl), ?_, ?_⟩
  · rw [List.all_eq_true]
    intro x hx
    unfold mv at hx
    obtain ⟨y, _, e⟩ := List.mem_map.mp hx
    have h1 : 0 ≤ x := by rw [← e]; exact Int.emod_nonneg _ (by omega)
    have h2 : x < n := by rw [← e]; exact Int.emod_lt_of_pos _ (by omega)
    rw [decide_eq_true h1, decide_eq_true h2]; rfl
  · have h3 := h.2.2
    cases htw : s.2.2 with
    | false => rfl
    | true =>
      rw [htw] at h3
      have h3 : symB n t = true := h3
      have hq : t.length = n * n := by rw [hl, h2 htw]; rfl
      show symB n (mv n t) = true
      unfold symB at h3 ⊢
      rw [List.all_eq_true] at h3 ⊢
      intro x hx
      have := h3 x hx
      rw [List.all_eq_true] at this ⊢
      intro y hy
      have e := eq_of_beq (this y hy)
      have hx := List.mem_range.mp hx
      have hy := List.mem_range.mp hy
      have i1 : x * n + y < t.length := by rw [hq]; exact lt_sq hx (by omega)
      have i2 : y * n + x < t.length := by rw [hq]; exact lt_sq (by omega) hx
      rw [mv_get i1, mv_get i2, e]
      exact beq_self_eq_true _
theorem Good.mv {ss : List Sy} {n : Nat} {bs : List (List Int)} (g : Good ss n bs) (w : WfS ss) (hn : 0 < n) : Good ss n (bs.map (Cr.mv n)) where
  len := by rw [List.length_map]; exact g.len
  tb := fun i hi => by
    have hb : i < bs.length := by rw [g.len]; exact hi
    have e : (bs.map (Cr.mv n)).getD i [] = Cr.mv n (bs.getD i []) := by
      rw [List.getD_eq_getElem?_getD, List.getD_eq_getElem?_getD, List.getElem?_map, List.getElem?_eq_getElem hb]; rfl
    rw [e]
    have hm : syD ss i ∈ ss := by
      unfold syD
      rw [List.getD_eq_getElem?_getD, List.getElem?_eq_getElem hi]
      exact List.getElem_mem hi
    exact mv_tab hn (w.tw _ hm) (g.tb i hi)
end Cr

set_option maxHeartbeats 1000000
namespace Cr
open DL PySem L2
variable {k : Nat}
abbrev D8 (ss : List Sy) (n : Nat) (bs bs2 : List (List Int)) (t : Tm) (l l2 : List (Str × Int)) (form : Int) : DL.D := .lst [.lst (ss.map encS), .int n, .lst (bs.map encL), .lst (bs2.map encL), encM t, .lst (l.map encP), .lst (l2.map encP), .int form]
theorem r36_a {ns : List Int} {ss : List Sy} {n : Nat} {bs bs2 : List (List Int)} {t : Tm} {l l2 : List (Str × Int)} {form : Int} (hk : 7 ≤ k) (h : Drw ss n bs bs2 t l l2 form) (e29 : runP T k 29 [.lst (ns.map .int)] = .ok (.ow (D8 ss n bs bs2 t l l2 form))) :
    ∀ R : Sms, exB (T.pg (runP T k)) (preS 6 b36 R) [some (.sh (.lst (ns.map .int))), none, none, none, none, none, none, none, none, none, none, none, none, none, none, none, none] =
      exB (T.pg (runP T k)) R [some (.sh (.lst (ns.map .int))), some (.ow (D8 ss n bs bs2 t l l2 form)), some (.sh (.lst (ss.map encS))), some (.sh (.int n)), some (.sh (.lst (bs.map encL))), some (.ow (.lst ((bs.map (mv n)).map encL))), none, none, none, none, none, none, none, none, none, none, none] := by
  intro R
  have hfew := h.sg.few
  have hbl := h.bl
  have hn := h.hn
  have e33a := r33 (k := k) (n := n) (form := form) (by omega) h.sg (by omega) h.bl2 (fun t ht => by have := h.hbs2 t ht; omega) h.f
  have e33b := r33 (k := k) (n := n) (form := 5 - form) (by omega) h.sg (by omega) h.bl (fun t ht => by have := h.hbs t ht; omega) (by have := h.f; omega)
  obtain ⟨ρ1, l1, l2'⟩ := lc_map (P := T.pg (runP T k)) (e := b36_e2) (own := [14]) (t := .n 14) (c := .n) (enc := encL) (xs := bs) (fun t => encL (mv n t)) (ρ := [some (.sh (.lst (ns.map .int))), some (.ow (D8 ss n bs bs2 t l l2 form)), some (.sh (.lst (ss.map encS))), some (.sh (.int n)), some (.sh (.lst (bs.map encL))), none, none, none, none, none, none, none, none, none, none, none, none]) (fun u hu => by
    have hul := h.hbs u hu
    obtain ⟨ρ', i1, i2⟩ := lc_map (P := T.pg (runP T k)) (e := b36_e1) (own := [15]) (t := .n 15) (c := .n) (enc := DL.D.int) (xs := u) (fun x => .int ((x + 1) % (n : Int))) (ρ := [some (.sh (.lst (ns.map .int))), some (.ow (D8 ss n bs bs2 t l l2 form)), some (.sh (.lst (ss.map encS))), some (.sh (.int n)), some (.sh (.lst (bs.map encL))), none, none, none, none, none, none, none, none, none, some (.sh (encL u)), none, none]) (fun x hx => by
      unfold turnB
      simp -dsimp -implicitDefEqProofs (disch := first | omega | (simp; done) | (simp; omega)) [exB_c, cap, wipeE, b36_e1]) (by omega) (by simp [backE, backC])
    have hw : walkD (encL u) = some (u.map .int) := rfl
    have hm : encL (mv n u) = .lst (u.map fun x => .int ((x + 1) % (n : Int))) := by unfold encL mv; rw [List.map_map]; rfl
    rw [hm]
    unfold turnB
    simp -dsimp -implicitDefEqProofs (disch := first | omega | (simp; done) | (simp; omega)) [exB_c, cap, wipeE, b36_e2, hw, i1, i2]) (by omega) (by simp [backE, backC])
  have hmm : bs.map (fun t => encL (mv n t)) = (bs.map (mv n)).map encL := by rw [List.map_map]; rfl
  rw [hmm] at l1
  generalize (bs.map (mv n)).map encL = MV at *
  unfold D8 at *
  simp -dsimp -implicitDefEqProofs (disch := first | omega | (simp; done) | (simp; omega)) [exB_c, cap, b36, preS, e29, e33a, e33b, l1, l2']
theorem r36_b {ns : List Int} {ss : List Sy} {n : Nat} {bs bs2 : List (List Int)} {t : Tm} {l l2 : List (Str × Int)} {form : Int} (hk : 7 ≤ k) (h : Drw ss n bs bs2 t l l2 form) :
    ∃ X : List DL.D, ∀ R : Sms, exB (T.pg (runP T k)) (preS 5 (dropS 6 b36) R) [some (.sh (.lst (ns.map .int))), some (.ow (D8 ss n bs bs2 t l l2 form)), some (.sh (.lst (ss.map encS))), some (.sh (.int n)), some (.sh (.lst (bs.map encL))), some (.ow (.lst ((bs.map (mv n)).map encL))), none, none, none, none, none, none, none, none, none, none, none] =
      exB (T.pg (runP T k)) R [some (.sh (.lst (ns.map .int))), some (.ow (D8 ss n bs bs2 t l l2 form)), some (.sh (.lst (ss.map encS))), some (.sh (.int n)), some (.sh (.lst (bs.map encL))), some (.sh (.lst ((bs.map (mv n)).map encL))), some (.nst X), some (.ow (worldD ss n bs)), some (.ow (worldD ss n (bs.map (mv n)))), none, none, none, none, none, none, none, none] := by
  have hfew := h.sg.few
  have hbl := h.bl
  have hn := h.hn
  have w := h.sg.w
  have g : Good ss n bs := ⟨h.bl, h.tb⟩
  have gm := g.mv w hn.1
  have e12 := r12 (k := k) (ss := ss) (by omega) w h.sg.g
  have m1 : (bs.map fun t => (false, t)).map encR = bs.map encL := by rw [List.map_map]; rfl
  have p1 : (bs.map fun t => (false, t)).map (·.2) = bs := by rw [List.map_map]; exact List.map_id _
  have e9 := r9 (k := k) (n := n) (rs := bs.map fun t => (false, t)) (by omega) w (by omega) (by rw [List.length_map]; exact hbl) (.inl rfl)
  rw [m1, p1, g.bad] at e9
  obtain ⟨rs, hrs, c, e30, hc⟩ := r30 (k := k) (bs := bs.map (mv n)) (form := form) (by omega) h.f (by rw [List.length_map]; omega)
  have hrl : rs.length = ss.length := by rw [← gm.len, ← hrs, List.length_map]
  have e9m := fun (out : DL.D) (ho : out = .lst (rs.map encR) ∨ out = .tup (rs.map encR)) => r9 (k := k) (n := n) (rs := rs) (out := out) (by omega) w (by omega) hrl ho
  rw [hrs, gm.bad] at e9m
  have e9a := e9m _ (.inl rfl)
  have e9b := e9m _ (.inr rfl)
  obtain ⟨ρ1, l1, l2'⟩ := lcn_map (P := T.pg (runP T k)) (e := b36_e3) (own := [14]) (t := .n 14) (c := .n) (enc := encL) (xs := bs) encL (ρ := [some (.sh (.lst (ns.map .int))), some (.ow (D8 ss n bs bs2 t l l2 form)), some (.sh (.lst (ss.map encS))), some (.sh (.int n)), some (.sh (.lst (bs.map encL))), some (.ow (.lst ((bs.map (mv n)).map encL))), none, none, none, none, none, none, none, none, none, none, none]) (fun u hu => by
    unfold turnNB
    simp -dsimp -implicitDefEqProofs (disch := first | omega | (simp; done) | (simp; omega)) [exB_c, cap, wipeE, b36_e3, encL]) (by omega) (by simp [backE, backC])
  have hal : (bs.map encL).all isLs = true := by rw [List.all_map]; exact List.all_eq_true.mpr fun _ _ => rfl
  have hrf : (bs.map encL).all rowFew = true := by
    rw [List.all_map, List.all_eq_true]
    intro u hu
    have := h.hbs u hu
    show decide ((u.map DL.D.int).length < cap) = true
    exact decide_eq_true (by rw [List.length_map]; unfold cap; omega)
  have hnl := noL_world ss n bs
  have hkw : ∀ a b c : DL.D, ((Option.map (fun x => x.ps) T.defs[9]?).bind fun ps => kwArr ps.tail [] ["signature", "size", "tables"] [a, b, c]) = some [a, b, c] := fun _ _ _ => rfl
  refine ⟨(bs.map encL).map (insRow (.int n)) ++ [.lst [.int 0]], fun R => ?_⟩
  unfold D8 at *
  have hXl : ((bs.map encL).map (insRow (.int n))).length ≤ 12 := by rw [List.length_map, List.length_map]; omega
  have hBl : (bs.map encL).length ≤ 12 := by rw [List.length_map]; omega
  generalize worldD ss n bs = W1 at *
  generalize worldD ss n (bs.map (mv n)) = W2 at *
  obtain ⟨X0, hX0⟩ : ∃ X0, X0 = (bs.map encL).map (insRow (.int n)) := ⟨_, rfl⟩
  rw [← hX0] at hXl ⊢
  obtain ⟨B, hB⟩ : ∃ B, B = bs.map encL := ⟨_, rfl⟩
  rw [← hB] at l1 l2' e9 hal hrf hBl hX0 ⊢
  generalize (bs.map (mv n)).map encL = MV at *
  clear hB
  have hX1 : X0.length < 16777216 := by omega
  rcases hc with hc | hc <;> subst hc <;> simp -dsimp -implicitDefEqProofs (disch := first | omega | (simp; done) | (simp; omega)) [exB_c, cap, b36, preS, dropS, l1, l2', lendE, backC, e12, e9, e9a, e9b, e30, hal, hrf, hnl, hkw, ← hX0, hX1]
end Cr

set_option maxHeartbeats 1000000
namespace Cr
open DL PySem L2
variable {k : Nat}
def l3of (n : Nat) (l : List (Str × Int)) : List (Str × Int) := l.map fun p => (p.1, (p.2 + 1) % (n : Int))
structure TOk (ss : List Sy) (t : Tm) : Prop where
  wf : t.wf ss
  ht : t.ht ≤ 30
  vs : t.vars.length ≤ 30
theorem r36_c {ns : List Int} {ss : List Sy} {n : Nat} {bs bs2 : List (List Int)} {t : Tm} {l l2 : List (Str × Int)} {form : Int} {d5 d7 d8 : DL.D} {X : List DL.D} (h : Drw ss n bs bs2 t l l2 form) :
    ∃ trees : List Tm, trees.length ≤ 2 ∧ (∀ t ∈ trees, TOk ss t) ∧ ∀ R : Sms, exB (T.pg (runP T k)) (preS 3 (dropS 11 b36) R) [some (.sh (.lst (ns.map .int))), some (.ow (D8 ss n bs bs2 t l l2 form)), some (.sh (.lst (ss.map encS))), some (.sh (.int n)), some (.sh (.lst (bs.map encL))), some (.sh d5), some (.nst X), some (.ow d7), some (.ow d8), none, none, none, none, none, none, none, none] =
      exB (T.pg (runP T k)) R [some (.sh (.lst (ns.map .int))), some (.ow (D8 ss n bs bs2 t l l2 form)), some (.sh (.lst (ss.map encS))), some (.sh (.int n)), some (.sh (.lst (bs.map encL))), some (.sh d5), some (.nst X), some (.ow d7), some (.ow d8), none, some (.ow (.lst ((l3of n l).map encP))), some (.ow (.lst (trees.map encM))), none, none, none, none, none] := by
  have hn := h.hn
  have hll := h.ll
  obtain ⟨ρ1, l1, l2'⟩ := lc_map (P := T.pg (runP T k)) (e := b36_e4) (own := [16]) (t := .n 16) (c := .n) (enc := encP) (xs := l) (fun p => encP (p.1, (p.2 + 1) % (n : Int))) (ρ := [some (.sh (.lst (ns.map .int))), some (.ow (D8 ss n bs bs2 t l l2 form)), some (.sh (.lst (ss.map encS))), some (.sh (.int n)), some (.sh (.lst (bs.map encL))), some (.sh d5), some (.nst X), some (.ow d7), some (.ow d8), none, none, none, none, none, none, none, none]) (fun p hp => by
    unfold turnB
    simp -dsimp -implicitDefEqProofs (disch := first | omega | (simp; done) | (simp; omega)) [exB_c, cap, wipeE, b36_e4, encP]) (by omega) (by simp [backE, backC])
  have hm : l.map (fun p => encP (p.1, (p.2 + 1) % (n : Int))) = (l3of n l).map encP := by unfold l3of; rw [List.map_map]; rfl
  rw [hm] at l1
  have ht : TOk ss t := ⟨h.wf, h.ht, h.vs⟩
  obtain ⟨L3, hL3⟩ : ∃ L3, L3 = (l3of n l).map encP := ⟨_, rfl⟩
  rw [← hL3] at l1 ⊢
  clear hL3 hm
  unfold D8 at *
  cases t with
  | v x =>
    simp only [encM] at l1 l2'
    refine ⟨[.v x], by simp, fun s hs => by rw [List.mem_singleton.mp hs]; exact ht, fun R => ?_⟩
    simp -dsimp -implicitDefEqProofs (disch := first | omega | (simp; done) | (simp; omega)) [exB_c, cap, b36, preS, dropS, l1, l2', encM, tyD]
  | c f =>
    simp only [encM] at l1 l2'
    refine ⟨[.c f], by simp, fun s hs => by rw [List.mem_singleton.mp hs]; exact ht, fun R => ?_⟩
    simp -dsimp -implicitDefEqProofs (disch := first | omega | (simp; done) | (simp; omega)) [exB_c, cap, b36, preS, dropS, l1, l2', encM, tyD]
  | u f s =>
    simp only [encM] at l1 l2'
    have hs : TOk ss s := ⟨ht.wf.2, by have := ht.ht; simp only [Tm.ht] at this; omega, by have := ht.vs; simp only [Tm.vars] at this; omega⟩
    refine ⟨[.u f s, s], by simp, fun u hu => ?_, fun R => ?_⟩
    · rcases List.mem_cons.mp hu with z | z
      · rw [z]; exact ht
      · rw [List.mem_singleton.mp z]; exact hs
    · simp -dsimp -implicitDefEqProofs (disch := first | omega | (simp; done) | (simp; omega)) [exB_c, cap, b36, preS, dropS, l1, l2', encM, tyD, ixD, atI, ixN]
  | b f s u =>
    simp only [encM] at l1 l2'
    have hs : TOk ss u := ⟨ht.wf.2.2, by have := ht.ht; simp only [Tm.ht] at this; omega, by have := ht.vs; simp only [Tm.vars, List.length_append] at this; omega⟩
    refine ⟨[.b f s u, u], by simp, fun v hv => ?_, fun R => ?_⟩
    · rcases List.mem_cons.mp hv with z | z
      · rw [z]; exact ht
      · rw [List.mem_singleton.mp z]; exact hs
    · simp -dsimp -implicitDefEqProofs (disch := first | omega | (simp; done) | (simp; omega)) [exB_c, cap, b36, preS, dropS, l1, l2', encM, tyD, ixD, atI, ixN]
end Cr

set_option maxHeartbeats 1000000
namespace Cr
open DL PySem L2
variable {k : Nat}
def encQ (q : List (Str × Int)) : DL.D := .lst (q.map encP)
def osC (c : Cell) (d : DL.D) : Prop := c = .ow d ∨ c = .sh d
theorem r36_d {ns : List Int} {ss : List Sy} {n : Nat} {bs bs2 : List (List Int)} {t : Tm} {l l2 : List (Str × Int)} {form : Int} {X : List DL.D} {trees : List Tm} (hk : 40 ≤ k) (h : Drw ss n bs bs2 t l l2 form) (htr : ∀ u ∈ trees, TOk ss u) :
    ∃ ρ', exB (T.pg (runP T k)) (dropS 14 b36) [some (.sh (.lst (ns.map .int))), some (.ow (D8 ss n bs bs2 t l l2 form)), some (.sh (.lst (ss.map encS))), some (.sh (.int n)), some (.sh (.lst (bs.map encL))), some (.sh (.lst ((bs.map (mv n)).map encL))), some (.nst X), some (.ow (worldD ss n bs)), some (.ow (worldD ss n (bs.map (mv n)))), none, some (.ow (.lst ((l3of n l).map encP))), some (.ow (.lst (trees.map encM))), none, none, none, none, none] =
      .ok (.rt (.sh (.bl true))) ρ' := by
  have hn := h.hn
  have w := h.sg.w
  have hfew := h.sg.few
  have g : Good ss n bs := ⟨h.bl, h.tb⟩
  have gm := g.mv w hn.1
  have hml : ∀ u ∈ bs.map (mv n), u.length < 100000 := fun u hu => by
    obtain ⟨v, hv, e⟩ := List.mem_map.mp hu
    rw [← e]; unfold mv; rw [List.length_map]
    have := h.hbs v hv; omega
  have e32a := r32 (k := k) (n := n) (by omega) h.sg (by omega) h.bl (fun t ht => by have := h.hbs t ht; omega)
  have e32b := r32 (k := k) (n := n) (by omega) h.sg (by omega) gm.len hml
  have h35 : ∀ u ∈ trees, ∀ q : List (Str × Int), (q.length ≤ 6 ∧ ∀ p ∈ q, 0 ≤ p.2 ∧ p.2 < (n : Int)) → runP T k 35 [worldD ss n bs, .lst (ss.map encS), .int n, .lst (bs.map encL), encM u, encQ q] = .ok (.sh (.bl true)) ∧ runP T k 35 [worldD ss n (bs.map (mv n)), .lst (ss.map encS), .int n, .lst ((bs.map (mv n)).map encL), encM u, encQ q] = .ok (.sh (.bl true)) := fun u hu q hq => by
    have ht := htr u hu
    have h1 := ht.ht
    have h2 := ht.vs
    exact ⟨r35 w (g.wb w.nd) (by omega) ht.wf (by omega) (by omega) hq.2 (by omega), r35 w (gm.wb w.nd) (by omega) ht.wf (by omega) (by omega) hq.2 (by omega)⟩
  have hq3 : (l3of n l).length ≤ 6 ∧ ∀ p ∈ l3of n l, 0 ≤ p.2 ∧ p.2 < (n : Int) := ⟨by unfold l3of; rw [List.length_map]; exact h.ll, fun p hp => by
    unfold l3of at hp
    obtain ⟨x, _, e⟩ := List.mem_map.mp hp
    rw [← e]
    exact ⟨Int.emod_nonneg _ (by omega), Int.emod_lt_of_pos _ (by omega)⟩⟩
  have hQ : ∀ q ∈ [l2, l, l3of n l, l2], q.length ≤ 6 ∧ ∀ p ∈ q, 0 ≤ p.2 ∧ p.2 < (n : Int) := fun q hq => by
    simp only [List.mem_cons, List.not_mem_nil, or_false] at hq
    rcases hq with z | z | z | z
    · rw [z]; exact ⟨h.ll2, h.lr2⟩
    · rw [z]; exact ⟨h.ll, h.lr⟩
    · rw [z]; exact hq3
    · rw [z]; exact ⟨h.ll2, h.lr2⟩
  generalize worldD ss n bs = W1 at *
  generalize worldD ss n (bs.map (mv n)) = W2 at *
  generalize (bs.map (mv n)).map encL = MV at *
  obtain ⟨DD, hDD⟩ : ∃ DD, DD = D8 ss n bs bs2 t l l2 form := ⟨_, rfl⟩
  have inner : ∀ (q : List (Str × Int)) (c7 c8 : Cell) (o13 : Option Cell), (q.length ≤ 6 ∧ ∀ p ∈ q, 0 ≤ p.2 ∧ p.2 < (n : Int)) → osC c7 W1 → osC c8 W2 → ∃ (c7' c8' : Cell) (o13' : Option Cell), osC c7' W1 ∧ osC c8' W2 ∧
      forB (T.pg (runP T k)) (.n 13) b36_f1 (trees.map encM) [some (.sh (.lst (ns.map .int))), some (.ow DD), some (.sh (.lst (ss.map encS))), some (.sh (.int n)), some (.sh (.lst (bs.map encL))), some (.sh (.lst MV)), some (.nst X), some c7, some c8, none, some (.sh (encQ (l3of n l))), some (.sh (.lst (trees.map encM))), some (.sh (encQ q)), o13, none, none, none] =
      .ok .nx [some (.sh (.lst (ns.map .int))), some (.ow DD), some (.sh (.lst (ss.map encS))), some (.sh (.int n)), some (.sh (.lst (bs.map encL))), some (.sh (.lst MV)), some (.nst X), some c7', some c8', none, some (.sh (encQ (l3of n l))), some (.sh (.lst (trees.map encM))), some (.sh (encQ q)), o13', none, none, none] := by
    intro q c7 c8 o13 hq h7 h8
    obtain ⟨ρ', e, c7', c8', o13', _, h7', h8', hρ⟩ := forB_pre (P := T.pg (runP T k)) (t := .n 13) (b := b36_f1) (enc := encM) (fun rest ρ => ∃ (c7 c8 : Cell) (o13 : Option Cell), (∀ u ∈ rest, u ∈ trees) ∧ osC c7 W1 ∧ osC c8 W2 ∧ ρ = [some (.sh (.lst (ns.map .int))), some (.ow DD), some (.sh (.lst (ss.map encS))), some (.sh (.int n)), some (.sh (.lst (bs.map encL))), some (.sh (.lst MV)), some (.nst X), some c7, some c8, none, some (.sh (encQ (l3of n l))), some (.sh (.lst (trees.map encM))), some (.sh (encQ q)), o13, none, none, none]) (fun u rest ρ ⟨c7, c8, o13, hm, h7, h8, hρ⟩ => by
      subst hρ
      obtain ⟨a1, a2⟩ := h35 u (hm u List.mem_cons_self) q hq
      refine ⟨_, ?_, .sh W1, .sh W2, some (.sh (encM u)), fun v hv => hm v (List.mem_cons_of_mem _ hv), .inr rfl, .inr rfl, rfl⟩
      rw [stepB_n (by simp)]
      rcases h7 with h7 | h7 <;> rcases h8 with h8 | h8 <;> subst h7 <;> subst h8 <;> simp -dsimp -implicitDefEqProofs (disch := first | omega | (simp; done) | (simp; omega)) [exB_c, cap, b36_f1, a1, a2]) trees _ ⟨c7, c8, o13, fun u hu => hu, h7, h8, rfl⟩
    subst hρ
    exact ⟨c7', c8', o13', h7', h8', e⟩
  obtain ⟨ρ', e, c7, c8, c11, o12, o13, _, h7, h8, h11, hρ⟩ := forB_pre (P := T.pg (runP T k)) (t := .n 12) (b := b36_f2) (enc := encQ) (fun rest ρ => ∃ (c7 c8 c11 : Cell) (o12 o13 : Option Cell), (∀ q ∈ rest, q ∈ [l2, l, l3of n l, l2]) ∧ osC c7 W1 ∧ osC c8 W2 ∧ osC c11 (.lst (trees.map encM)) ∧ ρ = [some (.sh (.lst (ns.map .int))), some (.ow DD), some (.sh (.lst (ss.map encS))), some (.sh (.int n)), some (.sh (.lst (bs.map encL))), some (.sh (.lst MV)), some (.nst X), some c7, some c8, none, some (.sh (encQ (l3of n l))), some c11, o12, o13, none, none, none]) (fun q rest ρ ⟨c7, c8, c11, o12, o13, hm, h7, h8, h11, hρ⟩ => by
    subst hρ
    obtain ⟨c7', c8', o13', h7', h8', hin⟩ := inner q c7 c8 o13 (hQ q (hm q List.mem_cons_self)) h7 h8
    refine ⟨_, ?_, c7', c8', .sh (.lst (trees.map encM)), some (.sh (encQ q)), o13', fun v hv => hm v (List.mem_cons_of_mem _ hv), h7', h8', .inr rfl, rfl⟩
    rw [stepB_n (by simp)]
    rcases h11 with h11 | h11 <;> subst h11 <;> simp -dsimp -implicitDefEqProofs (disch := first | omega | (simp; done) | (simp; omega)) [exB_c, cap, b36_f2, hin]) [l2, l, l3of n l, l2] [some (.sh (.lst (ns.map .int))), some (.ow DD), some (.sh (.lst (ss.map encS))), some (.sh (.int n)), some (.sh (.lst (bs.map encL))), some (.sh (.lst MV)), some (.nst X), some (.ow W1), some (.ow W2), none, some (.sh (encQ (l3of n l))), some (.ow (.lst (trees.map encM))), none, none, none, none, none] ⟨_, _, _, none, none, fun q hq => hq, .inl rfl, .inl rfl, .inl rfl, rfl⟩
  subst hρ
  subst hDD
  have hQ3 : encQ (l3of n l) = .lst ((l3of n l).map encP) := rfl
  simp only [List.map_cons, List.map_nil, encQ] at e
  generalize (l3of n l).map encP = L3 at *
  unfold D8 at *
  rcases h7 with h7 | h7 <;> rcases h8 with h8 | h8 <;> subst h7 <;> subst h8 <;> simp -dsimp -implicitDefEqProofs (disch := first | omega | (simp; done) | (simp; omega)) [exB_c, cap, b36, dropS, e, e32a, e32b]
theorem r36 {ns : List Int} (hk : 41 ≤ k) : runP T k 36 [.lst (ns.map .int)] = .ok (.sh (.bl true)) := by
  obtain ⟨k, rfl⟩ : ∃ j, k = j + 1 := ⟨k - 1, by omega⟩
  obtain ⟨ss, n, bs, bs2, t, l, l2, form, h, e29⟩ := r29 (k := k) (ns := ns) (by omega)
  have ha := r36_a (k := k) (by omega) h e29
  obtain ⟨X, hb⟩ := r36_b (k := k) (ns := ns) (by omega) h
  obtain ⟨trees, _, htr, hc⟩ := r36_c (k := k) (ns := ns) (d5 := .lst ((bs.map (mv n)).map encL)) (d7 := worldD ss n bs) (d8 := worldD ss n (bs.map (mv n))) (X := X) h
  obtain ⟨ρ', hd⟩ := r36_d (k := k) (ns := ns) (X := X) (by omega) h htr
  have e : b36 = preS 6 b36 (preS 5 (dropS 6 b36) (preS 3 (dropS 11 b36) (dropS 14 b36))) := rfl
  have hall := (ha (preS 5 (dropS 6 b36) (preS 3 (dropS 11 b36) (dropS 14 b36)))).trans ((hb _).trans ((hc _).trans hd))
  rw [u36, e]
  exact congrArg outFn hall
end Cr

set_option maxHeartbeats 1000000
namespace Cr
open DL PySem L2
theorem eqyT (k c f : Nat) (h : T.eqs.lookup c = some f) (fs : List (Str × DL.D)) (y : DL.D) (e : runP T k f [.ins c fs, y] = .ok (.sh (.bl true))) : ∃ gs, y = .ins c gs := by
  have hc : c = 1 ∧ f = 15 := by
    have h : List.lookup c [((1 : Nat), (15 : Nat))] = some f := h
    rw [List.lookup_cons] at h
    by_cases z : c = 1
    · subst z
      simp at h
      exact ⟨rfl, h.symm⟩
    · have z' : (c == 1) = false := by simpa using z
      rw [z'] at h
      cases h
  obtain ⟨rfl, rfl⟩ := hc
  cases k with
  | zero => cases e
  | succ k =>
    rw [u15] at e
    cases y with
    | ins d gs =>
      by_cases z : d = 1
      · exact ⟨gs, by rw [z]⟩
      · exfalso
        by_cases hd : d < 2
        · have hi : insOk 2 (.ins d gs) = true := decide_eq_true hd
          simp -dsimp -implicitDefEqProofs (disch := first | omega | (simp; done) | (simp; omega)) [exB_c, cap, b15, tyD, z, hi] at e
        · have hi : insOk 2 (.ins d gs) = false := decide_eq_false hd
          simp -dsimp -implicitDefEqProofs (disch := first | omega | (simp; done) | (simp; omega)) [exB_c, cap, b15, tyD, z, hi] at e
          cases e
    | _ => exfalso; simp -dsimp -implicitDefEqProofs (disch := first | omega | (simp; done) | (simp; omega)) [exB_c, cap, b15, tyD, insOk] at e
theorem nohand : (T.defs.all fun d => d.hand.isNone) = true := by rfl
theorem handsT {CA : Nat → Addr} {prog : Program} {w : World} {K : PySem.W.Frag} {mg : Str → Option Value} {base : Heap} {AF : Nat → Addr} {FT : Nat → FuncData} : Hands Γ T CA prog w K mg base AF FT := fun k gb f d g hd hh => by
  have h1 := List.all_eq_true.mp nohand d (List.mem_of_getElem? hd)
  rw [hh] at h1
  cases h1
end Cr

set_option maxHeartbeats 0
open PySem PySem.W PySem.Calls PyProof.Rows
theorem PySem.Challenge.cw_twowaysigns_k56_worlds_made_holds : PySem.Challenge.rw_twowaysigns_k56_worlds_made.Holds := by
  w_on; o_law
  refine HandSHeadRun.head_any (r := OpenLaw.row PySem.Challenge.rw_twowaysigns_k56_worlds_made) (q := Cr.q0) (H := Cr.hk) (ob := Cr.ob) (M := 20000) (loose := Cr.loose) (d := HandSHeadRun.topDef (OpenLaw.row PySem.Challenge.rw_twowaysigns_k56_worlds_made).prog 67) (kwd := []) Cr.ob_eq
    (by kernel_rfl) (fun s => by kernel_rfl) Cr.run (by kernel_rfl) (by kernel_rfl) (by kernel_rfl) (by rfl) (by first | assumption | decide +kernel) (by decide +kernel) ⟨rfl, rfl, rfl, rfl, rfl, by decide +kernel⟩ ?hw ?hc
  case hw => w_witness2
  case hc =>
    refine DL.law_walk (rp := false) (k := 83) (x := "_law_script") rfl (by kernel_rfl) ⟨rfl, by decide, by decide⟩ ?F
    intro w mg fa h Y G hmg0
    obtain ⟨K, KX, c⟩ := Y
    have hmg : mg ("law" : PySem.Str) = some (.ref fa) := by
      have e : (HandSHeadRun.topDef (OpenLaw.row PySem.Challenge.rw_twowaysigns_k56_worlds_made).prog 67).name = ("law" : PySem.Str) := by kernel_rfl
      rw [← e]
      exact hmg0
    exact ⟨K, KX, DL.law_atS (Γ := Cr.Γ) (T := Cr.T) (S := Cr.S) (fn := Cr.fn) (f := 36) (d := Cr.d36) (x := "_law_script") (k := 40) KX G c.1 c.2 Cr.okT Cr.tx Cr.eqyT rfl rfl rfl hmg rfl
      (fun base hB gB pf => Cr.handsT) (fun ns _ _ => Cr.r36 (by omega))⟩
