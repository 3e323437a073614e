import PyProof.Rows.All
import Wide.All
import OpenK.AllK
import Wide.FinOn
import HandS.ForMost
import HandS.Exc
import HandS.ExcOwn
import HandS.WordsExc
import HandS.CallSlots
import HandS.IsInst
import HandS.TupAny
import HandS.TupMul
import HandS.Wide
import HandS.Defaults
import HandS.Head0
import HandS.Head1
import HandS.Head2
import HandS.HeadEnd
import HandS.HeadWalk
import HandS.HeadHook1
import HandS.HeadHook2
import PySem.Challenge.RW_everydraw_k03_whole_walks_of_fractions
set_option Elab.async false
set_option linter.all false
set_option maxRecDepth 100000
set_option maxHeartbeats 0
namespace Ev
open PySem L2

/-- data as trees; classes and fields by number -/
inductive D where
  | non | bl (b : Bool) | int (i : Int) | str (x : Str)
  | tup (xs : List D) | lst (xs : List D)
  | dic (kvs : List (List Key × D))
  | obj (c : Nat) (fs : List (Nat × D))
/-- how a tree is held: for good; by this slot alone; ahead of the frame; by some slot of the frame -/
inductive Md where
  | val | own | rb | tmp
  deriving DecidableEq
abbrev DM := D × Md
abbrev Envr := List (Option DM)

inductive Res (α : Type) where
  | ok (a : α) | exc (c : Nat) (fs : List (Nat × D)) | bad
def Res.bind {α β : Type} (r : Res α) (f : α → Res β) : Res β :=
  match r with
  | .ok a => f a
  | .exc c fs => .exc c fs
  | .bad => .bad

inductive BOp where | add | sub | mul | fdiv | mod | pow
inductive COp where | eq | ne | lt | le | gt | ge | isN | notN
/-- built-ins of one call -/
inductive Bi where | len | abs | int | tuple | list
/-- what isinstance is asked of -/
inductive Ty where | int | bool | tuple | list | str

mutual
inductive IE where
  | cst (d : D)
  | var (i : Nat)
  | bin (op : BOp) (a b : IE)
  | neg (a : IE)
  | not (a : IE)
  | cmp (op : COp) (a b : IE)
  | and (a b : IE)
  | or (a b : IE)
  | tup (es : IL)
  | lst (es : IL)
  | ix (a b : IE)
  | slc (a : IE) (lo hi : IO)
  | call (f : Nat) (es : IL)
  | bi (f : Bi) (a : IE)
  | isi (t : Ty) (a : IE)
inductive IL where
  | nil
  | cons (e : IE) (r : IL)
inductive IO where
  | none
  | some (e : IE)
end

/-- data that == knows -/
def D.py : D → Option PyData
  | .non => some .none
  | .bl b => some (.bool b)
  | .int i => some (.int i)
  | .str x => some (.str x)
  | .tup xs => (pys xs).map .tuple
  | .lst xs => (pys xs).map .list
  | .dic _ => none
  | .obj _ _ => none
where pys : List D → Option (List PyData)
  | [] => some []
  | x :: xs => match D.py x, pys xs with
    | some a, some r => some (a :: r)
    | _, _ => none

def okI (i : Int) : Res DM := .ok (.int i, .val)
def okB (b : Bool) : Res DM := .ok (.bl b, .val)
def okV (d : D) : Res DM := .ok (d, .val)
def toVal : DM → Option D
  | (d, .val) => some d
  | (d, .own) => some d
  | _ => none
def toVals : List DM → Option (List D)
  | [] => some []
  | x :: r => match toVal x, toVals r with
    | some d, some ds => some (d :: ds)
    | _, _ => none
def mulOk (i j : Int) : Bool := decide (i.natAbs.log2 < 60000000) && decide (j.natAbs.log2 < 60000000)
def divOk (j : Int) : Bool := decide (0 < j) && decide (j.natAbs.log2 < 9000)
def divOkN (j : Int) : Bool := decide (j ≠ 0) && decide (j.natAbs.log2 < 9000)
def powOk (i j : Int) : Bool := decide (0 ≤ j) && decide (j ≤ 1000) && decide (i.natAbs < 2 ^ 64)
def lenOk (n : Nat) : Bool := decide (n ≤ 16777216)
def binD (op : BOp) (x y : DM) : Res DM :=
  match op, x.1, y.1 with
  | .add, .int i, .int j => okI (i + j)
  | .sub, .int i, .int j => okI (i - j)
  | .mul, .int i, .int j => if mulOk i j = true then okI (i * j) else .bad
  | .fdiv, .int i, .int j => if divOkN j = true then okI (i.fdiv j) else .bad
  | .mod, .int i, .int j => if j = 0 then .bad else okI (i.fmod j)
  | .pow, .int i, .int j => if powOk i j = true then okI (i ^ j.toNat) else .bad
  | .add, .tup xs, .tup ys => if lenOk (xs.length + ys.length) = true then okV (.tup (xs ++ ys)) else .bad
  | .add, .lst xs, .lst ys => if lenOk (xs.length + ys.length) = true then .ok (.lst (xs ++ ys), .own) else .bad
  | _, _, _ => .bad
def negD (x : DM) : Res DM := match x.1 with
  | .int i => okI (-i)
  | _ => .bad
def notD (x : DM) : Res DM := match x.1 with
  | .bl b => okB (!b)
  | _ => .bad
def dep : PyData → Bool := fun p => decide (p.depth ≤ 64)
def eqD (x y : D) : Option Bool := match x.py, y.py with
  | some a, some b => if SeqAt.shaped a && SeqAt.shaped b then some (PyData.eqv a b) else none
  | _, _ => none
def cmpD (op : COp) (x y : DM) : Res DM :=
  match op with
  | .eq => match eqD x.1 y.1 with
    | some b => okB b
    | none => .bad
  | .ne => match eqD x.1 y.1 with
    | some b => okB (!b)
    | none => .bad
  | .lt => match x.1, y.1 with
    | .int i, .int j => okB (decide (i < j))
    | _, _ => .bad
  | .le => match x.1, y.1 with
    | .int i, .int j => okB (decide (i ≤ j))
    | _, _ => .bad
  | .gt => match x.1, y.1 with
    | .int i, .int j => okB (decide (j < i))
    | _, _ => .bad
  | .ge => match x.1, y.1 with
    | .int i, .int j => okB (decide (j ≤ i))
    | _, _ => .bad
  | .isN => match y.1 with
    | .non => okB (match x.1 with | .non => true | _ => false)
    | _ => .bad
  | .notN => match y.1 with
    | .non => okB (match x.1 with | .non => false | _ => true)
    | _ => .bad
def ixD (x y : DM) : Res DM :=
  match x.1, y.1 with
  | .tup xs, .int i => match atI xs i with
    | some d => okV d
    | none => .bad
  | .lst xs, .int i => match atI xs i with
    | some d => okV d
    | none => .bad
  | _, _ => .bad
def cutD {α : Type} (xs : List α) (lo hi : Option Int) : List α := (xs.drop (HT.sIx xs.length 0 lo)).take (HT.sIx xs.length xs.length hi - HT.sIx xs.length 0 lo)
def slcD (x : DM) (lo hi : Option Int) : Res DM :=
  match x.1 with
  | .tup xs => okV (.tup (cutD xs lo hi))
  | .lst xs => .ok (.lst (cutD xs lo hi), .own)
  | _ => .bad
def biD (f : Bi) (x : DM) : Res DM :=
  match f, x.1 with
  | .len, .tup xs => okI xs.length
  | .len, .lst xs => okI xs.length
  | .abs, .int i => okI (if i < 0 then -i else i)
  | .int, .int i => okI i
  | .int, .bl b => okI (if b then 1 else 0)
  | .tuple, .tup xs => okV (.tup xs)
  | .tuple, .lst xs => okV (.tup xs)
  | .list, .tup xs => .ok (.lst xs, .own)
  | .list, .lst xs => .ok (.lst xs, .own)
  | _, _ => .bad
def isiD (t : Ty) (x : DM) : Res DM :=
  match x.1 with
  | .non => okB false
  | .bl _ => okB (match t with | .int => true | .bool => true | _ => false)
  | .int _ => okB (match t with | .int => true | _ => false)
  | .str _ => okB (match t with | .str => true | _ => false)
  | .tup _ => okB (match t with | .tuple => true | _ => false)
  | .lst _ => okB (match t with | .list => true | _ => false)
  | _ => .bad
def lend (x : DM) : DM := (x.1, match x.2 with | .val => .val | _ => .rb)
def retD (x : DM) : Res DM := match x.2 with
  | .val => .ok x
  | .own => .ok x
  | _ => .bad
def varD (δ : Envr) (i : Nat) : Res DM := match δ[i]? with
  | some (some (d, .own)) => .ok (d, .tmp)
  | some (some dm) => .ok dm
  | _ => .bad

abbrev Call := Nat → List DM → Res DM
mutual
def evI (cl : Call) : IE → Envr → Res DM
  | .cst d, _ => okV d
  | .var i, δ => varD δ i
  | .bin op a b, δ => (evI cl a δ).bind fun x => (evI cl b δ).bind fun y => binD op x y
  | .neg a, δ => (evI cl a δ).bind negD
  | .not a, δ => (evI cl a δ).bind notD
  | .cmp op a b, δ => (evI cl a δ).bind fun x => (evI cl b δ).bind fun y => cmpD op x y
  | .and a b, δ => (evI cl a δ).bind fun x => match x.1 with
    | .bl true => evI cl b δ
    | .bl false => okB false
    | _ => .bad
  | .or a b, δ => (evI cl a δ).bind fun x => match x.1 with
    | .bl true => okB true
    | .bl false => evI cl b δ
    | _ => .bad
  | .tup es, δ => (evL cl es δ).bind fun xs => match toVals xs with
    | some ds => if lenOk ds.length = true then okV (.tup ds) else .bad
    | none => .bad
  | .lst es, δ => (evL cl es δ).bind fun xs => match toVals xs with
    | some ds => if lenOk ds.length = true then .ok (.lst ds, .own) else .bad
    | none => .bad
  | .ix a b, δ => (evI cl a δ).bind fun x => (evI cl b δ).bind fun y => ixD x y
  | .slc a lo hi, δ => (evI cl a δ).bind fun x => (evO cl lo δ).bind fun l => (evO cl hi δ).bind fun h => slcD x l h
  | .call f es, δ => (evL cl es δ).bind fun xs => (cl f (xs.map lend)).bind retD
  | .bi f a, δ => (evI cl a δ).bind (biD f)
  | .isi t a, δ => (evI cl a δ).bind (isiD t)
def evL (cl : Call) : IL → Envr → Res (List DM)
  | .nil, _ => .ok []
  | .cons e r, δ => (evI cl e δ).bind fun x => (evL cl r δ).bind fun xs => .ok (x :: xs)
def evO (cl : Call) : IO → Envr → Res (Option Int)
  | .none, _ => .ok none
  | .some e, δ => (evI cl e δ).bind fun x => match x.1 with
    | .int i => .ok (some i)
    | _ => .bad
end
/-- a test -/
def asB (r : Res DM) : Res Bool := r.bind fun x => match x.1 with
  | .bl b => .ok b
  | _ => .bad

inductive Tg where
  | name (i : Nat)
  | tup (is : List Nat)
mutual
inductive IS where
  | pass
  | ex (e : IE)
  | set (i : Nat) (e : IE)
  | par (i j : Nat) (a b : IE)
  | unp (is : List Nat) (e : IE)
  | app (i : Nat) (e : IE)
  | ret (e : IE)
  | retv (i : Nat)
  | ite (t : IE) (a b : ISs)
  | whl (t : IE) (b : ISs)
  | fors (tg : Tg) (it : II) (b : ISs)
  | brk
  | cnt
  | nvr
inductive ISs where
  | nil
  | cons (s : IS) (r : ISs)
/-- what is walked -/
inductive II where
  | seq (e : IE)
  | rng (a : IE)
  | rng2 (a b : IE)
end
inductive Out where
  | nx (δ : Envr) | bk (δ : Envr) | ct (δ : Envr) | rt (x : DM)
/-- a value comes to a slot -/
def putD (δ : Envr) (i : Nat) (x : DM) : Res Envr := match x.2 with
  | .tmp => .bad
  | _ => .ok (δ.set i (some x))
def putAll : Envr → List Nat → List D → Res Envr
  | δ, [], [] => .ok δ
  | δ, i :: is, x :: xs => putAll (δ.set i (some (x, .val))) is xs
  | _, _, _ => .bad
def bindT (tg : Tg) (x : D) (δ : Envr) : Res Envr := match tg with
  | .name i => .ok (δ.set i (some (x, .val)))
  | .tup is => match x with
    | .tup xs => putAll δ is xs
    | _ => .bad
def lpO (k : Envr → Res Out) : Out → Res Out
  | .nx δ2 => k δ2
  | .ct δ2 => k δ2
  | .bk δ2 => .ok (.nx δ2)
  | .rt v => .ok (.rt v)
def forR (bd : Envr → Res Out) (tg : Tg) : List D → Envr → Res Out
  | [], δ => .ok (.nx δ)
  | x :: r, δ => (bindT tg x δ).bind fun δ1 => (bd δ1).bind fun o => lpO (forR bd tg r) o
def whileR (t : Envr → Res Bool) (bd : Envr → Res Out) : Nat → Envr → Res Out
  | 0, _ => .bad
  | n + 1, δ => (t δ).bind fun b => if b = true then (bd δ).bind fun o => lpO (whileR t bd n) o else .ok (.nx δ)
def rngD (a b : Int) : List D := (List.range (b - a).toNat).map fun (k : Nat) => .int (a + (k : Int))
def smallI (i : Int) : Bool := decide (-(2 ^ 62) ≤ i) && decide (i < 2 ^ 62)
def freeze1 : Option DM → Option DM
  | some (d, .own) => some (d, .val)
  | o => o
/-- the slots at these places are held for good -/
def frz (δ : Envr) : List Nat → Envr
  | [] => δ
  | i :: is => frz (δ.set i (freeze1 (δ[i]?.bind id))) is
/-- the slots whose own value a value keeps -/
def IE.esc : IE → List Nat
  | .var i => [i]
  | .and a b => a.esc ++ b.esc
  | .or a b => a.esc ++ b.esc
  | _ => []
mutual
def IE.inn : IE → List Nat
  | .cst _ => []
  | .var _ => []
  | .bin _ a b => a.inn ++ b.inn
  | .neg a => a.inn
  | .not a => a.inn
  | .cmp _ a b => a.inn ++ b.inn
  | .and a b => a.inn ++ b.inn
  | .or a b => a.inn ++ b.inn
  | .tup es => es.all
  | .lst es => es.all
  | .ix a b => a.inn ++ b.inn
  | .slc a lo hi => a.inn ++ lo.inn ++ hi.inn
  | .call _ es => es.inn
  | .bi _ a => a.inn
  | .isi _ a => a.inn
def IL.all : IL → List Nat
  | .nil => []
  | .cons e r => e.esc ++ e.inn ++ r.all
def IL.inn : IL → List Nat
  | .nil => []
  | .cons e r => e.inn ++ r.inn
def IO.inn : IO → List Nat
  | .none => []
  | .some e => e.inn
end
def seqD : DM → Res (List D)
  | (.lst _, .tmp) => .bad
  | (.lst xs, _) => .ok xs
  | (.tup xs, _) => .ok xs
  | _ => .bad
def iterI (cl : Call) (it : II) (δ : Envr) : Res (List D) := match it with
  | .seq e => (evI cl e δ).bind seqD
  | .rng a => (evI cl a δ).bind fun x => match x.1 with
    | .int i => if smallI i = true then .ok (rngD 0 i) else .bad
    | _ => .bad
  | .rng2 a b => (evI cl a δ).bind fun x => (evI cl b δ).bind fun y => match x.1, y.1 with
    | .int i, .int j => if (smallI i && smallI j) = true then .ok (rngD i j) else .bad
    | _, _ => .bad
def II.esc : II → List Nat
  | .seq e => e.esc ++ e.inn
  | .rng a => a.inn
  | .rng2 a b => a.inn ++ b.inn
def seqO (k : Envr → Res Out) : Out → Res Out
  | .nx δ => k δ
  | o => .ok o
mutual
def evS (cl : Call) (W : Nat) : IS → Envr → Res Out
  | .pass, δ => .ok (.nx δ)
  | .ex e, δ => (evI cl e (frz δ e.inn)).bind fun _ => .ok (.nx (frz δ e.inn))
  | .set i e, δ => (evI cl e (frz δ (e.esc ++ e.inn))).bind fun x => (putD (frz δ (e.esc ++ e.inn)) i x).bind fun δ1 => .ok (.nx δ1)
  | .par i j a b, δ => (evI cl a (frz δ (a.esc ++ a.inn ++ (b.esc ++ b.inn)))).bind fun x => (evI cl b (frz δ (a.esc ++ a.inn ++ (b.esc ++ b.inn)))).bind fun y =>
      match toVal x, toVal y with
      | some d, some e => .ok (.nx (((frz δ (a.esc ++ a.inn ++ (b.esc ++ b.inn))).set i (some (d, .val))).set j (some (e, .val))))
      | _, _ => .bad
  | .unp is e, δ => (evI cl e (frz δ e.inn)).bind fun x => match x.1 with
      | .tup xs => (putAll (frz δ e.inn) is xs).bind fun δ1 => .ok (.nx δ1)
      | _ => .bad
  | .app i e, δ => match (frz δ (e.esc ++ e.inn))[i]? with
      | some (some (.lst xs, .own)) => (evI cl e (frz δ (e.esc ++ e.inn))).bind fun x => match toVal x with
        | some d => if lenOk (xs.length + 1) = true then .ok (.nx ((frz δ (e.esc ++ e.inn)).set i (some (.lst (xs ++ [d]), .own)))) else .bad
        | none => .bad
      | _ => .bad
  | .ret e, δ => ((evI cl e (frz δ (e.esc ++ e.inn))).bind retD).bind fun x => .ok (.rt x)
  | .retv i, δ => match δ[i]? with
      | some (some (d, .val)) => .ok (.rt (d, .val))
      | some (some (d, .own)) => .ok (.rt (d, .own))
      | _ => .bad
  | .ite t a b, δ => (asB (evI cl t (frz δ t.inn))).bind fun c => if c = true then evSs cl W a (frz δ t.inn) else evSs cl W b (frz δ t.inn)
  | .whl t b, δ => whileR (fun δ => asB (evI cl t δ)) (evSs cl W b) W δ
  | .fors tg it b, δ => (iterI cl it (frz δ it.esc)).bind fun xs => forR (evSs cl W b) tg xs (frz δ it.esc)
  | .brk, δ => .ok (.bk δ)
  | .cnt, δ => .ok (.ct δ)
  | .nvr, _ => .bad
def evSs (cl : Call) (W : Nat) : ISs → Envr → Res Out
  | .nil, δ => .ok (.nx δ)
  | .cons s r, δ => (evS cl W s δ).bind fun o => seqO (evSs cl W r) o
end
/-- a def: how many parameters, how many slots, the body -/
structure FnI where
  n : Nat
  m : Nat
  body : ISs
def finO : Res Out → Res DM
  | .ok (.rt x) => .ok x
  | .ok (.nx _) => okV .non
  | .ok _ => .bad
  | .exc c fs => .exc c fs
  | .bad => .bad
def runF (cl : Call) (W : Nat) (f : FnI) (xs : List DM) : Res DM :=
  if xs.length = f.n then finO (evSs cl W f.body (xs.map some ++ List.replicate (f.m - f.n) none)) else .bad
/-- the defs called k deep -/
def callD (fns : Nat → Option FnI) (W : Nat) : Nat → Call
  | 0, _, _ => .bad
  | k + 1, i, xs => match fns i with
    | some f => runF (callD fns W k) W f xs
    | none => .bad
end Ev
namespace Ev
open PySem PySem.Spec PyProof.Rows L2

/-- what is known of the module -/
structure Mo where
  K : PySem.W.Frag
  mg : Str → Option Value
  cls : Nat → Option Addr
  fld : Nat → Option Str

def WrL (K : PySem.W.Frag) (a : Addr) (xs : List V) : Prop :=
  ∃ (o : Obj) (its : Array Value) (n : Nat), K.lookup a = some o ∧ o.cls = .type "list" ∧ o.dict = none ∧ o.data = .seq its n ∧ its.size ≤ sizeLine ∧ Vals xs its.toList

abbrev Zs := Addr → Prop
/-- what a slot's own changes may touch -/
def Mu : HO → Prop
  | .lst _ => True
  | .dT _ => True
  | .dK _ => True
  | .ins _ _ _ => True
  | _ => False

mutual
/-- the tree d stands at v, all of it held for good -/
inductive RV (M : Mo) (Z : Zs) (H : Hp) : D → V → Prop
  | non : RV M Z H .non .non
  | bl (b : Bool) : RV M Z H (.bl b) (.bl b)
  | int (i : Int) : RV M Z H (.int i) (.int i)
  | str (x : Str) : RV M Z H (.str x) (.str x)
  | tup {a : Addr} {vs : List V} {xs : List D} : SqT M.K H a vs → RVs M Z H xs vs → RV M Z H (.tup xs) (.ref a)
  | lst {a : Addr} {vs : List V} {xs : List D} : Rd H a (.lst vs) → Z a → RVs M Z H xs vs → RV M Z H (.lst xs) (.ref a)
  | lsw {a : Addr} {vs : List V} {xs : List D} : WrL M.K a vs → RVs M Z H xs vs → RV M Z H (.lst xs) (.ref a)
  | dic {a : Addr} {ws : List (List Key × V)} {kvs : List (List Key × D)} : Rd H a (.dT ws) → Z a → RVk M Z H kvs ws → RV M Z H (.dic kvs) (.ref a)
  | obj {a C dx : Addr} {ws : List (Str × V)} {c : Nat} {fs : List (Nat × D)} : H a = some (.ins C dx ws) → Z a → M.cls c = some C → RVf M Z H fs ws → RV M Z H (.obj c fs) (.ref a)
inductive RVs (M : Mo) (Z : Zs) (H : Hp) : List D → List V → Prop
  | nil : RVs M Z H [] []
  | cons {d : D} {v : V} {ds : List D} {vs : List V} : RV M Z H d v → RVs M Z H ds vs → RVs M Z H (d :: ds) (v :: vs)
inductive RVk (M : Mo) (Z : Zs) (H : Hp) : List (List Key × D) → List (List Key × V) → Prop
  | nil : RVk M Z H [] []
  | cons {k : List Key} {d : D} {v : V} {ds : List (List Key × D)} {vs : List (List Key × V)} : RV M Z H d v → RVk M Z H ds vs → RVk M Z H ((k, d) :: ds) ((k, v) :: vs)
inductive RVf (M : Mo) (Z : Zs) (H : Hp) : List (Nat × D) → List (Str × V) → Prop
  | nil : RVf M Z H [] []
  | cons {k : Nat} {x : Str} {d : D} {v : V} {ds : List (Nat × D)} {vs : List (Str × V)} : M.fld k = some x → RV M Z H d v → RVf M Z H ds vs → RVf M Z H ((k, d) :: ds) ((x, v) :: vs)
end

/-- what was held stays; only what a slot alone holds may have changed -/
def Stb (Z : Zs) (H H' : Hp) : Prop := ∀ a o, H a = some o → H' a = some o ∨ (¬ Z a ∧ Mu o)
theorem Stb.of_same {Z : Zs} {H H' : Hp} (s : Same H H') : Stb Z H H' := fun a o h => .inl (s a o h)

section
variable {M : Mo} {Z Z' : Zs} {H H' : Hp}
theorem Stb.rdT (s : Stb Z H H') {a : Addr} {xs : List V} (h : Rd H a (.tup xs)) : Rd H' a (.tup xs) := by
  rcases h with h | ⟨o, h⟩
  · rcases s _ _ h with h | ⟨_, h⟩
    · exact .inl h
    · exact h.elim
  · rcases s _ _ h with h | ⟨_, h⟩
    · exact .inr ⟨o, h⟩
    · exact h.elim
theorem Stb.sqT (s : Stb Z H H') {K : PySem.W.Frag} {a : Addr} {xs : List V} (h : SqT K H a xs) : SqT K H' a xs := by
  rcases h with h | h
  · exact .inl (s.rdT h)
  · exact .inr h
theorem Stb.rdZ (s : Stb Z H H') {a : Addr} {u : HO} (z : Z a) (h : Rd H a u) : Rd H' a u := by
  rcases h with h | ⟨o, h⟩
  · rcases s _ _ h with h | ⟨h, _⟩
    · exact .inl h
    · exact (h z).elim
  · rcases s _ _ h with h | ⟨h, _⟩
    · exact .inr ⟨o, h⟩
    · exact (h z).elim
theorem Stb.insZ (s : Stb Z H H') {a : Addr} {u : HO} (z : Z a) (h : H a = some u) : H' a = some u := by
  rcases s _ _ h with h | ⟨h, _⟩
  · exact h
  · exact (h z).elim
mutual
theorem RV.mono (s : Stb Z H H') (z : ∀ a, Z a → Z' a) : ∀ {d : D} {v : V}, RV M Z H d v → RV M Z' H' d v
  | _, _, .non => .non
  | _, _, .bl b => .bl b
  | _, _, .int i => .int i
  | _, _, .str x => .str x
  | _, _, .tup h r => .tup (s.sqT h) (RVs.mono s z r)
  | _, _, .lst h k r => .lst (s.rdZ k h) (z _ k) (RVs.mono s z r)
  | _, _, .lsw h r => .lsw h (RVs.mono s z r)
  | _, _, .dic h k r => .dic (s.rdZ k h) (z _ k) (RVk.mono s z r)
  | _, _, .obj h k c r => .obj (s.insZ k h) (z _ k) c (RVf.mono s z r)
theorem RVs.mono (s : Stb Z H H') (z : ∀ a, Z a → Z' a) : ∀ {ds : List D} {vs : List V}, RVs M Z H ds vs → RVs M Z' H' ds vs
  | _, _, .nil => .nil
  | _, _, .cons h r => .cons (RV.mono s z h) (RVs.mono s z r)
theorem RVk.mono (s : Stb Z H H') (z : ∀ a, Z a → Z' a) : ∀ {ds : List (List Key × D)} {vs : List (List Key × V)}, RVk M Z H ds vs → RVk M Z' H' ds vs
  | _, _, .nil => .nil
  | _, _, .cons h r => .cons (RV.mono s z h) (RVk.mono s z r)
theorem RVf.mono (s : Stb Z H H') (z : ∀ a, Z a → Z' a) : ∀ {ds : List (Nat × D)} {vs : List (Str × V)}, RVf M Z H ds vs → RVf M Z' H' ds vs
  | _, _, .nil => .nil
  | _, _, .cons e h r => .cons e (RV.mono s z h) (RVf.mono s z r)
end
theorem RVs.length : ∀ {ds : List D} {vs : List V}, RVs M Z H ds vs → ds.length = vs.length
  | _, _, .nil => rfl
  | _, _, .cons _ r => by rw [List.length_cons, List.length_cons, RVs.length r]
theorem RVs.get : ∀ {ds : List D} {vs : List V} {i : Nat} {d : D}, RVs M Z H ds vs → ds[i]? = some d → ∃ v, vs[i]? = some v ∧ RV M Z H d v
  | _, _, _, _, .nil, e => by simp at e
  | _, _, 0, _, .cons h _, e => by simp at e; subst e; exact ⟨_, rfl, h⟩
  | _, _, i + 1, _, .cons _ r, e => by
    obtain ⟨v, h1, h2⟩ := RVs.get (i := i) r (by simpa using e)
    exact ⟨v, by simpa using h1, h2⟩
theorem RVs.app : ∀ {ds es : List D} {vs ws : List V}, RVs M Z H ds vs → RVs M Z H es ws → RVs M Z H (ds ++ es) (vs ++ ws)
  | _, _, _, _, .nil, s => s
  | _, _, _, _, .cons h r, s => .cons h (RVs.app r s)
theorem RVs.drop : ∀ {ds : List D} {vs : List V} (n : Nat), RVs M Z H ds vs → RVs M Z H (ds.drop n) (vs.drop n)
  | _, _, 0, r => r
  | _, _, _ + 1, .nil => .nil
  | _, _, n + 1, .cons _ r => RVs.drop n r
theorem RVs.take : ∀ {ds : List D} {vs : List V} (n : Nat), RVs M Z H ds vs → RVs M Z H (ds.take n) (vs.take n)
  | _, _, 0, _ => .nil
  | _, _, _ + 1, .nil => .nil
  | _, _, n + 1, .cons h r => .cons h (RVs.take n r)
theorem RVs.cut {ds : List D} {vs : List V} (r : RVs M Z H ds vs) (lo hi : Option Int) : RVs M Z H (cutD ds lo hi) (cutV vs lo hi) := by
  unfold cutD cutV
  rw [r.length]
  exact (r.drop _).take _
theorem RVs.at {ds : List D} {vs : List V} {i : Int} {d : D} (r : RVs M Z H ds vs) (e : atI ds i = some d) : ∃ v, atI vs i = some v ∧ RV M Z H d v := by
  unfold atI at e ⊢
  rw [← r.length]
  cases q : ixN ds.length i with
  | none => rw [q] at e; cases e
  | some j =>
    rw [q] at e
    obtain ⟨v, h1, h2⟩ := r.get (i := j) e
    exact ⟨v, h1, h2⟩
theorem RVs.nil_iff {ds : List D} {vs : List V} (r : RVs M Z H ds vs) : vs = [] ↔ ds = [] := by
  cases r <;> simp
mutual
/-- data that == knows stands as such -/
theorem RV.dp : ∀ {d : D} {v : V} {p : PyData}, RV M Z H d v → d.py = some p → Dp M.K H v p
  | _, _, _, .non, e => by cases e; exact .non
  | _, _, _, .bl b, e => by cases e; exact .bl b
  | _, _, _, .int i, e => by cases e; exact .int i
  | _, _, _, .str x, e => by cases e; exact .str x
  | .tup xs, _, p, .tup h r, e => by
    have e' : (D.py.pys xs).map PyData.tuple = some p := e
    cases q : D.py.pys xs with
    | none => rw [q] at e'; cases e'
    | some ps =>
      rw [q] at e'
      cases e'
      exact .tup h (RVs.dp r q)
  | .lst xs, _, p, .lst h k r, e => by
    have e' : (D.py.pys xs).map PyData.list = some p := e
    cases q : D.py.pys xs with
    | none => rw [q] at e'; cases e'
    | some ps =>
      rw [q] at e'
      cases e'
      exact .lst (.inl h) (RVs.dp r q)
  | .lst xs, _, p, .lsw h r, e => by
    have e' : (D.py.pys xs).map PyData.list = some p := e
    cases q : D.py.pys xs with
    | none => rw [q] at e'; cases e'
    | some ps =>
      rw [q] at e'
      cases e'
      exact .lst (.inr h) (RVs.dp r q)
  | _, _, _, .dic _ _ _, e => by cases e
  | _, _, _, .obj _ _ _ _, e => by cases e
theorem RVs.dp : ∀ {ds : List D} {vs : List V} {ps : List PyData}, RVs M Z H ds vs → D.py.pys ds = some ps → DpAll M.K H vs ps
  | _, _, _, .nil, e => by cases e; exact .nil
  | d :: ds, _, ps, .cons h r, e => by
    have e' : (match D.py d, D.py.pys ds with | some a, some r => some (a :: r) | _, _ => none) = some ps := e
    cases q1 : D.py d with
    | none => rw [q1] at e'; cases e'
    | some a =>
      rw [q1] at e'
      cases q2 : D.py.pys ds with
      | none => rw [q2] at e'; cases e'
      | some b =>
        rw [q2] at e'
        cases e'
        exact .cons (RV.dp h q1) (RVs.dp r q2)
end
end

/-- what stays through a def's run: the module; the heap at the entry (but the instance that is being made); what the caller holds for good -/
structure Fr where
  M : Mo
  H0 : Hp
  Zc : Zs
def Had (fr : Fr) (a : Addr) : Prop := fr.H0 a ≠ none
/-- a tree with its root held as m -/
inductive RM (fr : Fr) (Z : Zs) (H : Hp) : Md → D → V → Prop
  | val {d : D} {v : V} : RV fr.M Z H d v → RM fr Z H .val d v
  | ownL {a : Addr} {vs : List V} {xs : List D} : H a = some (.lst vs) → ¬ Z a → fr.H0 a = none → RVs fr.M Z H xs vs → RM fr Z H .own (.lst xs) (.ref a)
  | ownD {a : Addr} {vs : List (List Key × V)} {xs : List (List Key × D)} : H a = some (.dT vs) → ¬ Z a → fr.H0 a = none → RVk fr.M Z H xs vs → RM fr Z H .own (.dic xs) (.ref a)
  | rbL {a : Addr} {vs : List V} {xs : List D} : Rd H a (.lst vs) → Had fr a → RVs fr.M Z H xs vs → RM fr Z H .rb (.lst xs) (.ref a)
  | rbD {a : Addr} {vs : List (List Key × V)} {xs : List (List Key × D)} : Rd H a (.dT vs) → Had fr a → RVk fr.M Z H xs vs → RM fr Z H .rb (.dic xs) (.ref a)
  | tmL {a : Addr} {vs : List V} {xs : List D} : Rd H a (.lst vs) → RVs fr.M Z H xs vs → RM fr Z H .tmp (.lst xs) (.ref a)
  | tmD {a : Addr} {vs : List (List Key × V)} {xs : List (List Key × D)} : Rd H a (.dT vs) → RVk fr.M Z H xs vs → RM fr Z H .tmp (.dic xs) (.ref a)
/-- the state of a frame -/
structure SR (fr : Fr) (Z : Zs) (H : Hp) (σ : L2.St) (δ : Envr) : Prop where
  same : Same fr.H0 H
  zex : ∀ a, Z a → H a ≠ none
  zc1 : ∀ a, fr.Zc a → Z a
  zc2 : ∀ a, Z a → fr.Zc a ∨ fr.H0 a = none
  len : σ.length = δ.length
  slot : ∀ (i : Nat) (d : D) (m : Md), δ[i]? = some (some (d, m)) → ∃ v, σ[i]? = some (some v) ∧ RM fr Z H m d v
  dist : ∀ (i j : Nat) (d e : D) (a : Addr), δ[i]? = some (some (d, Md.own)) → δ[j]? = some (some (e, Md.own)) → σ[i]? = some (some (V.ref a)) → σ[j]? = some (some (V.ref a)) → i = j
  notm : ∀ (i : Nat) (d : D), δ[i]? ≠ some (some (d, Md.tmp))
/-- what an expression may do: new things alone -/
structure Ext (Z : Zs) (H : Hp) (Z' : Zs) (H' : Hp) : Prop where
  same : Same H H'
  up : ∀ a, Z a → Z' a
  dn : ∀ a, Z' a → Z a ∨ H a = none
  ex : ∀ a, Z' a → H' a ≠ none
/-- a value that an expression gives: what is its own is new -/
def RX (fr : Fr) (H : Hp) (Z' : Zs) (H' : Hp) (x : DM) (v : V) : Prop := RM fr Z' H' x.2 x.1 v ∧ (x.2 = .own → ∀ a, v = .ref a → H a = none)
section
variable {fr : Fr} {Z Z' Z'' : Zs} {H H' H'' : Hp} {σ : L2.St} {δ : Envr}
theorem Ext.refl (z : ∀ a, Z a → H a ≠ none) : Ext Z H Z H := ⟨Same.refl H, fun _ h => h, fun _ h => .inl h, z⟩
theorem Ext.trans (a : Ext Z H Z' H') (b : Ext Z' H' Z'' H'') : Ext Z H Z'' H'' where
  same := a.same.trans b.same
  up := fun x h => b.up x (a.up x h)
  dn := fun x h => by
    rcases b.dn x h with h | h
    · exact a.dn x h
    · exact .inr (a.same.free h)
  ex := b.ex
theorem Ext.stb (e : Ext Z H Z' H') : Stb Z H H' := Stb.of_same e.same
theorem Ext.not (e : Ext Z H Z' H') {a : Addr} {o : HO} (h : H a = some o) (n : ¬ Z a) : ¬ Z' a := fun z => by
  rcases e.dn a z with z | z
  · exact n z
  · rw [h] at z; cases z
theorem same_rd (s : Same H H') {a : Addr} {u : HO} (h : Rd H a u) : Rd H' a u := by
  rcases h with h | ⟨o, h⟩
  · exact .inl (s _ _ h)
  · exact .inr ⟨o, s _ _ h⟩
theorem RM.ext (e : Ext Z H Z' H') {m : Md} {d : D} {v : V} (r : RM fr Z H m d v) : RM fr Z' H' m d v := by
  cases r with
  | val r => exact .val (r.mono e.stb e.up)
  | ownL h n z r => exact .ownL (e.same _ _ h) (e.not h n) z (r.mono e.stb e.up)
  | ownD h n z r => exact .ownD (e.same _ _ h) (e.not h n) z (r.mono e.stb e.up)
  | rbL h z r => exact .rbL (same_rd e.same h) z (r.mono e.stb e.up)
  | rbD h z r => exact .rbD (same_rd e.same h) z (r.mono e.stb e.up)
  | tmL h r => exact .tmL (same_rd e.same h) (r.mono e.stb e.up)
  | tmD h r => exact .tmD (same_rd e.same h) (r.mono e.stb e.up)
theorem SR.ext (S : SR fr Z H σ δ) (e : Ext Z H Z' H') : SR fr Z' H' σ δ where
  same := S.same.trans e.same
  zex := e.ex
  zc1 := fun a h => e.up a (S.zc1 a h)
  zc2 := fun a h => by
    rcases e.dn a h with h | h
    · exact S.zc2 a h
    · exact .inr (S.same.free h)
  len := S.len
  slot := fun i d m h => by
    obtain ⟨v, h1, h2⟩ := S.slot i d m h
    exact ⟨v, h1, h2.ext e⟩
  dist := S.dist
  notm := S.notm
theorem RX.ext {x : DM} {v : V} (r : RX fr H Z' H' x v) (e : Ext Z' H' Z'' H'') : RX fr H Z'' H'' x v := ⟨r.1.ext e, r.2⟩
theorem RX.up {H1 : Hp} {x : DM} {v : V} (r : RX fr H1 Z' H' x v) (s : Same H H1) : RX fr H Z' H' x v := ⟨r.1, fun h a e => s.free (r.2 h a e)⟩
/-- a new object -/
theorem Ext.new (z : ∀ a, Z a → H a ≠ none) {p : Addr} {o : HO} (n : H p = none) : Ext Z H Z (upd H p o) where
  same := fun b u e => by
    rw [upd_ne (ne_of_none e n)]
    exact e
  up := fun _ h => h
  dn := fun _ h => .inl h
  ex := fun a h => by
    by_cases e : a = p
    · subst e; rw [upd_same]; exact fun q => nomatch q
    · rw [upd_ne e]; exact z a h
/-- what is one's own is held for good from now on -/
def Zadd (Z : Zs) (p : Addr) : Zs := fun a => Z a ∨ a = p
theorem RV.zadd {M : Mo} {p : Addr} {d : D} {v : V} (r : RV M Z H d v) : RV M (Zadd Z p) H d v := r.mono (Stb.of_same (Same.refl H)) fun _ h => .inl h
theorem RVs.zadd {M : Mo} {p : Addr} {d : List D} {v : List V} (r : RVs M Z H d v) : RVs M (Zadd Z p) H d v := r.mono (Stb.of_same (Same.refl H)) fun _ h => .inl h
theorem RVk.zadd {M : Mo} {p : Addr} {d : List (List Key × D)} {v : List (List Key × V)} (r : RVk M Z H d v) : RVk M (Zadd Z p) H d v := r.mono (Stb.of_same (Same.refl H)) fun _ h => .inl h
theorem toVal_ok {H0 : Hp} {x : DM} {d : D} {v : V} (z : ∀ a, Z a → H a ≠ none) (s : Same H0 H) (r : RX fr H0 Z H x v) (e : toVal x = some d) : ∃ Z', Z' = Z' ∧ (∀ a, Z a → Z' a) ∧ (∀ a, Z' a → Z a ∨ H0 a = none) ∧ (∀ a, Z' a → H a ≠ none) ∧ RV fr.M Z' H d v := by
  obtain ⟨d', m⟩ := x
  obtain ⟨r, n⟩ := r
  cases m with
  | val =>
    cases e
    cases r with
    | val r => exact ⟨Z, rfl, fun _ h => h, fun _ h => .inl h, z, r⟩
  | own =>
    cases e
    have fin : ∀ {a : Addr} {o : HO}, v = .ref a → H a = some o → (∀ b, Zadd Z a b → Z b ∨ H0 b = none) ∧ ∀ b, Zadd Z a b → H b ≠ none := fun {a o} ev ha => by
      refine ⟨fun b hb => ?_, fun b hb => ?_⟩
      · rcases hb with hb | hb
        · exact .inl hb
        · subst hb; exact .inr (n rfl _ ev)
      · rcases hb with hb | hb
        · exact z b hb
        · subst hb; rw [ha]; exact fun q => nomatch q
    cases r with
    | @ownL a vs xs h _ _ r => exact ⟨Zadd Z a, rfl, fun _ h => .inl h, (fin rfl h).1, (fin rfl h).2, .lst (.inl h) (.inr rfl) r.zadd⟩
    | @ownD a vs xs h _ _ r => exact ⟨Zadd Z a, rfl, fun _ h => .inl h, (fin rfl h).1, (fin rfl h).2, .dic (.inl h) (.inr rfl) r.zadd⟩
  | rb => cases e
  | tmp => cases e
end
end Ev
namespace Ev
open PySem PySem.Spec PyProof.Rows L2

/-- an exception of the class c with its fields -/
def XR (M : Mo) (c : Nat) (fs : List (Nat × D)) (C : Addr) (od : Option Addr) (H : Hp) : Prop :=
  M.cls c = some C ∧ ((fs = [] ∧ od = none) ∨ ∃ d ws, fs ≠ [] ∧ od = some d ∧ H d = some (.xd ws) ∧ RVf M (fun _ => False) H fs ws)
def Post (fr : Fr) (W : WX) (σ : L2.St) (Z : Zs) (H : Hp) (r : Res DM) (Q : VK) : Prop :=
  match r with
  | .ok x => ∀ v H' Z', Ext Z H Z' H' → RX fr H Z' H' x v → Q v H'
  | .exc c fs => ∀ C od H', XR fr.M c fs C od H' → Same H H' → W (.ref C) od σ H'
  | .bad => False
inductive RXs (fr : Fr) (H : Hp) (Z' : Zs) (H' : Hp) : List DM → List V → Prop
  | nil : RXs fr H Z' H' [] []
  | cons {x : DM} {v : V} {xs : List DM} {vs : List V} : RX fr H Z' H' x v → RXs fr H Z' H' xs vs → RXs fr H Z' H' (x :: xs) (v :: vs)
def PostL (fr : Fr) (W : WX) (σ : L2.St) (Z : Zs) (H : Hp) (r : Res (List DM)) (Q : List V → Hp → Prop) : Prop :=
  match r with
  | .ok xs => ∀ vs H' Z', Ext Z H Z' H' → RXs fr H Z' H' xs vs → Q vs H'
  | .exc c fs => ∀ C od H', XR fr.M c fs C od H' → Same H H' → W (.ref C) od σ H'
  | .bad => False
def PostB (fr : Fr) (W : WX) (σ : L2.St) (Z : Zs) (H : Hp) (r : Res Bool) (Q : Bool → Hp → Prop) : Prop :=
  match r with
  | .ok b => ∀ H' Z', Ext Z H Z' H' → Q b H'
  | .exc c fs => ∀ C od H', XR fr.M c fs C od H' → Same H H' → W (.ref C) od σ H'
  | .bad => False
def PostO (fr : Fr) (W : WX) (σ : L2.St) (Z : Zs) (H : Hp) (r : Res (Option Int)) (Q : Option Int → Hp → Prop) : Prop :=
  match r with
  | .ok b => ∀ H' Z', Ext Z H Z' H' → Q b H'
  | .exc c fs => ∀ C od H', XR fr.M c fs C od H' → Same H H' → W (.ref C) od σ H'
  | .bad => False
section
variable {fr : Fr} {W : WX} {σ : L2.St} {Z Z1 : Zs} {H H1 : Hp}
theorem Post.ext {r : Res DM} {Q : VK} (h : Post fr W σ Z H r Q) (e : Ext Z H Z1 H1) : Post fr W σ Z1 H1 r Q := by
  cases r with
  | ok x => exact fun v H' Z' e' r' => h v H' Z' (e.trans e') (r'.up e.same)
  | exc c fs => exact fun C od H' x s => h C od H' x (e.same.trans s)
  | bad => exact h
theorem PostL.ext {r : Res (List DM)} {Q : List V → Hp → Prop} (h : PostL fr W σ Z H r Q) (e : Ext Z H Z1 H1) : PostL fr W σ Z1 H1 r Q := by
  cases r with
  | ok x =>
    refine fun vs H' Z' e' r' => h vs H' Z' (e.trans e') ?_
    clear h
    induction r' with
    | nil => exact .nil
    | cons a _ ih => exact .cons (a.up e.same) ih
  | exc c fs => exact fun C od H' x s => h C od H' x (e.same.trans s)
  | bad => exact h
theorem PostB.ext {r : Res Bool} {Q : Bool → Hp → Prop} (h : PostB fr W σ Z H r Q) (e : Ext Z H Z1 H1) : PostB fr W σ Z1 H1 r Q := by
  cases r with
  | ok x => exact fun H' Z' e' => h H' Z' (e.trans e')
  | exc c fs => exact fun C od H' x s => h C od H' x (e.same.trans s)
  | bad => exact h
theorem PostO.ext {r : Res (Option Int)} {Q : Option Int → Hp → Prop} (h : PostO fr W σ Z H r Q) (e : Ext Z H Z1 H1) : PostO fr W σ Z1 H1 r Q := by
  cases r with
  | ok x => exact fun H' Z' e' => h H' Z' (e.trans e')
  | exc c fs => exact fun C od H' x s => h C od H' x (e.same.trans s)
  | bad => exact h
end
def tE (fr : Fr) (W : WX) (g : Envr → Res DM) : TE := fun σ H Q => ∃ δ Z, SR fr Z H σ δ ∧ Post fr W σ Z H (g δ) Q
def tL (fr : Fr) (W : WX) (g : Envr → Res (List DM)) : TA := fun σ H Q => ∃ δ Z, SR fr Z H σ δ ∧ PostL fr W σ Z H (g δ) Q
def tT (fr : Fr) (W : WX) (g : Envr → Res Bool) : TT := fun σ H Q => ∃ δ Z, SR fr Z H σ δ ∧ PostB fr W σ Z H (g δ) Q
def tO (fr : Fr) (W : WX) (g : Envr → Res (Option Int)) : TO := fun σ H Q => ∃ δ Z, SR fr Z H σ δ ∧ PostO fr W σ Z H (g δ) Q

theorem PE.imp {X : Cx} {e : Expr} {t t' : TE} (h : PE X e t) (i : ∀ σ H Q, t' σ H Q → t σ H Q) : PE X e t' := ⟨fun pins s σ H Q I q => h.run pins s σ H Q I (i σ H Q q)⟩
theorem PT.imp {X : Cx} {e : Expr} {t t' : TT} (h : PT X e t) (i : ∀ σ H Q, t' σ H Q → t σ H Q) : PT X e t' := ⟨fun pins s σ H Q I q => h.run pins s σ H Q I (i σ H Q q)⟩
theorem PA.imp {X : Cx} {e : List Expr} {t t' : TA} (h : PA X e t) (i : ∀ σ H Q, t' σ H Q → t σ H Q) : PA X e t' := ⟨fun pos pins s σ H Q I q => h.run pos pins s σ H Q I (i σ H Q q)⟩
theorem PW.imp {X : Cx} {e : Expr} {t t' : TT} (h : PW X e t) (i : ∀ σ H Q, t' σ H Q → t σ H Q) : PW X e t' := ⟨fun wh pins s σ H Q I q => h.run wh pins s σ H Q I (i σ H Q q)⟩
theorem PO.imp {X : Cx} {e : Option Expr} {t t' : TO} (h : PO X e t) (i : ∀ σ H Q, t' σ H Q → t σ H Q) : PO X e t' := ⟨fun pins s σ H Q I q => h.run pins s σ H Q I (i σ H Q q)⟩
/-- a term chosen with the state -/
theorem PE.some {X : Cx} {e : Expr} {t : TE} (h : ∀ σ H Q, t σ H Q → ∃ t', PE X e t' ∧ t' σ H Q) : PE X e t := ⟨fun pins s σ H Q I q => by
  obtain ⟨t', h1, h2⟩ := h σ H Q q
  exact h1.run pins s σ H Q I h2⟩

/-- what an operation asks, from what stands at its values -/
def OpD (fr : Fr) (op : DM → DM → Res DM) (r : R2) : Prop :=
  ∀ (W : WX) (σ : L2.St) (δ : Envr) (Z : Zs) (H0 H : Hp) (x y : DM) (v w : V) (Q : VK), SR fr Z H σ δ → RX fr H0 Z H x v → RX fr H0 Z H y w → Post fr W σ Z H (op x y) Q → r v w H Q
def UnD (fr : Fr) (op : DM → Res DM) (r : V → Hp → VK → Prop) : Prop :=
  ∀ (W : WX) (σ : L2.St) (δ : Envr) (Z : Zs) (H0 H : Hp) (x : DM) (v : V) (Q : VK), SR fr Z H σ δ → RX fr H0 Z H x v → Post fr W σ Z H (op x) Q → r v H Q
section
variable {fr : Fr} {W : WX}
/-- one step of a reading: the first part is done, the rest is asked -/
theorem step1 {g1 : Envr → Res DM} {k : DM → Envr → Res DM} {σ : L2.St} {H : Hp} {Q : VK} (h : tE fr W (fun δ => (g1 δ).bind fun x => k x δ) σ H Q) {Q1 : VK}
    (q : ∀ δ Z x v H1, SR fr Z H1 σ δ → Same H H1 → RX fr H Z H1 x v → Post fr W σ Z H1 (k x δ) Q → Q1 v H1) : tE fr W g1 σ H Q1 := by
  obtain ⟨δ, Z, S, p⟩ := h
  refine ⟨δ, Z, S, ?_⟩
  have p' : Post fr W σ Z H ((g1 δ).bind fun x => k x δ) Q := p
  cases e : g1 δ with
  | ok x =>
    rw [e] at p'
    exact fun v H' Z' e' r' => q δ Z' x v H' (S.ext e') e'.same r' (Post.ext p' e')
  | exc c fs => rw [e] at p'; exact p'
  | bad => rw [e] at p'; exact p'
/-- .. within one -/
theorem step2 {r1 : Res DM} {k : DM → Res DM} {σ : L2.St} {δ : Envr} {Z : Zs} {H : Hp} {Q : VK} (S : SR fr Z H σ δ) (p : Post fr W σ Z H (r1.bind k) Q) {Q1 : VK}
    (q : ∀ Z1 x v H1, Ext Z H Z1 H1 → SR fr Z1 H1 σ δ → RX fr H Z1 H1 x v → Post fr W σ Z1 H1 (k x) Q → Q1 v H1) : Post fr W σ Z H r1 Q1 := by
  cases r1 with
  | ok x => exact fun v H' Z' e' r' => q Z' x v H' e' (S.ext e') r' (Post.ext p e')
  | exc c fs => exact p
  | bad => exact p
theorem tE_bin {g1 g2 : Envr → Res DM} {op : DM → DM → Res DM} {r : R2} (ho : OpD fr op r) : ∀ σ H Q, tE fr W (fun δ => (g1 δ).bind fun x => (g2 δ).bind fun y => op x y) σ H Q → tOp r (tE fr W g1) (tE fr W g2) σ H Q := by
  intro σ H Q h
  refine step1 h fun δ Z x v H1 S1 s1 r1 p1 => ?_
  exact ⟨δ, Z, S1, step2 S1 p1 fun Z2 y w H2 e2 S2 r2 p2 => ho W σ δ Z2 H H2 x y v w Q S2 (r1.ext e2) (r2.up s1) p2⟩
theorem tE_un {g1 : Envr → Res DM} {op : DM → Res DM} {r : V → Hp → VK → Prop} (ho : UnD fr op r) : ∀ σ H Q, tE fr W (fun δ => (g1 δ).bind op) σ H Q → tUn r (tE fr W g1) σ H Q := by
  intro σ H Q h
  exact step1 (k := fun x _ => op x) h fun δ Z x v H1 S1 s1 r1 p1 => ho W σ δ Z H H1 x v Q S1 r1 p1

theorem Post.flat {σ : L2.St} {δ : Envr} {Z : Zs} {H : Hp} {Q : VK} {d : D} {v : V} (S : SR fr Z H σ δ) (p : Post fr W σ Z H (okV d) Q) (r : RV fr.M Z H d v) : Q v H :=
  p v H Z (Ext.refl S.zex) ⟨.val r, fun h => nomatch h⟩
/-- a new tuple -/
theorem Post.newT {σ : L2.St} {δ : Envr} {Z : Zs} {H : Hp} {Q : VK} {ds : List D} {vs : List V} {q : Addr} (S : SR fr Z H σ δ) (p : Post fr W σ Z H (okV (.tup ds)) Q) (r : RVs fr.M Z H ds vs) (n : H q = none) : Q (.ref q) (upd H q (.tup vs)) := by
  have e : Ext Z H Z (upd H q (.tup vs)) := Ext.new S.zex n
  exact p (.ref q) _ Z e ⟨.val (.tup (SqT.of upd_same) (r.mono e.stb e.up)), fun h => nomatch h⟩
theorem Post.newL {σ : L2.St} {δ : Envr} {Z : Zs} {H : Hp} {Q : VK} {ds : List D} {vs : List V} {q : Addr} (S : SR fr Z H σ δ) (p : Post fr W σ Z H (.ok (.lst ds, .own)) Q) (r : RVs fr.M Z H ds vs) (n : H q = none) : Q (.ref q) (upd H q (.lst vs)) := by
  have e : Ext Z H Z (upd H q (.lst vs)) := Ext.new S.zex n
  refine p (.ref q) _ Z e ⟨.ownL upd_same (fun z => S.zex _ z n) (S.same.free n) (r.mono e.stb e.up), fun _ a ea => ?_⟩
  cases ea
  exact n
/-- what a tree that is a list, a tuple reads as -/
theorem RX.list {H0 : Hp} {Z : Zs} {H : Hp} {x : DM} {v : V} {ds : List D} (r : RX fr H0 Z H x v) (e : x.1 = .lst ds) : ∃ a vs, v = .ref a ∧ SqL fr.M.K H a vs ∧ RVs fr.M Z H ds vs := by
  obtain ⟨d, m⟩ := x
  obtain ⟨r, _⟩ := r
  dsimp only at e
  subst e
  cases r with
  | val r =>
    cases r with
    | lst h _ r => exact ⟨_, _, rfl, .inl h, r⟩
    | lsw h r => exact ⟨_, _, rfl, .inr h, r⟩
  | ownL h _ _ r => exact ⟨_, _, rfl, SqL.of h, r⟩
  | rbL h _ r => exact ⟨_, _, rfl, .inl h, r⟩
  | tmL h r => exact ⟨_, _, rfl, .inl h, r⟩
theorem RX.tup {H0 : Hp} {Z : Zs} {H : Hp} {x : DM} {v : V} {ds : List D} (r : RX fr H0 Z H x v) (e : x.1 = .tup ds) : ∃ a vs, v = .ref a ∧ SqT fr.M.K H a vs ∧ RVs fr.M Z H ds vs := by
  obtain ⟨d, m⟩ := x
  obtain ⟨r, _⟩ := r
  dsimp only at e
  subst e
  cases r with
  | val r =>
    cases r with
    | tup h r => exact ⟨_, _, rfl, h, r⟩
theorem RX.int {H0 : Hp} {Z : Zs} {H : Hp} {x : DM} {v : V} {i : Int} (r : RX fr H0 Z H x v) (e : x.1 = .int i) : v = .int i := by
  obtain ⟨d, m⟩ := x
  obtain ⟨r, _⟩ := r
  dsimp only at e
  subst e
  cases r with
  | val r => cases r; rfl
theorem RX.bl {H0 : Hp} {Z : Zs} {H : Hp} {x : DM} {v : V} {i : Bool} (r : RX fr H0 Z H x v) (e : x.1 = .bl i) : v = .bl i := by
  obtain ⟨d, m⟩ := x
  obtain ⟨r, _⟩ := r
  dsimp only at e
  subst e
  cases r with
  | val r => cases r; rfl
/-- as data that == knows -/
theorem RX.dp {H0 : Hp} {Z : Zs} {H : Hp} {x : DM} {v : V} {p : PyData} (r : RX fr H0 Z H x v) (e : x.1.py = some p) : Dp fr.M.K H v p := by
  obtain ⟨d, m⟩ := x
  obtain ⟨r, _⟩ := r
  have go : ∀ {xs : List D} {vs : List V} {a : Addr}, d = .lst xs → SqL fr.M.K H a vs → RVs fr.M Z H xs vs → Dp fr.M.K H (.ref a) p := fun {xs vs a} ed h rr => by
    subst ed
    have e' : (D.py.pys xs).map PyData.list = some p := e
    cases q : D.py.pys xs with
    | none => rw [q] at e'; cases e'
    | some ps =>
      rw [q] at e'
      cases e'
      exact .lst h (rr.dp q)
  cases r with
  | val r => exact r.dp e
  | ownL h _ _ r => exact go rfl (SqL.of h) r
  | rbL h _ r => exact go rfl (.inl h) r
  | tmL h r => exact go rfl (.inl h) r
  | ownD _ _ _ _ => cases e
  | rbD _ _ _ => cases e
  | tmD _ _ => cases e
end

def rCatL (K : PySem.W.Frag) : R2 := fun x y H Q => ∃ l b xs zs, x = .ref l ∧ y = .ref b ∧ SqL K H l xs ∧ SqL K H b zs ∧ xs.length + zs.length ≤ sizeLine ∧ ∀ p, H p = none → Q (.ref p) (upd H p (.lst (xs ++ zs)))
theorem op_catL {X : Cx} : OpR X (binaryOp .Add) (rCatL X.K) := by
  intro pins s σ H x y v u Q I rx ry h
  obtain ⟨l, b, xs, zs, rfl, rfl, hH, hB, hz, q⟩ := h
  cases rx
  cases ry
  obtain ⟨its, r, ⟨⟨cls, dd, data, sl⟩, n, ho, hc, hd, hs⟩, _⟩ := I.list hH
  obtain ⟨its2, r2, ⟨⟨cls2, dd2, data2, sl2⟩, n2, ho2, hc2, hd2, hs2⟩, _⟩ := I.list hB
  simp only at hc hd hs hc2 hd2 hs2
  subst hc hd hs hc2 hd2 hs2
  have hl := r.length
  have hl2 := r2.length
  have e : its.toArray ++ its2.toArray = (its ++ its2).toArray := by simp
  refine concat_meets ⟨_, ho, rfl⟩ ⟨_, ho2, rfl⟩ noFill_list_add seq_list_add PySem.F.slot_list_add PySem.F.entry_list_add (PySem.F.args_list_add_2 _ _)
    (list_addW l b its.toArray its2.toArray n n2 none none sl sl2 (by rw [List.size_toArray, List.size_toArray]; omega)) ⟨ho, ho2, ?_⟩
  rw [e]
  exact ⟨.ref _, _, I.lnew (t' := s.toks) (r.append r2) (by rw [List.length_append]; omega), rfl, q _ I.fresh⟩
theorem OpR.or {X : Cx} {f : Value → Value → Sem Value} {r r' : R2} (h : OpR X f r) (h' : OpR X f r') : OpR X f (fun x y H Q => r x y H Q ∨ r' x y H Q) := by
  intro pins s σ H x y v u Q I rx ry q
  rcases q with q | q
  · exact h pins s σ H x y v u Q I rx ry q
  · exact h' pins s σ H x y v u Q I rx ry q
/-- // by any divisor below 2 ^ 9000 -/
def CDivX (_ j : Int) : Prop := j ≠ 0 ∧ j.natAbs.log2 < 9000
def CMulX (i j : Int) : Prop := i.natAbs.log2 < 60000000 ∧ j.natAbs.log2 < 60000000
theorem CMulX.ok {i j : Int} (h : CMulX i j) : IntMulOk i j := by
  have b : ∀ x : Int, Builtin.Int.intBits x ≤ x.natAbs.log2 + 1 := fun x => by
    unfold Builtin.Int.intBits
    split <;> omega
  have h1 := b i
  have h2 := b j
  have h3 := h.1
  have h4 := h.2
  have e : bitsLine = 134217728 := by decide
  unfold IntMulOk
  intro z
  rw [Bool.and_eq_true] at z
  have z2 := z.2
  unfold Builtin.Int.intTooBig at z2
  have z3 := of_decide_eq_true z2
  rw [e] at z3
  omega
section
variable {X : Cx}
theorem op_fdivX : OpR X (binaryOp .FloorDiv) (rI CDivX fun i j => .int (i.fdiv j)) := opI fun i j _ _ _ _ _ hc q => floordiv_int hc.1 q (.inl (PyProof.noPylong_of_log2 hc.2))
theorem op_mulX : OpR X (binaryOp .Mult) (rI CMulX fun i j => .int (i * j)) := opI fun _ _ _ _ _ _ _ hc q => mul_int q hc.ok
end
def opPy : BOp → Operator
  | .add => .Add
  | .sub => .Sub
  | .mul => .Mult
  | .fdiv => .FloorDiv
  | .mod => .Mod
  | .pow => .Pow
def rBin (K : PySem.W.Frag) : BOp → R2
  | .add => fun x y H Q => rI0 (fun i j => .int (i + j)) x y H Q ∨ (rCatA K x y H Q ∨ rCatL K x y H Q)
  | .sub => rI0 fun i j => .int (i - j)
  | .mul => rI CMulX fun i j => .int (i * j)
  | .fdiv => rI CDivX fun i j => .int (i.fdiv j)
  | .mod => rI (fun _ j => j ≠ 0) fun i j => .int (i.fmod j)
  | .pow => rI CPow fun i j => .int (i ^ j.toNat)
theorem op_bin {X : Cx} : ∀ op : BOp, OpR X (binaryOp (opPy op)) (rBin X.K op)
  | .add => OpR.or op_add (OpR.or op_catA op_catL)
  | .sub => op_sub
  | .mul => op_mulX
  | .fdiv => op_fdivX
  | .mod => op_modN
  | .pow => op_pow
theorem lenOk_le {n : Nat} (h : lenOk n = true) : n ≤ sizeLine := by
  have e := sizeLine_eq
  have := of_decide_eq_true h
  omega
theorem rvs_nil {M : Mo} {Z : Zs} {H : Hp} {ds : List D} (r : RVs M Z H ds []) : ds = [] := by cases r; rfl
theorem binD_ok {fr : Fr} {op : BOp} : OpD fr (binD op) (rBin fr.M.K op) := by
  intro W σ δ Z H0 H x y v w Q S rx ry p
  obtain ⟨d, m⟩ := x
  obtain ⟨e, m'⟩ := y
  cases d with
  | int i =>
    have ev := rx.int rfl
    cases e with
    | int j =>
      have ew := ry.int rfl
      subst ev ew
      cases op with
      | add => exact .inl ⟨i, j, rfl, rfl, p.flat S (.int _)⟩
      | sub => exact ⟨i, j, rfl, rfl, p.flat S (.int _)⟩
      | mul =>
        have p' : Post fr W σ Z H (if mulOk i j = true then okI (i * j) else .bad) Q := p
        by_cases c : mulOk i j = true
        · rw [if_pos c] at p'
          have c' := Bool.and_eq_true_iff.mp c
          exact ⟨i, j, rfl, rfl, ⟨of_decide_eq_true c'.1, of_decide_eq_true c'.2⟩, p'.flat S (.int _)⟩
        · rw [if_neg c] at p'; exact p'.elim
      | fdiv =>
        have p' : Post fr W σ Z H (if divOkN j = true then okI (i.fdiv j) else .bad) Q := p
        by_cases c : divOkN j = true
        · rw [if_pos c] at p'
          have c' := Bool.and_eq_true_iff.mp c
          exact ⟨i, j, rfl, rfl, ⟨of_decide_eq_true c'.1, of_decide_eq_true c'.2⟩, p'.flat S (.int _)⟩
        · rw [if_neg c] at p'; exact p'.elim
      | mod =>
        have p' : Post fr W σ Z H (if j = 0 then .bad else okI (i.fmod j)) Q := p
        by_cases c : j = 0
        · rw [if_pos c] at p'; exact p'.elim
        · rw [if_neg c] at p'
          exact ⟨i, j, rfl, rfl, c, p'.flat S (.int _)⟩
      | pow =>
        have p' : Post fr W σ Z H (if powOk i j = true then okI (i ^ j.toNat) else .bad) Q := p
        by_cases c : powOk i j = true
        · rw [if_pos c] at p'
          have c' := Bool.and_eq_true_iff.mp c
          have c2 := Bool.and_eq_true_iff.mp c'.1
          have h2 := of_decide_eq_true c2.2
          exact ⟨i, j, rfl, rfl, ⟨of_decide_eq_true c2.1, by omega, of_decide_eq_true c'.2⟩, p'.flat S (.int _)⟩
        · rw [if_neg c] at p'; exact p'.elim
    | _ => cases op <;> exact p.elim
  | tup xs =>
    cases e with
    | tup ys =>
      cases op with
      | add =>
        have p' : Post fr W σ Z H (if lenOk (xs.length + ys.length) = true then okV (.tup (xs ++ ys)) else .bad) Q := p
        by_cases c : lenOk (xs.length + ys.length) = true
        · rw [if_pos c] at p'
          obtain ⟨a, vs, rfl, h1, r1⟩ := rx.tup rfl
          obtain ⟨b, ws, rfl, h2, r2⟩ := ry.tup rfl
          refine .inr (.inl ⟨a, b, vs, ws, rfl, rfl, h1, h2, by rw [← r1.length, ← r2.length]; exact lenOk_le c, fun z => ?_, fun z1 z2 => ?_, fun z1 z2 q n => p'.newT S (r1.app r2) n⟩)
          · subst z
            have := rvs_nil r1
            subst this
            exact p'.flat S (.tup h2 r2)
          · subst z2
            have := rvs_nil r2
            subst this
            rw [List.append_nil] at p'
            exact p'.flat S (.tup h1 r1)
        · rw [if_neg c] at p'; exact p'.elim
      | _ => exact p.elim
    | _ => cases op <;> exact p.elim
  | lst xs =>
    cases e with
    | lst ys =>
      cases op with
      | add =>
        have p' : Post fr W σ Z H (if lenOk (xs.length + ys.length) = true then .ok (.lst (xs ++ ys), .own) else .bad) Q := p
        by_cases c : lenOk (xs.length + ys.length) = true
        · rw [if_pos c] at p'
          obtain ⟨a, vs, rfl, h1, r1⟩ := rx.list rfl
          obtain ⟨b, ws, rfl, h2, r2⟩ := ry.list rfl
          exact .inr (.inr ⟨a, b, vs, ws, rfl, rfl, h1, h2, by rw [← r1.length, ← r2.length]; exact lenOk_le c, fun q n => p'.newL S (r1.app r2) n⟩)
        · rw [if_neg c] at p'; exact p'.elim
      | _ => exact p.elim
    | _ => cases op <;> exact p.elim
  | _ => cases op <;> exact p.elim

def cmpPy : COp → CmpOp
  | .eq => .Eq
  | .ne => .NotEq
  | .lt => .Lt
  | .le => .LtE
  | .gt => .Gt
  | .ge => .GtE
  | .isN => .Is
  | .notN => .IsNot
def rCmp (K : PySem.W.Frag) : COp → R2
  | .eq => rEqD K
  | .ne => rNeD K
  | .lt => rI0 fun i j => .bl (decide (i < j))
  | .le => rI0 fun i j => .bl (decide (i ≤ j))
  | .gt => rI0 fun i j => .bl (decide (j < i))
  | .ge => rI0 fun i j => .bl (decide (j ≤ i))
  | .isN => fun x y H Q => y = .non ∧ Q (.bl (decide (x = .non))) H
  | .notN => fun x y H Q => y = .non ∧ Q (.bl (!decide (x = .non))) H
theorem op_cmp {X : Cx} (hu : X.A.units + 64 < cLine) : ∀ op : COp, OpR X (compareOp (cmpPy op)) (rCmp X.K op)
  | .eq => op_eqD hu
  | .ne => op_neD hu
  | .lt => op_lt
  | .le => op_le
  | .gt => op_gt
  | .ge => op_ge
  | .isN => op_isN
  | .notN => op_notN
theorem eqD_some {x y : D} {b : Bool} (h : eqD x y = some b) : ∃ p q, x.py = some p ∧ y.py = some q ∧ SeqAt.shaped p = true ∧ SeqAt.shaped q = true ∧ b = PyData.eqv p q := by
  unfold eqD at h
  cases e1 : x.py with
  | none => rw [e1] at h; cases h
  | some p =>
    cases e2 : y.py with
    | none => rw [e1, e2] at h; cases h
    | some q =>
      rw [e1, e2] at h
      have h' : (if (SeqAt.shaped p && SeqAt.shaped q) = true then some (PyData.eqv p q) else none) = some b := h
      by_cases c : (SeqAt.shaped p && SeqAt.shaped q) = true
      · rw [if_pos c] at h'
        have c' := Bool.and_eq_true_iff.mp c
        exact ⟨p, q, rfl, rfl, c'.1, c'.2, (Option.some.inj h').symm⟩
      · rw [if_neg c] at h'; cases h'
/-- which values are None -/
theorem RX.non {fr : Fr} {H0 : Hp} {Z : Zs} {H : Hp} {x : DM} {v : V} (r : RX fr H0 Z H x v) : decide (v = .non) = (match x.1 with | .non => true | _ => false) := by
  obtain ⟨d, m⟩ := x
  obtain ⟨r, _⟩ := r
  cases r with
  | val r => cases r <;> first | rfl | exact decide_eq_false (fun q => nomatch q)
  | _ => exact decide_eq_false (fun q => nomatch q)
theorem not_non {d : D} : (!(match d with | .non => true | _ => false)) = (match d with | .non => false | _ => true) := by cases d <;> rfl
theorem cmpD_ok {fr : Fr} {op : COp} : OpD fr (cmpD op) (rCmp fr.M.K op) := by
  intro W σ δ Z H0 H x y v w Q S rx ry p
  have ii : ∀ (f : Int → Int → Bool), Post fr W σ Z H (match x.1, y.1 with | .int i, .int j => okB (f i j) | _, _ => .bad) Q → ∃ i j, v = .int i ∧ w = .int j ∧ Q (.bl (f i j)) H := fun f p => by
    cases e1 : x.1 with
    | int i =>
      cases e2 : y.1 with
      | int j =>
        rw [e1, e2] at p
        exact ⟨i, j, rx.int e1, ry.int e2, p.flat S (.bl _)⟩
      | _ => rw [e1, e2] at p; exact p.elim
    | _ => rw [e1] at p; exact p.elim
  cases op with
  | eq =>
    have p' : Post fr W σ Z H (match eqD x.1 y.1 with | some b => okB b | none => .bad) Q := p
    cases e : eqD x.1 y.1 with
    | none => rw [e] at p'; exact p'.elim
    | some b =>
      rw [e] at p'
      obtain ⟨d1, d2, h1, h2, s1, s2, rfl⟩ := eqD_some e
      exact ⟨d1, d2, rx.dp h1, ry.dp h2, s1, s2, p'.flat S (.bl _)⟩
  | ne =>
    have p' : Post fr W σ Z H (match eqD x.1 y.1 with | some b => okB (!b) | none => .bad) Q := p
    cases e : eqD x.1 y.1 with
    | none => rw [e] at p'; exact p'.elim
    | some b =>
      rw [e] at p'
      obtain ⟨d1, d2, h1, h2, s1, s2, rfl⟩ := eqD_some e
      exact ⟨d1, d2, rx.dp h1, ry.dp h2, s1, s2, p'.flat S (.bl _)⟩
  | lt => exact ii (fun i j => decide (i < j)) p
  | le => exact ii (fun i j => decide (i ≤ j)) p
  | gt => exact ii (fun i j => decide (j < i)) p
  | ge => exact ii (fun i j => decide (j ≤ i)) p
  | isN =>
    have p' : Post fr W σ Z H (match y.1 with | .non => okB (match x.1 with | .non => true | _ => false) | _ => .bad) Q := p
    have e := ry.non
    cases e2 : y.1 with
    | non =>
      rw [e2] at e p'
      refine ⟨of_decide_eq_true e, ?_⟩
      rw [rx.non]
      exact p'.flat S (.bl _)
    | _ => rw [e2] at p'; exact p'.elim
  | notN =>
    have p' : Post fr W σ Z H (match y.1 with | .non => okB (match x.1 with | .non => false | _ => true) | _ => .bad) Q := p
    have e := ry.non
    cases e2 : y.1 with
    | non =>
      rw [e2] at e p'
      refine ⟨of_decide_eq_true e, ?_⟩
      rw [rx.non, not_non]
      exact p'.flat S (.bl _)
    | _ => rw [e2] at p'; exact p'.elim

def rIxX (K : PySem.W.Frag) : R2 := fun x y H Q => rIxL K x y H Q ∨ rIxT K x y H Q
theorem ix_ok {X : Cx} : IxR X (rIxX X.K) := ix_list.or ix_tup
theorem ixD_ok {fr : Fr} : OpD fr ixD (rIxX fr.M.K) := by
  intro W σ δ Z H0 H x y v w Q S rx ry p
  unfold ixD at p
  cases e1 : x.1 with
  | tup xs =>
    cases e2 : y.1 with
    | int i =>
      rw [e1, e2] at p
      have p' : Post fr W σ Z H (match atI xs i with | some d => okV d | none => .bad) Q := p
      obtain ⟨a, vs, rfl, h1, r1⟩ := rx.tup e1
      have ew := ry.int e2
      subst ew
      cases q : atI xs i with
      | none => rw [q] at p'; exact p'.elim
      | some d =>
        rw [q] at p'
        obtain ⟨z, ez, rz⟩ := r1.at q
        exact .inr ⟨a, vs, i, z, rfl, rfl, h1, ez, p'.flat S rz⟩
    | _ => rw [e1, e2] at p; exact p.elim
  | lst xs =>
    cases e2 : y.1 with
    | int i =>
      rw [e1, e2] at p
      have p' : Post fr W σ Z H (match atI xs i with | some d => okV d | none => .bad) Q := p
      obtain ⟨a, vs, rfl, h1, r1⟩ := rx.list e1
      have ew := ry.int e2
      subst ew
      cases q : atI xs i with
      | none => rw [q] at p'; exact p'.elim
      | some d =>
        rw [q] at p'
        obtain ⟨z, ez, rz⟩ := r1.at q
        exact .inl ⟨a, vs, i, z, rfl, rfl, h1, ez, p'.flat S rz⟩
    | _ => rw [e1, e2] at p; exact p.elim
  | _ => rw [e1] at p; exact p.elim
def rSlX (K : PySem.W.Frag) : V → Option Int → Option Int → Hp → VK → Prop := fun x lo hi H Q => rSlL K x lo hi H Q ∨ rSlA K x lo hi H Q
theorem sl_ok {X : Cx} : SlR X (rSlX X.K) := sl_list.or sl_tupA
theorem cutD_whole {ds : List D} {lo hi : Option Int} (h : HT.sIx ds.length 0 lo = 0 ∧ HT.sIx ds.length ds.length hi = ds.length) : cutD ds lo hi = ds := by
  unfold cutD
  rw [h.1, h.2, Nat.sub_zero, List.drop_zero, List.take_length]
theorem slcD_ok {fr : Fr} {W : WX} {σ : L2.St} {δ : Envr} {Z : Zs} {H0 H : Hp} {x : DM} {v : V} {lo hi : Option Int} {Q : VK} (S : SR fr Z H σ δ) (rx : RX fr H0 Z H x v) (p : Post fr W σ Z H (slcD x lo hi) Q) : rSlX fr.M.K v lo hi H Q := by
  unfold slcD at p
  cases e1 : x.1 with
  | tup xs =>
    rw [e1] at p
    obtain ⟨a, vs, rfl, h1, r1⟩ := rx.tup e1
    refine .inr ⟨a, vs, rfl, h1, fun c => ?_, fun _ q n => Post.newT S p (r1.cut lo hi) n⟩
    rw [← r1.length] at c
    have p' : Post fr W σ Z H (okV (.tup (cutD xs lo hi))) Q := p
    rw [cutD_whole c] at p'
    exact p'.flat S (.tup h1 r1)
  | lst xs =>
    rw [e1] at p
    obtain ⟨a, vs, rfl, h1, r1⟩ := rx.list e1
    exact .inl ⟨a, vs, rfl, h1, fun q n => Post.newL S p (r1.cut lo hi) n⟩
  | _ => rw [e1] at p; exact p.elim
end Ev
namespace Ev
open PySem PySem.Spec PyProof.Rows L2

def ixOf : List Str → Str → Option Nat
  | [], _ => none
  | y :: r, x => if y = x then some 0 else (ixOf r x).map (· + 1)
theorem ixOf_get : ∀ {l : List Str} {x : Str} {i : Nat}, ixOf l x = some i → l[i]? = some x
  | [], _, _, h => by cases h
  | y :: r, x, i, h => by
    unfold ixOf at h
    by_cases e : y = x
    · rw [if_pos e] at h
      cases h
      rw [e]
      rfl
    · rw [if_neg e] at h
      cases q : ixOf r x with
      | none => rw [q] at h; cases h
      | some j =>
        rw [q] at h
        cases h
        show r[j]? = some x
        exact ixOf_get q
structure Cm where
  N : List Str
  fn : List (Str × Nat)
def slotOf (c : Cm) (sc : Scope) (x : Str) : Option Nat :=
  if (x == ("__debug__" : Str)) = true then none else if (x == ("__classdict__" : Str)) = true then none else
  match sc.names.lookup x with
  | some .local => ixOf c.N x
  | some .cell => ixOf c.N x
  | some .free => ixOf c.N x
  | _ => none
def isGl (sc : Scope) (x : Str) : Bool := decide (sc.names.lookup x = some .globalImplicit) && !(x == ("__debug__" : Str)) && !(x == ("__name__" : Str))
def bopOf : Operator → Option BOp
  | .Add => some .add
  | .Sub => some .sub
  | .Mult => some .mul
  | .FloorDiv => some .fdiv
  | .Mod => some .mod
  | .Pow => some .pow
  | _ => none
def copOf : CmpOp → Option COp
  | .Eq => some .eq
  | .NotEq => some .ne
  | .Lt => some .lt
  | .LtE => some .le
  | .Gt => some .gt
  | .GtE => some .ge
  | .Is => some .isN
  | .IsNot => some .notN
  | _ => none
def tyOf (x : Str) : Option Ty :=
  if x = "int" then some .int else if x = "bool" then some .bool else if x = "tuple" then some .tuple else if x = "list" then some .list else if x = "str" then some .str else none
def biOf (x : Str) : Option Bi :=
  if x = "len" then some .len else if x = "abs" then some .abs else if x = "int" then some .int else if x = "tuple" then some .tuple else if x = "list" then some .list else none
/-- an index that may stand as such -/
def plainIx : Expr → Bool
  | .Slice _ _ _ _ => false
  | _ => true
def notStar : Expr → Bool
  | .Starred _ _ => false
  | _ => true
def compL (f : Expr → Option IE) : List Expr → Option IL
  | [] => some .nil
  | e :: r => if notStar e = true then match f e, compL f r with
    | some a, some b => some (.cons a b)
    | _, _ => none else none
def compAll (op : IE → IE → IE) (f : Expr → Option IE) : List Expr → Option IE
  | [] => none
  | [e] => f e
  | e :: r => match f e, compAll op f r with
    | some a, some b => some (op a b)
    | _, _ => none
def compO (f : Expr → Option IE) : Option Expr → Option IO
  | none => some .none
  | some e => (f e).map .some
/-- built-ins by their names -/
def compB (sc : Scope) (ce : Expr → Option IE) (f : Str) : List Expr → Option IE
  | [a] => match biOf f with
    | some b => if notStar a = true then (ce a).map (.bi b) else none
    | none => none
  | [a, .Name t _] => if f = "isinstance" ∧ isGl sc t = true ∧ notStar a = true then match tyOf t with
      | some t => (ce a).map (.isi t)
      | none => none else none
  | _ => none
def compE (c : Cm) (sc : Scope) : Nat → Expr → Option IE
  | 0, _ => none
  | F + 1, e => match e with
    | .Constant (.int i) _ _ => some (.cst (.int i))
    | .Constant (.bool b) _ _ => some (.cst (.bl b))
    | .Constant .none _ _ => some (.cst .non)
    | .Constant (.str x) _ _ => some (.cst (.str x))
    | .Name x _ => (slotOf c sc x).map .var
    | .BinOp a op b _ => match bopOf op, compE c sc F a, compE c sc F b with
      | some o, some x, some y => some (.bin o x y)
      | _, _, _ => none
    | .UnaryOp .USub a _ => (compE c sc F a).map .neg
    | .UnaryOp .Not a _ => (compE c sc F a).map .not
    | .Compare a [op] [b] _ => match copOf op, compE c sc F a, compE c sc F b with
      | some o, some x, some y => some (.cmp o x y)
      | _, _, _ => none
    | .BoolOp .And es _ => compAll .and (compE c sc F) es
    | .BoolOp .Or es _ => compAll .or (compE c sc F) es
    | .Tuple es _ _ => (compL (compE c sc F) es).map .tup
    | .List es _ => (compL (compE c sc F) es).map .lst
    | .Subscript a (.Slice lo hi none _) _ => match compE c sc F a, compO (compE c sc F) lo, compO (compE c sc F) hi with
      | some x, some l, some h => some (.slc x l h)
      | _, _, _ => none
    | .Subscript a b _ => if plainIx b = true then match compE c sc F a, compE c sc F b with
      | some x, some y => some (.ix x y)
      | _, _ => none else none
    | .Call (.Name f _) es [] _ => if isGl sc f = true then match c.fn.lookup f with
        | some i => (compL (compE c sc F) es).map (.call i)
        | none => compB sc (compE c sc F) f es
      else none
    | _ => none

inductive RMs (fr : Fr) (Z : Zs) (H : Hp) : List DM → List V → Prop
  | nil : RMs fr Z H [] []
  | cons {x : DM} {v : V} {xs : List DM} {vs : List V} : RM fr Z H x.2 x.1 v → RMs fr Z H xs vs → RMs fr Z H (x :: xs) (v :: vs)
/-- what the i-th def promises -/
def spI (M : Mo) (cl : Call) (i n : Nat) : Sp := fun vs H Q E => ∃ (xs : List DM) (Z : Zs), (∀ a, Z a → H a ≠ none) ∧ RMs ⟨M, H, Z⟩ Z H xs vs ∧ (∀ x ∈ xs, x.2 = .val ∨ x.2 = .rb) ∧ vs.length = n ∧
  match cl i xs with
  | .ok x => (x.2 = .val ∨ x.2 = .own) → ∀ v H' Z', Ext Z H Z' H' → RM ⟨M, H, Z⟩ Z' H' x.2 x.1 v → Q v H'
  | .exc c fs => ∀ C od H', XR M c fs C od H' → Same H H' → E (.ref C) od H'
  | .bad => False
structure FnC (X : Cx) (M : Mo) (cl : Call) (x : Str) (i : Nat) : Prop where
  ex : ∃ (k : Nat) (f : Addr) (fd : FuncData) (ps : List Str), Room k X.A ∧ X.mg x = some (.ref f) ∧ PySem.W.keepIn X.K (.ref f) = true ∧ Binds X.K fd ps [] ∧ FnOk X.prog X.w X.K X.mg X.base (L2.CX X.prog X.w) k f fd ps (spI M cl i ps.length) ∧ ∀ xs, cl i xs ≠ .bad → xs.length = ps.length
def bltNames : List Str := ["len", "abs", "int", "tuple", "list", "bool", "str", "isinstance", "range", "zip", "enumerate", "max", "min", "sorted", "all", "any", "sum", "dict", "set", "reversed"]
structure Cok (X : Cx) (W : WX) (M : Mo) (c : Cm) (cl : Call) (sc : Scope) : Prop where
  K : X.K = M.K
  mg : X.mg = M.mg
  hsc : X.env.scope = sc
  N : X.N = c.N
  nd : X.N.Nodup
  calm : X.calm = true
  tk : Takes X W
  hu : X.A.units + 64 < cLine
  bl : ∀ x ∈ bltNames, X.mg x = none
  fns : ∀ x i, c.fn.lookup x = some i → FnC X M cl x i
  sto : ∀ x, L2.Loc sc x → X.fn x = true ∨ sc.names.lookup x = some .local
section
variable {X : Cx} {W : WX} {M : Mo} {c : Cm} {cl : Call} {sc : Scope} {fr : Fr}
theorem Cok.gl (C : Cok X W M c cl sc) {x : Str} (h : isGl sc x = true) : Gl X x ∧ (x == ("__debug__" : Str)) = false ∧ x ≠ "__name__" := by
  unfold isGl at h
  have h1 := Bool.and_eq_true_iff.mp h
  have h2 := Bool.and_eq_true_iff.mp h1.1
  have h3 := of_decide_eq_true h2.1
  refine ⟨?_, by simpa using h2.2, by simpa using h1.2⟩
  show X.env.scope.names.lookup x = some .globalImplicit
  rw [C.hsc]
  exact h3
theorem slotOf_ok (C : Cok X W M c cl sc) {x : Str} {i : Nat} (h : slotOf c sc x = some i) : X.N[i]? = some x ∧ Vis X.env.scope x ∧ (x == ("__debug__" : Str)) = false ∧ (x == ("__classdict__" : Str)) = false := by
  unfold slotOf at h
  by_cases h1 : (x == ("__debug__" : Str)) = true
  · rw [if_pos h1] at h; cases h
  rw [if_neg h1] at h
  by_cases h2 : (x == ("__classdict__" : Str)) = true
  · rw [if_pos h2] at h; cases h
  rw [if_neg h2] at h
  have h1' := Bool.eq_false_iff.mpr h1
  have h2' := Bool.eq_false_iff.mpr h2
  unfold Vis
  rw [C.N, C.hsc]
  cases q : sc.names.lookup x with
  | none => rw [q] at h; cases h
  | some k =>
    rw [q] at h
    cases k with
    | «local» => exact ⟨ixOf_get h, .inl rfl, h1', h2'⟩
    | cell => exact ⟨ixOf_get h, .inr (.inl rfl), h1', h2'⟩
    | free => exact ⟨ixOf_get h, .inr (.inr rfl), h1', h2'⟩
    | globalExplicit => cases h
    | globalImplicit => cases h
theorem star_cons {e : Expr} (h : notStar e = true) (es : List Expr) (env : Env) : starEach (e :: es) env = (false, eval e env) :: starEach es env := by
  cases e <;> first | rfl | cases h
theorem star_plain : ∀ {es : List Expr} (env : Env) (pos : Pos), (∀ e ∈ es, notStar e = true) → (backTo pos (starEach es env)).any (·.1) = false
  | [], _, _, _ => rfl
  | e :: es, env, pos, h => by
    rw [star_cons (h e List.mem_cons_self)]
    show (false || (backTo pos (starEach es env)).any (·.1)) = false
    rw [star_plain env pos fun x hx => h x (List.mem_cons_of_mem _ hx), Bool.false_or]
theorem compL_star {f : Expr → Option IE} : ∀ {es : List Expr} {il : IL}, compL f es = some il → ∀ e ∈ es, notStar e = true
  | [], _, _, _, h => by cases h
  | a :: es, il, h, e, he => by
    unfold compL at h
    by_cases q : notStar a = true
    · rw [if_pos q] at h
      rcases List.mem_cons.mp he with rfl | he
      · exact q
      · cases q1 : f a with
        | none => rw [q1] at h; cases h
        | some x =>
          rw [q1] at h
          cases q2 : compL f es with
          | none => rw [q2] at h; cases h
          | some y => exact compL_star q2 e he
    · rw [if_neg q] at h; cases h
theorem RXs.up {H H1 H' : Hp} {Z' : Zs} {xs : List DM} {vs : List V} (r : RXs fr H1 Z' H' xs vs) (s : Same H H1) : RXs fr H Z' H' xs vs := by
  induction r with
  | nil => exact .nil
  | cons a _ ih => exact .cons (a.up s) ih
/-- a list of arguments -/
theorem compL_ok {f : Expr → Option IE} (hf : ∀ e ie, f e = some ie → PE X e (tE fr W (evI cl ie))) : ∀ {es : List Expr} {il : IL}, compL f es = some il → PA X es (tL fr W (evL cl il))
  | [], il, h => by
    cases h
    refine PA.imp pa_nil fun σ H Q h => ?_
    obtain ⟨δ, Z, S, p⟩ := h
    exact p [] H Z (Ext.refl S.zex) .nil
  | a :: es, il, h => by
    unfold compL at h
    by_cases q : notStar a = true
    · rw [if_pos q] at h
      cases q1 : f a with
      | none => rw [q1] at h; cases h
      | some x =>
        rw [q1] at h
        cases q2 : compL f es with
        | none => rw [q2] at h; cases h
        | some y =>
          rw [q2] at h
          cases h
          refine PA.imp (pa_cons (hf _ _ q1) (compL_ok hf q2) (star_cons q es X.env)) fun σ H Q h => ?_
          obtain ⟨δ, Z, S, p⟩ := h
          refine ⟨δ, Z, S, ?_⟩
          have p' : PostL fr W σ Z H ((evI cl x δ).bind fun x => (evL cl y δ).bind fun xs => .ok (x :: xs)) Q := p
          cases e1 : evI cl x δ with
          | bad => rw [e1] at p'; exact p'
          | exc c fs => rw [e1] at p'; exact p'
          | ok xv =>
            rw [e1] at p'
            intro v H1 Z1 ex1 r1
            refine ⟨δ, Z1, S.ext ex1, ?_⟩
            have p2 : PostL fr W σ Z H ((evL cl y δ).bind fun xs => .ok (xv :: xs)) Q := p'
            cases e2 : evL cl y δ with
            | bad => rw [e2] at p2; exact p2
            | exc c fs => rw [e2] at p2; exact fun C od H' x s => p2 C od H' x (ex1.same.trans s)
            | ok xs =>
              rw [e2] at p2
              exact fun vs H2 Z2 ex2 r2 => p2 (v :: vs) H2 Z2 (ex1.trans ex2) (.cons (r1.ext ex2) (r2.up ex1.same))
    · rw [if_neg q] at h; cases h

theorem tL_fin {g : Envr → Res (List DM)} {k : List DM → Res DM} {σ : L2.St} {H : Hp} {Q : VK} (h : tE fr W (fun δ => (g δ).bind k) σ H Q) {Q1 : List V → Hp → Prop}
    (q : ∀ δ Z xs vs H1, SR fr Z H1 σ δ → Same H H1 → RXs fr H Z H1 xs vs → (∀ v H' Z' x, k xs = .ok x → (∀ a, Z a → Z' a) → (∀ a, Z' a → Z a ∨ H a = none) → Same H1 H' → (∀ a, Z' a → H' a ≠ none) → RX fr H Z' H' x v → Q v H') → Post fr W σ Z H1 (k xs) Q → Q1 vs H1) : tL fr W g σ H Q1 := by
  obtain ⟨δ, Z, S, p⟩ := h
  refine ⟨δ, Z, S, ?_⟩
  have p' : Post fr W σ Z H ((g δ).bind k) Q := p
  cases e : g δ with
  | bad => rw [e] at p'; exact p'
  | exc c fs => rw [e] at p'; exact p'
  | ok xs =>
    rw [e] at p'
    intro vs H1 Z1 e1 r1
    refine q δ Z1 xs vs H1 (S.ext e1) e1.same r1 (fun v H' Z' x ek u1 d1 s1 z1 r2 => ?_) (Post.ext p' e1)
    have p2 : Post fr W σ Z H (k xs) Q := p'
    rw [ek] at p2
    refine p2 v H' Z' ⟨e1.same.trans s1, fun a h => u1 a (e1.up a h), fun a h => ?_, z1⟩ r2
    rcases d1 a h with h | h
    · exact e1.dn a h
    · exact .inr h
/-- all that is held for good from now on -/
theorem toVals_ok {H0 : Hp} : ∀ {xs : List DM} {vs : List V} {ds : List D} {Z : Zs} {H : Hp}, (∀ a, Z a → H a ≠ none) → Same H0 H → RXs fr H0 Z H xs vs → toVals xs = some ds →
    ∃ Z' : Zs, (∀ a, Z a → Z' a) ∧ (∀ a, Z' a → Z a ∨ H0 a = none) ∧ (∀ a, Z' a → H a ≠ none) ∧ RVs fr.M Z' H ds vs
  | [], _, ds, Z, H, z, s, r, e => by
    cases r
    cases e
    exact ⟨Z, fun _ h => h, fun _ h => .inl h, z, .nil⟩
  | x :: xs, _, ds, Z, H, z, s, r, e => by
    cases r with
    | cons r1 r2 =>
      unfold toVals at e
      cases q1 : toVal x with
      | none => rw [q1] at e; cases e
      | some d =>
        rw [q1] at e
        cases q2 : toVals xs with
        | none => rw [q2] at e; cases e
        | some ds' =>
          rw [q2] at e
          cases e
          obtain ⟨Z1, a1, a2, a3, a4⟩ := toVals_ok z s r2 q2
          obtain ⟨Z2, _, b1, b2, b3, b4⟩ := toVal_ok z s r1 q1
          refine ⟨fun a => Z1 a ∨ Z2 a, fun a h => .inl (a1 a h), fun a h => h.elim (a2 a) (b2 a), fun a h => h.elim (a3 a) (b3 a), .cons ?_ ?_⟩
          · exact b4.mono (Stb.of_same (Same.refl H)) fun _ h => .inr h
          · exact a4.mono (Stb.of_same (Same.refl H)) fun _ h => .inl h
theorem toVals_len : ∀ {xs : List DM} {ds : List D}, toVals xs = some ds → ds.length = xs.length
  | [], ds, e => by cases e; rfl
  | x :: xs, ds, e => by
    unfold toVals at e
    cases q1 : toVal x with
    | none => rw [q1] at e; cases e
    | some d =>
      rw [q1] at e
      cases q2 : toVals xs with
      | none => rw [q2] at e; cases e
      | some ds' =>
        rw [q2] at e
        cases e
        rw [List.length_cons, List.length_cons, toVals_len q2]
theorem lend_ok {H0 H : Hp} {Z : Zs} {x : DM} {v : V} (z : ∀ a, Z a → H a ≠ none) (r : RX fr H0 Z H x v) : RM ⟨fr.M, H, Z⟩ Z H (lend x).2 (lend x).1 v ∧ ((lend x).2 = .val ∨ (lend x).2 = .rb) := by
  obtain ⟨d, m⟩ := x
  obtain ⟨r, _⟩ := r
  have rd : ∀ {a : Addr} {u : HO}, Rd H a u → H a ≠ none := fun {a u} h => by
    rcases h with h | ⟨o, h⟩ <;> (rw [h]; exact fun q => nomatch q)
  cases r with
  | val r => exact ⟨.val r, .inl rfl⟩
  | ownL h _ _ r => exact ⟨.rbL (.inl h) (rd (.inl h)) r, .inr rfl⟩
  | ownD h _ _ r => exact ⟨.rbD (.inl h) (rd (.inl h)) r, .inr rfl⟩
  | rbL h _ r => exact ⟨.rbL h (rd h) r, .inr rfl⟩
  | rbD h _ r => exact ⟨.rbD h (rd h) r, .inr rfl⟩
  | tmL h r => exact ⟨.rbL h (rd h) r, .inr rfl⟩
  | tmD h r => exact ⟨.rbD h (rd h) r, .inr rfl⟩
theorem lends_ok {H0 H : Hp} {Z : Zs} (z : ∀ a, Z a → H a ≠ none) : ∀ {xs : List DM} {vs : List V}, RXs fr H0 Z H xs vs → RMs ⟨fr.M, H, Z⟩ Z H (xs.map lend) vs ∧ ∀ x ∈ xs.map lend, x.2 = .val ∨ x.2 = .rb
  | _, _, .nil => ⟨.nil, fun _ h => by cases h⟩
  | _, _, .cons r t => by
    obtain ⟨a, b⟩ := lend_ok z r
    obtain ⟨c, d⟩ := lends_ok z t
    refine ⟨.cons a c, fun x h => ?_⟩
    rcases List.mem_cons.mp h with rfl | h
    · exact b
    · exact d x h
theorem RXs.length {H0 H : Hp} {Z : Zs} : ∀ {xs : List DM} {vs : List V}, RXs fr H0 Z H xs vs → xs.length = vs.length
  | _, _, .nil => rfl
  | _, _, .cons _ t => by rw [List.length_cons, List.length_cons, RXs.length t]
/-- what a call gives back -/
theorem RM.back {H H' : Hp} {Z Z' : Zs} {x : DM} {v : V} (s : Same fr.H0 H) (m : x.2 = .val ∨ x.2 = .own) (r : RM ⟨fr.M, H, Z⟩ Z' H' x.2 x.1 v) : RX fr H Z' H' x v := by
  obtain ⟨d, q⟩ := x
  cases r with
  | val r => exact ⟨.val r, fun h => nomatch h⟩
  | ownL h n z r => exact ⟨.ownL h n (s.free z) r, fun _ a e => by cases e; exact z⟩
  | ownD h n z r => exact ⟨.ownD h n (s.free z) r, fun _ a e => by cases e; exact z⟩
  | rbL _ _ _ => rcases m with m | m <;> cases m
  | rbD _ _ _ => rcases m with m | m <;> cases m
  | tmL _ _ => rcases m with m | m <;> cases m
  | tmD _ _ => rcases m with m | m <;> cases m
theorem retD_mode {x y : DM} (h : retD x = .ok y) : y = x ∧ (x.2 = .val ∨ x.2 = .own) := by
  obtain ⟨d, m⟩ := x
  cases m with
  | val => cases h; exact ⟨rfl, .inl rfl⟩
  | own => cases h; exact ⟨rfl, .inr rfl⟩
  | rb => cases h
  | tmp => cases h
theorem retD_cases (x : DM) : retD x = .ok x ∧ (x.2 = .val ∨ x.2 = .own) ∨ retD x = .bad := by
  obtain ⟨d, m⟩ := x
  cases m with
  | val => exact .inl ⟨rfl, .inl rfl⟩
  | own => exact .inl ⟨rfl, .inr rfl⟩
  | rb => exact .inr rfl
  | tmp => exact .inr rfl
/-- a call -/
theorem call_ok {σ : L2.St} {δ : Envr} {Z : Zs} {H0 H : Hp} {xs : List DM} {vs : List V} {i n : Nat} {Q : VK} (S : SR fr Z H σ δ) (r : RXs fr H0 Z H xs vs) (hn : vs.length = n)
    (p : Post fr W σ Z H ((cl i (xs.map lend)).bind retD) Q) : spI fr.M cl i n vs H Q (WE W σ) := by
  obtain ⟨h1, h2⟩ := lends_ok S.zex r
  refine ⟨xs.map lend, Z, S.zex, h1, h2, hn, ?_⟩
  cases e : cl i (xs.map lend) with
  | bad => rw [e] at p; exact p
  | exc c fs => rw [e] at p; exact p
  | ok x =>
    rw [e] at p
    have p' : Post fr W σ Z H (retD x) Q := p
    intro m v H' Z' ex rm
    rcases retD_cases x with ⟨q, _⟩ | q
    · rw [q] at p'
      exact p' v H' Z' ex (rm.back S.same m)
    · rw [q] at p'; exact p'.elim
end
def biStr : Bi → Str
  | .len => "len"
  | .abs => "abs"
  | .int => "int"
  | .tuple => "tuple"
  | .list => "list"
def rBi (K : PySem.W.Frag) : Bi → List V → Hp → VK → Prop
  | .len => fun xs H Q => ∃ p ys, xs = [.ref p] ∧ (SqL K H p ys ∨ SqT K H p ys) ∧ Q (.int ys.length) H
  | .abs => fun xs H Q => ∃ i, xs = [.int i] ∧ Q (.int (if i < 0 then -i else i)) H
  | .int => fun xs H Q => (∃ i, xs = [.int i] ∧ Q (.int i) H) ∨ ∃ k, xs = [.bl k] ∧ Q (.int (if k then 1 else 0)) H
  | .tuple => fun xs H Q => ∃ p ys, xs = [.ref p] ∧ ((SqL K H p ys ∧ ∀ l, H l = none → Q (.ref l) (upd H l (.tup ys))) ∨ (SqT K H p ys ∧ Q (.ref p) H))
  | .list => fun xs H Q => ∃ p ys, xs = [.ref p] ∧ (SqL K H p ys ∨ SqT K H p ys) ∧ ∀ l, H l = none → Q (.ref l) (upd H l (.lst ys))
theorem biOf_str {x : Str} {b : Bi} (h : biOf x = some b) : x = biStr b := by
  unfold biOf at h
  by_cases h1 : x = "len"
  · rw [if_pos h1] at h; cases h; exact h1
  rw [if_neg h1] at h
  by_cases h2 : x = "abs"
  · rw [if_pos h2] at h; cases h; exact h2
  rw [if_neg h2] at h
  by_cases h3 : x = "int"
  · rw [if_pos h3] at h; cases h; exact h3
  rw [if_neg h3] at h
  by_cases h4 : x = "tuple"
  · rw [if_pos h4] at h; cases h; exact h4
  rw [if_neg h4] at h
  by_cases h5 : x = "list"
  · rw [if_pos h5] at h; cases h; exact h5
  rw [if_neg h5] at h
  cases h
theorem pe_bi {X : Cx} {e : Expr} {t : TA} {p pos : Pos} (bl : ∀ x ∈ bltNames, X.mg x = none) : ∀ (b : Bi), Gl X (biStr b) → PA X [e] t → notStar e = true → PE X (.Call (.Name (biStr b) p) [e] [] pos) (tCB (rBi X.K b) t)
  | .len, hg, ha, hs => pe_callB call_len_seq hg (bl _ (by decide)) PySem.boot_len ha (by decide) (by decide) (star_cons hs [] X.env) rfl
  | .abs, hg, ha, hs => pe_callB call_abs hg (bl _ (by decide)) (by decide +kernel) ha (by decide) (by decide) (star_cons hs [] X.env) rfl
  | .int, hg, ha, hs => pe_callTy call_int1 hg (bl _ (by decide)) (by decide +kernel) ha (by decide) (by decide) (star_cons hs [] X.env) rfl
  | .tuple, hg, ha, hs => pe_callTy call_tuple_of hg (bl _ (by decide)) (by decide +kernel) ha (by decide) (by decide) (star_cons hs [] X.env) rfl
  | .list, hg, ha, hs => pe_callTy call_list_of hg (bl _ (by decide)) (by decide +kernel) ha (by decide) (by decide) (star_cons hs [] X.env) rfl
section
variable {fr : Fr} {W : WX}
theorem biD_ok {b : Bi} {σ : L2.St} {δ : Envr} {Z : Zs} {H0 H : Hp} {x : DM} {v : V} {Q : VK} (S : SR fr Z H σ δ) (rx : RX fr H0 Z H x v) (p : Post fr W σ Z H (biD b x) Q) : rBi fr.M.K b [v] H Q := by
  cases e1 : x.1 with
  | tup xs =>
    obtain ⟨a, vs, rfl, h1, r1⟩ := rx.tup e1
    cases b with
    | len =>
      unfold biD at p
      rw [e1] at p
      have p' : Post fr W σ Z H (okI xs.length) Q := p
      rw [r1.length] at p'
      exact ⟨a, vs, rfl, .inr h1, p'.flat S (.int _)⟩
    | tuple =>
      unfold biD at p
      rw [e1] at p
      exact ⟨a, vs, rfl, .inr ⟨h1, Post.flat S p (.tup h1 r1)⟩⟩
    | list =>
      unfold biD at p
      rw [e1] at p
      exact ⟨a, vs, rfl, .inr h1, fun l n => Post.newL S p r1 n⟩
    | _ => unfold biD at p; rw [e1] at p; exact p.elim
  | lst xs =>
    obtain ⟨a, vs, rfl, h1, r1⟩ := rx.list e1
    cases b with
    | len =>
      unfold biD at p
      rw [e1] at p
      have p' : Post fr W σ Z H (okI xs.length) Q := p
      rw [r1.length] at p'
      exact ⟨a, vs, rfl, .inl h1, p'.flat S (.int _)⟩
    | tuple =>
      unfold biD at p
      rw [e1] at p
      exact ⟨a, vs, rfl, .inl ⟨h1, fun l n => Post.newT S p r1 n⟩⟩
    | list =>
      unfold biD at p
      rw [e1] at p
      exact ⟨a, vs, rfl, .inl h1, fun l n => Post.newL S p r1 n⟩
    | _ => unfold biD at p; rw [e1] at p; exact p.elim
  | int i =>
    have ev := rx.int e1
    subst ev
    cases b with
    | abs =>
      unfold biD at p
      rw [e1] at p
      exact ⟨i, rfl, Post.flat S p (.int _)⟩
    | int =>
      unfold biD at p
      rw [e1] at p
      exact .inl ⟨i, rfl, Post.flat S p (.int _)⟩
    | _ => unfold biD at p; rw [e1] at p; exact p.elim
  | bl i =>
    have ev := rx.bl e1
    subst ev
    cases b with
    | int =>
      unfold biD at p
      rw [e1] at p
      exact .inr ⟨i, rfl, Post.flat S p (.int _)⟩
    | _ => unfold biD at p; rw [e1] at p; exact p.elim
  | _ => unfold biD at p; rw [e1] at p; cases b <;> exact p.elim
end

def tyStr : Ty → String
  | .int => "int"
  | .bool => "bool"
  | .tuple => "tuple"
  | .list => "list"
  | .str => "str"
theorem tyOf_str {x : Str} {t : Ty} (h : tyOf x = some t) : x = Str.ofString (tyStr t) := by
  unfold tyOf at h
  by_cases h1 : x = "int"
  · rw [if_pos h1] at h; cases h; exact h1
  rw [if_neg h1] at h
  by_cases h2 : x = "bool"
  · rw [if_pos h2] at h; cases h; exact h2
  rw [if_neg h2] at h
  by_cases h3 : x = "tuple"
  · rw [if_pos h3] at h; cases h; exact h3
  rw [if_neg h3] at h
  by_cases h4 : x = "list"
  · rw [if_pos h4] at h; cases h; exact h4
  rw [if_neg h4] at h
  by_cases h5 : x = "str"
  · rw [if_pos h5] at h; cases h; exact h5
  rw [if_neg h5] at h
  cases h
theorem pe_ty {X : Cx} {p : Pos} (bl : ∀ x ∈ bltNames, X.mg x = none) : ∀ (t : Ty), Gl X (Str.ofString (tyStr t)) → PE X (.Name (Str.ofString (tyStr t)) p) (tC (.ty (tyStr t)))
  | .int, hg => pe_bltn hg (bl _ (by decide)) (by decide +kernel) rfl (by decide) (by decide)
  | .bool, hg => pe_bltn hg (bl _ (by decide)) (by decide +kernel) rfl (by decide) (by decide)
  | .tuple, hg => pe_bltn hg (bl _ (by decide)) (by decide +kernel) rfl (by decide) (by decide)
  | .list, hg => pe_bltn hg (bl _ (by decide)) (by decide +kernel) rfl (by decide) (by decide)
  | .str, hg => pe_bltn hg (bl _ (by decide)) (by decide +kernel) rfl (by decide) (by decide)
section
variable {fr : Fr} {W : WX}
theorem RX.tyL {H0 : Hp} {Z : Zs} {H : Hp} {x : DM} {v : V} {ds : List D} (r : RX fr H0 Z H x v) (e : x.1 = .lst ds) : TyX fr.M.K H v (.type "list") := by
  obtain ⟨d, m⟩ := x
  obtain ⟨r, _⟩ := r
  dsimp only at e
  subst e
  have rd : ∀ {a : Addr} {vs : List V}, Rd H a (.lst vs) → TyX fr.M.K H (.ref a) (.type "list") := fun {a vs} h => by
    rcases h with h | ⟨o, h⟩
    · exact .base (.lst h)
    · exact .base (.frz h)
  cases r with
  | val r =>
    cases r with
    | lst h _ _ => exact rd h
    | lsw h _ =>
      obtain ⟨o, _, _, h1, h2, _⟩ := h
      exact .kList h1 h2
  | ownL h _ _ _ => exact rd (.inl h)
  | rbL h _ _ => exact rd h
  | tmL h _ => exact rd h
theorem RX.tyT {H0 : Hp} {Z : Zs} {H : Hp} {x : DM} {v : V} {ds : List D} (r : RX fr H0 Z H x v) (e : x.1 = .tup ds) : TyX fr.M.K H v (.type "tuple") := by
  obtain ⟨a, vs, rfl, h, _⟩ := r.tup e
  rcases h with (h | ⟨o, h⟩) | ⟨o, _, _, h1, h2, _⟩
  · exact .base (.tup h)
  · exact .fTuple h
  · exact .kTuple h1 h2
theorem RX.str {H0 : Hp} {Z : Zs} {H : Hp} {x : DM} {v : V} {i : Str} (r : RX fr H0 Z H x v) (e : x.1 = .str i) : v = .str i := by
  obtain ⟨d, m⟩ := x
  obtain ⟨r, _⟩ := r
  dsimp only at e
  subst e
  cases r with
  | val r => cases r; rfl
theorem RX.nonv {H0 : Hp} {Z : Zs} {H : Hp} {x : DM} {v : V} (r : RX fr H0 Z H x v) (e : x.1 = .non) : v = .non := by
  obtain ⟨d, m⟩ := x
  obtain ⟨r, _⟩ := r
  dsimp only at e
  subst e
  cases r with
  | val r => cases r; rfl
theorem isiD_ok {t : Ty} {σ : L2.St} {δ : Envr} {Z : Zs} {H0 H : Hp} {x : DM} {v : V} {Q : VK} (S : SR fr Z H σ δ) (rx : RX fr H0 Z H x v) (p : Post fr W σ Z H (isiD t x) Q) : rIsi fr.M.K [v, .ty (tyStr t)] H Q := by
  unfold isiD at p
  cases e1 : x.1 with
  | non =>
    rw [e1] at p
    have ev := rx.nonv e1
    subst ev
    exact ⟨_, _, _, _, false, rfl, .ty _, .base .non, kit_ty (by cases t <;> decide +kernel), Post.flat S p (.bl _)⟩
  | bl b =>
    rw [e1] at p
    have ev := rx.bl e1
    subst ev
    exact ⟨_, _, _, _, _, rfl, .ty _, .base (.bl b), kit_ty (by cases t <;> decide +kernel), Post.flat S p (.bl _)⟩
  | int b =>
    rw [e1] at p
    have ev := rx.int e1
    subst ev
    exact ⟨_, _, _, _, _, rfl, .ty _, .base (.int b), kit_ty (by cases t <;> decide +kernel), Post.flat S p (.bl _)⟩
  | str b =>
    rw [e1] at p
    have ev := rx.str e1
    subst ev
    exact ⟨_, _, _, _, _, rfl, .ty _, .base (.str b), kit_ty (by cases t <;> decide +kernel), Post.flat S p (.bl _)⟩
  | tup b =>
    rw [e1] at p
    exact ⟨_, _, _, _, _, rfl, .ty _, rx.tyT e1, kit_ty (by cases t <;> decide +kernel), Post.flat S p (.bl _)⟩
  | lst b =>
    rw [e1] at p
    exact ⟨_, _, _, _, _, rfl, .ty _, rx.tyL e1, kit_ty (by cases t <;> decide +kernel), Post.flat S p (.bl _)⟩
  | _ => rw [e1] at p; exact p.elim
end
end Ev
namespace Ev
open PySem PySem.Spec PyProof.Rows L2
section
variable {X : Cx} {W : WX} {M : Mo} {c : Cm} {cl : Call} {sc : Scope} {fr : Fr}
theorem mod_eq (C : Cok X W M c cl sc) (hf : fr.M = M) : X.K = fr.M.K := by rw [C.K, hf]
theorem tE_cst {d : D} {v : V} (r : ∀ Z H, RV fr.M Z H d v) : ∀ σ H Q, tE fr W (fun _ => okV d) σ H Q → tC v σ H Q := by
  intro σ H Q ⟨δ, Z, S, p⟩
  exact p.flat S (r Z H)
theorem var_ok {i : Nat} : ∀ σ H Q, tE fr W (fun δ => varD δ i) σ H Q → tVar i σ H Q := by
  intro σ H Q ⟨δ, Z, S, p⟩
  have p' : Post fr W σ Z H (varD δ i) Q := p
  unfold varD at p'
  cases e : δ[i]? with
  | none => rw [e] at p'; exact p'.elim
  | some o =>
    cases o with
    | none => rw [e] at p'; exact p'.elim
    | some x =>
      obtain ⟨d, m⟩ := x
      obtain ⟨v, e2, r⟩ := S.slot i d m e
      refine ⟨v, e2, ?_⟩
      rw [e] at p'
      have E0 := Ext.refl S.zex
      cases m with
      | own =>
        refine p' v H Z E0 ⟨?_, fun h => nomatch h⟩
        cases r with
        | ownL h _ _ r => exact .tmL (.inl h) r
        | ownD h _ _ r => exact .tmD (.inl h) r
      | val => exact p' v H Z E0 ⟨r, fun h => nomatch h⟩
      | rb => exact p' v H Z E0 ⟨r, fun h => nomatch h⟩
      | tmp => exact (S.notm i d e).elim
theorem logic_and {g1 g2 : Envr → Res DM} : ∀ σ H Q, tE fr W (fun δ => (g1 δ).bind fun x => match x.1 with | .bl true => g2 δ | .bl false => okB false | _ => .bad) σ H Q → tAndV (tE fr W g1) (tE fr W g2) σ H Q := by
  intro σ H Q h
  refine step1 (k := fun x δ => match x.1 with | .bl true => g2 δ | .bl false => okB false | _ => .bad) h fun δ Z x v H1 S1 s1 r1 p1 => ?_
  cases e : x.1 with
  | bl b =>
    rw [e] at p1
    refine ⟨b, r1.bl e, ?_⟩
    cases b with
    | true => rw [if_pos rfl]; exact ⟨δ, Z, S1, p1⟩
    | false => rw [if_neg Bool.false_ne_true]; exact Post.flat S1 p1 (.bl _)
  | _ => rw [e] at p1; exact p1.elim
theorem logic_or {g1 g2 : Envr → Res DM} : ∀ σ H Q, tE fr W (fun δ => (g1 δ).bind fun x => match x.1 with | .bl true => okB true | .bl false => g2 δ | _ => .bad) σ H Q → tOrV (tE fr W g1) (tE fr W g2) σ H Q := by
  intro σ H Q h
  refine step1 (k := fun x δ => match x.1 with | .bl true => okB true | .bl false => g2 δ | _ => .bad) h fun δ Z x v H1 S1 s1 r1 p1 => ?_
  cases e : x.1 with
  | bl b =>
    rw [e] at p1
    refine ⟨b, r1.bl e, ?_⟩
    cases b with
    | true => rw [if_pos rfl]; exact Post.flat S1 p1 (.bl _)
    | false => rw [if_neg Bool.false_ne_true]; exact ⟨δ, Z, S1, p1⟩
  | _ => rw [e] at p1; exact p1.elim
theorem all_and {f : Expr → Option IE} {pos : Pos} (hf : ∀ e ie, f e = some ie → PE X e (tE fr W (evI cl ie))) : ∀ {es : List Expr} {ie : IE}, compAll .and f es = some ie → PE X (.BoolOp .And es pos) (tE fr W (evI cl ie))
  | [], _, h => by cases h
  | [e], ie, h => pe_one (hf e ie h)
  | e :: e2 :: r, ie, h => by
    have h' : (match f e, compAll IE.and f (e2 :: r) with | some a, some b => some (IE.and a b) | _, _ => none) = some ie := h
    cases q1 : f e with
    | none => rw [q1] at h'; cases h'
    | some a =>
      cases q2 : compAll IE.and f (e2 :: r) with
      | none => rw [q1, q2] at h'; cases h'
      | some b =>
        rw [q1, q2] at h'
        cases h'
        exact PE.imp (pe_and (hf e a q1) (all_and hf q2)) logic_and
theorem all_or {f : Expr → Option IE} {pos : Pos} (hf : ∀ e ie, f e = some ie → PE X e (tE fr W (evI cl ie))) : ∀ {es : List Expr} {ie : IE}, compAll .or f es = some ie → PE X (.BoolOp .Or es pos) (tE fr W (evI cl ie))
  | [], _, h => by cases h
  | [e], ie, h => pe_one (hf e ie h)
  | e :: e2 :: r, ie, h => by
    have h' : (match f e, compAll IE.or f (e2 :: r) with | some a, some b => some (IE.or a b) | _, _ => none) = some ie := h
    cases q1 : f e with
    | none => rw [q1] at h'; cases h'
    | some a =>
      cases q2 : compAll IE.or f (e2 :: r) with
      | none => rw [q1, q2] at h'; cases h'
      | some b =>
        rw [q1, q2] at h'
        cases h'
        exact PE.imp (pe_or (hf e a q1) (all_or hf q2)) logic_or
theorem bop_op {op : Operator} {o : BOp} (h : bopOf op = some o) : op = opPy o := by
  cases op <;> first | (cases h; rfl) | cases h
theorem cop_op {op : CmpOp} {o : COp} (h : copOf op = some o) : op = cmpPy o ∧ op ≠ .In ∧ op ≠ .NotIn := by
  cases op <;> first | (cases h; exact ⟨rfl, (by intro q; cases q), (by intro q; cases q)⟩) | cases h
theorem plain_ok {b : Expr} (h : plainIx b = true) : PlainIx b := by
  intro o i
  cases b <;> first | rfl | cases h
theorem part_ok {f : Expr → Option IE} (hf : ∀ e ie, f e = some ie → PE X e (tE fr W (evI cl ie))) {o : Option Expr} {io : IO} (h : compO f o = some io) : PO X o (tO fr W (evO cl io)) := by
  cases o with
  | none =>
    cases h
    refine PO.imp po_none fun σ H Q h => ?_
    obtain ⟨δ, Z, S, p⟩ := h
    exact p H Z (Ext.refl S.zex)
  | some e =>
    have h' : (f e).map IO.some = some io := h
    cases q : f e with
    | none => rw [q] at h'; cases h'
    | some a =>
      rw [q] at h'
      cases h'
      refine PO.imp (po_some (hf e a q)) fun σ H Q h => ?_
      obtain ⟨δ, Z, S, p⟩ := h
      refine ⟨δ, Z, S, ?_⟩
      have p' : PostO fr W σ Z H ((evI cl a δ).bind fun x => match x.1 with | .int i => .ok (some i) | _ => .bad) Q := p
      cases e1 : evI cl a δ with
      | bad => rw [e1] at p'; exact p'
      | exc c fs => rw [e1] at p'; exact p'
      | ok x =>
        rw [e1] at p'
        intro v H1 Z1 ex r
        have p2 : PostO fr W σ Z H (match x.1 with | .int i => .ok (some i) | _ => .bad) Q := p'
        cases e2 : x.1 with
        | int i =>
          rw [e2] at p2
          exact ⟨i, r.int e2, p2 H1 Z1 ex⟩
        | _ => rw [e2] at p2; exact p2.elim
/-- what follows a list of arguments -/
theorem args_ok {il : IL} {k : List DM → Res DM} {σ : L2.St} {H : Hp} {Q : VK} {Q1 : List V → Hp → Prop} (h : tE fr W (fun δ => (evL cl il δ).bind k) σ H Q)
    (q : ∀ δ Z xs vs H1, SR fr Z H1 σ δ → Same H H1 → RXs fr H Z H1 xs vs → (∀ v H' Z' x, k xs = .ok x → (∀ a, Z a → Z' a) → (∀ a, Z' a → Z a ∨ H a = none) → Same H1 H' → (∀ a, Z' a → H' a ≠ none) → RX fr H Z' H' x v → Q v H') → Post fr W σ Z H1 (k xs) Q → Q1 vs H1) :
    tL fr W (evL cl il) σ H Q1 := tL_fin h q
def tupK (mk : List D → Res DM) (xs : List DM) : Res DM := match toVals xs with
  | some ds => if lenOk ds.length = true then mk ds else .bad
  | none => .bad
theorem tupK_some {mk : List D → Res DM} {xs : List DM} {x : DM} (h : tupK mk xs = .ok x) : ∃ ds, toVals xs = some ds ∧ ds.length ≤ sizeLine ∧ mk ds = .ok x := by
  unfold tupK at h
  cases q : toVals xs with
  | none => rw [q] at h; cases h
  | some ds =>
    rw [q] at h
    have h' : (if lenOk ds.length = true then mk ds else .bad) = .ok x := h
    by_cases c : lenOk ds.length = true
    · rw [if_pos c] at h'
      exact ⟨ds, rfl, lenOk_le c, h'⟩
    · rw [if_neg c] at h'; cases h'
theorem tupK_cases (mk : List D → Res DM) (y : List D → DM) (hm : ∀ ds, mk ds = .ok (y ds)) (xs : List DM) : (∃ ds, toVals xs = some ds ∧ ds.length ≤ sizeLine ∧ tupK mk xs = .ok (y ds)) ∨ tupK mk xs = .bad := by
  unfold tupK
  cases q : toVals xs with
  | none => exact .inr rfl
  | some ds =>
    show (∃ ds', some ds = some ds' ∧ ds'.length ≤ sizeLine ∧ (if lenOk ds.length = true then mk ds else .bad) = .ok (y ds')) ∨ (if lenOk ds.length = true then mk ds else .bad) = .bad
    by_cases c : lenOk ds.length = true
    · rw [if_pos c]
      exact .inl ⟨ds, rfl, lenOk_le c, hm ds⟩
    · rw [if_neg c]
      exact .inr rfl
theorem disp_tup {il : IL} : ∀ σ H Q, tE fr W (fun δ => (evL cl il δ).bind (tupK fun ds => okV (.tup ds))) σ H Q → tTup (tL fr W (evL cl il)) σ H Q := by
  intro σ H Q h
  refine args_ok h fun δ Z xs vs H1 S1 s1 r1 fin p => ?_
  rcases tupK_cases (fun ds => okV (.tup ds)) (fun ds => (.tup ds, .val)) (fun _ => rfl) xs with ⟨ds, e, hl, ek⟩ | e
  · obtain ⟨Z2, a1, a2, a3, a4⟩ := toVals_ok S1.zex s1 r1 e
    refine ⟨by rw [← a4.length]; exact hl, fun q n => ?_⟩
    have ex : Ext Z2 H1 Z2 (upd H1 q (.tup vs)) := Ext.new a3 n
    exact fin (.ref q) _ Z2 _ ek a1 a2 ex.same ex.ex ⟨.val (.tup (SqT.of upd_same) (a4.mono ex.stb ex.up)), fun h => nomatch h⟩
  · rw [e] at p; exact p.elim
theorem disp_lst {il : IL} : ∀ σ H Q, tE fr W (fun δ => (evL cl il δ).bind (tupK fun ds => .ok (.lst ds, .own))) σ H Q → tLst (tL fr W (evL cl il)) σ H Q := by
  intro σ H Q h
  refine args_ok h fun δ Z xs vs H1 S1 s1 r1 fin p => ?_
  rcases tupK_cases (fun ds => .ok (.lst ds, .own)) (fun ds => (.lst ds, .own)) (fun _ => rfl) xs with ⟨ds, e, hl, ek⟩ | e
  · obtain ⟨Z2, a1, a2, a3, a4⟩ := toVals_ok S1.zex s1 r1 e
    refine ⟨by rw [← a4.length]; exact hl, fun q n => ?_⟩
    have ex : Ext Z2 H1 Z2 (upd H1 q (.lst vs)) := Ext.new a3 n
    refine fin (.ref q) _ Z2 _ ek a1 a2 ex.same ex.ex ⟨.ownL upd_same (fun z => a3 _ z n) (S1.same.free n) (a4.mono ex.stb ex.up), fun _ a ea => ?_⟩
    cases ea
    exact s1.free n
  · rw [e] at p; exact p.elim
theorem one_arg {a : IE} {op : DM → Res DM} {r : List V → Hp → VK → Prop} (ho : ∀ (σ : L2.St) (δ : Envr) (Z : Zs) (H0 H : Hp) (x : DM) (v : V) (Q : VK), SR fr Z H σ δ → RX fr H0 Z H x v → Post fr W σ Z H (op x) Q → r [v] H Q) :
    ∀ σ H Q, tE fr W (fun δ => (evI cl a δ).bind op) σ H Q → tCB r (tCons (tE fr W (evI cl a)) tNil) σ H Q := by
  intro σ H Q h
  exact step1 (k := fun x _ => op x) h fun δ Z x v H1 S1 s1 r1 p1 => ho σ δ Z H H1 x v Q S1 r1 p1
theorem sub_eq {F : Nat} {a b : Expr} {pos : Pos} (hb : ¬ ∃ lo hi st p, b = .Slice lo hi st p) : compE c sc (F + 1) (.Subscript a b pos) = (if plainIx b = true then match compE c sc F a, compE c sc F b with | some x, some y => some (IE.ix x y) | _, _ => none else none) := by
  cases b <;> first | rfl | exact absurd ⟨_, _, _, _, rfl⟩ hb
theorem bi_call (C : Cok X W M c cl sc) (hf : fr.M = M) {F : Nat} {f : Str} {p pos : Pos} {a : Expr} {b : Bi} {x : IE} (ih : PE X a (tE fr W (evI cl x))) (hg : isGl sc f = true) (hb : biOf f = some b) (hs : notStar a = true) :
    PE X (.Call (.Name f p) [a] [] pos) (tE fr W (evI cl (.bi b x))) := by
  have eK := mod_eq C hf
  have e := biOf_str hb
  subst e
  refine PE.imp (pe_bi C.bl b (C.gl hg).1 (pa_cons ih pa_nil (star_cons hs [] X.env)) hs) ?_
  rw [eK]
  exact one_arg fun σ δ Z H0 H x v Q S rx p => biD_ok S rx p
theorem isi_call (C : Cok X W M c cl sc) (hf : fr.M = M) {t : Str} {p pt pos : Pos} {a : Expr} {ty : Ty} {x : IE} (ih : PE X a (tE fr W (evI cl x))) (hg : isGl sc "isinstance" = true) (hgt : isGl sc t = true) (ht : tyOf t = some ty) (hs : notStar a = true) :
    PE X (.Call (.Name "isinstance" p) [a, .Name t pt] [] pos) (tE fr W (evI cl (.isi ty x))) := by
  have eK := mod_eq C hf
  have e := tyOf_str ht
  subst e
  have pt' := pe_ty (X := X) (p := pt) C.bl ty (C.gl hgt).1
  refine PE.imp (pe_callB call_isi (C.gl hg).1 (C.bl _ (by decide)) (by decide +kernel) (pa_cons ih (pa_cons pt' pa_nil rfl) (star_cons hs _ X.env)) (by decide) (by decide) (star_cons hs _ X.env) rfl) ?_
  rw [eK]
  intro σ H Q h
  exact step1 (k := fun x _ => isiD ty x) h fun δ Z x v H1 S1 s1 r1 p1 => isiD_ok S1 r1 p1
theorem blt_call (C : Cok X W M c cl sc) (hf : fr.M = M) {F : Nat} {f : Str} {p pos : Pos} {es : List Expr} {ie : IE} (ih : ∀ e ie, compE c sc F e = some ie → PE X e (tE fr W (evI cl ie))) (hg : isGl sc f = true) (h : compB sc (compE c sc F) f es = some ie) :
    PE X (.Call (.Name f p) es [] pos) (tE fr W (evI cl ie)) := by
  cases es with
  | nil => cases h
  | cons a es' =>
    cases es' with
    | nil =>
      have h2 : (match biOf f with | some b => if notStar a = true then (compE c sc F a).map (IE.bi b) else none | none => none) = some ie := h
      cases qb : biOf f with
      | none => rw [qb] at h2; cases h2
      | some b =>
        rw [qb] at h2
        have h3 : (if notStar a = true then (compE c sc F a).map (IE.bi b) else none) = some ie := h2
        by_cases hs : notStar a = true
        · rw [if_pos hs] at h3
          cases q : compE c sc F a with
          | none => rw [q] at h3; cases h3
          | some x =>
            rw [q] at h3
            cases h3
            exact bi_call (F := F) C hf (ih a x q) hg qb hs
        · rw [if_neg hs] at h3; cases h3
    | cons b es'' =>
      cases es'' with
      | cons _ _ => cases b <;> cases h
      | nil =>
        cases b with
        | Name t pt =>
          have h2 : (if f = "isinstance" ∧ isGl sc t = true ∧ notStar a = true then match tyOf t with
            | some t => (compE c sc F a).map (IE.isi t)
            | none => none else none) = some ie := h
          by_cases hc : f = "isinstance" ∧ isGl sc t = true ∧ notStar a = true
          · rw [if_pos hc] at h2
            obtain ⟨rfl, hgt, hs⟩ := hc
            cases qt : tyOf t with
            | none => rw [qt] at h2; cases h2
            | some ty =>
              rw [qt] at h2
              have h3 : (compE c sc F a).map (IE.isi ty) = some ie := h2
              cases q : compE c sc F a with
              | none => rw [q] at h3; cases h3
              | some x =>
                rw [q] at h3
                cases h3
                exact isi_call C hf (ih a x q) hg hgt qt hs
          · rw [if_neg hc] at h2; cases h2
        | _ => cases h
theorem fn_call (C : Cok X W M c cl sc) (hf : fr.M = M) {f : Str} {i : Nat} {p pos : Pos} {es : List Expr} {il : IL} (ha : PA X es (tL fr W (evL cl il))) (hnil : es = [] → il = .nil) (hstar : ∀ e ∈ es, notStar e = true) (hg : isGl sc f = true) (hl : c.fn.lookup f = some i) :
    PE X (.Call (.Name f p) es [] pos) (tE fr W (evI cl (.call i il))) := by
  obtain ⟨hgl, hdb, _⟩ := C.gl hg
  obtain ⟨k, fa, fd, ps, hr, hm, kp, bi, G, ar⟩ := (C.fns f i hl).ex
  have core : ∀ σ H Q, tE fr W (evI cl (.call i il)) σ H Q → tCallSD (spI M cl i ps.length) [] (WE W) (tL fr W (evL cl il)) σ H Q := by
    intro σ H Q h
    refine tL_fin (k := fun xs => (cl i (xs.map lend)).bind retD) h fun δ Z xs vs H1 S1 s1 r1 fin p => ?_
    have hb : cl i (xs.map lend) ≠ .bad := fun q => by rw [q] at p; exact p
    have hn : vs.length = ps.length := by rw [← r1.length, ← ar _ hb, List.length_map]
    rw [← hf, List.append_nil]
    exact call_ok S1 r1 hn p
  cases es with
  | nil =>
    have e0 : PA X [] (tL fr W (evL cl il)) := ha
    refine ⟨fun pins s σ H Q I h => ?_⟩
    refine wpAny_Call_Name_kw (ld_glob I hgl hm ?_ hdb)
    refine PySem.W.callWith_K0 I.kIn kp ?_
    have e := hnil rfl
    subst e
    obtain ⟨δ, Z, S, p⟩ := h
    have p' : Post fr W σ Z H ((cl i (([] : List DM).map lend)).bind retD) Q := p
    have hb : cl i (([] : List DM).map lend) ≠ .bad := fun q => by rw [q] at p'; exact p'
    have hn : ([] : List V).length = ps.length := ar _ hb
    refine run_fnSD (dvs := []) G hr bi .nil (passAt C.tk σ) I .nil ?_
    rw [← hf]
    exact call_ok (H0 := H) S .nil hn p'
  | cons e es =>
    exact PE.imp (pe_callSD (dvs := []) G hr hgl hm kp bi .nil (passAt C.tk) ha hdb (star_cons (hstar e List.mem_cons_self) es X.env) (star_plain X.env pos fun x hx => hstar x (List.mem_cons_of_mem _ hx))) core
theorem compE_ok (C : Cok X W M c cl sc) (hf : fr.M = M) : ∀ (F : Nat) (e : Expr) (ie : IE), compE c sc F e = some ie → PE X e (tE fr W (evI cl ie)) := by
  have eK := mod_eq C hf
  intro F
  induction F with
  | zero => intro e ie h; cases h
  | succ F ih =>
    intro e ie h
    cases e with
    | Constant k j pos =>
      cases k with
      | int i => cases h; exact PE.imp pe_int (tE_cst fun _ _ => .int i)
      | bool b => cases h; exact PE.imp pe_bl (tE_cst fun _ _ => .bl b)
      | none => cases h; exact PE.imp pe_non (tE_cst fun _ _ => .non)
      | str x => cases h; exact PE.imp pe_str (tE_cst fun _ _ => .str x)
      | _ => cases h
    | Name x pos =>
      have h' : (slotOf c sc x).map IE.var = some ie := h
      cases q : slotOf c sc x with
      | none => rw [q] at h'; cases h'
      | some i =>
        rw [q] at h'
        cases h'
        obtain ⟨h1, h2, h3, h4⟩ := slotOf_ok C q
        exact PE.imp (pe_var h1 h2 h3 h4) var_ok
    | BinOp a op b pos =>
      have h' : (match bopOf op, compE c sc F a, compE c sc F b with | some o, some x, some y => some (IE.bin o x y) | _, _, _ => none) = some ie := h
      cases q1 : bopOf op with
      | none => rw [q1] at h'; cases h'
      | some o =>
        cases q2 : compE c sc F a with
        | none => rw [q1, q2] at h'; cases h'
        | some x =>
          cases q3 : compE c sc F b with
          | none => rw [q1, q2, q3] at h'; cases h'
          | some y =>
            rw [q1, q2, q3] at h'
            cases h'
            rw [bop_op q1]
            refine PE.imp (pe_op (op_bin o) (ih a x q2) (ih b y q3)) ?_
            rw [eK]
            exact tE_bin binD_ok
    | UnaryOp op a pos =>
      cases op with
      | USub =>
        have h' : (compE c sc F a).map IE.neg = some ie := h
        cases q : compE c sc F a with
        | none => rw [q] at h'; cases h'
        | some x =>
          rw [q] at h'
          cases h'
          refine PE.imp (pe_un un_neg (ih a x q)) (tE_un fun W σ δ Z H0 H x v Q S rx p => ?_)
          unfold negD at p
          cases e1 : x.1 with
          | int i => rw [e1] at p; exact ⟨i, rx.int e1, Post.flat S p (.int _)⟩
          | _ => rw [e1] at p; exact p.elim
      | Not =>
        have h' : (compE c sc F a).map IE.not = some ie := h
        cases q : compE c sc F a with
        | none => rw [q] at h'; cases h'
        | some x =>
          rw [q] at h'
          cases h'
          refine PE.imp (pe_not (ih a x q)) fun σ H Q h => ?_
          refine step1 (k := fun x _ => notD x) h fun δ Z x v H1 S1 s1 r1 p1 => ?_
          unfold notD at p1
          cases e1 : x.1 with
          | bl i => rw [e1] at p1; exact ⟨i, r1.bl e1, Post.flat S1 p1 (.bl _)⟩
          | _ => rw [e1] at p1; exact p1.elim
      | _ => cases h
    | Compare a ops bs pos =>
      cases ops with
      | nil => cases h
      | cons op ops' =>
        cases ops' with
        | cons _ _ => cases bs with
          | nil => cases h
          | cons _ r => cases r <;> cases h
        | nil =>
          cases bs with
          | nil => cases h
          | cons b bs' =>
            cases bs' with
            | cons _ _ => cases h
            | nil =>
              have h' : (match copOf op, compE c sc F a, compE c sc F b with | some o, some x, some y => some (IE.cmp o x y) | _, _, _ => none) = some ie := h
              cases q1 : copOf op with
              | none => rw [q1] at h'; cases h'
              | some o =>
                cases q2 : compE c sc F a with
                | none => rw [q1, q2] at h'; cases h'
                | some x =>
                  cases q3 : compE c sc F b with
                  | none => rw [q1, q2, q3] at h'; cases h'
                  | some y =>
                    rw [q1, q2, q3] at h'
                    cases h'
                    obtain ⟨e1, e2, e3⟩ := cop_op q1
                    have nm := nomark b e2 e3
                    rw [e1] at nm ⊢
                    refine PE.imp (pe_cmpR (op_cmp C.hu o) (ih a x q2) (ih b y q3) nm) ?_
                    rw [eK]
                    exact tE_bin cmpD_ok
    | BoolOp op es pos =>
      cases op with
      | And => exact all_and ih h
      | Or => exact all_or ih h
    | Tuple es k pos =>
      have h' : (compL (compE c sc F) es).map IE.tup = some ie := h
      cases q : compL (compE c sc F) es with
      | none => rw [q] at h'; cases h'
      | some il =>
        rw [q] at h'
        cases h'
        exact PE.imp (pe_tup (compL_ok ih q)) disp_tup
    | List es pos =>
      have h' : (compL (compE c sc F) es).map IE.lst = some ie := h
      cases q : compL (compE c sc F) es with
      | none => rw [q] at h'; cases h'
      | some il =>
        rw [q] at h'
        cases h'
        exact PE.imp (pe_lst (compL_ok ih q)) disp_lst
    | Subscript a b pos =>
      by_cases hb : ∃ lo hi st p, b = .Slice lo hi st p
      · obtain ⟨lo, hi, st, p, rfl⟩ := hb
        cases st with
        | some _ => cases h
        | none =>
          have h' : (match compE c sc F a, compO (compE c sc F) lo, compO (compE c sc F) hi with | some x, some l, some h => some (IE.slc x l h) | _, _, _ => none) = some ie := h
          cases q1 : compE c sc F a with
          | none => rw [q1] at h'; cases h'
          | some x =>
            cases q2 : compO (compE c sc F) lo with
            | none => rw [q1, q2] at h'; cases h'
            | some l =>
              cases q3 : compO (compE c sc F) hi with
              | none => rw [q1, q2, q3] at h'; cases h'
              | some u =>
                rw [q1, q2, q3] at h'
                cases h'
                refine PE.imp (pe_slice sl_ok (ih a x q1) (part_ok ih q2) (part_ok ih q3)) ?_
                rw [eK]
                intro σ H Q h
                refine step1 (k := fun x δ => (evO cl l δ).bind fun l => (evO cl u δ).bind fun h => slcD x l h) h fun δ Z xv v H1 S1 s1 r1 p1 => ?_
                refine ⟨δ, Z, S1, ?_⟩
                cases e1 : evO cl l δ with
                | bad => rw [e1] at p1; exact p1
                | exc c fs => rw [e1] at p1; exact p1
                | ok lv =>
                  rw [e1] at p1
                  intro H2 Z2 ex2
                  refine ⟨δ, Z2, S1.ext ex2, ?_⟩
                  have p2 : Post fr W σ Z2 H2 ((evO cl u δ).bind fun h => slcD xv lv h) Q := Post.ext p1 ex2
                  cases e2 : evO cl u δ with
                  | bad => rw [e2] at p2; exact p2
                  | exc c fs => rw [e2] at p2; exact p2
                  | ok uv =>
                    rw [e2] at p2
                    intro H3 Z3 ex3
                    exact slcD_ok ((S1.ext ex2).ext ex3) ((r1.ext ex2).ext ex3) (Post.ext p2 ex3)
      · rw [sub_eq hb] at h
        by_cases hp : plainIx b = true
        · rw [if_pos hp] at h
          cases q1 : compE c sc F a with
          | none => rw [q1] at h; cases h
          | some x =>
            cases q2 : compE c sc F b with
            | none => rw [q1, q2] at h; cases h
            | some y =>
              rw [q1, q2] at h
              cases h
              refine PE.imp (pe_ix ix_ok (ih a x q1) (ih b y q2) (plain_ok hp)) ?_
              rw [eK]
              exact tE_bin ixD_ok
        · rw [if_neg hp] at h; cases h
    | Call fe es kw pos =>
      cases kw with
      | cons _ _ => cases fe <;> cases h
      | nil =>
        cases fe with
        | Name f p =>
          have h' : (if isGl sc f = true then match c.fn.lookup f with
            | some i => (compL (compE c sc F) es).map (IE.call i)
            | none => compB sc (compE c sc F) f es
            else none) = some ie := h
          by_cases hg : isGl sc f = true
          · rw [if_pos hg] at h'
            cases ql : c.fn.lookup f with
            | some i =>
              rw [ql] at h'
              have h2 : (compL (compE c sc F) es).map (IE.call i) = some ie := h'
              cases q : compL (compE c sc F) es with
              | none => rw [q] at h2; cases h2
              | some il =>
                rw [q] at h2
                cases h2
                exact fn_call C hf (compL_ok ih q) (fun en => by subst en; cases q; rfl) (compL_star q) hg ql
            | none =>
              rw [ql] at h'
              exact blt_call C hf ih hg h'
          · rw [if_neg hg] at h'; cases h'
        | _ => cases h
    | _ => cases h
end
end Ev
namespace Ev
open PySem PySem.Spec PyProof.Rows L2
section
variable {X : Cx} {W : WX} {M : Mo} {c : Cm} {cl : Call} {sc : Scope} {fr : Fr}
def evT (cl : Call) (ie : IE) (δ : Envr) : Res Bool := asB (evI cl ie δ)
theorem asB_post {σ : L2.St} {δ : Envr} {Z : Zs} {H0 H : Hp} {x : DM} {v : V} {Q : Bool → Hp → Prop} (S : SR fr Z H σ δ) (r : RX fr H0 Z H x v) (p : PostB fr W σ Z H (asB (.ok x)) Q) : ∃ b, v = .bl b ∧ Q b H := by
  have p' : PostB fr W σ Z H (match x.1 with | .bl b => .ok b | _ => .bad) Q := p
  cases e : x.1 with
  | bl b =>
    rw [e] at p'
    exact ⟨b, r.bl e, p' H Z (Ext.refl S.zex)⟩
  | _ => rw [e] at p'; exact p'.elim
theorem test_val {ie : IE} : ∀ σ H Q, tT fr W (evT cl ie) σ H Q → tB (tE fr W (evI cl ie)) σ H Q := by
  intro σ H Q h
  obtain ⟨δ, Z, S, p⟩ := h
  refine ⟨δ, Z, S, ?_⟩
  have p' : PostB fr W σ Z H (asB (evI cl ie δ)) Q := p
  cases e : evI cl ie δ with
  | bad => rw [e] at p'; exact p'
  | exc c fs => rw [e] at p'; exact p'
  | ok x =>
    rw [e] at p'
    exact fun v H1 Z1 ex r => asB_post (S.ext ex) r (PostB.ext p' ex)
theorem stepB {g : Envr → Res Bool} {k : Bool → Envr → Res Bool} {σ : L2.St} {H : Hp} {Q Q1 : Bool → Hp → Prop} (h : tT fr W (fun δ => (g δ).bind fun b => k b δ) σ H Q)
    (q : ∀ δ Z b H1, SR fr Z H1 σ δ → PostB fr W σ Z H1 (k b δ) Q → Q1 b H1) : tT fr W g σ H Q1 := by
  obtain ⟨δ, Z, S, p⟩ := h
  refine ⟨δ, Z, S, ?_⟩
  have p' : PostB fr W σ Z H ((g δ).bind fun b => k b δ) Q := p
  cases e : g δ with
  | bad => rw [e] at p'; exact p'
  | exc c fs => rw [e] at p'; exact p'
  | ok b =>
    rw [e] at p'
    exact fun H1 Z1 ex => q δ Z1 b H1 (S.ext ex) (PostB.ext p' ex)
theorem evT_and {a b : IE} {δ : Envr} : evT cl (.and a b) δ = (evT cl a δ).bind fun x => if x = true then evT cl b δ else .ok false := by
  show asB ((evI cl a δ).bind fun x => match x.1 with | .bl true => evI cl b δ | .bl false => okB false | _ => .bad) = ((asB (evI cl a δ)).bind fun x => if x = true then asB (evI cl b δ) else .ok false)
  cases e : evI cl a δ with
  | bad => rfl
  | exc c fs => rfl
  | ok x =>
    obtain ⟨d, m⟩ := x
    cases d with
    | bl b => cases b <;> rfl
    | _ => rfl
theorem evT_or {a b : IE} {δ : Envr} : evT cl (.or a b) δ = (evT cl a δ).bind fun x => if x = true then .ok true else evT cl b δ := by
  show asB ((evI cl a δ).bind fun x => match x.1 with | .bl true => okB true | .bl false => evI cl b δ | _ => .bad) = ((asB (evI cl a δ)).bind fun x => if x = true then .ok true else asB (evI cl b δ))
  cases e : evI cl a δ with
  | bad => rfl
  | exc c fs => rfl
  | ok x =>
    obtain ⟨d, m⟩ := x
    cases d with
    | bl b => cases b <;> rfl
    | _ => rfl
theorem evT_not {a : IE} {δ : Envr} : evT cl (.not a) δ = (evT cl a δ).bind fun x => .ok (!x) := by
  show asB ((evI cl a δ).bind notD) = ((asB (evI cl a δ)).bind fun x => .ok (!x))
  cases e : evI cl a δ with
  | bad => rfl
  | exc c fs => rfl
  | ok x =>
    obtain ⟨d, m⟩ := x
    cases d <;> rfl
theorem PostB.fin {σ : L2.St} {δ : Envr} {Z : Zs} {H : Hp} {b : Bool} {Q : Bool → Hp → Prop} (S : SR fr Z H σ δ) (p : PostB fr W σ Z H (.ok b) Q) : Q b H := p H Z (Ext.refl S.zex)
theorem tall_and {f : Expr → Option IE} {pos : Pos} (hf : ∀ e ie, f e = some ie → PT X e (tT fr W (evT cl ie))) : ∀ {es : List Expr} {ie : IE}, compAll .and f es = some ie → PW X (.BoolOp .And es pos) (tT fr W (evT cl ie))
  | [], _, h => by cases h
  | [e], ie, h => pw_and1 (hf e ie h)
  | e :: e2 :: r, ie, h => by
    have h' : (match f e, compAll IE.and f (e2 :: r) with | some a, some b => some (IE.and a b) | _, _ => none) = some ie := h
    cases q1 : f e with
    | none => rw [q1] at h'; cases h'
    | some a =>
      cases q2 : compAll IE.and f (e2 :: r) with
      | none => rw [q1, q2] at h'; cases h'
      | some b =>
        rw [q1, q2] at h'
        cases h'
        refine PW.imp (pw_and (hf e a q1) (tall_and hf q2)) fun σ H Q h => ?_
        have h2 : tT fr W (fun δ => (evT cl a δ).bind fun x => if x = true then evT cl b δ else .ok false) σ H Q := by
          obtain ⟨δ, Z, S, p⟩ := h
          exact ⟨δ, Z, S, by rw [evT_and] at p; exact p⟩
        refine stepB (k := fun x δ => if x = true then evT cl b δ else .ok false) h2 fun δ Z x H1 S1 p1 => ?_
        cases x with
        | true => rw [if_pos rfl] at p1 ⊢; exact ⟨δ, Z, S1, p1⟩
        | false => rw [if_neg Bool.false_ne_true] at p1 ⊢; exact p1.fin S1
theorem tall_or {f : Expr → Option IE} {pos : Pos} (hf : ∀ e ie, f e = some ie → PT X e (tT fr W (evT cl ie))) : ∀ {es : List Expr} {ie : IE}, compAll .or f es = some ie → PW X (.BoolOp .Or es pos) (tT fr W (evT cl ie))
  | [], _, h => by cases h
  | [e], ie, h => pw_or1 (hf e ie h)
  | e :: e2 :: r, ie, h => by
    have h' : (match f e, compAll IE.or f (e2 :: r) with | some a, some b => some (IE.or a b) | _, _ => none) = some ie := h
    cases q1 : f e with
    | none => rw [q1] at h'; cases h'
    | some a =>
      cases q2 : compAll IE.or f (e2 :: r) with
      | none => rw [q1, q2] at h'; cases h'
      | some b =>
        rw [q1, q2] at h'
        cases h'
        refine PW.imp (pw_or (hf e a q1) (tall_or hf q2)) fun σ H Q h => ?_
        have h2 : tT fr W (fun δ => (evT cl a δ).bind fun x => if x = true then .ok true else evT cl b δ) σ H Q := by
          obtain ⟨δ, Z, S, p⟩ := h
          exact ⟨δ, Z, S, by rw [evT_or] at p; exact p⟩
        refine stepB (k := fun x δ => if x = true then .ok true else evT cl b δ) h2 fun δ Z x H1 S1 p1 => ?_
        cases x with
        | true => rw [if_pos rfl] at p1 ⊢; exact p1.fin S1
        | false => rw [if_neg Bool.false_ne_true] at p1 ⊢; exact ⟨δ, Z, S1, p1⟩
/-- which expressions are asked by their value's truth -/
def plainT : Expr → Bool
  | .UnaryOp .Not _ _ => false
  | .BoolOp _ _ _ => false
  | .IfExp _ _ _ _ => false
  | .Compare _ _ _ _ => false
  | _ => true
theorem plain_test {e : Expr} (h : plainT e = true) (env : Env) (whole : Sem Value) : isTrue e env whole = (do let v ← whole; standAt e.pos; holding [v] (truthy v)) := by
  cases e with
  | UnaryOp op a pos => cases op <;> first | rfl | cases h
  | BoolOp _ _ _ => cases h
  | IfExp _ _ _ _ => cases h
  | Compare _ _ _ _ => cases h
  | _ => rfl
theorem compT_ok (C : Cok X W M c cl sc) (hf : fr.M = M) : ∀ (F : Nat) (e : Expr) (ie : IE), compE c sc F e = some ie → PT X e (tT fr W (evT cl ie)) := by
  intro F
  induction F with
  | zero => intro e ie h; cases h
  | succ F ih =>
    intro e ie h
    have val : plainT e = true → PT X e (tT fr W (evT cl ie)) := fun hp =>
      PT.imp (pt_val (compE_ok C hf (F + 1) e ie h) (plain_test hp X.env)) test_val
    cases e with
    | UnaryOp op a pos =>
      cases op with
      | Not =>
        have h' : (compE c sc F a).map IE.not = some ie := h
        cases q : compE c sc F a with
        | none => rw [q] at h'; cases h'
        | some x =>
          rw [q] at h'
          cases h'
          refine PT.imp (pt_not (ih a x q)) fun σ H Q h => ?_
          have h2 : tT fr W (fun δ => (evT cl x δ).bind fun b => .ok (!b)) σ H Q := by
            obtain ⟨δ, Z, S, p⟩ := h
            exact ⟨δ, Z, S, by rw [evT_not] at p; exact p⟩
          exact stepB (k := fun b _ => .ok (!b)) h2 fun δ Z b H1 S1 p1 => p1.fin S1
      | _ => exact val rfl
    | BoolOp op es pos =>
      cases op with
      | And => exact PW.pt (tall_and ih h)
      | Or => exact PW.pt (tall_or ih h)
    | Compare a ops bs pos =>
      cases ops with
      | nil => cases h
      | cons op ops' =>
        cases ops' with
        | cons _ _ => cases bs with
          | nil => cases h
          | cons _ r => cases r <;> cases h
        | nil =>
          cases bs with
          | nil => cases h
          | cons b bs' =>
            cases bs' with
            | cons _ _ => cases h
            | nil =>
              have h' : (match copOf op, compE c sc F a, compE c sc F b with | some o, some x, some y => some (IE.cmp o x y) | _, _, _ => none) = some ie := h
              cases q1 : copOf op with
              | none => rw [q1] at h'; cases h'
              | some o =>
                cases q2 : compE c sc F a with
                | none => rw [q1, q2] at h'; cases h'
                | some x =>
                  cases q3 : compE c sc F b with
                  | none => rw [q1, q2, q3] at h'; cases h'
                  | some y =>
                    rw [q1, q2, q3] at h'
                    cases h'
                    obtain ⟨e1, e2, e3⟩ := cop_op q1
                    have nm := nomark b e2 e3
                    rw [e1] at nm ⊢
                    refine PT.imp (pt_cmpR (op_cmp C.hu o) (compE_ok C hf F a x q2) (compE_ok C hf F b y q3) nm) fun σ H Q h => ?_
                    have h2 := test_val (cl := cl) (ie := .cmp o x y) σ H Q h
                    rw [mod_eq C hf]
                    exact tE_bin cmpD_ok σ H _ h2
    | IfExp _ _ _ _ => cases h
    | _ => exact val rfl
end
end Ev
namespace Ev
open PySem PySem.Spec PyProof.Rows L2

/-- the frame's end -/
structure FE (fr : Fr) (Z : Zs) (H : Hp) : Prop where
  same : Same fr.H0 H
  zex : ∀ a, Z a → H a ≠ none
  zc1 : ∀ a, fr.Zc a → Z a
  zc2 : ∀ a, Z a → fr.Zc a ∨ fr.H0 a = none
def SNext (fr : Fr) (Z : Zs) (H : Hp) (δ : Envr) (P : L2.St → Hp → Prop) : Prop := ∀ σ' H' Z', SR fr Z' H' σ' δ → (∀ a, Z a → Z' a) → Stb Z H H' → P σ' H'
def PostS (fr : Fr) (W : WX) (Z : Zs) (H : Hp) (r : Res Out) (D : Ends) : Prop :=
  match r with
  | .ok (.nx δ) => SNext fr Z H δ D.nx
  | .ok (.bk δ) => SNext fr Z H δ D.bk
  | .ok (.ct δ) => SNext fr Z H δ D.ct
  | .ok (.rt x) => (x.2 = .val ∨ x.2 = .own) → ∀ v H' Z', FE fr Z' H' → RM fr Z' H' x.2 x.1 v → D.rt v H'
  | .exc c fs => ∀ C od σ' H', XR fr.M c fs C od H' → Same fr.H0 H' → W (.ref C) od σ' H'
  | .bad => False
def tS (fr : Fr) (W : WX) (g : Envr → Res Out) : TS := fun D σ H => ∃ δ Z, SR fr Z H σ δ ∧ PostS fr W Z H (g δ) D
theorem PS.imp {X : Cx} {st : Stmt} {t t' : TS} (h : PS X st t) (i : ∀ D σ H, t' D σ H → t D σ H) : PS X st t' := ⟨fun pins s σ H D I q => h.run pins s σ H D I (i D σ H q)⟩
theorem PSs.imp {X : Cx} {st : List Stmt} {t t' : TS} (h : PSs X st t) (i : ∀ D σ H, t' D σ H → t D σ H) : PSs X st t' := ⟨fun pins s σ H D I q => h.run pins s σ H D I (i D σ H q)⟩
theorem PI.imp {X : Cx} {tg it : Expr} {t t' : TI} (h : PI X tg it t) (i : ∀ σ H R, t' σ H R → t σ H R) : PI X tg it t' := ⟨fun pins s σ H R I q => h.run pins s σ H R I (i σ H R q)⟩
theorem PI.some {X : Cx} {tg it : Expr} {t : TI} (h : ∀ σ H R, t σ H R → ∃ t', PI X tg it t' ∧ t' σ H R) : PI X tg it t := ⟨fun pins s σ H R I q => by
  obtain ⟨t', h1, h2⟩ := h σ H R q
  exact h1.run pins s σ H R I h2⟩
section
variable {fr : Fr} {W : WX} {Z Z1 Z2 : Zs} {H H1 H2 : Hp} {σ : L2.St} {δ : Envr}
theorem Stb.trans (a : Stb Z H H1) (u : ∀ x, Z x → Z1 x) (b : Stb Z1 H1 H2) : Stb Z H H2 := fun x o h => by
  rcases a x o h with h | h
  · rcases b x o h with h | ⟨n, m⟩
    · exact .inl h
    · exact .inr ⟨fun z => n (u x z), m⟩
  · exact .inr h
theorem SR.fe (S : SR fr Z H σ δ) : FE fr Z H := ⟨S.same, S.zex, S.zc1, S.zc2⟩
theorem FE.ext (S : FE fr Z H) (e : Ext Z H Z1 H1) : FE fr Z1 H1 where
  same := S.same.trans e.same
  zex := e.ex
  zc1 := fun a h => e.up a (S.zc1 a h)
  zc2 := fun a h => by
    rcases e.dn a h with h | h
    · exact S.zc2 a h
    · exact .inr (S.same.free h)
theorem PostS.mono {r : Res Out} {D : Ends} (h : PostS fr W Z H r D) (u : ∀ a, Z a → Z1 a) (s : Stb Z H H1) : PostS fr W Z1 H1 r D := by
  cases r with
  | ok o =>
    cases o with
    | nx δ => exact fun σ' H' Z' S u' s' => h σ' H' Z' S (fun a x => u' a (u a x)) (s.trans u s')
    | bk δ => exact fun σ' H' Z' S u' s' => h σ' H' Z' S (fun a x => u' a (u a x)) (s.trans u s')
    | ct δ => exact fun σ' H' Z' S u' s' => h σ' H' Z' S (fun a x => u' a (u a x)) (s.trans u s')
    | rt x => exact h
  | exc c fs => exact h
  | bad => exact h
theorem PostS.ext {r : Res Out} {D : Ends} (h : PostS fr W Z H r D) (e : Ext Z H Z1 H1) : PostS fr W Z1 H1 r D := h.mono e.up e.stb
theorem PostS.nx {δ : Envr} {D : Ends} (h : PostS fr W Z H (.ok (.nx δ)) D) (S : SR fr Z H σ δ) : D.nx σ H := h σ H Z S (fun _ z => z) (Stb.of_same (Same.refl H))
/-- a value, then the rest -/
theorem stepS {r : Res DM} {k : DM → Res Out} {D : Ends} (S : SR fr Z H σ δ) (p : PostS fr W Z H (r.bind k) D) {Q1 : VK}
    (q : ∀ x v H1 Z1, Ext Z H Z1 H1 → SR fr Z1 H1 σ δ → RX fr H Z1 H1 x v → PostS fr W Z1 H1 (k x) D → Q1 v H1) : Post fr W σ Z H r Q1 := by
  cases r with
  | ok x => exact fun v H' Z' e r => q x v H' Z' e (S.ext e) r (p.ext e)
  | exc c fs => exact fun C od H' x s => p C od σ H' x (S.same.trans s)
  | bad => exact p
theorem stepSB {r : Res Bool} {k : Bool → Res Out} {D : Ends} (S : SR fr Z H σ δ) (p : PostS fr W Z H (r.bind k) D) {Q1 : Bool → Hp → Prop}
    (q : ∀ b H1 Z1, Ext Z H Z1 H1 → SR fr Z1 H1 σ δ → PostS fr W Z1 H1 (k b) D → Q1 b H1) : PostB fr W σ Z H r Q1 := by
  cases r with
  | ok x => exact fun H' Z' e => q x H' Z' e (S.ext e) (p.ext e)
  | exc c fs => exact fun C od H' x s => p C od σ H' x (S.same.trans s)
  | bad => exact p

theorem get_set {α : Type} {l : List (Option α)} {i j : Nat} {x y : α} (h : (l.set i (some x))[j]? = some (some y)) : (j = i ∧ y = x) ∨ (j ≠ i ∧ l[j]? = some (some y)) := by
  by_cases e : j = i
  · subst e
    by_cases hl : j < l.length
    · rw [List.getElem?_set_self hl] at h
      cases h
      exact .inl ⟨rfl, rfl⟩
    · rw [List.getElem?_eq_none (by rw [List.length_set]; omega)] at h; cases h
  · rw [List.getElem?_set_ne (Ne.symm e)] at h
    exact .inr ⟨e, h⟩
theorem set_lt {α : Type} {l : List (Option α)} {i : Nat} {x y : α} (h : (l.set i (some x))[i]? = some (some y)) : i < l.length := by
  have q := (List.getElem?_eq_some_iff.mp h).1
  rwa [List.length_set] at q
theorem RM.own_at {d : D} {v : V} (r : RM fr Z H .own d v) : ∃ a o, v = .ref a ∧ H a = some o ∧ ¬ Z a ∧ fr.H0 a = none ∧ Mu o := by
  cases r with
  | ownL h n z _ => exact ⟨_, _, rfl, h, n, z, trivial⟩
  | ownD h n z _ => exact ⟨_, _, rfl, h, n, z, trivial⟩
/-- a value comes to a slot -/
theorem SR.put {i : Nat} {x : DM} {v : V} {Zb : Zs} (Sb : SR fr Zb H1 σ δ) (S : SR fr Z H σ δ) (r : RX fr H1 Z H x v) (m : x.2 ≠ .tmp) : SR fr Z H (σ.set i (some v)) (δ.set i (some x)) where
  same := S.same
  zex := S.zex
  zc1 := S.zc1
  zc2 := S.zc2
  len := by rw [List.length_set, List.length_set]; exact S.len
  slot := fun j d q h => by
    rcases get_set h with ⟨e, ex⟩ | ⟨e, h2⟩
    · subst e
      refine ⟨v, List.getElem?_set_self (by rw [S.len]; exact set_lt h), ?_⟩
      have := r.1
      rw [← ex] at this
      exact this
    · obtain ⟨w, h3, h4⟩ := S.slot j d q h2
      exact ⟨w, by rw [List.getElem?_set_ne (Ne.symm e)]; exact h3, h4⟩
  dist := fun j k d e a h1 h2 h3 h4 => by
    have old : ∀ (l : Nat) (d : D), δ[l]? = some (some (d, Md.own)) → σ[l]? = some (some (V.ref a)) → H1 a ≠ none := fun l d q1 q2 => by
      obtain ⟨w, q3, q4⟩ := Sb.slot l d .own q1
      rw [q2] at q3
      cases q3
      obtain ⟨b, o, eb, hb, _⟩ := q4.own_at
      cases eb
      rw [hb]
      exact fun q => nomatch q
    rcases get_set h1 with ⟨ej, ex⟩ | ⟨ej, h1'⟩
    · rcases get_set h2 with ⟨ek, _⟩ | ⟨ek, h2'⟩
      · rw [ej, ek]
      · rcases get_set h3 with ⟨_, ev⟩ | ⟨n, _⟩
        · rcases get_set h4 with ⟨n, _⟩ | ⟨_, h4'⟩
          · exact absurd n ek
          · exact absurd (r.2 (by rw [← ex]) a ev.symm) (old k e h2' h4')
        · exact absurd ej n
    · rcases get_set h2 with ⟨ek, ex⟩ | ⟨ek, h2'⟩
      · rcases get_set h4 with ⟨_, ev⟩ | ⟨n, _⟩
        · rcases get_set h3 with ⟨n, _⟩ | ⟨_, h3'⟩
          · exact absurd n ej
          · exact absurd (r.2 (by rw [← ex]) a ev.symm) (old j d h1' h3')
        · exact absurd ek n
      · rcases get_set h3 with ⟨n, _⟩ | ⟨_, h3'⟩
        · exact absurd n ej
        · rcases get_set h4 with ⟨n, _⟩ | ⟨_, h4'⟩
          · exact absurd n ek
          · exact S.dist j k d e a h1' h2' h3' h4'
  notm := fun j d h => by
    rcases get_set h with ⟨_, ex⟩ | ⟨_, h2⟩
    · exact m (by rw [← ex])
    · exact S.notm j d h2
/-- a flat value, a value held for good -/
theorem SR.putV {i : Nat} {d : D} {v : V} (S : SR fr Z H σ δ) (r : RV fr.M Z H d v) : SR fr Z H (σ.set i (some v)) (δ.set i (some (d, .val))) :=
  SR.put S S (x := (d, .val)) ⟨.val r, fun h => nomatch h⟩ (fun h => nomatch h)
/-- one slot is held for good -/
theorem SR.frz1 (S : SR fr Z H σ δ) (i : Nat) : ∃ Z', (∀ a, Z a → Z' a) ∧ SR fr Z' H σ (δ.set i (freeze1 (δ[i]?.bind id))) := by
  cases e : δ[i]? with
  | none =>
    have hl := List.getElem?_eq_none_iff.mp e
    rw [List.set_eq_of_length_le hl]
    exact ⟨Z, fun _ h => h, S⟩
  | some o =>
    have hi : i < δ.length := (List.getElem?_eq_some_iff.mp e).1
    have self : ∀ (o' : Option DM), freeze1 o = o' → o' = o → ∃ Z', (∀ a, Z a → Z' a) ∧ SR fr Z' H σ (δ.set i (freeze1 ((some o).bind id))) := fun o' h1 h2 => by
      refine ⟨Z, fun _ h => h, ?_⟩
      show SR fr Z H σ (δ.set i (freeze1 o))
      rw [h1, h2]
      have : δ.set i o = δ := by
        refine List.ext_getElem? fun j => ?_
        by_cases ej : i = j
        · subst ej; rw [List.getElem?_set_self hi, e]
        · rw [List.getElem?_set_ne ej]
      rw [this]
      exact S
    cases o with
    | none => exact self none rfl rfl
    | some x =>
      obtain ⟨d, m⟩ := x
      cases m with
      | val => exact self _ rfl rfl
      | rb => exact self _ rfl rfl
      | tmp => exact self _ rfl rfl
      | own =>
        show ∃ Z', (∀ a, Z a → Z' a) ∧ SR fr Z' H σ (δ.set i (some (d, .val)))
        obtain ⟨v, h1, h2⟩ := S.slot i d .own e
        obtain ⟨p, o, ev, hp, np, z0, mu⟩ := h2.own_at
        subst ev
        refine ⟨Zadd Z p, fun _ h => .inl h, ?_⟩
        have hst : Stb Z H H := Stb.of_same (Same.refl H)
        have frozen : RV fr.M (Zadd Z p) H d (.ref p) := by
          cases h2 with
          | ownL h _ _ r => exact .lst (.inl h) (.inr rfl) r.zadd
          | ownD h _ _ r => exact .dic (.inl h) (.inr rfl) r.zadd
        refine ⟨S.same, fun a h => ?_, fun a h => .inl (S.zc1 a h), fun a h => ?_, by rw [List.length_set]; exact S.len, fun j d' q h => ?_, fun j k d1 d2 a g1 g2 g3 g4 => ?_, fun j d' h => ?_⟩
        · rcases h with h | h
          · exact S.zex a h
          · subst h; rw [hp]; exact fun q => nomatch q
        · rcases h with h | h
          · exact S.zc2 a h
          · subst h; exact .inr z0
        · rcases get_set h with ⟨ej, ex⟩ | ⟨ej, h'⟩
          · subst ej
            cases ex
            exact ⟨_, h1, .val frozen⟩
          · obtain ⟨w, h3, h4⟩ := S.slot j d' q h'
            refine ⟨w, h3, ?_⟩
            have ne : ∀ {b : Addr}, q = Md.own → w = .ref b → b ≠ p := fun {b} eq ew eb => by
              subst eq ew eb
              exact ej (S.dist j i d' d b h' e h3 h1)
            cases h4 with
            | val rr => exact .val rr.zadd
            | ownL hh n z rr => exact .ownL hh (fun zz => zz.elim n (ne rfl rfl)) z rr.zadd
            | ownD hh n z rr => exact .ownD hh (fun zz => zz.elim n (ne rfl rfl)) z rr.zadd
            | rbL hh z rr => exact .rbL hh z rr.zadd
            | rbD hh z rr => exact .rbD hh z rr.zadd
            | tmL hh rr => exact .tmL hh rr.zadd
            | tmD hh rr => exact .tmD hh rr.zadd
        · rcases get_set g1 with ⟨_, ex⟩ | ⟨_, g1'⟩
          · cases ex
          · rcases get_set g2 with ⟨_, ex⟩ | ⟨_, g2'⟩
            · cases ex
            · exact S.dist j k d1 d2 a g1' g2' g3 g4
        · rcases get_set h with ⟨_, ex⟩ | ⟨_, h'⟩
          · cases ex
          · exact S.notm j d' h'
theorem SR.frz : ∀ (is : List Nat) {Z : Zs} {δ : Envr}, SR fr Z H σ δ → ∃ Z', (∀ a, Z a → Z' a) ∧ SR fr Z' H σ (frz δ is)
  | [], Z, δ, S => ⟨Z, fun _ h => h, S⟩
  | i :: is, Z, δ, S => by
    obtain ⟨Z1, u1, S1⟩ := S.frz1 i
    obtain ⟨Z2, u2, S2⟩ := SR.frz is S1
    exact ⟨Z2, fun a h => u2 a (u1 a h), S2⟩
/-- an own list grows -/
theorem SR.grow {i : Nat} {xs ys : List D} {a : Addr} {vs ws : List V} (S : SR fr Z H σ δ) (e : δ[i]? = some (some (.lst xs, .own))) (ev : σ[i]? = some (some (.ref a))) (hh : H a = some (.lst vs)) (r : RVs fr.M Z H ys ws) :
    SR fr Z (upd H a (.lst ws)) σ (δ.set i (some (.lst ys, .own))) ∧ Stb Z H (upd H a (.lst ws)) := by
  obtain ⟨v, h1, h2⟩ := S.slot i _ .own e
  rw [ev] at h1
  cases h1
  obtain ⟨p, o, ep, hp, np, z0, mu⟩ := h2.own_at
  cases ep
  have hi : i < δ.length := (List.getElem?_eq_some_iff.mp e).1
  have stb : Stb Z H (upd H a (.lst ws)) := fun b u h => by
    by_cases eb : b = a
    · subst eb
      rw [hh] at h
      cases h
      exact .inr ⟨np, trivial⟩
    · rw [upd_ne eb]; exact .inl h
  refine ⟨⟨fun b u h => ?_, fun b z => ?_, S.zc1, S.zc2, by rw [List.length_set]; exact S.len, fun j d' q h => ?_, fun j k d1 d2 b g1 g2 g3 g4 => ?_, fun j d' h => ?_⟩, stb⟩
  · have eb : b ≠ a := fun z => by rw [z, z0] at h; cases h
    rw [upd_ne eb]
    exact S.same b u h
  · have eb : b ≠ a := fun q => np (by rw [← q]; exact z)
    rw [upd_ne eb]
    exact S.zex b z
  · rcases get_set h with ⟨ej, ex⟩ | ⟨ej, h'⟩
    · subst ej
      cases ex
      exact ⟨_, ev, .ownL upd_same np z0 (r.mono stb fun _ z => z)⟩
    · obtain ⟨w, h3, h4⟩ := S.slot j d' q h'
      refine ⟨w, h3, ?_⟩
      have ne : ∀ {b : Addr}, q = Md.own → w = .ref b → b ≠ a := fun {b} eq ew eb => by
        subst eq ew eb
        exact ej (S.dist j i d' _ b h' e h3 ev)
      have neH : ∀ {b : Addr}, Had fr b → b ≠ a := fun {b} hb eb => hb (by rw [eb]; exact z0)
      have rd : ∀ {b : Addr} {u : HO}, b ≠ a → Rd H b u → Rd (upd H a (.lst ws)) b u := fun {b u} nb hb => by
        rcases hb with hb | ⟨o, hb⟩
        · exact .inl (by rw [upd_ne nb]; exact hb)
        · exact .inr ⟨o, by rw [upd_ne nb]; exact hb⟩
      have up : ∀ b, Z b → Z b := fun _ z => z
      cases h4 with
      | val rr => exact .val (rr.mono stb up)
      | ownL gg n z rr => exact .ownL (by rw [upd_ne (ne rfl rfl)]; exact gg) n z (rr.mono stb up)
      | ownD gg n z rr => exact .ownD (by rw [upd_ne (ne rfl rfl)]; exact gg) n z (rr.mono stb up)
      | rbL gg z rr => exact .rbL (rd (neH z) gg) z (rr.mono stb up)
      | rbD gg z rr => exact .rbD (rd (neH z) gg) z (rr.mono stb up)
      | tmL gg rr => exact (S.notm j _ h').elim
      | tmD gg rr => exact (S.notm j _ h').elim
  · rcases get_set g1 with ⟨ej, _⟩ | ⟨ej, g1'⟩
    · rcases get_set g2 with ⟨ek, _⟩ | ⟨ek, g2'⟩
      · rw [ej, ek]
      · subst ej
        exact S.dist j k _ d2 b e g2' g3 g4
    · rcases get_set g2 with ⟨ek, _⟩ | ⟨ek, g2'⟩
      · subst ek
        exact S.dist j k d1 _ b g1' e g3 g4
      · exact S.dist j k d1 d2 b g1' g2' g3 g4
  · rcases get_set h with ⟨_, ex⟩ | ⟨_, h'⟩
    · cases ex
    · exact S.notm j d' h'
end
end Ev
namespace Ev
open PySem PySem.Spec PyProof.Rows L2

def storeOf (c : Cm) (sc : Scope) (x : Str) : Option Nat :=
  match sc.names.lookup x with
  | some .local => ixOf c.N x
  | some .cell => ixOf c.N x
  | _ => none
def notComp : Expr → Bool
  | .ListComp _ _ _ _ => false
  | .SetComp _ _ _ _ => false
  | .DictComp _ _ _ _ _ => false
  | _ => true
def notTup : Expr → Bool
  | .Tuple _ _ _ => false
  | _ => true
def notSet : Expr → Bool
  | .Set _ _ _ => false
  | _ => true
def compNames (c : Cm) (sc : Scope) : List Expr → Option (List Nat)
  | [] => some []
  | .Name x _ :: r => match storeOf c sc x, compNames c sc r with
    | some i, some is => some (i :: is)
    | _, _ => none
  | _ => none
def compTg (c : Cm) (sc : Scope) : Expr → Option Tg
  | .Name x _ => (storeOf c sc x).map .name
  | .Tuple es _ _ => (compNames c sc es).map .tup
  | _ => none
def compIt (c : Cm) (sc : Scope) (F : Nat) : Expr → Option II
  | .Call (.Name f _) [a] [] _ => if f = "range" ∧ isGl sc f = true ∧ notStar a = true then (compE c sc F a).map .rng else none
  | .Call (.Name f _) [a, b] [] _ => if f = "range" ∧ isGl sc f = true ∧ notStar a = true ∧ notStar b = true then match compE c sc F a, compE c sc F b with
      | some x, some y => some (.rng2 x y)
      | _, _ => none else none
  | _ => none
def compIter (c : Cm) (sc : Scope) (F : Nat) (e : Expr) : Option II := match compIt c sc F e with
  | some i => some i
  | none => if notSet e = true then (compE c sc F e).map .seq else none
def parOk (sc : Scope) (x y : Str) (px py : Pos) (a b : Expr) : Bool :=
  decide (sc.names.lookup x = some .local) && decide (sc.names.lookup y = some .local) && (px.line == py.line) && !decide (x = y) && notStar a && notStar b && !(foldedForSure 8 a && foldedForSure 8 b) && !(constantsAlone 8 a && constantsAlone 8 b)
def compA (c : Cm) (sc : Scope) (F : Nat) (pos : Pos) : Expr → Expr → Option IS
  | .Tuple [.Name x px, .Name y py] _ _, .Tuple [a, b] _ _ => if parOk sc x y px py a b = true then match storeOf c sc x, storeOf c sc y, compE c sc F a, compE c sc F b with
      | some i, some j, some p, some q => some (.par i j p q)
      | _, _, _, _ => none else none
  | .Name x _, e => if notComp e = true then match storeOf c sc x, compE c sc F e with
      | some i, some p => some (.set i p)
      | _, _ => none else none
  | .Tuple es _ _, e => if (notComp e && notTup e) = true then match compNames c sc es, compE c sc F e with
      | some is, some p => some (.unp is p)
      | _, _ => none else none
  | _, _ => none
def compX (c : Cm) (sc : Scope) (F : Nat) (e : Expr) : Option IS := match e with
  | .Call (.Attribute (.Name x _) m ap) [a] [] cp => if m = "append" ∧ (ap.endLine == cp.line) = true ∧ notStar a = true then match slotOf c sc x, compE c sc F a with
      | some i, some p => some (.app i p)
      | _, _ => none else none
  | e => if notComp e = true then (compE c sc F e).map .ex else none
mutual
def compS (c : Cm) (sc : Scope) : Nat → Stmt → Option IS
  | 0, _ => none
  | F + 1, st => match st with
    | .Pass _ => some .pass
    | .Break _ => some .brk
    | .Continue _ => some .cnt
    | .Expr e _ => compX c sc F e
    | .Return (some (.Name x _)) _ => (slotOf c sc x).map .retv
    | .Return (some e) _ => (compE c sc F e).map .ret
    | .Return none _ => some (.ret (.cst .non))
    | .Assign [t] e pos => compA c sc F pos t e
    | .If t a b _ => match compE c sc F t, compSs c sc F a, compSs c sc F b with
      | some x, some y, some z => some (.ite x y z)
      | _, _, _ => none
    | .While t b [] _ => match compE c sc F t, compSs c sc F b with
      | some x, some y => some (.whl x y)
      | _, _ => none
    | .For tg it b [] _ => match compTg c sc tg, compIter c sc F it, compSs c sc F b with
      | some x, some y, some z => some (.fors x y z)
      | _, _, _ => none
    | .Raise _ _ _ => some .nvr
    | _ => none
def compSs (c : Cm) (sc : Scope) : Nat → List Stmt → Option ISs
  | 0, _ => none
  | _ + 1, [] => some .nil
  | F + 1, s :: r => match compS c sc F s, compSs c sc F r with
    | some x, some y => some (.cons x y)
    | _, _ => none
end

structure Sok (X : Cx) (W : WX) (M : Mo) (c : Cm) (cl : Call) (sc : Scope) : Prop extends Cok X W M c cl sc where
  ps : PassesOwn (model X.prog X.w) X.A X.env X.xe
  kind : sc.kind = .function
section
variable {X : Cx} {W : WX} {M : Mo} {c : Cm} {cl : Call} {sc : Scope} {fr : Fr} {Wn : Nat}
theorem storeOf_ok (C : Cok X W M c cl sc) {x : Str} {i : Nat} (h : storeOf c sc x = some i) : X.N[i]? = some x ∧ L2.Loc X.env.scope x ∧ (X.fn x = true ∨ X.env.scope.names.lookup x = some .local) := by
  unfold storeOf at h
  have hst := C.sto x
  rw [C.N, C.hsc]
  cases q : sc.names.lookup x with
  | none => rw [q] at h; cases h
  | some k =>
    rw [q] at h
    cases k with
    | «local» => exact ⟨ixOf_get h, .inl q, .inr rfl⟩
    | cell => exact ⟨ixOf_get h, .inr q, by rcases hst (.inr q) with z | z; exact .inl z; rw [q] at z; cases z⟩
    | _ => cases h
theorem swaps_no {e : Expr} (h : notComp e = true) (t : Option Expr) (l : Nat) (env : Env) : swapsWith e t l env = pure false := by
  cases e <;> first | rfl | cases h
theorem folded_no {e : Expr} (h : notSet e = true) (env : Env) (x : Value) : foldedSetIterable e env x = pure x := by
  cases e <;> first | rfl | cases h
theorem tgt_one {t : Expr} (h : match t with | .Name _ _ => True | .Tuple _ _ _ => True | _ => False) (env : Env) : (assignEach [t] env).map (·.2) = [assign t env] := by
  cases t <;> first | rfl | exact h.elim
/-- names in a row -/
theorem names_ok (C : Cok X W M c cl sc) : ∀ {es : List Expr} {is : List Nat}, compNames c sc es = some is → ∃ g : TGs, PGs X es g ∧ (∀ env, (assignEach es env).length = is.length) ∧ (∀ env, (assignEach es env).findIdx? (·.1) = none) ∧
    ∀ (xs : List D) (vs : List V) (σ : L2.St) (H : Hp) (δ δ' : Envr) (Z : Zs) (P : L2.St → Hp → Prop), SR fr Z H σ δ → RVs fr.M Z H xs vs → putAll δ is xs = .ok δ' → (∀ σ', SR fr Z H σ' δ' → P σ' H) → g vs σ H P
  | [], is, h => by
    cases h
    refine ⟨_, pgs_nil, fun _ => rfl, fun _ => rfl, fun xs vs σ H δ δ' Z P S r e q => ?_⟩
    cases r with
    | nil => cases e; exact ⟨rfl, q σ S⟩
    | cons _ _ => cases e
  | e :: es, is, h => by
    cases e with
    | Name x pos =>
      have h' : (match storeOf c sc x, compNames c sc es with | some i, some is => some (i :: is) | _, _ => none) = some is := h
      cases q1 : storeOf c sc x with
      | none => rw [q1] at h'; cases h'
      | some i =>
        cases q2 : compNames c sc es with
        | none => rw [q1, q2] at h'; cases h'
        | some js =>
          rw [q1, q2] at h'
          cases h'
          obtain ⟨a1, a2, a3⟩ := storeOf_ok C q1
          obtain ⟨g, G, l1, l2, st⟩ := names_ok C q2
          refine ⟨_, pgs_cons (pg_name C.nd a1 a2 a3) G rfl, fun env => ?_, fun env => ?_, fun xs vs σ H δ δ' Z P S r e q => ?_⟩
          · show (assignEach es env).length + 1 = js.length + 1
            rw [l1]
          · show ((false, assign (.Name x pos) env) :: assignEach es env).findIdx? (·.1) = none
            rw [List.findIdx?_cons, l2]
            rfl
          · cases r with
            | nil => cases e
            | cons r1 r2 =>
              refine ⟨_, _, rfl, ?_⟩
              show g _ _ H P
              exact st _ _ _ H _ δ' Z P (S.putV r1) r2 e q
    | _ => cases h
/-- a target -/
theorem tg_ok (C : Cok X W M c cl sc) (hf : fr.M = M) {t : Expr} {tg : Tg} (h : compTg c sc t = some tg) : ∃ g : TG, PG X t g ∧
    ∀ (x : D) (v : V) (σ : L2.St) (H : Hp) (δ δ' : Envr) (Z : Zs) (P : L2.St → Hp → Prop), SR fr Z H σ δ → RV fr.M Z H x v → bindT tg x δ = .ok δ' → (∀ σ', SR fr Z H σ' δ' → P σ' H) → g v σ H P := by
  cases t with
  | Name x pos =>
    have h' : (storeOf c sc x).map Tg.name = some tg := h
    cases q1 : storeOf c sc x with
    | none => rw [q1] at h'; cases h'
    | some i =>
      rw [q1] at h'
      cases h'
      obtain ⟨a1, a2, a3⟩ := storeOf_ok C q1
      refine ⟨_, pg_name C.nd a1 a2 a3, fun x v σ H δ δ' Z P S r e q => ?_⟩
      cases e
      exact q _ (S.putV r)
  | Tuple es k pos =>
    have h' : (compNames c sc es).map Tg.tup = some tg := h
    cases q1 : compNames c sc es with
    | none => rw [q1] at h'; cases h'
    | some is =>
      rw [q1] at h'
      cases h'
      obtain ⟨g, G, l1, l2, st⟩ := names_ok (fr := fr) C q1
      refine ⟨_, pg_tup C.calm G (l1 _) (l2 _), fun x v σ H δ δ' Z P S r e q => ?_⟩
      cases x with
      | tup xs =>
        have e' : putAll δ is xs = .ok δ' := e
        cases r with
        | tup hq rr =>
          refine ⟨_, _, rfl, by rw [mod_eq C hf]; exact hq, ?_, st _ _ _ H _ δ' Z P S rr e' q⟩
          have len : ∀ {δ δ' : Envr} {is : List Nat} {xs : List D}, putAll δ is xs = .ok δ' → is.length = xs.length := by
            intro δ δ' is
            induction is generalizing δ with
            | nil => intro xs e; cases xs with
              | nil => rfl
              | cons _ _ => cases e
            | cons i is ih => intro xs e; cases xs with
              | nil => cases e
              | cons x xs => rw [List.length_cons, List.length_cons, ih (δ := δ.set i (some (x, .val))) e]
          rw [← rr.length, len e']
      | _ => cases e
  | _ => cases h
theorem starM (e : Expr) : notStar e = true → (match e with | .Starred .. => true | _ => false) = false := fun h => by
  cases e <;> first | rfl | cases h
theorem star2 {a b : Expr} (ha : notStar a = true) (hb : notStar b = true) : ([a, b].any fun | .Starred .. => true | _ => false) = false := by
  have h1 := starM a ha
  have h2 := starM b hb
  rw [List.any_cons, List.any_cons, List.any_nil, Bool.or_false]
  exact Bool.or_eq_false_iff.mpr ⟨h1, h2⟩
/-- a, b = x, y -/
theorem par_swap {x y : Str} {px py pt pt2 : Pos} {kt k2 : Nat} {a b : Expr} (hk : X.env.scope.kind = .function) (h : parOk X.env.scope x y px py a b = true) : swappedStores [.Tuple [.Name x px, .Name y py] kt pt] (.Tuple [a, b] k2 pt2) X.env = pure (some [x, y]) := by
  unfold parOk at h
  simp only [Bool.and_eq_true, decide_eq_true_eq, Bool.not_eq_true', decide_eq_false_iff_not, beq_iff_eq] at h
  obtain ⟨⟨⟨⟨⟨⟨⟨h1, h2⟩, h3⟩, h4⟩, h5⟩, h6⟩, h7⟩, h8⟩ := h
  have b1 : X.env.blockKind = .function := by
    unfold Env.blockKind
    rw [hk]
    rfl
  have k1 : X.env.kindOf x = some .local := h1
  have k2 : X.env.kindOf y = some .local := h2
  have e1 : ([a, b].all (foldedForSure 8)) = false := by simp only [List.all_cons, List.all_nil, Bool.and_true]; exact h7
  have e2 : ([a, b].all (constantsAlone 8)) = false := by simp only [List.all_cons, List.all_nil, Bool.and_true]; exact h8
  have e3 := star2 h5 h6
  have n1 : ([x, y] : List Str).eraseDups.length = 2 := by
    have : ¬ (x = y) := h4
    have q : (y == x) = false := by simp; exact fun e => this e.symm
    simp [List.eraseDups_cons, List.filter, q]
  have n2 : ([Expr.Name x px, Expr.Name y py].filterMap fun
      | .Name id pos => if X.env.kindOf id == some .local && pos.line == px.line then some id else none
      | _ => none) = [x, y] := by
    simp [k1, k2, h3]
  unfold swappedStores
  dsimp only
  generalize hn : List.filterMap (α := Expr) (β := Str) _ [Expr.Name x px, Expr.Name y py] = ns
  have n3 : ns = [x, y] := by
    rw [← hn]
    exact n2
  subst n3
  simp only [List.length_cons, List.length_nil, b1, e1, e2]
  rw [if_neg (by decide)]
  refine (if_neg fun q => Bool.false_ne_true (Eq.trans (Eq.symm e3) q)).trans ?_
  rw [if_neg (by rw [n1]; decide), if_neg Bool.false_ne_true, if_neg Bool.false_ne_true]
end
end Ev
namespace Ev
open PySem PySem.Spec PyProof.Rows L2
section
variable {X : Cx} {W : WX} {M : Mo} {c : Cm} {cl : Call} {sc : Scope} {fr : Fr} {Wn : Nat}
theorem samm {Z : Zs} {H : Hp} : Stb Z H H := Stb.of_same (Same.refl H)
/-- with some slots held for good ahead of it -/
theorem tS_frz {g : Envr → Res Out} {is : List Nat} {D : Ends} {σ : L2.St} {H : Hp} (h : tS fr W (fun δ => g (frz δ is)) D σ H) : tS fr W g D σ H := by
  obtain ⟨δ, Z, S, p⟩ := h
  obtain ⟨Z', u, S'⟩ := S.frz is
  exact ⟨frz δ is, Z', S', p.mono u samm⟩
/-- the end of a value's evaluation as one of good -/
theorem SR.vals {Z Z1 : Zs} {H H1 : Hp} {σ : L2.St} {δ : Envr} {xs : List DM} {vs : List V} {ds : List D} (S : SR fr Z H σ δ) (ex : Ext Z H Z1 H1) (r : RXs fr H Z1 H1 xs vs) (e : toVals xs = some ds) :
    ∃ Z2, Ext Z H Z2 H1 ∧ (∀ a, Z1 a → Z2 a) ∧ SR fr Z2 H1 σ δ ∧ RVs fr.M Z2 H1 ds vs := by
  obtain ⟨Z2, a1, a2, a3, a4⟩ := toVals_ok ex.ex ex.same r e
  have ex2 : Ext Z H Z2 H1 := ⟨ex.same, fun a h => a1 a (ex.up a h), fun a h => by
    rcases a2 a h with h | h
    · exact ex.dn a h
    · exact .inr h, a3⟩
  exact ⟨Z2, ex2, a1, S.ext ex2, a4⟩
theorem toVals1 {x : DM} {d : D} (e : toVal x = some d) : toVals [x] = some [d] := by
  unfold toVals
  rw [e]
  rfl
theorem st_ex {e : Expr} {ie : IE} {pos : Pos} (he : PE X e (tE fr W (evI cl ie))) (hn : notComp e = true) : PS X (.Expr e pos) (tS fr W (evS cl Wn (.ex ie))) := by
  refine PS.imp (ps_expr he (swaps_no hn none pos.line X.env)) fun D σ H h => ?_
  obtain ⟨δ, Z, S, p⟩ := tS_frz (g := fun δ => (evI cl ie δ).bind fun _ => .ok (.nx δ)) (is := ie.inn) h
  exact ⟨δ, Z, S, stepS S p fun x v H1 Z1 ex S1 r p1 => p1.nx S1⟩
theorem st_ret {e : Expr} {ie : IE} {pos : Pos} (he : PE X e (tE fr W (evI cl ie))) : PS X (.Return (some e) pos) (tS fr W (evS cl Wn (.ret ie))) := by
  refine PS.imp (ps_ret he) fun D σ H h => ?_
  obtain ⟨δ, Z, S, p⟩ := tS_frz (g := fun δ => ((evI cl ie δ).bind retD).bind fun x => .ok (.rt x)) (is := ie.esc ++ ie.inn) h
  have p' : PostS fr W Z H ((evI cl ie δ).bind fun x => (retD x).bind fun x => .ok (.rt x)) D := by
    have e : (evI cl ie δ).bind (fun x => (retD x).bind fun x => Res.ok (Out.rt x)) = ((evI cl ie δ).bind retD).bind fun x => .ok (.rt x) := by cases evI cl ie δ <;> rfl
    rw [e]
    exact p
  refine ⟨δ, Z, S, stepS S p' fun x v H1 Z1 ex S1 r p1 => ?_⟩
  rcases retD_cases x with ⟨q, m⟩ | q
  · rw [q] at p1
    exact p1 m v H1 Z1 S1.fe r.1
  · rw [q] at p1
    exact p1.elim
theorem st_retv (C : Cok X W M c cl sc) {x : Str} {i : Nat} {p pos : Pos} (h : slotOf c sc x = some i) : PS X (.Return (some (.Name x p)) pos) (tS fr W (evS cl Wn (.retv i))) := by
  obtain ⟨h1, h2, h3, h4⟩ := slotOf_ok C h
  refine PS.imp (ps_ret (pe_var h1 h2 h3 h4)) fun D σ H h => ?_
  obtain ⟨δ, Z, S, p⟩ := h
  have p' : PostS fr W Z H (match δ[i]? with | some (some (d, .val)) => .ok (.rt (d, .val)) | some (some (d, .own)) => .ok (.rt (d, .own)) | _ => .bad) D := p
  cases e : δ[i]? with
  | none => rw [e] at p'; exact p'.elim
  | some o =>
    cases o with
    | none => rw [e] at p'; exact p'.elim
    | some x =>
      obtain ⟨d, m⟩ := x
      obtain ⟨v, e2, r⟩ := S.slot i d m e
      rw [e] at p'
      cases m with
      | val => exact ⟨v, e2, p' (.inl rfl) v H Z S.fe r⟩
      | own => exact ⟨v, e2, p' (.inr rfl) v H Z S.fe r⟩
      | rb => exact p'.elim
      | tmp => exact p'.elim
theorem st_set (C : Cok X W M c cl sc) {x : Str} {i : Nat} {p pos : Pos} {e : Expr} {ie : IE} (h : storeOf c sc x = some i) (he : PE X e (tE fr W (evI cl ie))) (hn : notComp e = true) : PS X (.Assign [.Name x p] e pos) (tS fr W (evS cl Wn (.set i ie))) := by
  obtain ⟨a1, a2, a3⟩ := storeOf_ok C h
  refine PS.imp (ps_set C.nd a1 a2 he (swaps_no hn _ _ _) a3) fun D σ H h => ?_
  obtain ⟨δ, Z, S, p⟩ := tS_frz (g := fun δ => (evI cl ie δ).bind fun x => (putD δ i x).bind fun δ1 => .ok (.nx δ1)) (is := ie.esc ++ ie.inn) h
  refine ⟨δ, Z, S, stepS S p fun x v H1 Z1 ex S1 r p1 => ?_⟩
  obtain ⟨d, m⟩ := x
  have go : m ≠ .tmp → PostS fr W Z1 H1 (.ok (.nx (δ.set i (some (d, m))))) D → gName i v σ H1 D.nx := fun hm p2 => p2.nx (SR.put S S1 r hm)
  cases m with
  | val => exact go (fun q => nomatch q) p1
  | own => exact go (fun q => nomatch q) p1
  | rb => exact go (fun q => nomatch q) p1
  | tmp => exact p1.elim
theorem putAll_exc {c : Nat} {fs : List (Nat × D)} : ∀ {is : List Nat} {δ : Envr} {xs : List D}, putAll δ is xs ≠ .exc c fs
  | [], _, [] => fun e => nomatch e
  | [], _, _ :: _ => fun e => nomatch e
  | _ :: _, _, [] => fun e => nomatch e
  | i :: is, δ, x :: xs => fun e => putAll_exc (is := is) (δ := δ.set i (some (x, .val))) (xs := xs) e
theorem st_unp (C : Cok X W M c cl sc) (hf : fr.M = M) {es : List Expr} {is : List Nat} {k : Nat} {p pos : Pos} {e : Expr} {ie : IE} (h : compNames c sc es = some is) (he : PE X e (tE fr W (evI cl ie))) (hn : notComp e = true) (ht : notTup e = true) :
    PS X (.Assign [.Tuple es k p] e pos) (tS fr W (evS cl Wn (.unp is ie))) := by
  have htg : compTg c sc (.Tuple es k p) = some (.tup is) := by
    show (compNames c sc es).map Tg.tup = _
    rw [h]
    rfl
  obtain ⟨g, G, st⟩ := tg_ok (fr := fr) C hf htg
  have hw : swappedStores [.Tuple es k p] e X.env = pure none := by
    cases e <;> first | rfl | cases ht
  refine PS.imp (ps_asg he G (show swapsWithSole [.Tuple es k p] e pos.line X.env = pure false from swaps_no hn (some (.Tuple es k p)) pos.line X.env) hw) fun D σ H h => ?_
  obtain ⟨δ, Z, S, p⟩ := tS_frz (g := fun δ => (evI cl ie δ).bind fun x => match x.1 with | .tup xs => (putAll δ is xs).bind fun δ1 => .ok (.nx δ1) | _ => .bad) (is := ie.inn) h
  refine ⟨δ, Z, S, stepS S p fun x v H1 Z1 ex S1 r p1 => ?_⟩
  cases e1 : x.1 with
  | tup xs =>
    rw [e1] at p1
    have p2 : PostS fr W Z1 H1 ((putAll δ is xs).bind fun δ1 => .ok (.nx δ1)) D := p1
    obtain ⟨a, vs, rfl, hq, rr⟩ := r.tup e1
    cases q : putAll δ is xs with
    | bad => rw [q] at p2; exact p2.elim
    | exc c fs => exact absurd q putAll_exc
    | ok δ1 =>
      rw [q] at p2
      exact st (.tup xs) (.ref a) σ H1 δ δ1 Z1 D.nx S1 (.tup hq rr) q fun σ2 S2 => p2.nx S2
  | _ => rw [e1] at p1; exact p1.elim
theorem st_par (C : Sok X W M c cl sc) {x y : Str} {i j : Nat} {px py pt pt2 pos : Pos} {kt k2 : Nat} {a b : Expr} {ia ib : IE} (hx : storeOf c sc x = some i) (hy : storeOf c sc y = some j) (hp : parOk sc x y px py a b = true)
    (ha : PE X a (tE fr W (evI cl ia))) (hb : PE X b (tE fr W (evI cl ib))) : PS X (.Assign [.Tuple [.Name x px, .Name y py] kt pt] (.Tuple [a, b] k2 pt2) pos) (tS fr W (evS cl Wn (.par i j ia ib))) := by
  obtain ⟨a1, _, _⟩ := storeOf_ok C.toCok hx
  obtain ⟨b1, _, _⟩ := storeOf_ok C.toCok hy
  have hpe : parOk X.env.scope x y px py a b = true := by rw [C.hsc]; exact hp
  have sw := par_swap (X := X) (pt := pt) (pt2 := pt2) (kt := kt) (k2 := k2) (by rw [C.hsc]; exact C.kind) hpe
  unfold parOk at hpe
  simp only [Bool.and_eq_true, decide_eq_true_eq, Bool.not_eq_true', decide_eq_false_iff_not] at hpe
  obtain ⟨⟨⟨⟨⟨⟨⟨h1, h2⟩, h3⟩, h4⟩, h5⟩, h6⟩, h7⟩, h8⟩ := hpe
  have ij : i ≠ j := fun e => by
    subst e
    rw [a1] at b1
    cases b1
    exact h4 rfl
  refine PS.imp (ps_par C.calm C.nd a1 b1 ij h1 h2 (pa_cons ha (pa_cons hb pa_nil (star_cons h6 [] X.env)) (star_cons h5 [b] X.env)) sw rfl) fun D σ H h => ?_
  obtain ⟨δ, Z, S, p⟩ := tS_frz (g := fun δ => (evI cl ia δ).bind fun x => (evI cl ib δ).bind fun y =>
      match toVal x, toVal y with
      | some d, some e => .ok (.nx ((δ.set i (some (d, .val))).set j (some (e, .val))))
      | _, _ => .bad) (is := ia.esc ++ ia.inn ++ (ib.esc ++ ib.inn)) h
  refine ⟨δ, Z, S, stepS S p fun x v H1 Z1 ex S1 r p1 => ?_⟩
  refine ⟨δ, Z1, S1, stepS S1 p1 fun y w H2 Z2 ex2 S2 r2 p2 => ?_⟩
  show ∃ v' w', [v, w] = [v', w'] ∧ D.nx ((σ.set i (some v')).set j (some w')) H2
  refine ⟨v, w, rfl, ?_⟩
  cases q1 : toVal x with
  | none => rw [q1] at p2; exact p2.elim
  | some d =>
    cases q2 : toVal y with
    | none => rw [q1, q2] at p2; exact p2.elim
    | some e =>
      rw [q1, q2] at p2
      have et : toVals [x, y] = some [d, e] := by
        unfold toVals
        rw [q1, toVals1 q2]
      obtain ⟨Z3, ex3, u3, S3, rr⟩ := S.vals (ex.trans ex2) (.cons (r.ext ex2) (.cons (r2.up ex.same) .nil)) et
      have p3 := p2.mono u3 samm
      cases rr with
      | cons r1 rr =>
        cases rr with
        | cons r2 _ => exact PostS.nx p3 ((S3.putV r1).putV r2)
theorem st_app (C : Cok X W M c cl sc) (hf : fr.M = M) {x : Str} {i : Nat} {p ap cp pos : Pos} {a : Expr} {ia : IE} (hx : slotOf c sc x = some i) (ha : PE X a (tE fr W (evI cl ia))) (hl : (ap.endLine == cp.line) = true) (hs : notStar a = true) :
    PS X (.Expr (.Call (.Attribute (.Name x p) "append" ap) [a] [] cp) pos) (tS fr W (evS cl Wn (.app i ia))) := by
  obtain ⟨h1, h2, h3, h4⟩ := slotOf_ok C hx
  have st := star_cons hs [] X.env
  refine PS.imp (ps_expr (pe_bm PySem.F.plainAttrs_list PySem.F.slot_list_append PySem.F.type_list_append mt_append (pe_var h1 h2 h3 h4) (pa_cons ha pa_nil st) rfl (by rw [st]; rfl) hl st rfl) rfl) fun D σ H h => ?_
  obtain ⟨δ, Z, S, p⟩ := tS_frz (g := fun δ => match δ[i]? with
      | some (some (.lst xs, .own)) => (evI cl ia δ).bind fun x => match toVal x with
        | some d => if lenOk (xs.length + 1) = true then .ok (.nx (δ.set i (some (.lst (xs ++ [d]), .own)))) else .bad
        | none => .bad
      | _ => .bad) (is := ia.esc ++ ia.inn) h
  have go : ∀ o, δ[i]? = o → PostS fr W Z H (match o with
      | some (some (.lst xs, .own)) => (evI cl ia δ).bind fun x => match toVal x with
        | some d => if lenOk (xs.length + 1) = true then .ok (.nx (δ.set i (some (.lst (xs ++ [d]), .own)))) else .bad
        | none => .bad
      | _ => .bad) D → ∃ xs, o = some (some (.lst xs, .own)) ∧ PostS fr W Z H ((evI cl ia δ).bind fun x => match toVal x with
        | some d => if lenOk (xs.length + 1) = true then .ok (.nx (δ.set i (some (.lst (xs ++ [d]), .own)))) else .bad
        | none => .bad) D := fun o _ q => by
    cases o with
    | none => exact q.elim
    | some o =>
      cases o with
      | none => exact q.elim
      | some x =>
        obtain ⟨d, m⟩ := x
        cases d with
        | lst xs =>
          cases m with
          | own => exact ⟨xs, rfl, q⟩
          | _ => exact q.elim
        | _ => exact q.elim
  obtain ⟨xs, e, p2⟩ := go _ rfl p
  obtain ⟨v, ev, rv⟩ := S.slot i _ .own e
  cases rv with
  | @ownL l vs _ hh nz z0 rr =>
    refine ⟨_, ev, .inl ⟨rfl, vs, SqL.of hh⟩, δ, Z, S, stepS S p2 fun y w H1 Z1 ex S1 r p1 => ?_⟩
    cases q1 : toVal y with
    | none => rw [q1] at p1; exact p1.elim
    | some d =>
      rw [q1] at p1
      have p3 : PostS fr W Z1 H1 (if lenOk (xs.length + 1) = true then .ok (.nx (δ.set i (some (.lst (xs ++ [d]), .own)))) else .bad) D := p1
      by_cases cl : lenOk (xs.length + 1) = true
      · rw [if_pos cl] at p3
        obtain ⟨Z3, ex3, u3, S3, r3⟩ := S.vals ex (.cons r .nil) (toVals1 q1)
        have hh1 : H1 l = some (.lst vs) := ex.same _ _ hh
        have rr1 : RVs fr.M Z3 H1 xs vs := rr.mono ex3.stb ex3.up
        have sz := lenOk_le cl
        rw [rr.length] at sz
        refine ⟨l, vs, w, rfl, rfl, hh1, by omega, ?_⟩
        obtain ⟨S4, st4⟩ := S3.grow (ys := xs ++ [d]) (ws := vs ++ [w]) e ev hh1 (rr1.app r3)
        exact (p3.mono u3 samm) σ _ Z3 S4 (fun _ z => z) st4
      · rw [if_neg cl] at p3; exact p3.elim
/-- two branches -/
theorem st_ite {t : Expr} {a b : List Stmt} {it : IE} {ia ib : ISs} {pos : Pos} (ht : PT X t (tT fr W (evT cl it))) (ha : PSs X a (tS fr W (evSs cl Wn ia))) (hb : PSs X b (tS fr W (evSs cl Wn ib))) :
    PS X (.If t a b pos) (tS fr W (evS cl Wn (.ite it ia ib))) := by
  refine PS.imp (ps_if ht ha hb) fun D σ H h => ?_
  obtain ⟨δ, Z, S, p⟩ := tS_frz (g := fun δ => (evT cl it δ).bind fun c => if c = true then evSs cl Wn ia δ else evSs cl Wn ib δ) (is := it.inn) h
  refine ⟨δ, Z, S, stepSB S p fun b H1 Z1 ex S1 p1 => ?_⟩
  cases b with
  | true => rw [if_pos rfl] at p1 ⊢; exact ⟨δ, Z1, S1, p1⟩
  | false => rw [if_neg Bool.false_ne_true] at p1 ⊢; exact ⟨δ, Z1, S1, p1⟩
/-- a turn of a loop -/
theorem turn_post {k : Envr → Res Out} {r : Res Out} {D : Ends} {N : L2.St → Hp → Prop} {Z0 Z : Zs} {H0 H : Hp} (u0 : ∀ a, Z0 a → Z a) (s0 : Stb Z0 H0 H) (p : PostS fr W Z H (r.bind fun o => lpO k o) D) (hN : ∀ σ' H' Z' δ2, SR fr Z' H' σ' δ2 → (∀ a, Z0 a → Z' a) → Stb Z0 H0 H' → PostS fr W Z' H' (k δ2) D → N σ' H') : PostS fr W Z H r { D with nx := N, ct := N, bk := D.nx } := by
  cases r with
  | bad => exact p
  | exc c fs => exact p
  | ok o =>
    cases o with
    | nx δ2 => exact fun σ' H' Z' S u s => hN σ' H' Z' δ2 S (fun a z => u a (u0 a z)) (s0.trans u0 s) (p.mono u s)
    | ct δ2 => exact fun σ' H' Z' S u s => hN σ' H' Z' δ2 S (fun a z => u a (u0 a z)) (s0.trans u0 s) (p.mono u s)
    | bk δ2 => exact p
    | rt v => exact p
theorem st_whl (C : Sok X W M c cl sc) {t : Expr} {b : List Stmt} {it : IE} {ib : ISs} {pos : Pos} (ht : PT X t (tT fr W (evT cl it))) (hb : PSs X b (tS fr W (evSs cl Wn ib))) :
    PS X (.While t b [] pos) (tS fr W (evS cl Wn (.whl it ib))) := by
  refine PS.imp (ps_while C.ps ht hb) fun D σ H h => ?_
  obtain ⟨δ, Z, S, p⟩ := h
  refine ⟨fun m σ H => ∃ δ Z, SR fr Z H σ δ ∧ PostS fr W Z H (whileR (evT cl it) (evSs cl Wn ib) m δ) D, ⟨Wn, δ, Z, S, p⟩, fun m σ H w => ?_⟩
  obtain ⟨δ, Z, S, p⟩ := w
  cases m with
  | zero => exact p.elim
  | succ m =>
    refine ⟨δ, Z, S, stepSB S p fun b H1 Z1 ex S1 p1 => ?_⟩
    cases b with
    | true =>
      rw [if_pos rfl] at p1 ⊢
      refine ⟨fun σ H => ∃ δ Z, SR fr Z H σ δ ∧ PostS fr W Z H (whileR (evT cl it) (evSs cl Wn ib) m δ) D, fun σ' H' w => ⟨m, Nat.lt_succ_self m, w⟩, δ, Z1, S1, ?_⟩
      exact turn_post (Z0 := Z1) (H0 := H1) (fun _ z => z) samm p1 fun σ' H' Z' δ2 S' _ _ p' => ⟨δ2, Z', S', p'⟩
    | false =>
      rw [if_neg Bool.false_ne_true] at p1 ⊢
      exact p1.nx S1
end
end Ev
namespace Ev
open PySem PySem.Spec PyProof.Rows L2
/-- an iterator that gives xs -/
structure IW (fr : Fr) (Z : Zs) (H : Hp) (xs : List D) (J : It) : Prop where
  go : ∀ (Z' : Zs) (H' : Hp), (∀ a, Z a → Z' a) → Stb Z H H' → Same fr.H0 H' → (∀ a, Z' a → H' a ≠ none) → ∀ i, i < xs.length → J.go i H' ∧ ∀ x H2, J.yld i H' x H2 → ∃ Z2, Ext Z' H' Z2 H2 ∧ ∃ d, xs[i]? = some d ∧ RV fr.M Z2 H2 d x
  stop : ∀ (Z' : Zs) (H' : Hp), (∀ a, Z a → Z' a) → Stb Z H H' → Same fr.H0 H' → J.stop xs.length H'
def PostI (fr : Fr) (W : WX) (σ : L2.St) (Z : Zs) (H : Hp) (r : Res (List D)) (R : It → Hp → Prop) : Prop :=
  match r with
  | .ok xs => ∀ J H' Z', Ext Z H Z' H' → IW fr Z' H' xs J → R J H'
  | .exc c fs => ∀ C od H', XR fr.M c fs C od H' → Same H H' → W (.ref C) od σ H'
  | .bad => False
def tI (fr : Fr) (W : WX) (g : Envr → Res (List D)) : TI := fun σ H R => ∃ δ Z, SR fr Z H σ δ ∧ PostI fr W σ Z H (g δ) R
section
variable {X : Cx} {W : WX} {M : Mo} {c : Cm} {cl : Call} {sc : Scope} {fr : Fr} {Wn : Nat}
theorem PostI.ext {σ : L2.St} {Z Z1 : Zs} {H H1 : Hp} {r : Res (List D)} {R : It → Hp → Prop} (h : PostI fr W σ Z H r R) (e : Ext Z H Z1 H1) : PostI fr W σ Z1 H1 r R := by
  cases r with
  | ok x => exact fun J H' Z' e' r' => h J H' Z' (e.trans e') r'
  | exc c fs => exact fun C od H' x s => h C od H' x (e.same.trans s)
  | bad => exact h
theorem stepI {r1 : Res DM} {k : DM → Res (List D)} {σ : L2.St} {δ : Envr} {Z : Zs} {H : Hp} {R : It → Hp → Prop} (S : SR fr Z H σ δ) (p : PostI fr W σ Z H (r1.bind k) R) {Q1 : VK}
    (q : ∀ Z1 x v H1, Ext Z H Z1 H1 → SR fr Z1 H1 σ δ → RX fr H Z1 H1 x v → PostI fr W σ Z1 H1 (k x) R → Q1 v H1) : Post fr W σ Z H r1 Q1 := by
  cases r1 with
  | ok x => exact fun v H' Z' e' r' => q Z' x v H' e' (S.ext e') r' (PostI.ext p e')
  | exc c fs => exact p
  | bad => exact p
/-- numbers in a row -/
theorem IW.rng {Z : Zs} {H : Hp} {a b : Int} : IW fr Z H (rngD a b) (Itr a (b - a).toNat) where
  go := fun Z' H' u s s0 zx i hi => by
    have hi' : i < (b - a).toNat := by
      unfold rngD at hi
      rwa [List.length_map, List.length_range] at hi
    refine ⟨hi', fun x H2 y => ?_⟩
    obtain ⟨e1, e2⟩ := y
    subst e1 e2
    refine ⟨Z', Ext.refl zx, .int (a + i), ?_, .int _⟩
    unfold rngD
    rw [List.getElem?_map, List.getElem?_range hi']
    rfl
  stop := fun Z' H' u s s0 => by
    show (b - a).toNat ≤ (rngD a b).length
    unfold rngD
    rw [List.length_map, List.length_range]
    exact Nat.le_refl _
theorem IW.ofL {Z : Zs} {H : Hp} {a : Addr} {vs : List V} {xs : List D} (hq : ∀ (Z' : Zs) (H' : Hp), (∀ a, Z a → Z' a) → Stb Z H H' → Same fr.H0 H' → SqL fr.M.K H' a vs) (r : RVs fr.M Z H xs vs) : IW fr Z H xs (Itl fr.M.K a) where
  go := fun Z' H' u s s0 zx i hi => by
    have q := hq Z' H' u s s0
    have r' := r.mono s u
    have hv : i < vs.length := by rw [← r'.length]; exact hi
    refine ⟨⟨vs, vs[i], q, by simp [hv]⟩, fun x H2 y => ?_⟩
    obtain ⟨e1, e2⟩ := y
    subst e1
    have e3 := e2 vs q
    obtain ⟨v, h1, h2⟩ := r'.get (i := i) (d := xs[i]) (by simp [hi])
    rw [e3] at h1
    cases h1
    exact ⟨Z', Ext.refl zx, xs[i], by simp [hi], h2⟩
  stop := fun Z' H' u s s0 => ⟨vs, hq Z' H' u s s0, by rw [r.length]; exact Nat.le_refl _⟩
theorem IW.ofT {Z : Zs} {H : Hp} {a : Addr} {vs : List V} {xs : List D} (h : SqT fr.M.K H a vs) (r : RVs fr.M Z H xs vs) : IW fr Z H xs (Itt fr.M.K a) where
  go := fun Z' H' u s s0 zx i hi => by
    have q := s.sqT h
    have r' := r.mono s u
    have hv : i < vs.length := by rw [← r'.length]; exact hi
    refine ⟨⟨vs, vs[i], q, by simp [hv]⟩, fun x H2 y => ?_⟩
    obtain ⟨e1, e2⟩ := y
    subst e1
    have e3 := e2 vs q
    obtain ⟨v, h1, h2⟩ := r'.get (i := i) (d := xs[i]) (by simp [hi])
    rw [e3] at h1
    cases h1
    exact ⟨Z', Ext.refl zx, xs[i], by simp [hi], h2⟩
  stop := fun Z' H' u s s0 => ⟨vs, s.sqT h, by rw [r.length]; exact Nat.le_refl _⟩
theorem had_rd {Z : Zs} {H H' : Hp} {a : Addr} {u : HO} (s : Same fr.H0 H) (s' : Same fr.H0 H') (h : Had fr a) (r : Rd H a u) : Rd H' a u := by
  cases q : fr.H0 a with
  | none => exact absurd q h
  | some o =>
    have h1 := s a o q
    have h2 := s' a o q
    rcases r with r | ⟨w, r⟩
    · rw [h1] at r; cases r; exact .inl h2
    · rw [h1] at r; cases r; exact .inr ⟨w, h2⟩
def SeqR (K : PySem.W.Frag) (R : It → Hp → Prop) (d : D) (v : V) (H : Hp) : Prop := match d with
  | .lst _ => ∃ a, v = .ref a ∧ (∃ vs, SqL K H a vs) ∧ R (Itl K a) H
  | _ => ∃ a, v = .ref a ∧ (∃ vs, SqT K H a vs) ∧ R (Itt K a) H
/-- a list or a tuple, to walk -/
theorem seq_ok {Z0 Z : Zs} {H0 H : Hp} {x : DM} {v : V} {σ : L2.St} {R : It → Hp → Prop} {δ : Envr} (S : SR fr Z H σ δ) (e0 : Ext Z0 H0 Z H) (r : RX fr H0 Z H x v) (p : PostI fr W σ Z0 H0 (seqD x) R) :
    SeqR fr.M.K R x.1 v H := by
  obtain ⟨d, m⟩ := x
  obtain ⟨r, n⟩ := r
  cases r with
  | val r =>
    cases r with
    | tup h rr => exact ⟨_, rfl, ⟨_, h⟩, p _ H Z e0 (IW.ofT h rr)⟩
    | lst h z rr => exact ⟨_, rfl, ⟨_, .inl h⟩, p _ H Z e0 (IW.ofL (fun Z' H' u s _ => .inl (s.rdZ z h)) rr)⟩
    | lsw h rr => exact ⟨_, rfl, ⟨_, .inr h⟩, p _ H Z e0 (IW.ofL (fun Z' H' u s _ => .inr h) rr)⟩
    | _ => exact p.elim
  | @ownL a vs xs h nz z0 rr =>
    refine ⟨_, rfl, ⟨_, .inl (.inl h)⟩, p _ H (Zadd Z a) ⟨e0.same, fun b z => .inl (e0.up b z), fun b z => ?_, fun b z => ?_⟩ (IW.ofL (fun Z' H' u s _ => .inl (s.rdZ (.inr rfl) (.inl h))) rr.zadd)⟩
    · rcases z with z | z
      · exact e0.dn b z
      · subst z; exact .inr (n rfl _ rfl)
    · rcases z with z | z
      · exact S.zex b z
      · subst z; rw [h]; exact fun q => nomatch q
  | ownD h nz z0 rr => exact p.elim
  | rbL h z rr => exact ⟨_, rfl, ⟨_, .inl h⟩, p _ H Z e0 (IW.ofL (fun Z' H' u s s' => .inl (had_rd (Z := Z) S.same s' z h)) rr)⟩
  | rbD h z rr => exact p.elim
  | tmL h rr => exact p.elim
  | tmD h rr => exact p.elim
theorem smallI_le {i : Int} (h : smallI i = true) : -(2 ^ 62) ≤ i ∧ i < 2 ^ 62 := by
  unfold smallI at h
  rw [Bool.and_eq_true] at h
  exact ⟨of_decide_eq_true h.1, of_decide_eq_true h.2⟩
theorem pi_seq {tg e : Expr} {ie : IE} (eK : X.K = fr.M.K) (he : PE X e (tE fr W (evI cl ie))) : PI X tg e (tI fr W (iterI cl (.seq ie))) := by
  refine PI.some fun σ H R h => ?_
  obtain ⟨δ, Z, S, p⟩ := h
  have p0 : PostI fr W σ Z H ((evI cl ie δ).bind seqD) R := p
  cases q : evI cl ie δ with
  | bad => rw [q] at p0; exact p0.elim
  | exc cc fs => exact ⟨_, pi_list he, δ, Z, S, by rw [q] at p0 ⊢; exact p0⟩
  | ok x =>
    obtain ⟨d, m⟩ := x
    have go : Post fr W σ Z H (evI cl ie δ) (SeqR fr.M.K R d) := by
      rw [q] at p0 ⊢
      exact fun v H1 Z1 e1 r1 => seq_ok (S.ext e1) e1 r1 p0
    cases d with
    | lst xs => exact ⟨_, pi_list he, δ, Z, S, by rw [eK]; exact go⟩
    | _ => exact ⟨_, pi_tup he, δ, Z, S, by rw [eK]; exact go⟩
theorem pi_rng1 (C : Cok X W M c cl sc) {tg a : Expr} {p pos : Pos} {ia : IE} (hg : isGl sc "range" = true) (hs : notStar a = true) (ha : PE X a (tE fr W (evI cl ia))) : PI X tg (.Call (.Name "range" p) [a] [] pos) (tI fr W (iterI cl (.rng ia))) := by
  refine PI.imp (pi_range1 (C.gl hg).1 (C.bl _ (by decide)) (pa_cons ha pa_nil (star_cons hs [] X.env)) (star_cons hs [] X.env)) fun σ H R h => ?_
  obtain ⟨δ, Z, S, q⟩ := h
  refine ⟨δ, Z, S, stepI (k := fun x => match x.1 with
    | .int i => if smallI i = true then .ok (rngD 0 i) else .bad
    | _ => .bad) S q fun Z1 x v H1 e1 S1 r1 p1 => ?_⟩
  cases q1 : x.1 with
  | int i =>
    rw [q1] at p1
    have p2 : PostI fr W σ Z1 H1 (if smallI i = true then .ok (rngD 0 i) else .bad) R := p1
    have ev := r1.int q1
    subst ev
    by_cases hi : smallI i = true
    · rw [if_pos hi] at p2
      obtain ⟨l1, l2⟩ := smallI_le hi
      have := p2 (Itr 0 (i - 0).toNat) H1 Z1 (Ext.refl S1.zex) IW.rng
      rw [Int.sub_zero] at this
      exact ⟨i, rfl, l1, l2, this⟩
    · rw [if_neg hi] at p2; exact p2.elim
  | _ => rw [q1] at p1; exact p1.elim
theorem pi_rng2 (C : Cok X W M c cl sc) {tg a b : Expr} {p pos : Pos} {ia ib : IE} (hg : isGl sc "range" = true) (hs : notStar a = true) (hs2 : notStar b = true) (ha : PE X a (tE fr W (evI cl ia))) (hb : PE X b (tE fr W (evI cl ib))) : PI X tg (.Call (.Name "range" p) [a, b] [] pos) (tI fr W (iterI cl (.rng2 ia ib))) := by
  have s2 := star_cons hs2 [] X.env
  have s1 := star_cons hs [b] X.env
  refine PI.imp (pi_range2 (C.gl hg).1 (C.bl _ (by decide)) (pa_cons ha (pa_cons hb pa_nil s2) s1) (by rw [s1, s2]; rfl) s2) fun σ H R h => ?_
  obtain ⟨δ, Z, S, q⟩ := h
  refine ⟨δ, Z, S, stepI (k := fun x => (evI cl ib δ).bind fun y => match x.1, y.1 with
    | .int i, .int j => if (smallI i && smallI j) = true then .ok (rngD i j) else .bad
    | _, _ => .bad) S q fun Z1 x v H1 e1 S1 r1 p1 => ⟨δ, Z1, S1, stepI S1 p1 fun Z2 y w H2 e2 S2 r2 p2 => ?_⟩⟩
  cases q1 : x.1 with
  | int i =>
    rw [q1] at p2
    cases q2 : y.1 with
    | int j =>
      rw [q2] at p2
      have p3 : PostI fr W σ Z2 H2 (if (smallI i && smallI j) = true then .ok (rngD i j) else .bad) R := p2
      have ev := r1.int q1
      subst ev
      have ew := r2.int q2
      subst ew
      by_cases hi : (smallI i && smallI j) = true
      · rw [if_pos hi] at p3
        have hh := Bool.and_eq_true_iff.mp hi
        obtain ⟨l1, l2⟩ := smallI_le hh.1
        obtain ⟨l3, l4⟩ := smallI_le hh.2
        exact ⟨i, j, rfl, ⟨l1, l2, l3, l4⟩, p3 _ H2 Z2 (Ext.refl S2.zex) IW.rng⟩
      · rw [if_neg hi] at p3; exact p3.elim
    | _ => rw [q2] at p2; exact p2.elim
  | _ => rw [q1] at p2; exact p2.elim
theorem compIter_ok (C : Cok X W M c cl sc) (hf : fr.M = M) {F : Nat} (ih : ∀ e ie, compE c sc F e = some ie → PE X e (tE fr W (evI cl ie))) {e : Expr} {it : II} (h : compIter c sc F e = some it) (tg : Expr) : PI X tg e (tI fr W (iterI cl it)) ∧ ∀ x, foldedSetIterable e X.env x = pure x := by
  unfold compIter at h
  cases q : compIt c sc F e with
  | none =>
    rw [q] at h
    by_cases ns : notSet e = true
    · have h' : (if notSet e = true then (compE c sc F e).map II.seq else none) = some it := h
      rw [if_pos ns] at h'
      cases q2 : compE c sc F e with
      | none => rw [q2] at h'; cases h'
      | some ie =>
        rw [q2] at h'
        cases h'
        exact ⟨pi_seq (by rw [C.K, hf]) (ih e ie q2), folded_no ns X.env⟩
    · have h' : (if notSet e = true then (compE c sc F e).map II.seq else none) = some it := h
      rw [if_neg ns] at h'; cases h'
  | some it' =>
    rw [q] at h
    cases h
    unfold compIt at q
    split at q
    · rename_i f p a pos
      split at q
      · rename_i hc
        obtain ⟨e1, e2, e3⟩ := hc
        subst e1
        cases q2 : compE c sc F a with
        | none => rw [q2] at q; cases q
        | some ia =>
          rw [q2] at q
          cases q
          exact ⟨pi_rng1 C e2 e3 (ih a ia q2), fun _ => rfl⟩
      · cases q
    · rename_i f p a b pos
      split at q
      · rename_i hc
        obtain ⟨e1, e2, e3, e4⟩ := hc
        subst e1
        cases q2 : compE c sc F a with
        | none => rw [q2] at q; cases q
        | some ia =>
          cases q3 : compE c sc F b with
          | none => rw [q2, q3] at q; cases q
          | some ib =>
            rw [q2, q3] at q
            cases q
            exact ⟨pi_rng2 C e2 e3 e4 (ih a ia q2) (ih b ib q3), fun _ => rfl⟩
      · cases q
    · cases q
theorem bindT_exc {tg : Tg} {x : D} {δ : Envr} {cc : Nat} {fs : List (Nat × D)} (h : bindT tg x δ = .exc cc fs) : False := by
  cases tg with
  | name i => cases h
  | tup is => cases x with
    | tup xs => exact putAll_exc h
    | _ => cases h
/-- for -/
theorem st_fors (C : Sok X W M c cl sc) (hf : fr.M = M) {tg it : Expr} {t : Tg} {ii : II} {b : List Stmt} {ib : ISs} {pos : Pos} (ht : compTg c sc tg = some t) (hi : PI X tg it (tI fr W (iterI cl ii)) ∧ ∀ x, foldedSetIterable it X.env x = pure x)
    (hb : PSs X b (tS fr W (evSs cl Wn ib))) : PS X (.For tg it b [] pos) (tS fr W (evS cl Wn (.fors t ii ib))) := by
  obtain ⟨g, G, st⟩ := tg_ok (fr := fr) C.toCok hf ht
  refine PS.imp (ps_for C.ps C.calm hi.1 G hb hi.2) fun D σ H h => ?_
  obtain ⟨δ, Z, S, p⟩ := tS_frz (g := fun δ => (iterI cl ii δ).bind fun xs => forR (evSs cl Wn ib) t xs δ) (is := ii.esc) h
  refine ⟨δ, Z, S, ?_⟩
  have p0 : PostS fr W Z H ((iterI cl ii δ).bind fun xs => forR (evSs cl Wn ib) t xs δ) D := p
  clear p h
  cases q : iterI cl ii δ with
  | bad => rw [q] at p0; exact p0.elim
  | exc cc fs =>
    rw [q] at p0
    exact fun C od H' x s => p0 C od σ H' x (S.same.trans s)
  | ok xs =>
    rw [q] at p0
    have p1 : PostS fr W Z H (forR (evSs cl Wn ib) t xs δ) D := p0
    intro J H1 Z1 e1 iw
    refine ⟨fun i m σ' H' => m = xs.length - i ∧ i ≤ xs.length ∧ ∃ δi Zi, SR fr Zi H' σ' δi ∧ (∀ a, Z1 a → Zi a) ∧ Stb Z1 H1 H' ∧ PostS fr W Zi H' (forR (evSs cl Wn ib) t (xs.drop i) δi) D,
      ⟨xs.length, rfl, Nat.zero_le _, δ, Z1, S.ext e1, fun _ z => z, samm, p1.ext e1⟩, ?_⟩
    rintro i m σ' H' ⟨em, hi', δi, Zi, Si, u, s, pi⟩
    subst em
    by_cases hlt : i < xs.length
    · obtain ⟨g1, g2⟩ := iw.go Zi H' u s Si.same Si.zex i hlt
      have ed : xs.drop i = xs[i] :: xs.drop (i + 1) := List.drop_eq_getElem_cons hlt
      rw [ed] at pi
      refine .inr ⟨g1, fun σ2 H2 => ∃ δi Zi, SR fr Zi H2 σ2 δi ∧ (∀ a, Z1 a → Zi a) ∧ Stb Z1 H1 H2 ∧ PostS fr W Zi H2 (forR (evSs cl Wn ib) t (xs.drop (i + 1)) δi) D,
        fun σ2 H2 w => ⟨xs.length - (i + 1), by omega, rfl, hlt, w⟩, fun x H2 y => ?_⟩
      obtain ⟨Z2, e2, d, hd, rv⟩ := g2 x H2 y
      have S2 := Si.ext e2
      have p2 := pi.ext e2
      have dd : xs[i] = d := by
        rw [List.getElem?_eq_getElem hlt] at hd
        exact Option.some.inj hd
      rw [dd] at p2
      have p3 : PostS fr W Z2 H2 ((bindT t d δi).bind fun δ1 => (evSs cl Wn ib δ1).bind fun o => lpO (forR (evSs cl Wn ib) t (xs.drop (i + 1))) o) D := p2
      cases qb : bindT t d δi with
      | bad => rw [qb] at p3; exact p3.elim
      | exc cc fs => exact (bindT_exc qb).elim
      | ok δ1 =>
        rw [qb] at p3
        refine st d x σ' H2 δi δ1 Z2 _ S2 rv qb fun σ3 S3 => ⟨δ1, Z2, S3, ?_⟩
        exact turn_post (Z0 := Z1) (H0 := H1) (fun a z => e2.up a (u a z)) (s.trans u e2.stb) p3 fun σ4 H4 Z4 δ4 S4 u4 s4 p4 => ⟨δ4, Z4, S4, u4, s4, p4⟩
    · have e : i = xs.length := by omega
      subst e
      rw [List.drop_length] at pi
      exact .inl ⟨iw.stop Zi H' u s Si.same, pi.nx Si⟩
end
end Ev
namespace Ev
open PySem PySem.Spec PyProof.Rows L2
section
variable {X : Cx} {W : WX} {M : Mo} {c : Cm} {cl : Call} {sc : Scope} {fr : Fr} {Wn : Nat}
theorem st_nil : PSs X [] (tS fr W (evSs cl Wn .nil)) := by
  refine PSs.imp pss_nil fun D σ H h => ?_
  obtain ⟨δ, Z, S, p⟩ := h
  exact p.nx S
theorem st_cons {s : Stmt} {r : List Stmt} {is : IS} {ir : ISs} (h1 : PS X s (tS fr W (evS cl Wn is))) (h2 : PSs X r (tS fr W (evSs cl Wn ir))) : PSs X (s :: r) (tS fr W (evSs cl Wn (.cons is ir))) := by
  refine PSs.imp (pss_cons h1 h2) fun D σ H h => ?_
  obtain ⟨δ, Z, S, p⟩ := h
  refine ⟨δ, Z, S, ?_⟩
  have p0 : PostS fr W Z H ((evS cl Wn is δ).bind fun o => seqO (evSs cl Wn ir) o) D := p
  cases q : evS cl Wn is δ with
  | bad => rw [q] at p0; exact p0.elim
  | exc cc fs => rw [q] at p0; exact p0
  | ok o =>
    rw [q] at p0
    cases o with
    | nx δ1 => exact fun σ' H' Z' S' u s => ⟨δ1, Z', S', p0.mono u s⟩
    | bk δ1 => exact p0
    | ct δ1 => exact p0
    | rt x => exact p0
theorem compX_ok (C : Sok X W M c cl sc) (hf : fr.M = M) {F : Nat} {e : Expr} {pos : Pos} {s : IS} (h : compX c sc F e = some s) : PS X (.Expr e pos) (tS fr W (evS cl Wn s)) := by
  have ih := compE_ok C.toCok hf F
  unfold compX at h
  split at h
  · rename_i x p m ap a cp
    split at h
    · rename_i hc
      obtain ⟨e1, e2, e3⟩ := hc
      subst e1
      cases q1 : slotOf c sc x with
      | none => rw [q1] at h; cases h
      | some i =>
        cases q2 : compE c sc F a with
        | none => rw [q1, q2] at h; cases h
        | some ia =>
          rw [q1, q2] at h
          cases h
          exact st_app C.toCok hf q1 (ih a ia q2) e2 e3
    · cases h
  · split at h
    · rename_i hn
      cases q2 : compE c sc F e with
      | none => rw [q2] at h; cases h
      | some ia =>
        rw [q2] at h
        cases h
        exact st_ex (ih e ia q2) hn
    · cases h
theorem compA_ok (C : Sok X W M c cl sc) (hf : fr.M = M) {F : Nat} {t e : Expr} {pos : Pos} {s : IS} (h : compA c sc F pos t e = some s) : PS X (.Assign [t] e pos) (tS fr W (evS cl Wn s)) := by
  have ih := compE_ok C.toCok hf F
  unfold compA at h
  split at h
  · rename_i x px y py kt pt a b k2 pt2
    split at h
    · rename_i hp
      cases q1 : storeOf c sc x with
      | none => rw [q1] at h; cases h
      | some i =>
        cases q2 : storeOf c sc y with
        | none => rw [q1, q2] at h; cases h
        | some j =>
          cases q3 : compE c sc F a with
          | none => rw [q1, q2, q3] at h; cases h
          | some ia =>
            cases q4 : compE c sc F b with
            | none => rw [q1, q2, q3, q4] at h; cases h
            | some ib =>
              rw [q1, q2, q3, q4] at h
              cases h
              exact st_par C q1 q2 hp (ih a ia q3) (ih b ib q4)
    · cases h
  · rename_i x p
    split at h
    · rename_i hn
      cases q1 : storeOf c sc x with
      | none => rw [q1] at h; cases h
      | some i =>
        cases q2 : compE c sc F e with
        | none => rw [q1, q2] at h; cases h
        | some ia =>
          rw [q1, q2] at h
          cases h
          exact st_set C.toCok q1 (ih e ia q2) hn
    · cases h
  · rename_i es k p _
    split at h
    · rename_i hn
      rw [Bool.and_eq_true] at hn
      cases q1 : compNames c sc es with
      | none => rw [q1] at h; cases h
      | some i =>
        cases q2 : compE c sc F e with
        | none => rw [q1, q2] at h; cases h
        | some ia =>
          rw [q1, q2] at h
          cases h
          exact st_unp C.toCok hf q1 (ih e ia q2) hn.1 hn.2
    · cases h
  · cases h
theorem comp_ok (C : Sok X W M c cl sc) (hf : fr.M = M) : ∀ (F : Nat), (∀ (s : Stmt) (is : IS), compS c sc F s = some is → PS X s (tS fr W (evS cl Wn is))) ∧ ∀ (s : List Stmt) (is : ISs), compSs c sc F s = some is → PSs X s (tS fr W (evSs cl Wn is)) := by
  intro F
  induction F with
  | zero => exact ⟨fun s is h => (nomatch h), fun s is h => (nomatch h)⟩
  | succ F ih =>
    obtain ⟨ih1, ih2⟩ := ih
    refine ⟨fun s is h => ?_, fun s is h => ?_⟩
    · have hE := compE_ok (fr := fr) C.toCok hf F
      have hT := compT_ok (fr := fr) C.toCok hf F
      unfold compS at h
      split at h
      · cases h
        refine PS.imp ps_pass fun D σ H q => ?_
        obtain ⟨δ, Z, S, p⟩ := q
        exact p.nx S
      · cases h
        refine PS.imp ps_break fun D σ H q => ?_
        obtain ⟨δ, Z, S, p⟩ := q
        exact p σ H Z S (fun _ z => z) samm
      · cases h
        refine PS.imp ps_continue fun D σ H q => ?_
        obtain ⟨δ, Z, S, p⟩ := q
        exact p σ H Z S (fun _ z => z) samm
      · exact compX_ok C hf h
      · rename_i x p pos
        cases q : slotOf c sc x with
        | none => rw [q] at h; cases h
        | some i =>
          rw [q] at h
          cases h
          exact st_retv C.toCok q
      · rename_i e pos _
        cases q : compE c sc F e with
        | none => rw [q] at h; cases h
        | some i =>
          rw [q] at h
          cases h
          exact st_ret (hE e i q)
      · cases h
        refine PS.imp ps_retN fun D σ H q => ?_
        obtain ⟨δ, Z, S, p⟩ := q
        have p1 : PostS fr W Z H (.ok (.rt (.non, .val))) D := p
        exact p1 (.inl rfl) .non H Z S.fe (.val .non)
      · exact compA_ok C hf h
      · rename_i t a b pos
        cases q1 : compE c sc F t with
        | none => rw [q1] at h; cases h
        | some it =>
          cases q2 : compSs c sc F a with
          | none => rw [q1, q2] at h; cases h
          | some ia =>
            cases q3 : compSs c sc F b with
            | none => rw [q1, q2, q3] at h; cases h
            | some ib =>
              rw [q1, q2, q3] at h
              cases h
              exact st_ite (hT t it q1) (ih2 a ia q2) (ih2 b ib q3)
      · rename_i t b pos
        cases q1 : compE c sc F t with
        | none => rw [q1] at h; cases h
        | some it =>
          cases q2 : compSs c sc F b with
          | none => rw [q1, q2] at h; cases h
          | some ib =>
            rw [q1, q2] at h
            cases h
            exact st_whl C (hT t it q1) (ih2 b ib q2)
      · rename_i tg it b pos
        cases q1 : compTg c sc tg with
        | none => rw [q1] at h; cases h
        | some t =>
          cases q2 : compIter c sc F it with
          | none => rw [q1, q2] at h; cases h
          | some ii =>
            cases q3 : compSs c sc F b with
            | none => rw [q1, q2, q3] at h; cases h
            | some ib =>
              rw [q1, q2, q3] at h
              cases h
              exact st_fors C hf q1 (compIter_ok C.toCok hf hE q2 tg) (ih2 b ib q3)
      · cases h
        exact ⟨fun pins s σ H D I q => by
          obtain ⟨δ, Z, S, p⟩ := q
          exact p.elim⟩
      · cases h
    · cases s with
      | nil => cases h; exact st_nil
      | cons s r =>
        have h' : (match compS c sc F s, compSs c sc F r with
          | some x, some y => some (ISs.cons x y)
          | _, _ => none) = some is := h
        cases q1 : compS c sc F s with
        | none => rw [q1] at h'; cases h'
        | some i =>
          cases q2 : compSs c sc F r with
          | none => rw [q1, q2] at h'; cases h'
          | some ir =>
            rw [q1, q2] at h'
            cases h'
            exact st_cons (ih1 s i q1) (ih2 r ir q2)
end
end Ev
namespace Ev
open PySem PySem.Spec PyProof.Rows L2
/-- a def, its turned form -/
structure DefOk (K : PySem.W.Frag) (mg : Str → Option Value) (fn : List (Str × Nat)) (x : Str) (f : FnI) (a : Addr) (fd : FuncData) (ps : List Str) : Prop where
  ex : ∃ (nm qual : Str) (pr : Arguments) (bd : List Stmt) (sc : Scope) (dvs : List V) (kws : List (Str × V)) (N : List Str) (F : Nat), FunD K nm qual pr bd sc dvs kws a fd ∧ FnScope N ps sc ∧ mg x = some (.ref a) ∧ Binds K fd ps [] ∧ ps.length = f.n ∧ N.length = f.m ∧ compSs ⟨N, fn⟩ sc F bd = some f.body
structure CalOk (P : Program) (w : World) (base : Heap) (M : Mo) (cl : Call) (k : Nat) (x : Str) (i : Nat) (a : Addr) (fd : FuncData) (ps : List Str) : Prop where
  g : M.mg x = some (.ref a)
  kp : PySem.W.keepIn M.K (.ref a) = true
  b : Binds M.K fd ps []
  F : FnOk P w M.K M.mg base (L2.CX P w) k a fd ps (spI M cl i ps.length)
  n : ∀ xs, cl i xs ≠ .bad → xs.length = ps.length
theorem RMs.length {fr : Fr} {Z : Zs} {H : Hp} : ∀ {xs : List DM} {vs : List V}, RMs fr Z H xs vs → xs.length = vs.length
  | _, _, .nil => rfl
  | _, _, .cons _ r => by rw [List.length_cons, List.length_cons, RMs.length r]
theorem RMs.get {fr : Fr} {Z : Zs} {H : Hp} : ∀ {xs : List DM} {vs : List V} {i : Nat} {x : DM}, RMs fr Z H xs vs → xs[i]? = some x → ∃ v, vs[i]? = some v ∧ RM fr Z H x.2 x.1 v
  | _, _, _, _, .nil, e => by simp at e
  | _, _, 0, _, .cons h _, e => by simp at e; subst e; exact ⟨_, rfl, h⟩
  | _, _, i + 1, _, .cons _ r, e => by
    obtain ⟨v, h1, h2⟩ := RMs.get (i := i) r (by simpa using e)
    exact ⟨v, by simpa using h1, h2⟩
theorem pad_get {xs : List DM} {n : Nat} {i : Nat} {x : DM} (h : (xs.map some ++ List.replicate n none)[i]? = some (some x)) : xs[i]? = some x := by
  by_cases hi : i < xs.length
  · rw [List.getElem?_append_left (by rw [List.length_map]; exact hi), List.getElem?_map] at h
    cases q : xs[i]? with
    | none => rw [q] at h; cases h
    | some y => rw [q] at h; cases h; rfl
  · rw [List.getElem?_append_right (by rw [List.length_map]; omega)] at h
    rw [List.getElem?_replicate] at h
    split at h <;> cases h
/-- the state at a def's entry -/
theorem SR.begin {M : Mo} {H : Hp} {Z : Zs} {xs : List DM} {vs : List V} {N : List Str} {m : Nat} (z : ∀ a, Z a → H a ≠ none) (r : RMs ⟨M, H, Z⟩ Z H xs vs) (vr : ∀ x ∈ xs, x.2 = .val ∨ x.2 = .rb) (hN : N.length = m) :
    SR ⟨M, H, Z⟩ Z H (L2.start N vs) (xs.map some ++ List.replicate (m - xs.length) none) where
  same := Same.refl H
  zex := z
  zc1 := fun _ h => h
  zc2 := fun _ h => .inl h
  len := by
    unfold L2.start
    rw [List.length_append, List.length_append, List.length_map, List.length_map, List.length_replicate, List.length_replicate, hN, r.length]
  slot := fun i d q h => by
    have h1 := pad_get h
    obtain ⟨v, h2, h3⟩ := r.get h1
    refine ⟨v, ?_, h3⟩
    have hi : i < vs.length := (List.getElem?_eq_some_iff.mp h2).1
    unfold L2.start
    rw [List.getElem?_append_left (by rw [List.length_map]; exact hi), List.getElem?_map, h2]
    rfl
  dist := fun i j d e a h _ _ _ => by
    have h1 := pad_get h
    rcases vr _ (List.mem_of_getElem? h1) with q | q <;> cases q
  notm := fun i d h => by
    have h1 := pad_get h
    rcases vr _ (List.mem_of_getElem? h1) with q | q <;> cases q
section
variable {P : Program} {w : World} {base : Heap} {M : Mo} {fn : List (Str × Nat)} {fns : Nat → Option FnI} {Wn : Nat}
theorem defs_ok (hd : ∀ x i, fn.lookup x = some i → ∃ f a fd ps, fns i = some f ∧ DefOk M.K M.mg fn x f a fd ps) (bl : ∀ x ∈ bltNames, M.mg x = none) : ∀ (k : Nat) (x : Str) (i : Nat) (f : FnI) (a : Addr) (fd : FuncData) (ps : List Str), fns i = some f → DefOk M.K M.mg fn x f a fd ps → CalOk P w base M (callD fns Wn k) k x i a fd ps
  | 0, x, i, f, a, fd, ps, hf, h => by
    obtain ⟨nm, qual, pr, bd, scp, dvs, kws, N, F, h1, h2, h3, h4, h5, h6, h7⟩ := h.ex
    refine ⟨h3, h1.kp, h4, ⟨fun vs H Q E q => ?_, fun A outer s H args us vs Q E hr he hb hv hs => ?_⟩, fun xs hx => absurd rfl hx⟩
    · obtain ⟨xs, Z, _, _, _, hl, _⟩ := q
      exact hl
    · obtain ⟨xs, Z, _, _, _, hl, hb⟩ := hs
      exact hb.elim
  | k + 1, x, i, f, a, fd, ps, hf, h => by
    have ih := defs_ok hd bl k
    obtain ⟨nm, qual, pr, bd, scp, dvs, kws, N, F, h1, h2, h3, h4, h5, h6, h7⟩ := h.ex
    have ec : callD fns Wn (k + 1) i = runF (callD fns Wn k) Wn f := by
      funext xs
      show (match fns i with | some f => runF (callD fns Wn k) Wn f xs | none => .bad) = _
      rw [hf]
    refine ⟨h3, h1.kp, h4, h1.ok h2 (fun vs H Q E q => ?_) fun cdv A outer s H vs Q E hr hs => ?_, fun xs hx => ?_⟩
    · obtain ⟨xs, Z, _, _, _, hl, _⟩ := q
      exact hl
    · obtain ⟨xs, Z, z, r, vr, hl, hb⟩ := hs
      have C : Sok (cxOf (L2.CX P w) P w M.K M.mg base N qual scp a cdv A outer s H E) (fun cls d _ H => E cls d H) M ⟨N, fn⟩ (callD fns Wn k) scp := {
        K := rfl
        mg := rfl
        hsc := rfl
        N := rfl
        nd := h2.nd
        calm := rfl
        tk := takes_of rfl rfl rfl rfl
        hu := by have := hr.un; show (A.deeper _).units + 64 < cLine; omega
        bl := bl
        fns := fun y j hy => by
          obtain ⟨f', b, fd', ps', e1, e2⟩ := hd y j hy
          have C' := ih y j f' b fd' ps' e1 e2
          exact ⟨k, b, fd', ps', hr, C'.g, C'.kp, C'.b, C'.F, C'.n⟩
        sto := fun _ _ => .inl rfl
        ps := passes_of rfl
        kind := h2.kind }
      refine ⟨_, (comp_ok (Wn := Wn) C (fr := ⟨M, H, Z⟩) rfl F).2 _ _ h7, xs.map some ++ List.replicate (N.length - xs.length) none, Z, SR.begin z r vr rfl, ?_⟩
      rw [ec] at hb
      unfold runF at hb
      have hn : xs.length = f.n := by rw [r.length, hl, h5]
      rw [if_pos hn, ← hn, ← h6] at hb
      generalize evSs (callD fns Wn k) Wn f.body (xs.map some ++ List.replicate (N.length - xs.length) none) = res at hb ⊢
      have fin : ∀ {Z' : Zs} {H' : Hp}, FE ⟨M, H, Z⟩ Z' H' → Ext Z H Z' H' := fun fe => ⟨fe.same, fe.zc1, fe.zc2, fe.zex⟩
      cases res with
      | bad => exact hb.elim
      | exc c fs => exact fun C od σ' H' x s => hb C od H' x s
      | ok o =>
        cases o with
        | nx δ => exact fun σ' H' Z' S u s => hb (.inl rfl) .non H' Z' (fin S.fe) (.val .non)
        | bk δ => exact hb.elim
        | ct δ => exact hb.elim
        | rt x => exact fun m v H' Z' fe rm => hb m v H' Z' (fin fe) rm
    · rw [ec] at hx
      unfold runF at hx
      by_cases hn : xs.length = f.n
      · rw [hn, h5]
      · rw [if_neg hn] at hx; exact absurd rfl hx
end
end Ev
namespace Ev
open PySem PySem.Spec PyProof.Rows L2
structure DRow where
  d : He.DefD
  N : List Str
  ps : List Str
  f : FnI
structure RowOk (fn : List (Str × Nat)) (r : DRow) : Prop where
  at_ : r.d.at_ = (r.d.name, none)
  dfl : r.d.dfl = []
  kwd : r.d.kwd = []
  sc : FnScope r.N r.ps r.d.scope
  n : r.ps.length = r.f.n
  m : r.N.length = r.f.m
  cm : compSs ⟨r.N, fn⟩ r.d.scope 200 r.d.body = some r.f.body
  bn : ∀ (kV doc pm : Value) (an : Option Addr) (cdv ct : Value) (us : List Value), us.length = r.ps.length → bindArgs (PySem.W.fnOf r.d.name r.d.qual r.d.params r.d.body r.d.scope .none kV doc pm an cdv ct) ⟨us, []⟩ = pure (r.ps.zip us)
def AllP {α : Type} (p : α → Prop) : List α → Prop
  | [] => True
  | x :: r => p x ∧ AllP p r
theorem allP_mem {α : Type} {p : α → Prop} : ∀ {l : List α}, AllP p l → ∀ x ∈ l, p x
  | _ :: _, h, x, hx => by
    rcases List.mem_cons.mp hx with e | hx
    · rw [e]; exact h.1
    · exact allP_mem h.2 x hx
/-- the defs' numbers by their names -/
def fnOf : List Str → Nat → List (Str × Nat)
  | [], _ => []
  | x :: r, i => (x, i) :: fnOf r (i + 1)
theorem fnOf_at : ∀ {l : List Str} {k i : Nat} {x : Str}, (fnOf l k).lookup x = some i → k ≤ i ∧ l[i - k]? = some x
  | [], _, _, _, h => by cases h
  | y :: r, k, i, x, h => by
    have h' : (match x == y with | true => some k | false => (fnOf r (k + 1)).lookup x) = some i := h
    cases q : x == y with
    | true =>
      rw [q] at h'
      have e : k = i := Option.some.inj h'
      subst e
      refine ⟨Nat.le_refl _, ?_⟩
      rw [Nat.sub_self, eq_of_beq q]
      rfl
    | false =>
      rw [q] at h'
      obtain ⟨h1, h2⟩ := fnOf_at (l := r) h'
      refine ⟨by omega, ?_⟩
      rw [show i - k = (i - (k + 1)) + 1 by omega, List.getElem?_cons_succ]
      exact h2
def namesOf (rows : List DRow) : List Str := rows.map fun r => r.d.name
def fnsOf (rows : List DRow) (i : Nat) : Option FnI := (rows[i]?).map fun r => r.f
def faOf (rows : List DRow) : List He.Fa := (namesOf rows).map He.Fa.glo ++ bltNames.map He.Fa.free
def moOf (K : PySem.W.Frag) (mg : Str → Option Value) : Mo := ⟨K, mg, fun _ => none, fun _ => none⟩
section
variable {P : Program} {w : World} {K : PySem.W.Frag} {h : Heap} {mg : Str → Option Value} {rows : List DRow} {Wn : Nat}
theorem says_fact {fa : List He.Fa} {fn : List He.DefD} (c : He.SaysD fa fn K) {f : He.Fa} (m : f ∈ fa) : f.ok K = true := by
  obtain ⟨i, hi⟩ := List.mem_iff_getElem?.mp m
  exact c.fact i hi
theorem free_of (X : K.In h) (G : h.Ns mainGlobals mg) (c : He.SaysD (faOf rows) (rows.map (·.d)) K) : ∀ x ∈ bltNames, mg x = none := fun x hx =>
  He.free_ok X G (says_fact c (List.mem_append_right _ (List.mem_map_of_mem hx)))
theorem glo_of (X : K.In h) (G : h.Ns mainGlobals mg) (c : He.SaysD (faOf rows) (rows.map (·.d)) K) {r : DRow} (m : r ∈ rows) : mg r.d.name = some (.ref (He.ga K r.d.name)) :=
  He.glo_ok X G (says_fact c (List.mem_append_left _ (List.mem_map_of_mem (List.mem_map_of_mem m))))
theorem def_of (X : K.In h) (G : h.Ns mainGlobals mg) (c : He.SaysD (faOf rows) (rows.map (·.d)) K) (all : ∀ r ∈ rows, RowOk (fnOf (namesOf rows) 0) r) {i : Nat} {r : DRow} (q : rows[i]? = some r) : ∃ fd, FunD K r.d.name r.d.qual r.d.params r.d.body r.d.scope [] [] (He.ga K r.d.name) fd ∧ fnsOf rows i = some r.f ∧ DefOk K mg (fnOf (namesOf rows) 0) r.d.name r.f (He.ga K r.d.name) fd r.ps := by
  have hm : r ∈ rows := List.mem_of_getElem? q
  have ok := all r hm
  obtain ⟨fd, FD⟩ := c.def_ i (d := r.d) (by rw [List.getElem?_map, q]; rfl)
  have ea : He.fAd K r.d.at_ = He.ga K r.d.name := by
    rw [ok.at_]
    rfl
  have hd1 : He.DefD.dvs K r.d = [] := by unfold He.DefD.dvs; rw [ok.dfl]; rfl
  have hd2 : He.DefD.kws K r.d = [] := by unfold He.DefD.kws; rw [ok.kwd]; rfl
  rw [ea, hd1, hd2] at FD
  exact ⟨fd, FD, by unfold fnsOf; rw [q]; rfl, ⟨_, _, _, _, _, _, _, r.N, 200, FD, ok.sc, glo_of X G c hm, FD.bindsN ok.bn, ok.n, ok.m, ok.cm⟩⟩
theorem defs_of (X : K.In h) (G : h.Ns mainGlobals mg) (c : He.SaysD (faOf rows) (rows.map (·.d)) K) (all : ∀ r ∈ rows, RowOk (fnOf (namesOf rows) 0) r) : ∀ x i, (fnOf (namesOf rows) 0).lookup x = some i → ∃ f a fd ps, fnsOf rows i = some f ∧ DefOk K mg (fnOf (namesOf rows) 0) x f a fd ps := fun x i hx => by
  obtain ⟨_, h2⟩ := fnOf_at hx
  rw [Nat.sub_zero] at h2
  unfold namesOf at h2
  rw [List.getElem?_map] at h2
  cases q : rows[i]? with
  | none => rw [q] at h2; cases h2
  | some r =>
    rw [q] at h2
    have ex : r.d.name = x := Option.some.inj h2
    obtain ⟨fd, _, h1, h3⟩ := def_of X G c all q
    rw [ex] at h3
    exact ⟨_, _, _, _, h1, h3⟩
theorem rvs_int {M : Mo} {Z : Zs} {H : Hp} : ∀ ns : List Int, RVs M Z H (ns.map D.int) (ns.map V.int)
  | [] => .nil
  | i :: r => .cons (.int i) (rvs_int r)
/-- what a law's end asks -/
theorem law_of (X : K.In h) (G : h.Ns mainGlobals mg) (c : He.SaysD (faOf rows) (rows.map (·.d)) K) (all : ∀ r ∈ rows, RowOk (fnOf (namesOf rows) 0) r) (k i n : Nat) {r : DRow} (hr : rows[i]? = some r) {x : Str} (hp : r.ps = [x]) {fa : Addr} (hfa : mg r.d.name = some (.ref fa))
    (plain : ∀ ns : List Int, ns.length ≤ n → (∀ z ∈ ns, Builtin.Int.intBits z ≤ 1048576) → callD (fnsOf rows) Wn k i [(.lst (ns.map D.int), .val)] = okB true) (l : PySem.W.OpenLaw) : ∃ K : PySem.W.Frag, K.In h ∧ LamX.LawAtS l w K (L2.CX l.prog w) k n x mg fa h := by
  have ok := all r (List.mem_of_getElem? hr)
  have ga := glo_of X G c (List.mem_of_getElem? hr)
  rw [hfa] at ga
  cases ga
  obtain ⟨fd, FD, h1, h2⟩ := def_of X G c all hr
  refine ⟨K, X, fd, [], spI (moOf K mg) (callD (fnsOf rows) Wn k) i 1, fun p hp => (nomatch hp), fun p hp => (nomatch hp), fun p hp => (nomatch hp), fun s u => ?_, fun H a ns hlen hbits _ hS => ?_, fun base X' G' _ => ?_⟩
  · have := FD.bindsA ok.bn s [u] (by rw [hp]; rfl)
    rw [hp] at this
    exact this
  · have fin : ∀ Z : Zs, (∀ a, Z a → H a ≠ none) → RV (moOf K mg) Z H (.lst (ns.map D.int)) (.ref a) → spI (moOf K mg) (callD (fnsOf rows) Wn k) i 1 [.ref a] H (fun v _ => v = .bl true) fun _ _ _ => False := fun Z z rv => by
      refine ⟨[(.lst (ns.map D.int), .val)], Z, z, .cons (.val rv) .nil, fun x hx => ?_, rfl, ?_⟩
      · rw [List.mem_singleton.mp hx]; exact .inl rfl
      · rw [plain ns hlen hbits]
        intro _ v H' Z' e rm
        cases rm with
        | val rv => cases rv; rfl
    rcases hS with hS | hS
    · refine fin (fun b => b = a) (fun b e => ?_) (.lst hS rfl (rvs_int ns))
      rw [e]
      rcases hS with hS | ⟨o, hS⟩ <;> rw [hS] <;> exact fun q => nomatch q
    · exact fin (fun _ => False) (fun _ e => e.elim) (.lsw hS (rvs_int ns))
  · have F := (defs_ok (P := l.prog) (w := w) (base := base) (M := moOf K mg) (Wn := Wn) (defs_of X G c all) (free_of X G c) k _ i _ _ _ _ h1 h2).F
    rw [hp] at F
    exact F
end
end Ev
namespace Ev
open PySem PySem.Spec PyProof.Rows L2
section
variable {cl : Call} {W : Nat} {δ : Envr}
def andD (k : Res DM) (x : DM) : Res DM := match x.1 with
  | .bl true => k
  | .bl false => okB false
  | _ => .bad
def orD (k : Res DM) (x : DM) : Res DM := match x.1 with
  | .bl true => okB true
  | .bl false => k
  | _ => .bad
def tupD (xs : List DM) : Res DM := match toVals xs with
  | some ds => if lenOk ds.length = true then okV (.tup ds) else .bad
  | none => .bad
def lstD (xs : List DM) : Res DM := match toVals xs with
  | some ds => if lenOk ds.length = true then .ok (.lst ds, .own) else .bad
  | none => .bad
def optI (x : DM) : Res (Option Int) := match x.1 with
  | .int i => .ok (some i)
  | _ => .bad
def boolD (x : DM) : Res Bool := match x.1 with
  | .bl b => .ok b
  | _ => .bad
def rng1D (x : DM) : Res (List D) := match x.1 with
  | .int i => if smallI i = true then .ok (rngD 0 i) else .bad
  | _ => .bad
def rng2D (x y : DM) : Res (List D) := match x.1, y.1 with
  | .int i, .int j => if (smallI i && smallI j) = true then .ok (rngD i j) else .bad
  | _, _ => .bad
def unpO (δ : Envr) (is : List Nat) (x : DM) : Res Out := match x.1 with
  | .tup xs => (putAll δ is xs).bind fun δ1 => .ok (.nx δ1)
  | _ => .bad
def parO (δ : Envr) (i j : Nat) (x y : DM) : Res Out := match toVal x, toVal y with
  | some d, some e => .ok (.nx ((δ.set i (some (d, .val))).set j (some (e, .val))))
  | _, _ => .bad
def appO (δ : Envr) (i : Nat) (xs : List D) (x : DM) : Res Out := match toVal x with
  | some d => if lenOk (xs.length + 1) = true then .ok (.nx (δ.set i (some (.lst (xs ++ [d]), .own)))) else .bad
  | none => .bad
def rtO (o : Option (Option DM)) : Res Out := match o with
  | some (some (d, .val)) => .ok (.rt (d, .val))
  | some (some (d, .own)) => .ok (.rt (d, .own))
  | _ => .bad
def apsO (o : Option (Option DM)) (r : Res DM) (δ : Envr) (i : Nat) : Res Out := match o with
  | some (some (.lst xs, .own)) => r.bind (appO δ i xs)
  | _ => .bad
theorem b_ok {α β : Type} (a : α) (f : α → Res β) : (Res.ok a).bind f = f a := rfl
theorem b_exc {α β : Type} (c : Nat) (fs : List (Nat × D)) (f : α → Res β) : (Res.exc c fs).bind f = .exc c fs := rfl
theorem b_bad {α β : Type} (f : α → Res β) : (Res.bad : Res α).bind f = .bad := rfl
theorem b_ite {α β : Type} (c : Prop) [Decidable c] (a b : Res α) (f : α → Res β) : (if c then a else b).bind f = if c then a.bind f else b.bind f := by by_cases h : c <;> simp [h]
theorem x_cst (d : D) : evI cl (.cst d) δ = .ok (d, .val) := rfl
theorem x_var (i : Nat) : evI cl (.var i) δ = varD δ i := rfl
theorem x_bin (op : BOp) (a b : IE) : evI cl (.bin op a b) δ = (evI cl a δ).bind fun x => (evI cl b δ).bind fun y => binD op x y := rfl
theorem x_neg (a : IE) : evI cl (.neg a) δ = (evI cl a δ).bind negD := rfl
theorem x_not (a : IE) : evI cl (.not a) δ = (evI cl a δ).bind notD := rfl
theorem x_cmp (op : COp) (a b : IE) : evI cl (.cmp op a b) δ = (evI cl a δ).bind fun x => (evI cl b δ).bind fun y => cmpD op x y := rfl
theorem x_and (a b : IE) : evI cl (.and a b) δ = (evI cl a δ).bind (andD (evI cl b δ)) := rfl
theorem x_or (a b : IE) : evI cl (.or a b) δ = (evI cl a δ).bind (orD (evI cl b δ)) := rfl
theorem x_tup (es : IL) : evI cl (.tup es) δ = (evL cl es δ).bind tupD := rfl
theorem x_lst (es : IL) : evI cl (.lst es) δ = (evL cl es δ).bind lstD := rfl
theorem x_ix (a b : IE) : evI cl (.ix a b) δ = (evI cl a δ).bind fun x => (evI cl b δ).bind fun y => ixD x y := rfl
theorem x_slc (a : IE) (lo hi : IO) : evI cl (.slc a lo hi) δ = (evI cl a δ).bind fun x => (evO cl lo δ).bind fun l => (evO cl hi δ).bind fun h => slcD x l h := rfl
theorem x_call (f : Nat) (es : IL) : evI cl (.call f es) δ = (evL cl es δ).bind fun xs => (cl f (xs.map lend)).bind retD := rfl
theorem x_bi (f : Bi) (a : IE) : evI cl (.bi f a) δ = (evI cl a δ).bind (biD f) := rfl
theorem x_isi (t : Ty) (a : IE) : evI cl (.isi t a) δ = (evI cl a δ).bind (isiD t) := rfl
theorem xl_nil : evL cl .nil δ = .ok [] := rfl
theorem xl_cons (e : IE) (r : IL) : evL cl (.cons e r) δ = (evI cl e δ).bind fun x => (evL cl r δ).bind fun xs => .ok (x :: xs) := rfl
theorem xo_none : evO cl .none δ = .ok none := rfl
theorem xo_some (e : IE) : evO cl (.some e) δ = (evI cl e δ).bind optI := rfl
theorem as_bind (r : Res DM) : asB r = r.bind boolD := rfl
theorem s_pass : evS cl W .pass δ = .ok (.nx δ) := rfl
theorem s_ex (e : IE) : evS cl W (.ex e) δ = (evI cl e (frz δ e.inn)).bind fun _ => .ok (.nx (frz δ e.inn)) := rfl
theorem s_set (i : Nat) (e : IE) : evS cl W (.set i e) δ = (evI cl e (frz δ (e.esc ++ e.inn))).bind fun x => (putD (frz δ (e.esc ++ e.inn)) i x).bind fun δ1 => .ok (.nx δ1) := rfl
theorem s_par (i j : Nat) (a b : IE) : evS cl W (.par i j a b) δ = (evI cl a (frz δ (a.esc ++ a.inn ++ (b.esc ++ b.inn)))).bind fun x => (evI cl b (frz δ (a.esc ++ a.inn ++ (b.esc ++ b.inn)))).bind fun y => parO (frz δ (a.esc ++ a.inn ++ (b.esc ++ b.inn))) i j x y := rfl
theorem s_unp (is : List Nat) (e : IE) : evS cl W (.unp is e) δ = (evI cl e (frz δ e.inn)).bind (unpO (frz δ e.inn) is) := rfl
theorem s_app (i : Nat) (e : IE) : evS cl W (.app i e) δ = apsO (frz δ (e.esc ++ e.inn))[i]? (evI cl e (frz δ (e.esc ++ e.inn))) (frz δ (e.esc ++ e.inn)) i := rfl
theorem s_ret (e : IE) : evS cl W (.ret e) δ = ((evI cl e (frz δ (e.esc ++ e.inn))).bind retD).bind fun x => .ok (.rt x) := rfl
theorem s_retv (i : Nat) : evS cl W (.retv i) δ = rtO δ[i]? := rfl
theorem s_ite (t : IE) (a b : ISs) : evS cl W (.ite t a b) δ = ((evI cl t (frz δ t.inn)).bind boolD).bind fun c => if c = true then evSs cl W a (frz δ t.inn) else evSs cl W b (frz δ t.inn) := rfl
theorem s_whl (t : IE) (b : ISs) : evS cl W (.whl t b) δ = whileR (fun δ => (evI cl t δ).bind boolD) (evSs cl W b) W δ := rfl
theorem s_fors (tg : Tg) (it : II) (b : ISs) : evS cl W (.fors tg it b) δ = (iterI cl it (frz δ it.esc)).bind fun xs => forR (evSs cl W b) tg xs (frz δ it.esc) := rfl
theorem s_brk : evS cl W .brk δ = .ok (.bk δ) := rfl
theorem s_cnt : evS cl W .cnt δ = .ok (.ct δ) := rfl
theorem ss_nil : evSs cl W .nil δ = .ok (.nx δ) := rfl
theorem ss_cons (s : IS) (r : ISs) : evSs cl W (.cons s r) δ = (evS cl W s δ).bind (seqO (evSs cl W r)) := rfl
theorem i_seq (e : IE) : iterI cl (.seq e) δ = (evI cl e δ).bind seqD := rfl
theorem i_rng (a : IE) : iterI cl (.rng a) δ = (evI cl a δ).bind rng1D := rfl
theorem i_rng2 (a b : IE) : iterI cl (.rng2 a b) δ = (evI cl a δ).bind fun x => (evI cl b δ).bind fun y => rng2D x y := rfl
end
section
variable {i j : Int} {m n : Md}
theorem o_add : binD .add (.int i, m) (.int j, n) = .ok (.int (i + j), .val) := rfl
theorem o_sub : binD .sub (.int i, m) (.int j, n) = .ok (.int (i - j), .val) := rfl
theorem o_mul : binD .mul (.int i, m) (.int j, n) = if mulOk i j = true then .ok (.int (i * j), .val) else .bad := rfl
theorem o_fdiv : binD .fdiv (.int i, m) (.int j, n) = if divOkN j = true then .ok (.int (i.fdiv j), .val) else .bad := rfl
theorem o_mod : binD .mod (.int i, m) (.int j, n) = if j = 0 then .bad else .ok (.int (i.fmod j), .val) := rfl
theorem o_pow : binD .pow (.int i, m) (.int j, n) = if powOk i j = true then .ok (.int (i ^ j.toNat), .val) else .bad := rfl
theorem o_addT (xs ys : List D) : binD .add (.tup xs, m) (.tup ys, n) = if lenOk (xs.length + ys.length) = true then .ok (.tup (xs ++ ys), .val) else .bad := rfl
theorem o_addL (xs ys : List D) : binD .add (.lst xs, m) (.lst ys, n) = if lenOk (xs.length + ys.length) = true then .ok (.lst (xs ++ ys), .own) else .bad := rfl
theorem o_neg : negD (.int i, m) = .ok (.int (-i), .val) := rfl
theorem o_not (b : Bool) : notD (.bl b, m) = .ok (.bl (!b), .val) := rfl
theorem o_lt : cmpD .lt (.int i, m) (.int j, n) = .ok (.bl (decide (i < j)), .val) := rfl
theorem o_le : cmpD .le (.int i, m) (.int j, n) = .ok (.bl (decide (i ≤ j)), .val) := rfl
theorem o_gt : cmpD .gt (.int i, m) (.int j, n) = .ok (.bl (decide (j < i)), .val) := rfl
theorem o_ge : cmpD .ge (.int i, m) (.int j, n) = .ok (.bl (decide (j ≤ i)), .val) := rfl
theorem eqI : eqD (.int i) (.int j) = some (decide (i = j)) := rfl
theorem o_eq : cmpD .eq (.int i, m) (.int j, n) = .ok (.bl (decide (i = j)), .val) := rfl
theorem o_ne : cmpD .ne (.int i, m) (.int j, n) = .ok (.bl (!decide (i = j)), .val) := rfl
theorem o_ix (x y : DM) (xs : List D) (k : Int) (d : D) (hx : x.1 = .tup xs ∨ x.1 = .lst xs) (hy : y.1 = .int k) (h : atI xs k = some d) : ixD x y = .ok (d, .val) := by
  unfold ixD
  rcases hx with hx | hx <;> rw [hx, hy] <;> simp only [h] <;> rfl
theorem o_eqB (a b : Bool) : cmpD .eq (.bl a, m) (.bl b, n) = .ok (.bl (decide (a = b)), .val) := by cases a <;> cases b <;> rfl
theorem o_neB (a b : Bool) : cmpD .ne (.bl a, m) (.bl b, n) = .ok (.bl (!decide (a = b)), .val) := by cases a <;> cases b <;> rfl
def getD0 (o : Option D) : Res DM := match o with
  | some d => .ok (d, .val)
  | none => .bad
theorem o_ixT (xs : List D) (k : Int) : ixD (.tup xs, m) (.int k, n) = getD0 (atI xs k) := by
  show (match atI xs k with | some d => okV d | none => .bad) = _
  cases atI xs k <;> rfl
theorem o_ixL (xs : List D) (k : Int) : ixD (.lst xs, m) (.int k, n) = getD0 (atI xs k) := by
  show (match atI xs k with | some d => okV d | none => .bad) = _
  cases atI xs k <;> rfl
theorem g_some (d : D) : getD0 (some d) = .ok (d, .val) := rfl
theorem at_nat (xs : List D) (k : Nat) : atI xs (k : Int) = xs[k]? := by
  unfold atI ixN
  by_cases h : k < xs.length
  · rw [if_pos (Int.natCast_nonneg k), if_pos (by omega)]
    rfl
  · rw [if_pos (Int.natCast_nonneg k), if_neg (by omega), List.getElem?_eq_none (by omega)]
    rfl
theorem at_neg (xs : List D) (k : Nat) (h1 : 0 < k) (h2 : k ≤ xs.length) : atI xs (-(k : Int)) = xs[xs.length - k]? := by
  unfold atI ixN
  rw [if_neg (by omega), if_pos (by omega)]
  show xs[(-(k : Int) + (xs.length : Int)).toNat]? = _
  congr 1
  omega
theorem at_0 (x : D) (r : List D) : atI (x :: r) 0 = some x := at_nat _ 0
theorem at_1 (x y : D) (r : List D) : atI (x :: y :: r) 1 = some y := at_nat _ 1
theorem at_2 (x y z : D) (r : List D) : atI (x :: y :: z :: r) 2 = some z := at_nat _ 2
theorem at_3 (x y z u : D) (r : List D) : atI (x :: y :: z :: u :: r) 3 = some u := at_nat _ 3
theorem o_slcT (xs : List D) (lo hi : Option Int) : slcD (.tup xs, m) lo hi = .ok (.tup (cutD xs lo hi), .val) := rfl
theorem o_slcL (xs : List D) (lo hi : Option Int) : slcD (.lst xs, m) lo hi = .ok (.lst (cutD xs lo hi), .own) := rfl
theorem k_lenT (xs : List D) : biD .len (.tup xs, m) = .ok (.int xs.length, .val) := rfl
theorem k_lenL (xs : List D) : biD .len (.lst xs, m) = .ok (.int xs.length, .val) := rfl
theorem k_abs : biD .abs (.int i, m) = .ok (.int (if i < 0 then -i else i), .val) := rfl
theorem k_int : biD .int (.int i, m) = .ok (.int i, .val) := rfl
theorem k_intB (b : Bool) : biD .int (.bl b, m) = .ok (.int (if b then 1 else 0), .val) := rfl
theorem k_tupT (xs : List D) : biD .tuple (.tup xs, m) = .ok (.tup xs, .val) := rfl
theorem k_tupL (xs : List D) : biD .tuple (.lst xs, m) = .ok (.tup xs, .val) := rfl
theorem k_lstT (xs : List D) : biD .list (.tup xs, m) = .ok (.lst xs, .own) := rfl
theorem k_lstL (xs : List D) : biD .list (.lst xs, m) = .ok (.lst xs, .own) := rfl
theorem y_int (t : Ty) : isiD t (.int i, m) = .ok (.bl (match t with | .int => true | _ => false), .val) := rfl
theorem y_bl (t : Ty) (b : Bool) : isiD t (.bl b, m) = .ok (.bl (match t with | .int => true | .bool => true | _ => false), .val) := rfl
theorem y_tup (t : Ty) (b : List D) : isiD t (.tup b, m) = .ok (.bl (match t with | .tuple => true | _ => false), .val) := rfl
theorem y_lst (t : Ty) (b : List D) : isiD t (.lst b, m) = .ok (.bl (match t with | .list => true | _ => false), .val) := rfl
theorem y_str (t : Ty) (b : Str) : isiD t (.str b, m) = .ok (.bl (match t with | .str => true | _ => false), .val) := rfl
theorem y_non (t : Ty) : isiD t (.non, m) = .ok (.bl false, .val) := rfl
theorem j_and (k : Res DM) (b : Bool) : andD k (.bl b, m) = if b = true then k else .ok (.bl false, .val) := by cases b <;> rfl
theorem j_or (k : Res DM) (b : Bool) : orD k (.bl b, m) = if b = true then .ok (.bl true, .val) else k := by cases b <;> rfl
theorem j_opt : optI (.int i, m) = .ok (some i) := rfl
theorem j_bool (b : Bool) : boolD (.bl b, m) = .ok b := rfl
theorem j_ret (d : D) : retD (d, .val) = .ok (d, .val) := rfl
theorem j_reto (d : D) : retD (d, .own) = .ok (d, .own) := rfl
theorem p_val (δ : Envr) (i : Nat) (d : D) : putD δ i (d, .val) = .ok (δ.set i (some (d, .val))) := rfl
theorem p_own (δ : Envr) (i : Nat) (d : D) : putD δ i (d, .own) = .ok (δ.set i (some (d, .own))) := rfl
theorem p_rb (δ : Envr) (i : Nat) (d : D) : putD δ i (d, .rb) = .ok (δ.set i (some (d, .rb))) := rfl
theorem pa_n (δ : Envr) : putAll δ [] [] = .ok δ := rfl
theorem pa_c (δ : Envr) (i : Nat) (is : List Nat) (x : D) (xs : List D) : putAll δ (i :: is) (x :: xs) = putAll (δ.set i (some (x, .val))) is xs := rfl
theorem u_tup (δ : Envr) (is : List Nat) (xs : List D) : unpO δ is (.tup xs, m) = (putAll δ is xs).bind fun δ1 => .ok (.nx δ1) := rfl
theorem pr_vv (δ : Envr) (i j : Nat) (d e : D) : parO δ i j (d, .val) (e, .val) = .ok (.nx ((δ.set i (some (d, .val))).set j (some (e, .val)))) := rfl
theorem ap_v (δ : Envr) (i : Nat) (xs : List D) (d : D) : appO δ i xs (d, .val) = if lenOk (xs.length + 1) = true then .ok (.nx (δ.set i (some (.lst (xs ++ [d]), .own)))) else .bad := rfl
theorem ap_o (δ : Envr) (i : Nat) (xs : List D) (d : D) : appO δ i xs (d, .own) = if lenOk (xs.length + 1) = true then .ok (.nx (δ.set i (some (.lst (xs ++ [d]), .own)))) else .bad := rfl
theorem aps (r : Res DM) (δ : Envr) (i : Nat) (xs : List D) : apsO (some (some (.lst xs, .own))) r δ i = r.bind (appO δ i xs) := rfl
theorem rt_v (d : D) : rtO (some (some (d, .val))) = .ok (.rt (d, .val)) := rfl
theorem rt_o (d : D) : rtO (some (some (d, .own))) = .ok (.rt (d, .own)) := rfl
theorem q_nx (k : Envr → Res Out) (δ : Envr) : seqO k (.nx δ) = k δ := rfl
theorem q_bk (k : Envr → Res Out) (δ : Envr) : seqO k (.bk δ) = .ok (.bk δ) := rfl
theorem q_ct (k : Envr → Res Out) (δ : Envr) : seqO k (.ct δ) = .ok (.ct δ) := rfl
theorem q_rt (k : Envr → Res Out) (x : DM) : seqO k (.rt x) = .ok (.rt x) := rfl
theorem l_nx (k : Envr → Res Out) (δ : Envr) : lpO k (.nx δ) = k δ := rfl
theorem l_bk (k : Envr → Res Out) (δ : Envr) : lpO k (.bk δ) = .ok (.nx δ) := rfl
theorem l_ct (k : Envr → Res Out) (δ : Envr) : lpO k (.ct δ) = k δ := rfl
theorem l_rt (k : Envr → Res Out) (x : DM) : lpO k (.rt x) = .ok (.rt x) := rfl
theorem f_rt (x : DM) : finO (.ok (.rt x)) = .ok x := rfl
theorem f_nx (δ : Envr) : finO (.ok (.nx δ)) = .ok (.non, .val) := rfl
theorem f_exc (c : Nat) (fs : List (Nat × D)) : finO (.exc c fs) = .exc c fs := rfl
theorem v_val (d : D) (δ : Envr) (i : Nat) (h : δ[i]? = some (some (d, .val))) : varD δ i = .ok (d, .val) := by
  unfold varD
  rw [h]
def varO (o : Option (Option DM)) : Res DM := match o with
  | some (some (d, .own)) => .ok (d, .tmp)
  | some (some dm) => .ok dm
  | _ => .bad
theorem v_eq (δ : Envr) (i : Nat) : varD δ i = varO δ[i]? := rfl
theorem vo_v (d : D) : varO (some (some (d, .val))) = .ok (d, .val) := rfl
theorem vo_r (d : D) : varO (some (some (d, .rb))) = .ok (d, .rb) := rfl
theorem vo_o (d : D) : varO (some (some (d, .own))) = .ok (d, .tmp) := rfl
theorem ld_v (d : D) : lend (d, .val) = (d, .val) := rfl
theorem ld_o (d : D) : lend (d, .own) = (d, .rb) := rfl
theorem ld_t (d : D) : lend (d, .tmp) = (d, .rb) := rfl
theorem ld_r (d : D) : lend (d, .rb) = (d, .rb) := rfl
theorem z_nil (δ : Envr) : frz δ [] = δ := rfl
theorem z_cons (δ : Envr) (i : Nat) (is : List Nat) : frz δ (i :: is) = frz (δ.set i (freeze1 (δ[i]?.bind id))) is := rfl
theorem z1_v (d : D) : freeze1 (some (d, .val)) = some (d, .val) := rfl
theorem z1_o (d : D) : freeze1 (some (d, .own)) = some (d, .val) := rfl
theorem z1_r (d : D) : freeze1 (some (d, .rb)) = some (d, .rb) := rfl
theorem z1_n : freeze1 none = none := rfl
theorem obind (x : Option DM) : (some x).bind id = x := rfl
theorem toVal_v (d : D) : toVal (d, .val) = some d := rfl
theorem toVal_o (d : D) : toVal (d, .own) = some d := rfl
theorem tv_nil : toVals [] = some [] := rfl
theorem tv_v (d : D) (r : List DM) : toVals ((d, .val) :: r) = (toVals r).map (d :: ·) := by
  show (match toVal (d, .val), toVals r with | some d, some ds => some (d :: ds) | _, _ => none) = _
  cases toVals r <;> rfl
theorem tv_o (d : D) (r : List DM) : toVals ((d, .own) :: r) = (toVals r).map (d :: ·) := by
  show (match toVal (d, .own), toVals r with | some d, some ds => some (d :: ds) | _, _ => none) = _
  cases toVals r <;> rfl
def mkT (o : Option (List D)) : Res DM := match o with
  | some ds => if lenOk ds.length = true then okV (.tup ds) else .bad
  | none => .bad
def mkL (o : Option (List D)) : Res DM := match o with
  | some ds => if lenOk ds.length = true then .ok (.lst ds, .own) else .bad
  | none => .bad
theorem t_eq (xs : List DM) : tupD xs = mkT (toVals xs) := rfl
theorem l_eq (xs : List DM) : lstD xs = mkL (toVals xs) := rfl
theorem mkT_0 : mkT (some []) = .ok (.tup [], .val) := rfl
theorem mkT_1 (a : D) : mkT (some [a]) = .ok (.tup [a], .val) := rfl
theorem mkT_2 (a b : D) : mkT (some [a, b]) = .ok (.tup [a, b], .val) := rfl
theorem mkT_3 (a b c : D) : mkT (some [a, b, c]) = .ok (.tup [a, b, c], .val) := rfl
theorem mkT_4 (a b c d : D) : mkT (some [a, b, c, d]) = .ok (.tup [a, b, c, d], .val) := rfl
theorem mkL_0 : mkL (some []) = .ok (.lst [], .own) := rfl
theorem mkL_1 (a : D) : mkL (some [a]) = .ok (.lst [a], .own) := rfl
theorem mkL_2 (a b : D) : mkL (some [a, b]) = .ok (.lst [a, b], .own) := rfl
theorem mkL_3 (a b c : D) : mkL (some [a, b, c]) = .ok (.lst [a, b, c], .own) := rfl
theorem sq_l (xs : List D) : seqD (.lst xs, .val) = .ok xs := rfl
theorem sq_r (xs : List D) : seqD (.lst xs, .rb) = .ok xs := rfl
theorem sq_o (xs : List D) : seqD (.lst xs, .own) = .ok xs := rfl
theorem sq_t (xs : List D) : seqD (.tup xs, m) = .ok xs := rfl
theorem rg1 : rng1D (.int i, m) = if smallI i = true then .ok (rngD 0 i) else .bad := rfl
theorem rg2 : rng2D (.int i, m) (.int j, n) = if (smallI i && smallI j) = true then .ok (rngD i j) else .bad := rfl
theorem fr_nil (bd : Envr → Res Out) (tg : Tg) (δ : Envr) : forR bd tg [] δ = .ok (.nx δ) := rfl
theorem fr_cons (bd : Envr → Res Out) (tg : Tg) (x : D) (r : List D) (δ : Envr) : forR bd tg (x :: r) δ = (bindT tg x δ).bind fun δ1 => (bd δ1).bind (lpO (forR bd tg r)) := rfl
theorem wh_succ (t : Envr → Res Bool) (bd : Envr → Res Out) (k : Nat) (δ : Envr) : whileR t bd (k + 1) δ = (t δ).bind fun b => if b = true then (bd δ).bind (lpO (whileR t bd k)) else .ok (.nx δ) := rfl
theorem tg_n (i : Nat) (x : D) (δ : Envr) : bindT (.name i) x δ = .ok (δ.set i (some (x, .val))) := rfl
theorem tg_t (is : List Nat) (xs : List D) (δ : Envr) : bindT (.tup is) (.tup xs) δ = putAll δ is xs := rfl
theorem call_eq {rows : List DRow} {W k i : Nat} {f : FnI} {xs : List DM} (h : fnsOf rows i = some f) : callD (fnsOf rows) W (k + 1) i xs = runF (callD (fnsOf rows) W k) W f xs := by
  show (match fnsOf rows i with | some f => runF (callD (fnsOf rows) W k) W f xs | none => .bad) = _
  rw [h]
theorem run_eq {cl : Call} {W n : Nat} {mm : Nat} {b : ISs} {xs : List DM} (h : xs.length = n) : runF cl W ⟨n, mm, b⟩ xs = finO (evSs cl W b (xs.map some ++ List.replicate (mm - n) none)) := by
  unfold runF
  rw [if_pos h]
theorem call_at {rows : List DRow} {W k i n mm : Nat} {b : ISs} {xs : List DM} (h : fnsOf rows i = some ⟨n, mm, b⟩) (hl : xs.length = n) : callD (fnsOf rows) W (k + 1) i xs = finO (evSs (callD (fnsOf rows) W k) W b (xs.map some ++ List.replicate (mm - n) none)) := by
  rw [call_eq h, run_eq hl]
end
end Ev
namespace Ev
open PySem L2
def Big (n : Nat) (i : Int) : Prop := i.natAbs < 2 ^ n
theorem Big.mono {m n : Nat} {i : Int} (h : Big m i) (l : m ≤ n) : Big n i := Nat.lt_of_lt_of_le h (Nat.pow_le_pow_right (by decide) l)
theorem Big.log {n : Nat} {i : Int} (h : Big n i) : i.natAbs.log2 < n ∨ i.natAbs.log2 = 0 := by
  by_cases e : i.natAbs = 0
  · right
    rw [e]
    rfl
  · left
    exact (Nat.log2_lt e).mpr h
theorem Big.mul {m n : Nat} {i j : Int} (h : Big m i) (g : Big n j) : Big (m + n) (i * j) := by
  unfold Big at *
  rw [Int.natAbs_mul, Nat.pow_add]
  exact Nat.mul_lt_mul'' h g
theorem Big.add {n : Nat} {i j : Int} (h : Big n i) (g : Big n j) : Big (n + 1) (i + j) := by
  unfold Big at *
  rw [Nat.pow_succ]
  omega
theorem Big.sub {n : Nat} {i j : Int} (h : Big n i) (g : Big n j) : Big (n + 1) (i - j) := by
  unfold Big at *
  rw [Nat.pow_succ]
  omega
theorem mulOk_of {m n : Nat} {i j : Int} (h : Big m i) (g : Big n j) (hm : m ≤ 60000000) (hn : n ≤ 60000000) : mulOk i j = true := by
  unfold mulOk
  rw [Bool.and_eq_true]
  constructor
  · refine decide_eq_true ?_
    rcases h.log with h | h <;> omega
  · refine decide_eq_true ?_
    rcases g.log with h | h <;> omega
theorem divOkN_of {n : Nat} {j : Int} (h0 : j ≠ 0) (g : Big n j) (hn : n ≤ 9000) : divOkN j = true := by
  unfold divOkN
  rw [Bool.and_eq_true]
  constructor
  · exact decide_eq_true h0
  · refine decide_eq_true ?_
    rcases g.log with h | h <;> omega
theorem natAbs_fmod_lt (a : Int) {b : Int} (h : b ≠ 0) : (a.fmod b).natAbs < b.natAbs := by
  rw [Int.fmod_eq_emod]
  have h1 := Int.emod_nonneg a h
  have h2 := Int.emod_lt a h
  split
  · omega
  · rename_i q
    have h3 : 0 < a % b := (Int.emod_pos_of_not_dvd fun z => q (.inr z)).resolve_left h
    have h4 : b < 0 := by
      by_cases z : 0 ≤ b
      · exact absurd (.inl z) q
      · omega
    omega
theorem gcd_fmod (a b : Int) : Int.gcd b (a.fmod b) = Int.gcd a b := by
  rw [Int.fmod_def, Int.gcd_sub_mul_left_right, Int.gcd_comm]
def wCommon : ISs := (.cons (.par 0 1 (.var 1) (.bin .mod (.var 0) (.var 1))) .nil)
def bCommon : ISs := (.cons (.whl (.cmp .ne (.var 1) (.cst (.int 0))) wCommon) (.cons (.ret (.bi .abs (.var 0))) .nil))
theorem euclid {cl : Call} {W : Nat} : ∀ (n : Nat) (a b : Int), b.natAbs < n → ∃ g : Int, g.natAbs = Int.gcd a b ∧ whileR (fun δ => (evI cl (.cmp .ne (.var 1) (.cst (.int 0))) δ).bind boolD) (evSs cl W wCommon) n [some (.int a, .val), some (.int b, .val)] = .ok (.nx [some (.int g, .val), some (.int 0, .val)])
  | 0, a, b, h => by omega
  | n + 1, a, b, h => by
    by_cases hb : b = 0
    · subst hb
      refine ⟨a, by rw [Int.gcd_zero_right], ?_⟩
      rw [wh_succ]
      simp -implicitDefEqProofs only [b_ok, b_exc, b_bad, x_cst, x_var, x_bin, x_neg, x_not, x_cmp, x_and, x_or, x_tup, x_lst, x_ix, x_slc, x_call, x_bi, x_isi, xl_nil, xl_cons, xo_none, xo_some, as_bind, s_pass, s_ex, s_set, s_par, s_unp, s_app, s_ret, s_retv, s_ite, s_whl, s_fors, s_brk, s_cnt, ss_nil, ss_cons, i_seq, i_rng, i_rng2, o_add, o_sub, o_mul, o_fdiv, o_mod, o_pow, o_addT, o_addL, o_neg, o_not, o_lt, o_le, o_gt, o_ge, o_eq, o_ne, o_eqB, o_neB, o_ixT, o_ixL, g_some, at_0, at_1, at_2, at_3, o_slcT, o_slcL, k_lenT, k_lenL, k_abs, k_int, k_intB, k_tupT, k_tupL, k_lstT, k_lstL, y_int, y_bl, y_tup, y_lst, y_str, y_non, j_and, j_or, j_opt, j_bool, j_ret, j_reto, p_val, p_own, p_rb, pa_n, pa_c, u_tup, pr_vv, ap_v, ap_o, aps, rt_v, rt_o, q_nx, q_bk, q_ct, q_rt, l_nx, l_bk, l_ct, l_rt, f_rt, f_nx, f_exc, v_eq, vo_v, vo_r, vo_o, ld_v, ld_o, ld_t, ld_r, z_nil, z_cons, z1_v, z1_o, z1_r, z1_n, obind, toVal_v, toVal_o, tv_nil, tv_v, tv_o, t_eq, l_eq, mkT_0, mkT_1, mkT_2, mkT_3, mkT_4, mkL_0, mkL_1, mkL_2, mkL_3, sq_l, sq_r, sq_o, sq_t, rg1, rg2, tg_n, tg_t, List.map_cons, List.map_nil, List.cons_append, List.nil_append, List.append_nil, List.replicate, List.set_cons_zero, List.set_cons_succ, List.getElem?_cons_zero, List.getElem?_cons_succ, Nat.reduceSub, Nat.reduceAdd, List.length_cons, List.length_nil, IE.esc, IE.inn, IL.all, IL.inn, IO.inn, II.esc, Option.map_some, if_true, if_false, ite_true, ite_false, reduceIte, decide_true, decide_false, Bool.not_true, Bool.not_false, Bool.false_eq_true]
    · obtain ⟨g, h1, h2⟩ := euclid (cl := cl) (W := W) n b (a.fmod b) (by have := natAbs_fmod_lt a hb; omega)
      refine ⟨g, by rw [h1, gcd_fmod], ?_⟩
      rw [wh_succ]
      have e : decide (b = 0) = false := decide_eq_false hb
      simp -implicitDefEqProofs only [b_ok, b_exc, b_bad, x_cst, x_var, x_bin, x_neg, x_not, x_cmp, x_and, x_or, x_tup, x_lst, x_ix, x_slc, x_call, x_bi, x_isi, xl_nil, xl_cons, xo_none, xo_some, as_bind, s_pass, s_ex, s_set, s_par, s_unp, s_app, s_ret, s_retv, s_ite, s_whl, s_fors, s_brk, s_cnt, ss_nil, ss_cons, i_seq, i_rng, i_rng2, o_add, o_sub, o_mul, o_fdiv, o_mod, o_pow, o_addT, o_addL, o_neg, o_not, o_lt, o_le, o_gt, o_ge, o_eq, o_ne, o_eqB, o_neB, o_ixT, o_ixL, g_some, at_0, at_1, at_2, at_3, o_slcT, o_slcL, k_lenT, k_lenL, k_abs, k_int, k_intB, k_tupT, k_tupL, k_lstT, k_lstL, y_int, y_bl, y_tup, y_lst, y_str, y_non, j_and, j_or, j_opt, j_bool, j_ret, j_reto, p_val, p_own, p_rb, pa_n, pa_c, u_tup, pr_vv, ap_v, ap_o, aps, rt_v, rt_o, q_nx, q_bk, q_ct, q_rt, l_nx, l_bk, l_ct, l_rt, f_rt, f_nx, f_exc, v_eq, vo_v, vo_r, vo_o, ld_v, ld_o, ld_t, ld_r, z_nil, z_cons, z1_v, z1_o, z1_r, z1_n, obind, toVal_v, toVal_o, tv_nil, tv_v, tv_o, t_eq, l_eq, mkT_0, mkT_1, mkT_2, mkT_3, mkT_4, mkL_0, mkL_1, mkL_2, mkL_3, sq_l, sq_r, sq_o, sq_t, rg1, rg2, tg_n, tg_t, List.map_cons, List.map_nil, List.cons_append, List.nil_append, List.append_nil, List.replicate, List.set_cons_zero, List.set_cons_succ, List.getElem?_cons_zero, List.getElem?_cons_succ, Nat.reduceSub, Nat.reduceAdd, List.length_cons, List.length_nil, IE.esc, IE.inn, IL.all, IL.inn, IO.inn, II.esc, Option.map_some, if_true, if_false, ite_true, ite_false, reduceIte, decide_true, decide_false, Bool.not_true, Bool.not_false, Bool.false_eq_true, e, if_neg hb, wCommon]
      exact h2
variable {rows : List DRow} {W k : Nat}
theorem common_ok {i : Nat} (h : fnsOf rows i = some ⟨2, 2, bCommon⟩) (a b : Int) (hb : b.natAbs < W) : callD (fnsOf rows) W (k + 1) i [(.int a, .val), (.int b, .val)] = .ok (.int (Int.gcd a b), .val) := by
  refine Eq.trans (call_at h rfl) ?_
  obtain ⟨g, h1, h2⟩ := euclid (cl := callD (fnsOf rows) W k) (W := W) W a b hb
  unfold bCommon
  simp -implicitDefEqProofs only [b_ok, b_exc, b_bad, x_cst, x_var, x_bin, x_neg, x_not, x_cmp, x_and, x_or, x_tup, x_lst, x_ix, x_slc, x_call, x_bi, x_isi, xl_nil, xl_cons, xo_none, xo_some, as_bind, s_pass, s_ex, s_set, s_par, s_unp, s_app, s_ret, s_retv, s_ite, s_whl, s_fors, s_brk, s_cnt, ss_nil, ss_cons, i_seq, i_rng, i_rng2, o_add, o_sub, o_mul, o_fdiv, o_mod, o_pow, o_addT, o_addL, o_neg, o_not, o_lt, o_le, o_gt, o_ge, o_eq, o_ne, o_eqB, o_neB, o_ixT, o_ixL, g_some, at_0, at_1, at_2, at_3, o_slcT, o_slcL, k_lenT, k_lenL, k_abs, k_int, k_intB, k_tupT, k_tupL, k_lstT, k_lstL, y_int, y_bl, y_tup, y_lst, y_str, y_non, j_and, j_or, j_opt, j_bool, j_ret, j_reto, p_val, p_own, p_rb, pa_n, pa_c, u_tup, pr_vv, ap_v, ap_o, aps, rt_v, rt_o, q_nx, q_bk, q_ct, q_rt, l_nx, l_bk, l_ct, l_rt, f_rt, f_nx, f_exc, v_eq, vo_v, vo_r, vo_o, ld_v, ld_o, ld_t, ld_r, z_nil, z_cons, z1_v, z1_o, z1_r, z1_n, obind, toVal_v, toVal_o, tv_nil, tv_v, tv_o, t_eq, l_eq, mkT_0, mkT_1, mkT_2, mkT_3, mkT_4, mkL_0, mkL_1, mkL_2, mkL_3, sq_l, sq_r, sq_o, sq_t, rg1, rg2, tg_n, tg_t, List.map_cons, List.map_nil, List.cons_append, List.nil_append, List.append_nil, List.replicate, List.set_cons_zero, List.set_cons_succ, List.getElem?_cons_zero, List.getElem?_cons_succ, Nat.reduceSub, Nat.reduceAdd, List.length_cons, List.length_nil, IE.esc, IE.inn, IL.all, IL.inn, IO.inn, II.esc, Option.map_some, if_true, if_false, ite_true, ite_false, reduceIte, decide_true, decide_false, Bool.not_true, Bool.not_false, Bool.false_eq_true, h2]
  simp -implicitDefEqProofs only [b_ok, b_exc, b_bad, x_cst, x_var, x_bin, x_neg, x_not, x_cmp, x_and, x_or, x_tup, x_lst, x_ix, x_slc, x_call, x_bi, x_isi, xl_nil, xl_cons, xo_none, xo_some, as_bind, s_pass, s_ex, s_set, s_par, s_unp, s_app, s_ret, s_retv, s_ite, s_whl, s_fors, s_brk, s_cnt, ss_nil, ss_cons, i_seq, i_rng, i_rng2, o_add, o_sub, o_mul, o_fdiv, o_mod, o_pow, o_addT, o_addL, o_neg, o_not, o_lt, o_le, o_gt, o_ge, o_eq, o_ne, o_eqB, o_neB, o_ixT, o_ixL, g_some, at_0, at_1, at_2, at_3, o_slcT, o_slcL, k_lenT, k_lenL, k_abs, k_int, k_intB, k_tupT, k_tupL, k_lstT, k_lstL, y_int, y_bl, y_tup, y_lst, y_str, y_non, j_and, j_or, j_opt, j_bool, j_ret, j_reto, p_val, p_own, p_rb, pa_n, pa_c, u_tup, pr_vv, ap_v, ap_o, aps, rt_v, rt_o, q_nx, q_bk, q_ct, q_rt, l_nx, l_bk, l_ct, l_rt, f_rt, f_nx, f_exc, v_eq, vo_v, vo_r, vo_o, ld_v, ld_o, ld_t, ld_r, z_nil, z_cons, z1_v, z1_o, z1_r, z1_n, obind, toVal_v, toVal_o, tv_nil, tv_v, tv_o, t_eq, l_eq, mkT_0, mkT_1, mkT_2, mkT_3, mkT_4, mkL_0, mkL_1, mkL_2, mkL_3, sq_l, sq_r, sq_o, sq_t, rg1, rg2, tg_n, tg_t, List.map_cons, List.map_nil, List.cons_append, List.nil_append, List.append_nil, List.replicate, List.set_cons_zero, List.set_cons_succ, List.getElem?_cons_zero, List.getElem?_cons_succ, Nat.reduceSub, Nat.reduceAdd, List.length_cons, List.length_nil, IE.esc, IE.inn, IL.all, IL.inn, IO.inn, II.esc, Option.map_some, if_true, if_false, ite_true, ite_false, reduceIte, decide_true, decide_false, Bool.not_true, Bool.not_false, Bool.false_eq_true] at h2 ⊢
  rw [h2]
  simp -implicitDefEqProofs only [b_ok, b_exc, b_bad, x_cst, x_var, x_bin, x_neg, x_not, x_cmp, x_and, x_or, x_tup, x_lst, x_ix, x_slc, x_call, x_bi, x_isi, xl_nil, xl_cons, xo_none, xo_some, as_bind, s_pass, s_ex, s_set, s_par, s_unp, s_app, s_ret, s_retv, s_ite, s_whl, s_fors, s_brk, s_cnt, ss_nil, ss_cons, i_seq, i_rng, i_rng2, o_add, o_sub, o_mul, o_fdiv, o_mod, o_pow, o_addT, o_addL, o_neg, o_not, o_lt, o_le, o_gt, o_ge, o_eq, o_ne, o_eqB, o_neB, o_ixT, o_ixL, g_some, at_0, at_1, at_2, at_3, o_slcT, o_slcL, k_lenT, k_lenL, k_abs, k_int, k_intB, k_tupT, k_tupL, k_lstT, k_lstL, y_int, y_bl, y_tup, y_lst, y_str, y_non, j_and, j_or, j_opt, j_bool, j_ret, j_reto, p_val, p_own, p_rb, pa_n, pa_c, u_tup, pr_vv, ap_v, ap_o, aps, rt_v, rt_o, q_nx, q_bk, q_ct, q_rt, l_nx, l_bk, l_ct, l_rt, f_rt, f_nx, f_exc, v_eq, vo_v, vo_r, vo_o, ld_v, ld_o, ld_t, ld_r, z_nil, z_cons, z1_v, z1_o, z1_r, z1_n, obind, toVal_v, toVal_o, tv_nil, tv_v, tv_o, t_eq, l_eq, mkT_0, mkT_1, mkT_2, mkT_3, mkT_4, mkL_0, mkL_1, mkL_2, mkL_3, sq_l, sq_r, sq_o, sq_t, rg1, rg2, tg_n, tg_t, List.map_cons, List.map_nil, List.cons_append, List.nil_append, List.append_nil, List.replicate, List.set_cons_zero, List.set_cons_succ, List.getElem?_cons_zero, List.getElem?_cons_succ, Nat.reduceSub, Nat.reduceAdd, List.length_cons, List.length_nil, IE.esc, IE.inn, IL.all, IL.inn, IO.inn, II.esc, Option.map_some, if_true, if_false, ite_true, ite_false, reduceIte, decide_true, decide_false, Bool.not_true, Bool.not_false, Bool.false_eq_true]
  rw [← h1]
  congr 3
  split <;> omega
theorem red_num (t : Int) {b : Int} (hb : b ≠ 0) : t.fdiv (if b < 0 then -(Int.gcd t b : Int) else (Int.gcd t b : Int)) = (Rat.divInt t b).num := by
  have hd : (Int.gcd t b : Int) ∣ t := Int.gcd_dvd_left ..
  rw [Rat.num_divInt, Int.gcd_comm b t]
  by_cases hn : b < 0
  · rw [if_pos hn, Int.fdiv_eq_ediv_of_dvd (Int.neg_dvd.mpr hd), Int.sign_eq_neg_one_of_neg hn, Int.ediv_neg, Int.neg_mul, Int.one_mul, Int.neg_ediv_of_dvd hd]
  · rw [if_neg hn, Int.fdiv_eq_ediv_of_dvd hd, Int.sign_eq_one_of_pos (by omega), Int.one_mul]
theorem red_den (t : Int) {b : Int} (hb : b ≠ 0) : b.fdiv (if b < 0 then -(Int.gcd t b : Int) else (Int.gcd t b : Int)) = ((Rat.divInt t b).den : Int) := by
  have hd : (Int.gcd t b : Int) ∣ b := Int.gcd_dvd_right ..
  rw [Rat.den_divInt, if_neg hb, Int.gcd_comm b t, Int.natCast_ediv]
  by_cases hn : b < 0
  · rw [if_pos hn, Int.fdiv_eq_ediv_of_dvd (Int.neg_dvd.mpr hd), Int.ediv_neg, ← Int.neg_ediv_of_dvd hd]
    congr 1
    omega
  · rw [if_neg hn, Int.fdiv_eq_ediv_of_dvd hd]
    congr 1
    omega
theorem gcd_ne {t b : Int} (hb : b ≠ 0) : (if b < 0 then -(Int.gcd t b : Int) else (Int.gcd t b : Int)) ≠ 0 := by
  have : 0 < Int.gcd t b := Int.gcd_pos_of_ne_zero_right _ hb
  split <;> omega
theorem gcd_big {n : Nat} {t b : Int} (hb : b ≠ 0) (h : Big n b) : Big n (if b < 0 then -(Int.gcd t b : Int) else (Int.gcd t b : Int)) := by
  have h1 : Int.gcd t b ≤ b.natAbs := Nat.le_of_dvd (by omega) (Int.gcd_dvd_natAbs_right ..)
  unfold Big at *
  split <;> omega
def fD (q : Rat) : D := .tup [.int q.num, .int (q.den : Int)]
structure Bd (n : Nat) (q : Rat) : Prop where
  num : Big n q.num
  den : Big n (q.den : Int)
theorem Bd.mono {m n : Nat} {q : Rat} (h : Bd m q) (l : m ≤ n) : Bd n q := ⟨h.num.mono l, h.den.mono l⟩
theorem den_ne (q : Rat) : (q.den : Int) ≠ 0 := by have := q.den_nz; omega
theorem Bd.of {n : Nat} {t b : Int} (hb : b ≠ 0) (h : Big n t) (g : Big n b) : Bd n (Rat.divInt t b) := by
  have hp : 0 < Int.gcd b t := Int.gcd_pos_of_ne_zero_left _ hb
  constructor
  · have h1 : ((Rat.divInt t b).num).natAbs ≤ t.natAbs := by
      rw [← red_num t hb]
      have hd : (if b < 0 then -(Int.gcd t b : Int) else (Int.gcd t b : Int)) ∣ t := by
        split
        · exact Int.neg_dvd.mpr (Int.gcd_dvd_left ..)
        · exact Int.gcd_dvd_left ..
      have e := Int.fdiv_mul_cancel hd
      have n0 := gcd_ne (t := t) hb
      generalize (if b < 0 then -(Int.gcd t b : Int) else (Int.gcd t b : Int)) = g at e n0
      rw [← congrArg Int.natAbs e, Int.natAbs_mul]
      exact Nat.le_mul_of_pos_right _ (by omega)
    exact Nat.lt_of_le_of_lt h1 h
  · have h1 : (Rat.divInt t b).den ≤ b.natAbs := by
      rw [Rat.den_divInt, if_neg hb]
      exact Nat.div_le_self ..
    unfold Big at *
    omega
def bFracOf (c : Nat) : ISs := (.cons (.ite (.cmp .eq (.var 1) (.cst (.int 0))) (.cons .nvr .nil) .nil) (.cons (.set 2 (.call c (.cons (.var 0) (.cons (.var 1) .nil)))) (.cons (.ite (.cmp .lt (.var 1) (.cst (.int 0))) (.cons (.set 2 (.neg (.var 2))) .nil) .nil) (.cons (.ret (.tup (.cons (.bin .fdiv (.var 0) (.var 2)) (.cons (.bin .fdiv (.var 1) (.var 2)) .nil)))) .nil))))
theorem fracof_ok {i c : Nat} (hc : fnsOf rows c = some ⟨2, 2, bCommon⟩) (h : fnsOf rows i = some ⟨2, 3, bFracOf c⟩) {n : Nat} (t : Int) {b : Int} (hb : b ≠ 0) (hB : Big n b) (hn : n ≤ 9000) (hW : b.natAbs < W) : callD (fnsOf rows) W (k + 2) i [(.int t, .val), (.int b, .val)] = .ok (fD (Rat.divInt t b), .val) := by
  refine Eq.trans (call_at h rfl) ?_
  unfold bFracOf
  have e := common_ok (k := k) hc t b hW
  have e0 : decide (b = 0) = false := decide_eq_false hb
  have g0 := gcd_ne (t := t) hb
  have g1 := divOkN_of g0 (gcd_big (t := t) hb hB) hn
  have n1 := red_num t hb
  have n2 := red_den t hb
  unfold fD
  rw [← n1, ← n2]
  by_cases hn : b < 0
  · rw [if_pos hn] at g1 ⊢
    have e1 : decide (b < 0) = true := decide_eq_true hn
    simp -implicitDefEqProofs only [b_ok, b_exc, b_bad, x_cst, x_var, x_bin, x_neg, x_not, x_cmp, x_and, x_or, x_tup, x_lst, x_ix, x_slc, x_call, x_bi, x_isi, xl_nil, xl_cons, xo_none, xo_some, as_bind, s_pass, s_ex, s_set, s_par, s_unp, s_app, s_ret, s_retv, s_ite, s_whl, s_fors, s_brk, s_cnt, ss_nil, ss_cons, i_seq, i_rng, i_rng2, o_add, o_sub, o_mul, o_fdiv, o_mod, o_pow, o_addT, o_addL, o_neg, o_not, o_lt, o_le, o_gt, o_ge, o_eq, o_ne, o_eqB, o_neB, o_ixT, o_ixL, g_some, at_0, at_1, at_2, at_3, o_slcT, o_slcL, k_lenT, k_lenL, k_abs, k_int, k_intB, k_tupT, k_tupL, k_lstT, k_lstL, y_int, y_bl, y_tup, y_lst, y_str, y_non, j_and, j_or, j_opt, j_bool, j_ret, j_reto, p_val, p_own, p_rb, pa_n, pa_c, u_tup, pr_vv, ap_v, ap_o, aps, rt_v, rt_o, q_nx, q_bk, q_ct, q_rt, l_nx, l_bk, l_ct, l_rt, f_rt, f_nx, f_exc, v_eq, vo_v, vo_r, vo_o, ld_v, ld_o, ld_t, ld_r, z_nil, z_cons, z1_v, z1_o, z1_r, z1_n, obind, toVal_v, toVal_o, tv_nil, tv_v, tv_o, t_eq, l_eq, mkT_0, mkT_1, mkT_2, mkT_3, mkT_4, mkL_0, mkL_1, mkL_2, mkL_3, sq_l, sq_r, sq_o, sq_t, rg1, rg2, tg_n, tg_t, List.map_cons, List.map_nil, List.cons_append, List.nil_append, List.append_nil, List.replicate, List.set_cons_zero, List.set_cons_succ, List.getElem?_cons_zero, List.getElem?_cons_succ, Nat.reduceSub, Nat.reduceAdd, List.length_cons, List.length_nil, IE.esc, IE.inn, IL.all, IL.inn, IO.inn, II.esc, Option.map_some, if_true, if_false, ite_true, ite_false, reduceIte, decide_true, decide_false, Bool.not_true, Bool.not_false, Bool.false_eq_true, e0, e, e1, g1]
  · rw [if_neg hn] at g1 ⊢
    have e1 : decide (b < 0) = false := decide_eq_false hn
    simp -implicitDefEqProofs only [b_ok, b_exc, b_bad, x_cst, x_var, x_bin, x_neg, x_not, x_cmp, x_and, x_or, x_tup, x_lst, x_ix, x_slc, x_call, x_bi, x_isi, xl_nil, xl_cons, xo_none, xo_some, as_bind, s_pass, s_ex, s_set, s_par, s_unp, s_app, s_ret, s_retv, s_ite, s_whl, s_fors, s_brk, s_cnt, ss_nil, ss_cons, i_seq, i_rng, i_rng2, o_add, o_sub, o_mul, o_fdiv, o_mod, o_pow, o_addT, o_addL, o_neg, o_not, o_lt, o_le, o_gt, o_ge, o_eq, o_ne, o_eqB, o_neB, o_ixT, o_ixL, g_some, at_0, at_1, at_2, at_3, o_slcT, o_slcL, k_lenT, k_lenL, k_abs, k_int, k_intB, k_tupT, k_tupL, k_lstT, k_lstL, y_int, y_bl, y_tup, y_lst, y_str, y_non, j_and, j_or, j_opt, j_bool, j_ret, j_reto, p_val, p_own, p_rb, pa_n, pa_c, u_tup, pr_vv, ap_v, ap_o, aps, rt_v, rt_o, q_nx, q_bk, q_ct, q_rt, l_nx, l_bk, l_ct, l_rt, f_rt, f_nx, f_exc, v_eq, vo_v, vo_r, vo_o, ld_v, ld_o, ld_t, ld_r, z_nil, z_cons, z1_v, z1_o, z1_r, z1_n, obind, toVal_v, toVal_o, tv_nil, tv_v, tv_o, t_eq, l_eq, mkT_0, mkT_1, mkT_2, mkT_3, mkT_4, mkL_0, mkL_1, mkL_2, mkL_3, sq_l, sq_r, sq_o, sq_t, rg1, rg2, tg_n, tg_t, List.map_cons, List.map_nil, List.cons_append, List.nil_append, List.append_nil, List.replicate, List.set_cons_zero, List.set_cons_succ, List.getElem?_cons_zero, List.getElem?_cons_succ, Nat.reduceSub, Nat.reduceAdd, List.length_cons, List.length_nil, IE.esc, IE.inn, IL.all, IL.inn, IO.inn, II.esc, Option.map_some, if_true, if_false, ite_true, ite_false, reduceIte, decide_true, decide_false, Bool.not_true, Bool.not_false, Bool.false_eq_true, e0, e, e1, g1]
def bSum (f : Nat) : ISs := (.cons (.ret (.call f (.cons (.bin .add (.bin .mul (.ix (.var 0) (.cst (.int 0))) (.ix (.var 1) (.cst (.int 1)))) (.bin .mul (.ix (.var 1) (.cst (.int 0))) (.ix (.var 0) (.cst (.int 1))))) (.cons (.bin .mul (.ix (.var 0) (.cst (.int 1))) (.ix (.var 1) (.cst (.int 1)))) .nil)))) .nil)
def bLess (f : Nat) : ISs := (.cons (.ret (.call f (.cons (.bin .sub (.bin .mul (.ix (.var 0) (.cst (.int 0))) (.ix (.var 1) (.cst (.int 1)))) (.bin .mul (.ix (.var 1) (.cst (.int 0))) (.ix (.var 0) (.cst (.int 1))))) (.cons (.bin .mul (.ix (.var 0) (.cst (.int 1))) (.ix (.var 1) (.cst (.int 1)))) .nil)))) .nil)
def bTimes (f : Nat) : ISs := (.cons (.ret (.call f (.cons (.bin .mul (.ix (.var 0) (.cst (.int 0))) (.ix (.var 1) (.cst (.int 0)))) (.cons (.bin .mul (.ix (.var 0) (.cst (.int 1))) (.ix (.var 1) (.cst (.int 1)))) .nil)))) .nil)
def bBy (f : Nat) : ISs := (.cons (.ite (.cmp .eq (.ix (.var 1) (.cst (.int 0))) (.cst (.int 0))) (.cons .nvr .nil) .nil) (.cons (.ret (.call f (.cons (.bin .mul (.ix (.var 0) (.cst (.int 0))) (.ix (.var 1) (.cst (.int 1)))) (.cons (.bin .mul (.ix (.var 0) (.cst (.int 1))) (.ix (.var 1) (.cst (.int 0)))) .nil)))) .nil))
def bLesser : ISs := (.cons (.ret (.cmp .lt (.bin .mul (.ix (.var 0) (.cst (.int 0))) (.ix (.var 1) (.cst (.int 1)))) (.bin .mul (.ix (.var 1) (.cst (.int 0))) (.ix (.var 0) (.cst (.int 1)))))) .nil)
structure FrOk (rows : List DRow) (W : Nat) (ic iff : Nat) : Prop where
  c : fnsOf rows ic = some ⟨2, 2, bCommon⟩
  f : fnsOf rows iff = some ⟨2, 3, bFracOf ic⟩
  W : ∀ n, n ≤ 9000 → 2 ^ n ≤ W
theorem fD_add (p q : Rat) : p + q = Rat.divInt (p.num * q.den + q.num * p.den) (p.den * q.den) := by
  rw [Rat.add_def', ← Rat.divInt_ofNat, Int.natCast_mul]
theorem fD_sub (p q : Rat) : p - q = Rat.divInt (p.num * q.den - q.num * p.den) (p.den * q.den) := by
  rw [Rat.sub_def', ← Rat.divInt_ofNat, Int.natCast_mul]
theorem fD_mul (p q : Rat) : p * q = Rat.divInt (p.num * q.num) (p.den * q.den) := by
  rw [Rat.mul_def', ← Rat.divInt_ofNat, Int.natCast_mul]
theorem fD_div (p q : Rat) : p / q = Rat.divInt (p.num * q.den) (p.den * q.num) := by
  rw [Rat.div_def, Rat.inv_def]
  have h := Rat.num_divInt_den p
  calc p * Rat.divInt q.den q.num = Rat.divInt p.num p.den * Rat.divInt q.den q.num := by rw [h]
    _ = _ := Rat.divInt_mul_divInt ..
theorem Bd.add {n : Nat} {p q : Rat} {m : Nat} (h : Bd n p) (g : Bd m q) : Bd (n + m + 1) (p + q) := by
  rw [fD_add]
  refine Bd.of (Int.mul_ne_zero (den_ne p) (den_ne q)) ?_ ((h.den.mul g.den).mono (by omega))
  exact (h.num.mul g.den).add ((g.num.mul h.den).mono (by omega))
theorem Bd.sub {n : Nat} {p q : Rat} {m : Nat} (h : Bd n p) (g : Bd m q) : Bd (n + m + 1) (p - q) := by
  rw [fD_sub]
  refine Bd.of (Int.mul_ne_zero (den_ne p) (den_ne q)) ?_ ((h.den.mul g.den).mono (by omega))
  exact (h.num.mul g.den).sub ((g.num.mul h.den).mono (by omega))
theorem Bd.mul {n : Nat} {p q : Rat} {m : Nat} (h : Bd n p) (g : Bd m q) : Bd (n + m) (p * q) := by
  rw [fD_mul]
  exact Bd.of (Int.mul_ne_zero (den_ne p) (den_ne q)) (h.num.mul g.num) (h.den.mul g.den)
theorem num_ne {q : Rat} (h : q ≠ 0) : q.num ≠ 0 := fun e => h (Rat.num_eq_zero.mp e)
theorem Bd.div {n : Nat} {p q : Rat} {m : Nat} (h : Bd n p) (g : Bd m q) (hq : q ≠ 0) : Bd (n + m) (p / q) := by
  rw [fD_div]
  exact Bd.of (Int.mul_ne_zero (den_ne p) (num_ne hq)) (h.num.mul g.den) (h.den.mul g.num)
section
variable {ic iff i n m : Nat} {p q : Rat}
theorem sum_ok (F : FrOk rows W ic iff) (h : fnsOf rows i = some ⟨2, 2, bSum iff⟩) (hp : Bd n p) (hq : Bd m q) (hn : n + m ≤ 9000) : callD (fnsOf rows) W (k + 3) i [(fD p, .val), (fD q, .val)] = .ok (fD (p + q), .val) := by
  refine Eq.trans (call_at h rfl) ?_
  have a1 := mulOk_of hp.num hq.den (by omega) (by omega)
  have a2 := mulOk_of hq.num hp.den (by omega) (by omega)
  have a3 := mulOk_of hp.den hq.den (by omega) (by omega)
  have B := hp.den.mul hq.den
  have e := fracof_ok (k := k) F.c F.f (p.num * q.den + q.num * p.den) (Int.mul_ne_zero (den_ne p) (den_ne q)) B hn (Nat.lt_of_lt_of_le B (F.W _ hn))
  rw [← fD_add] at e
  unfold bSum
  generalize hr : fD (p + q) = r at e ⊢
  unfold fD
  simp -implicitDefEqProofs only [b_ok, b_exc, b_bad, x_cst, x_var, x_bin, x_neg, x_not, x_cmp, x_and, x_or, x_tup, x_lst, x_ix, x_slc, x_call, x_bi, x_isi, xl_nil, xl_cons, xo_none, xo_some, as_bind, s_pass, s_ex, s_set, s_par, s_unp, s_app, s_ret, s_retv, s_ite, s_whl, s_fors, s_brk, s_cnt, ss_nil, ss_cons, i_seq, i_rng, i_rng2, o_add, o_sub, o_mul, o_fdiv, o_mod, o_pow, o_addT, o_addL, o_neg, o_not, o_lt, o_le, o_gt, o_ge, o_eq, o_ne, o_eqB, o_neB, o_ixT, o_ixL, g_some, at_0, at_1, at_2, at_3, o_slcT, o_slcL, k_lenT, k_lenL, k_abs, k_int, k_intB, k_tupT, k_tupL, k_lstT, k_lstL, y_int, y_bl, y_tup, y_lst, y_str, y_non, j_and, j_or, j_opt, j_bool, j_ret, j_reto, p_val, p_own, p_rb, pa_n, pa_c, u_tup, pr_vv, ap_v, ap_o, aps, rt_v, rt_o, q_nx, q_bk, q_ct, q_rt, l_nx, l_bk, l_ct, l_rt, f_rt, f_nx, f_exc, v_eq, vo_v, vo_r, vo_o, ld_v, ld_o, ld_t, ld_r, z_nil, z_cons, z1_v, z1_o, z1_r, z1_n, obind, toVal_v, toVal_o, tv_nil, tv_v, tv_o, t_eq, l_eq, mkT_0, mkT_1, mkT_2, mkT_3, mkT_4, mkL_0, mkL_1, mkL_2, mkL_3, sq_l, sq_r, sq_o, sq_t, rg1, rg2, tg_n, tg_t, List.map_cons, List.map_nil, List.cons_append, List.nil_append, List.append_nil, List.replicate, List.set_cons_zero, List.set_cons_succ, List.getElem?_cons_zero, List.getElem?_cons_succ, Nat.reduceSub, Nat.reduceAdd, List.length_cons, List.length_nil, IE.esc, IE.inn, IL.all, IL.inn, IO.inn, II.esc, Option.map_some, if_true, if_false, ite_true, ite_false, reduceIte, decide_true, decide_false, Bool.not_true, Bool.not_false, Bool.false_eq_true, a1, a2, a3, e]
theorem less_ok (F : FrOk rows W ic iff) (h : fnsOf rows i = some ⟨2, 2, bLess iff⟩) (hp : Bd n p) (hq : Bd m q) (hn : n + m ≤ 9000) : callD (fnsOf rows) W (k + 3) i [(fD p, .val), (fD q, .val)] = .ok (fD (p - q), .val) := by
  refine Eq.trans (call_at h rfl) ?_
  have a1 := mulOk_of hp.num hq.den (by omega) (by omega)
  have a2 := mulOk_of hq.num hp.den (by omega) (by omega)
  have a3 := mulOk_of hp.den hq.den (by omega) (by omega)
  have B := hp.den.mul hq.den
  have e := fracof_ok (k := k) F.c F.f (p.num * q.den - q.num * p.den) (Int.mul_ne_zero (den_ne p) (den_ne q)) B hn (Nat.lt_of_lt_of_le B (F.W _ hn))
  rw [← fD_sub] at e
  unfold bLess
  generalize hr : fD (p - q) = r at e ⊢
  unfold fD
  simp -implicitDefEqProofs only [b_ok, b_exc, b_bad, x_cst, x_var, x_bin, x_neg, x_not, x_cmp, x_and, x_or, x_tup, x_lst, x_ix, x_slc, x_call, x_bi, x_isi, xl_nil, xl_cons, xo_none, xo_some, as_bind, s_pass, s_ex, s_set, s_par, s_unp, s_app, s_ret, s_retv, s_ite, s_whl, s_fors, s_brk, s_cnt, ss_nil, ss_cons, i_seq, i_rng, i_rng2, o_add, o_sub, o_mul, o_fdiv, o_mod, o_pow, o_addT, o_addL, o_neg, o_not, o_lt, o_le, o_gt, o_ge, o_eq, o_ne, o_eqB, o_neB, o_ixT, o_ixL, g_some, at_0, at_1, at_2, at_3, o_slcT, o_slcL, k_lenT, k_lenL, k_abs, k_int, k_intB, k_tupT, k_tupL, k_lstT, k_lstL, y_int, y_bl, y_tup, y_lst, y_str, y_non, j_and, j_or, j_opt, j_bool, j_ret, j_reto, p_val, p_own, p_rb, pa_n, pa_c, u_tup, pr_vv, ap_v, ap_o, aps, rt_v, rt_o, q_nx, q_bk, q_ct, q_rt, l_nx, l_bk, l_ct, l_rt, f_rt, f_nx, f_exc, v_eq, vo_v, vo_r, vo_o, ld_v, ld_o, ld_t, ld_r, z_nil, z_cons, z1_v, z1_o, z1_r, z1_n, obind, toVal_v, toVal_o, tv_nil, tv_v, tv_o, t_eq, l_eq, mkT_0, mkT_1, mkT_2, mkT_3, mkT_4, mkL_0, mkL_1, mkL_2, mkL_3, sq_l, sq_r, sq_o, sq_t, rg1, rg2, tg_n, tg_t, List.map_cons, List.map_nil, List.cons_append, List.nil_append, List.append_nil, List.replicate, List.set_cons_zero, List.set_cons_succ, List.getElem?_cons_zero, List.getElem?_cons_succ, Nat.reduceSub, Nat.reduceAdd, List.length_cons, List.length_nil, IE.esc, IE.inn, IL.all, IL.inn, IO.inn, II.esc, Option.map_some, if_true, if_false, ite_true, ite_false, reduceIte, decide_true, decide_false, Bool.not_true, Bool.not_false, Bool.false_eq_true, a1, a2, a3, e]
theorem times_ok (F : FrOk rows W ic iff) (h : fnsOf rows i = some ⟨2, 2, bTimes iff⟩) (hp : Bd n p) (hq : Bd m q) (hn : n + m ≤ 9000) : callD (fnsOf rows) W (k + 3) i [(fD p, .val), (fD q, .val)] = .ok (fD (p * q), .val) := by
  refine Eq.trans (call_at h rfl) ?_
  have a1 := mulOk_of hp.num hq.num (by omega) (by omega)
  have a3 := mulOk_of hp.den hq.den (by omega) (by omega)
  have B := hp.den.mul hq.den
  have e := fracof_ok (k := k) F.c F.f (p.num * q.num) (Int.mul_ne_zero (den_ne p) (den_ne q)) B hn (Nat.lt_of_lt_of_le B (F.W _ hn))
  rw [← fD_mul] at e
  unfold bTimes
  generalize hr : fD (p * q) = r at e ⊢
  unfold fD
  simp -implicitDefEqProofs only [b_ok, b_exc, b_bad, x_cst, x_var, x_bin, x_neg, x_not, x_cmp, x_and, x_or, x_tup, x_lst, x_ix, x_slc, x_call, x_bi, x_isi, xl_nil, xl_cons, xo_none, xo_some, as_bind, s_pass, s_ex, s_set, s_par, s_unp, s_app, s_ret, s_retv, s_ite, s_whl, s_fors, s_brk, s_cnt, ss_nil, ss_cons, i_seq, i_rng, i_rng2, o_add, o_sub, o_mul, o_fdiv, o_mod, o_pow, o_addT, o_addL, o_neg, o_not, o_lt, o_le, o_gt, o_ge, o_eq, o_ne, o_eqB, o_neB, o_ixT, o_ixL, g_some, at_0, at_1, at_2, at_3, o_slcT, o_slcL, k_lenT, k_lenL, k_abs, k_int, k_intB, k_tupT, k_tupL, k_lstT, k_lstL, y_int, y_bl, y_tup, y_lst, y_str, y_non, j_and, j_or, j_opt, j_bool, j_ret, j_reto, p_val, p_own, p_rb, pa_n, pa_c, u_tup, pr_vv, ap_v, ap_o, aps, rt_v, rt_o, q_nx, q_bk, q_ct, q_rt, l_nx, l_bk, l_ct, l_rt, f_rt, f_nx, f_exc, v_eq, vo_v, vo_r, vo_o, ld_v, ld_o, ld_t, ld_r, z_nil, z_cons, z1_v, z1_o, z1_r, z1_n, obind, toVal_v, toVal_o, tv_nil, tv_v, tv_o, t_eq, l_eq, mkT_0, mkT_1, mkT_2, mkT_3, mkT_4, mkL_0, mkL_1, mkL_2, mkL_3, sq_l, sq_r, sq_o, sq_t, rg1, rg2, tg_n, tg_t, List.map_cons, List.map_nil, List.cons_append, List.nil_append, List.append_nil, List.replicate, List.set_cons_zero, List.set_cons_succ, List.getElem?_cons_zero, List.getElem?_cons_succ, Nat.reduceSub, Nat.reduceAdd, List.length_cons, List.length_nil, IE.esc, IE.inn, IL.all, IL.inn, IO.inn, II.esc, Option.map_some, if_true, if_false, ite_true, ite_false, reduceIte, decide_true, decide_false, Bool.not_true, Bool.not_false, Bool.false_eq_true, a1, a3, e]
theorem by_ok (F : FrOk rows W ic iff) (h : fnsOf rows i = some ⟨2, 2, bBy iff⟩) (hp : Bd n p) (hq : Bd m q) (h0 : q ≠ 0) (hn : n + m ≤ 9000) : callD (fnsOf rows) W (k + 3) i [(fD p, .val), (fD q, .val)] = .ok (fD (p / q), .val) := by
  refine Eq.trans (call_at h rfl) ?_
  have a1 := mulOk_of hp.num hq.den (by omega) (by omega)
  have a3 := mulOk_of hp.den hq.num (by omega) (by omega)
  have B := hp.den.mul hq.num
  have e := fracof_ok (k := k) F.c F.f (p.num * q.den) (Int.mul_ne_zero (den_ne p) (num_ne h0)) B hn (Nat.lt_of_lt_of_le B (F.W _ hn))
  rw [← fD_div] at e
  have e0 : decide (q.num = 0) = false := decide_eq_false (num_ne h0)
  unfold bBy
  generalize hr : fD (p / q) = r at e ⊢
  unfold fD
  simp -implicitDefEqProofs only [b_ok, b_exc, b_bad, x_cst, x_var, x_bin, x_neg, x_not, x_cmp, x_and, x_or, x_tup, x_lst, x_ix, x_slc, x_call, x_bi, x_isi, xl_nil, xl_cons, xo_none, xo_some, as_bind, s_pass, s_ex, s_set, s_par, s_unp, s_app, s_ret, s_retv, s_ite, s_whl, s_fors, s_brk, s_cnt, ss_nil, ss_cons, i_seq, i_rng, i_rng2, o_add, o_sub, o_mul, o_fdiv, o_mod, o_pow, o_addT, o_addL, o_neg, o_not, o_lt, o_le, o_gt, o_ge, o_eq, o_ne, o_eqB, o_neB, o_ixT, o_ixL, g_some, at_0, at_1, at_2, at_3, o_slcT, o_slcL, k_lenT, k_lenL, k_abs, k_int, k_intB, k_tupT, k_tupL, k_lstT, k_lstL, y_int, y_bl, y_tup, y_lst, y_str, y_non, j_and, j_or, j_opt, j_bool, j_ret, j_reto, p_val, p_own, p_rb, pa_n, pa_c, u_tup, pr_vv, ap_v, ap_o, aps, rt_v, rt_o, q_nx, q_bk, q_ct, q_rt, l_nx, l_bk, l_ct, l_rt, f_rt, f_nx, f_exc, v_eq, vo_v, vo_r, vo_o, ld_v, ld_o, ld_t, ld_r, z_nil, z_cons, z1_v, z1_o, z1_r, z1_n, obind, toVal_v, toVal_o, tv_nil, tv_v, tv_o, t_eq, l_eq, mkT_0, mkT_1, mkT_2, mkT_3, mkT_4, mkL_0, mkL_1, mkL_2, mkL_3, sq_l, sq_r, sq_o, sq_t, rg1, rg2, tg_n, tg_t, List.map_cons, List.map_nil, List.cons_append, List.nil_append, List.append_nil, List.replicate, List.set_cons_zero, List.set_cons_succ, List.getElem?_cons_zero, List.getElem?_cons_succ, Nat.reduceSub, Nat.reduceAdd, List.length_cons, List.length_nil, IE.esc, IE.inn, IL.all, IL.inn, IO.inn, II.esc, Option.map_some, if_true, if_false, ite_true, ite_false, reduceIte, decide_true, decide_false, Bool.not_true, Bool.not_false, Bool.false_eq_true, a1, a3, e, e0]
theorem lesser_ok (h : fnsOf rows i = some ⟨2, 2, bLesser⟩) (hp : Bd n p) (hq : Bd m q) (hn : n ≤ 9000) (hm : m ≤ 9000) : callD (fnsOf rows) W (k + 1) i [(fD p, .val), (fD q, .val)] = .ok (.bl (decide (p < q)), .val) := by
  refine Eq.trans (call_at h rfl) ?_
  have a1 := mulOk_of hp.num hq.den (by omega) (by omega)
  have a2 := mulOk_of hq.num hp.den (by omega) (by omega)
  unfold bLesser fD
  simp -implicitDefEqProofs only [b_ok, b_exc, b_bad, x_cst, x_var, x_bin, x_neg, x_not, x_cmp, x_and, x_or, x_tup, x_lst, x_ix, x_slc, x_call, x_bi, x_isi, xl_nil, xl_cons, xo_none, xo_some, as_bind, s_pass, s_ex, s_set, s_par, s_unp, s_app, s_ret, s_retv, s_ite, s_whl, s_fors, s_brk, s_cnt, ss_nil, ss_cons, i_seq, i_rng, i_rng2, o_add, o_sub, o_mul, o_fdiv, o_mod, o_pow, o_addT, o_addL, o_neg, o_not, o_lt, o_le, o_gt, o_ge, o_eq, o_ne, o_eqB, o_neB, o_ixT, o_ixL, g_some, at_0, at_1, at_2, at_3, o_slcT, o_slcL, k_lenT, k_lenL, k_abs, k_int, k_intB, k_tupT, k_tupL, k_lstT, k_lstL, y_int, y_bl, y_tup, y_lst, y_str, y_non, j_and, j_or, j_opt, j_bool, j_ret, j_reto, p_val, p_own, p_rb, pa_n, pa_c, u_tup, pr_vv, ap_v, ap_o, aps, rt_v, rt_o, q_nx, q_bk, q_ct, q_rt, l_nx, l_bk, l_ct, l_rt, f_rt, f_nx, f_exc, v_eq, vo_v, vo_r, vo_o, ld_v, ld_o, ld_t, ld_r, z_nil, z_cons, z1_v, z1_o, z1_r, z1_n, obind, toVal_v, toVal_o, tv_nil, tv_v, tv_o, t_eq, l_eq, mkT_0, mkT_1, mkT_2, mkT_3, mkT_4, mkL_0, mkL_1, mkL_2, mkL_3, sq_l, sq_r, sq_o, sq_t, rg1, rg2, tg_n, tg_t, List.map_cons, List.map_nil, List.cons_append, List.nil_append, List.append_nil, List.replicate, List.set_cons_zero, List.set_cons_succ, List.getElem?_cons_zero, List.getElem?_cons_succ, Nat.reduceSub, Nat.reduceAdd, List.length_cons, List.length_nil, IE.esc, IE.inn, IL.all, IL.inn, IO.inn, II.esc, Option.map_some, if_true, if_false, ite_true, ite_false, reduceIte, decide_true, decide_false, Bool.not_true, Bool.not_false, Bool.false_eq_true, a1, a2, Rat.lt_iff]
end
theorem eqv_int (a b : Int) : PyData.eqv (.int a) (.int b) = decide (a = b) := rfl
theorem eq_frac (p q : Rat) : eqD (fD p) (fD q) = some (decide (p = q)) := by
  have h : eqD (fD p) (fD q) = some (decide (p.num = q.num) && (decide ((p.den : Int) = q.den) && true)) := rfl
  rw [h]
  congr 1
  by_cases e : p = q
  · subst e
    simp
  · rw [decide_eq_false e]
    by_cases e1 : p.num = q.num
    · have e2 : (p.den : Int) ≠ q.den := fun z => e (Rat.ext e1 (by omega))
      simp [e2]
    · simp [e1]
theorem cmp_eqF (p q : Rat) {m n : Md} : cmpD .eq (fD p, m) (fD q, n) = .ok (.bl (decide (p = q)), .val) := by
  show (match eqD (fD p) (fD q) with | some b => okB b | none => .bad) = _
  rw [eq_frac]
  rfl
theorem cmp_neF (p q : Rat) {m n : Md} : cmpD .ne (fD p, m) (fD q, n) = .ok (.bl (!decide (p = q)), .val) := by
  show (match eqD (fD p) (fD q) with | some b => okB (!b) | none => .bad) = _
  rw [eq_frac]
  rfl
end Ev
namespace K03
open PySem PySem.Spec PyProof.Rows L2 Ev
def top (i : Nat) : Stmt := PySem.Challenge.pw_everydraw_k03_whole_walks_of_fractions.main.body.getD i (.Pass ⟨0, 0, 0, 0⟩)
def dd (x : Str) (i : Nat) : He.DefD := ⟨(x, none), x, x, defArgs (top i), defBody (top i), defScope (top i), [], []⟩
/-- common -/
def b0 : ISs := (.cons (.whl (.cmp .ne (.var 1) (.cst (.int 0))) (.cons (.par 0 1 (.var 1) (.bin .mod (.var 0) (.var 1))) .nil)) (.cons (.ret (.bi .abs (.var 0))) .nil))
def w0 : DRow := ⟨dd "common" 4, ["one", "other"], ["one", "other"], ⟨2, 2, b0⟩⟩
/-- fraction_of -/
def b1 : ISs := (.cons (.ite (.cmp .eq (.var 1) (.cst (.int 0))) (.cons .nvr .nil) .nil) (.cons (.set 2 (.call 0 (.cons (.var 0) (.cons (.var 1) .nil)))) (.cons (.ite (.cmp .lt (.var 1) (.cst (.int 0))) (.cons (.set 2 (.neg (.var 2))) .nil) .nil) (.cons (.ret (.tup (.cons (.bin .fdiv (.var 0) (.var 2)) (.cons (.bin .fdiv (.var 1) (.var 2)) .nil)))) .nil))))
def w1 : DRow := ⟨dd "fraction_of" 5, ["top", "bottom", "by"], ["top", "bottom"], ⟨2, 3, b1⟩⟩
/-- frac_sum -/
def b2 : ISs := (.cons (.ret (.call 1 (.cons (.bin .add (.bin .mul (.ix (.var 0) (.cst (.int 0))) (.ix (.var 1) (.cst (.int 1)))) (.bin .mul (.ix (.var 1) (.cst (.int 0))) (.ix (.var 0) (.cst (.int 1))))) (.cons (.bin .mul (.ix (.var 0) (.cst (.int 1))) (.ix (.var 1) (.cst (.int 1)))) .nil)))) .nil)
def w2 : DRow := ⟨dd "frac_sum" 6, ["one", "other"], ["one", "other"], ⟨2, 2, b2⟩⟩
/-- frac_less -/
def b3 : ISs := (.cons (.ret (.call 1 (.cons (.bin .sub (.bin .mul (.ix (.var 0) (.cst (.int 0))) (.ix (.var 1) (.cst (.int 1)))) (.bin .mul (.ix (.var 1) (.cst (.int 0))) (.ix (.var 0) (.cst (.int 1))))) (.cons (.bin .mul (.ix (.var 0) (.cst (.int 1))) (.ix (.var 1) (.cst (.int 1)))) .nil)))) .nil)
def w3 : DRow := ⟨dd "frac_less" 7, ["one", "other"], ["one", "other"], ⟨2, 2, b3⟩⟩
/-- frac_times -/
def b4 : ISs := (.cons (.ret (.call 1 (.cons (.bin .mul (.ix (.var 0) (.cst (.int 0))) (.ix (.var 1) (.cst (.int 0)))) (.cons (.bin .mul (.ix (.var 0) (.cst (.int 1))) (.ix (.var 1) (.cst (.int 1)))) .nil)))) .nil)
def w4 : DRow := ⟨dd "frac_times" 8, ["one", "other"], ["one", "other"], ⟨2, 2, b4⟩⟩
/-- frac_by -/
def b5 : ISs := (.cons (.ite (.cmp .eq (.ix (.var 1) (.cst (.int 0))) (.cst (.int 0))) (.cons .nvr .nil) .nil) (.cons (.ret (.call 1 (.cons (.bin .mul (.ix (.var 0) (.cst (.int 0))) (.ix (.var 1) (.cst (.int 1)))) (.cons (.bin .mul (.ix (.var 0) (.cst (.int 1))) (.ix (.var 1) (.cst (.int 0)))) .nil)))) .nil))
def w5 : DRow := ⟨dd "frac_by" 9, ["one", "other"], ["one", "other"], ⟨2, 2, b5⟩⟩
/-- frac_lesser -/
def b6 : ISs := (.cons (.ret (.cmp .lt (.bin .mul (.ix (.var 0) (.cst (.int 0))) (.ix (.var 1) (.cst (.int 1)))) (.bin .mul (.ix (.var 1) (.cst (.int 0))) (.ix (.var 0) (.cst (.int 1)))))) .nil)
def w6 : DRow := ⟨dd "frac_lesser" 10, ["one", "other"], ["one", "other"], ⟨2, 2, b6⟩⟩
/-- _law_whole -/
def b7 : ISs := (.cons (.ret (.and (.isi .int (.var 0)) (.not (.isi .bool (.var 0))))) .nil)
def w7 : DRow := ⟨dd "_law_whole" 12, ["_law_found"], ["_law_found"], ⟨1, 1, b7⟩⟩
/-- _law_fraction -/
def b8 : ISs := (.cons (.set 2 (.bi .abs (.var 0))) (.cons (.set 3 (.bi .abs (.var 1))) (.cons (.whl (.cmp .gt (.var 3) (.cst (.int 0))) (.cons (.par 2 3 (.var 3) (.bin .mod (.var 2) (.var 3))) .nil)) (.cons (.ite (.cmp .lt (.var 1) (.cst (.int 0))) (.cons (.set 2 (.bin .sub (.cst (.int 0)) (.var 2))) .nil) .nil) (.cons (.ret (.tup (.cons (.bin .fdiv (.var 0) (.var 2)) (.cons (.bin .fdiv (.var 1) (.var 2)) .nil)))) .nil)))))
def w8 : DRow := ⟨dd "_law_fraction" 13, ["_law_top", "_law_bottom", "_law_one", "_law_other"], ["_law_top", "_law_bottom"], ⟨2, 4, b8⟩⟩
/-- _law_same_fraction -/
def b9 : ISs := (.cons (.ite (.or (.not (.isi .tuple (.var 0))) (.cmp .ne (.bi .len (.var 0)) (.cst (.int 2)))) (.cons (.ret (.cst (.bl false))) .nil) .nil) (.cons (.ret (.and (.call 7 (.cons (.ix (.var 0) (.cst (.int 0))) .nil)) (.and (.call 7 (.cons (.ix (.var 0) (.cst (.int 1))) .nil)) (.cmp .eq (.var 0) (.var 1))))) .nil))
def w9 : DRow := ⟨dd "_law_same_fraction" 14, ["_law_found", "_law_due"], ["_law_found", "_law_due"], ⟨2, 2, b9⟩⟩
/-- _law_drawn -/
def b10 : ISs := (.cons (.set 1 (.bin .fdiv (.var 0) (.cst (.int 4)))) (.cons (.ret (.call 8 (.cons (.bin .sub (.bin .mod (.var 1) (.bin .add (.bin .mul (.cst (.int 2)) (.bin .pow (.cst (.int 10)) (.cst (.int 9)))) (.cst (.int 1)))) (.bin .pow (.cst (.int 10)) (.cst (.int 9)))) (.cons (.bin .add (.cst (.int 1)) (.bin .mod (.bin .fdiv (.var 1) (.bin .add (.bin .mul (.cst (.int 2)) (.bin .pow (.cst (.int 10)) (.cst (.int 9)))) (.cst (.int 1)))) (.bin .pow (.cst (.int 10)) (.cst (.int 9))))) .nil)))) .nil))
def w10 : DRow := ⟨dd "_law_drawn" 15, ["_law_cell", "_law_rest"], ["_law_cell"], ⟨1, 2, b10⟩⟩
/-- _law_deed -/
def b11 : ISs := (.cons (.unp [4, 5] (.var 1)) (.cons (.ite (.cmp .eq (.var 3) (.cst (.int 0))) (.cons (.ret (.tup (.cons (.call 2 (.cons (.var 0) (.cons (.var 2) .nil))) (.cons (.tup (.cons (.bin .add (.bin .mul (.var 4) (.ix (.var 2) (.cst (.int 1)))) (.bin .mul (.ix (.var 2) (.cst (.int 0))) (.var 5))) (.cons (.bin .mul (.var 5) (.ix (.var 2) (.cst (.int 1)))) .nil))) .nil)))) .nil) .nil) (.cons (.ite (.cmp .eq (.var 3) (.cst (.int 1))) (.cons (.ret (.tup (.cons (.call 3 (.cons (.var 0) (.cons (.var 2) .nil))) (.cons (.tup (.cons (.bin .sub (.bin .mul (.var 4) (.ix (.var 2) (.cst (.int 1)))) (.bin .mul (.ix (.var 2) (.cst (.int 0))) (.var 5))) (.cons (.bin .mul (.var 5) (.ix (.var 2) (.cst (.int 1)))) .nil))) .nil)))) .nil) .nil) (.cons (.ite (.cmp .eq (.var 3) (.cst (.int 2))) (.cons (.ret (.tup (.cons (.call 4 (.cons (.var 0) (.cons (.var 2) .nil))) (.cons (.tup (.cons (.bin .mul (.var 4) (.ix (.var 2) (.cst (.int 0)))) (.cons (.bin .mul (.var 5) (.ix (.var 2) (.cst (.int 1)))) .nil))) .nil)))) .nil) .nil) (.cons (.ret (.tup (.cons (.call 5 (.cons (.var 0) (.cons (.var 2) .nil))) (.cons (.tup (.cons (.bin .mul (.var 4) (.ix (.var 2) (.cst (.int 1)))) (.cons (.bin .mul (.var 5) (.ix (.var 2) (.cst (.int 0)))) .nil))) .nil)))) .nil)))))
def w11 : DRow := ⟨dd "_law_deed" 16, ["_law_here", "_law_kept", "_law_some", "_law_kind", "_law_top", "_law_bottom"], ["_law_here", "_law_kept", "_law_some", "_law_kind"], ⟨4, 6, b11⟩⟩
/-- _law_back -/
def b12 : ISs := (.cons (.ite (.cmp .eq (.var 2) (.cst (.int 0))) (.cons (.ret (.call 3 (.cons (.var 0) (.cons (.var 1) .nil)))) .nil) .nil) (.cons (.ite (.cmp .eq (.var 2) (.cst (.int 1))) (.cons (.ret (.call 2 (.cons (.var 0) (.cons (.var 1) .nil)))) .nil) .nil) (.cons (.ite (.cmp .eq (.var 2) (.cst (.int 2))) (.cons (.ret (.call 5 (.cons (.var 0) (.cons (.var 1) .nil)))) .nil) .nil) (.cons (.ret (.call 4 (.cons (.var 0) (.cons (.var 1) .nil)))) .nil))))
def w12 : DRow := ⟨dd "_law_back" 17, ["_law_there", "_law_some", "_law_kind"], ["_law_there", "_law_some", "_law_kind"], ⟨3, 3, b12⟩⟩
/-- _law_three -/
def b13 : ISs := (.cons (.ite (.cmp .ne (.call 4 (.cons (.var 0) (.cons (.call 2 (.cons (.var 1) (.cons (.var 2) .nil))) .nil))) (.call 2 (.cons (.call 4 (.cons (.var 0) (.cons (.var 1) .nil))) (.cons (.call 4 (.cons (.var 0) (.cons (.var 2) .nil))) .nil)))) (.cons (.ret (.cst (.bl false))) .nil) .nil) (.cons (.ite (.cmp .ne (.call 2 (.cons (.call 2 (.cons (.var 0) (.cons (.var 1) .nil))) (.cons (.var 2) .nil))) (.call 2 (.cons (.var 0) (.cons (.call 2 (.cons (.var 1) (.cons (.var 2) .nil))) .nil)))) (.cons (.ret (.cst (.bl false))) .nil) .nil) (.cons (.ite (.cmp .ne (.call 3 (.cons (.var 0) (.cons (.call 3 (.cons (.var 1) (.cons (.var 2) .nil))) .nil))) (.call 2 (.cons (.call 3 (.cons (.var 0) (.cons (.var 1) .nil))) (.cons (.var 2) .nil)))) (.cons (.ret (.cst (.bl false))) .nil) .nil) (.cons (.set 3 (.call 6 (.cons (.var 0) (.cons (.var 1) .nil)))) (.cons (.ite (.cmp .ne (.bin .add (.bin .add (.bi .int (.var 3)) (.bi .int (.call 6 (.cons (.var 1) (.cons (.var 0) .nil))))) (.bi .int (.cmp .eq (.var 0) (.var 1)))) (.cst (.int 1))) (.cons (.ret (.cst (.bl false))) .nil) .nil) (.cons (.ret (.cmp .eq (.call 6 (.cons (.call 2 (.cons (.var 0) (.cons (.var 2) .nil))) (.cons (.call 2 (.cons (.var 1) (.cons (.var 2) .nil))) .nil))) (.var 3))) .nil))))))
def w13 : DRow := ⟨dd "_law_three" 18, ["_law_one", "_law_two", "_law_third", "_law_less"], ["_law_one", "_law_two", "_law_third"], ⟨3, 4, b13⟩⟩
/-- law -/
def b14 : ISs := (.cons (.set 1 (.tup (.cons (.cst (.int 0)) (.cons (.cst (.int 1)) .nil)))) (.cons (.set 2 (.tup (.cons (.cst (.int 0)) (.cons (.cst (.int 1)) .nil)))) (.cons (.set 3 (.lst (.cons (.var 1) (.cons (.tup (.cons (.cst (.int 1)) (.cons (.cst (.int 1)) .nil))) .nil)))) (.cons (.fors (.name 4) (.seq (.bin .add (.slc (.var 0) .none (.some (.cst (.int 62)))) (.lst (.cons (.cst (.int 4)) (.cons (.cst (.int 7)) .nil))))) (.cons (.set 5 (.call 10 (.cons (.var 4) .nil))) (.cons (.set 6 (.bin .mod (.var 4) (.cst (.int 4)))) (.cons (.ite (.cmp .eq (.ix (.var 5) (.cst (.int 0))) (.cst (.int 0))) (.cons (.set 6 (.bin .mod (.var 6) (.cst (.int 2)))) .nil) .nil) (.cons (.unp [7, 2] (.call 11 (.cons (.var 1) (.cons (.var 2) (.cons (.var 5) (.cons (.var 6) .nil)))))) (.cons (.ite (.not (.call 9 (.cons (.var 7) (.cons (.call 8 (.cons (.ix (.var 2) (.cst (.int 0))) (.cons (.ix (.var 2) (.cst (.int 1))) .nil))) .nil)))) (.cons (.ret (.cst (.bl false))) .nil) .nil) (.cons (.ite (.cmp .ne (.call 12 (.cons (.var 7) (.cons (.var 5) (.cons (.var 6) .nil)))) (.var 1)) (.cons (.ret (.cst (.bl false))) .nil) .nil) (.cons (.set 1 (.var 7)) (.cons (.set 2 (.var 1)) (.cons (.app 3 (.var 1)) (.cons (.ite (.not (.call 13 (.cons (.ix (.var 3) (.neg (.cst (.int 3)))) (.cons (.ix (.var 3) (.neg (.cst (.int 2)))) (.cons (.ix (.var 3) (.neg (.cst (.int 1)))) .nil))))) (.cons (.ret (.cst (.bl false))) .nil) .nil) .nil))))))))))) (.cons (.ret (.cst (.bl true))) .nil)))))
def w14 : DRow := ⟨dd "law" 19, ["_law_script", "_law_here", "_law_kept", "_law_places", "_law_cell", "_law_some", "_law_kind", "_law_there"], ["_law_script"], ⟨1, 8, b14⟩⟩
def rows : List DRow := [w0, w1, w2, w3, w4, w5, w6, w7, w8, w9, w10, w11, w12, w13, w14]
def fns : List (Str × Nat) := [("common", 0), ("fraction_of", 1), ("frac_sum", 2), ("frac_less", 3), ("frac_times", 4), ("frac_by", 5), ("frac_lesser", 6), ("_law_whole", 7), ("_law_fraction", 8), ("_law_same_fraction", 9), ("_law_drawn", 10), ("_law_deed", 11), ("_law_back", 12), ("_law_three", 13), ("law", 14)]
theorem fns_eq : fnOf (namesOf rows) 0 = fns := by kernel_rfl
theorem r0 : RowOk fns w0 := ⟨by rfl, by rfl, by rfl, ⟨by kernel_rfl, by kernel_rfl, by kernel_rfl, by decide +kernel, by rfl, by decide +kernel, by decide +kernel⟩, by rfl, by rfl, by kernel_rfl, fun _ _ _ _ _ _ us hl => match us, (show us.length = 2 from hl) with | [_, _], _ => rfl⟩
theorem r1 : RowOk fns w1 := ⟨by rfl, by rfl, by rfl, ⟨by kernel_rfl, by kernel_rfl, by kernel_rfl, by decide +kernel, by rfl, by decide +kernel, by decide +kernel⟩, by rfl, by rfl, by kernel_rfl, fun _ _ _ _ _ _ us hl => match us, (show us.length = 2 from hl) with | [_, _], _ => rfl⟩
theorem r2 : RowOk fns w2 := ⟨by rfl, by rfl, by rfl, ⟨by kernel_rfl, by kernel_rfl, by kernel_rfl, by decide +kernel, by rfl, by decide +kernel, by decide +kernel⟩, by rfl, by rfl, by kernel_rfl, fun _ _ _ _ _ _ us hl => match us, (show us.length = 2 from hl) with | [_, _], _ => rfl⟩
theorem r3 : RowOk fns w3 := ⟨by rfl, by rfl, by rfl, ⟨by kernel_rfl, by kernel_rfl, by kernel_rfl, by decide +kernel, by rfl, by decide +kernel, by decide +kernel⟩, by rfl, by rfl, by kernel_rfl, fun _ _ _ _ _ _ us hl => match us, (show us.length = 2 from hl) with | [_, _], _ => rfl⟩
theorem r4 : RowOk fns w4 := ⟨by rfl, by rfl, by rfl, ⟨by kernel_rfl, by kernel_rfl, by kernel_rfl, by decide +kernel, by rfl, by decide +kernel, by decide +kernel⟩, by rfl, by rfl, by kernel_rfl, fun _ _ _ _ _ _ us hl => match us, (show us.length = 2 from hl) with | [_, _], _ => rfl⟩
theorem r5 : RowOk fns w5 := ⟨by rfl, by rfl, by rfl, ⟨by kernel_rfl, by kernel_rfl, by kernel_rfl, by decide +kernel, by rfl, by decide +kernel, by decide +kernel⟩, by rfl, by rfl, by kernel_rfl, fun _ _ _ _ _ _ us hl => match us, (show us.length = 2 from hl) with | [_, _], _ => rfl⟩
theorem r6 : RowOk fns w6 := ⟨by rfl, by rfl, by rfl, ⟨by kernel_rfl, by kernel_rfl, by kernel_rfl, by decide +kernel, by rfl, by decide +kernel, by decide +kernel⟩, by rfl, by rfl, by kernel_rfl, fun _ _ _ _ _ _ us hl => match us, (show us.length = 2 from hl) with | [_, _], _ => rfl⟩
theorem r7 : RowOk fns w7 := ⟨by rfl, by rfl, by rfl, ⟨by kernel_rfl, by kernel_rfl, by kernel_rfl, by decide +kernel, by rfl, by decide +kernel, by decide +kernel⟩, by rfl, by rfl, by kernel_rfl, fun _ _ _ _ _ _ us hl => match us, (show us.length = 1 from hl) with | [_], _ => rfl⟩
theorem r8 : RowOk fns w8 := ⟨by rfl, by rfl, by rfl, ⟨by kernel_rfl, by kernel_rfl, by kernel_rfl, by decide +kernel, by rfl, by decide +kernel, by decide +kernel⟩, by rfl, by rfl, by kernel_rfl, fun _ _ _ _ _ _ us hl => match us, (show us.length = 2 from hl) with | [_, _], _ => rfl⟩
theorem r9 : RowOk fns w9 := ⟨by rfl, by rfl, by rfl, ⟨by kernel_rfl, by kernel_rfl, by kernel_rfl, by decide +kernel, by rfl, by decide +kernel, by decide +kernel⟩, by rfl, by rfl, by kernel_rfl, fun _ _ _ _ _ _ us hl => match us, (show us.length = 2 from hl) with | [_, _], _ => rfl⟩
theorem r10 : RowOk fns w10 := ⟨by rfl, by rfl, by rfl, ⟨by kernel_rfl, by kernel_rfl, by kernel_rfl, by decide +kernel, by rfl, by decide +kernel, by decide +kernel⟩, by rfl, by rfl, by kernel_rfl, fun _ _ _ _ _ _ us hl => match us, (show us.length = 1 from hl) with | [_], _ => rfl⟩
theorem r11 : RowOk fns w11 := ⟨by rfl, by rfl, by rfl, ⟨by kernel_rfl, by kernel_rfl, by kernel_rfl, by decide +kernel, by rfl, by decide +kernel, by decide +kernel⟩, by rfl, by rfl, by kernel_rfl, fun _ _ _ _ _ _ us hl => match us, (show us.length = 4 from hl) with | [_, _, _, _], _ => rfl⟩
theorem r12 : RowOk fns w12 := ⟨by rfl, by rfl, by rfl, ⟨by kernel_rfl, by kernel_rfl, by kernel_rfl, by decide +kernel, by rfl, by decide +kernel, by decide +kernel⟩, by rfl, by rfl, by kernel_rfl, fun _ _ _ _ _ _ us hl => match us, (show us.length = 3 from hl) with | [_, _, _], _ => rfl⟩
theorem r13 : RowOk fns w13 := ⟨by rfl, by rfl, by rfl, ⟨by kernel_rfl, by kernel_rfl, by kernel_rfl, by decide +kernel, by rfl, by decide +kernel, by decide +kernel⟩, by rfl, by rfl, by kernel_rfl, fun _ _ _ _ _ _ us hl => match us, (show us.length = 3 from hl) with | [_, _, _], _ => rfl⟩
theorem r14 : RowOk fns w14 := ⟨by rfl, by rfl, by rfl, ⟨by kernel_rfl, by kernel_rfl, by kernel_rfl, by decide +kernel, by rfl, by decide +kernel, by decide +kernel⟩, by rfl, by rfl, by kernel_rfl, fun _ _ _ _ _ _ us hl => match us, (show us.length = 1 from hl) with | [_], _ => rfl⟩
theorem all : ∀ r ∈ rows, RowOk (fnOf (namesOf rows) 0) r := by
  rw [fns_eq]
  exact allP_mem ⟨r0, r1, r2, r3, r4, r5, r6, r7, r8, r9, r10, r11, r12, r13, r14, trivial⟩
theorem fn0 : fnsOf rows 0 = some ⟨2, 2, b0⟩ := rfl
theorem fn1 : fnsOf rows 1 = some ⟨2, 3, b1⟩ := rfl
theorem fn2 : fnsOf rows 2 = some ⟨2, 2, b2⟩ := rfl
theorem fn3 : fnsOf rows 3 = some ⟨2, 2, b3⟩ := rfl
theorem fn4 : fnsOf rows 4 = some ⟨2, 2, b4⟩ := rfl
theorem fn5 : fnsOf rows 5 = some ⟨2, 2, b5⟩ := rfl
theorem fn6 : fnsOf rows 6 = some ⟨2, 2, b6⟩ := rfl
theorem fn7 : fnsOf rows 7 = some ⟨1, 1, b7⟩ := rfl
theorem fn8 : fnsOf rows 8 = some ⟨2, 4, b8⟩ := rfl
theorem fn9 : fnsOf rows 9 = some ⟨2, 2, b9⟩ := rfl
theorem fn10 : fnsOf rows 10 = some ⟨1, 2, b10⟩ := rfl
theorem fn11 : fnsOf rows 11 = some ⟨4, 6, b11⟩ := rfl
theorem fn12 : fnsOf rows 12 = some ⟨3, 3, b12⟩ := rfl
theorem fn13 : fnsOf rows 13 = some ⟨3, 4, b13⟩ := rfl
theorem fn14 : fnsOf rows 14 = some ⟨1, 8, b14⟩ := rfl
def loose0 : List PySem.Str := ["DrawError", "NoBottom", "common", "fraction_of", "frac_sum", "frac_less", "frac_times", "frac_by", "frac_lesser", "_law_whole", "_law_fraction", "_law_same_fraction", "_law_drawn", "_law_deed", "_law_back", "_law_three"]
def loose : List PySem.Str := loose0
abbrev R : PySem.W.OpenRow := PySem.W.OpenLaw.row PySem.Challenge.rw_everydraw_k03_whole_walks_of_fractions
abbrev hk : PySem.W.Hook := He.hookD 4 (faOf rows) (rows.map (·.d))
def ob (s : PySem.W.SharedT) : He.AlD := He.obsDG 4 (faOf rows) (rows.map (·.d)) (HandSHeadRun.getT s)
theorem ob_eq (s : PySem.W.SharedT) : ob s = hk.obs s.abs := He.obsDG_eq (HandSHeadRun.getT_eq s)
theorem run (w : World) : HandSHeadRun.RunEq R (PySem.W.view R.prog [19]) hk ob 6000 loose w := by
  intro os
  kernel_rfl
end K03
namespace K03
open PySem L2 Ev
variable {W k : Nat}
theorem FR (hW : ∀ n, n ≤ 9000 → 2 ^ n ≤ W) : FrOk rows W 0 1 := ⟨fn0, fn1, hW⟩
theorem whole_ok (i : Int) : callD (fnsOf rows) W (k + 1) 7 [(.int i, .val)] = .ok (.bl true, .val) := by
  refine Eq.trans (call_at fn7 rfl) ?_
  unfold b7
  simp -implicitDefEqProofs only [b_ok, b_exc, b_bad, x_cst, x_var, x_bin, x_neg, x_not, x_cmp, x_and, x_or, x_tup, x_lst, x_ix, x_slc, x_call, x_bi, x_isi, xl_nil, xl_cons, xo_none, xo_some, as_bind, s_pass, s_ex, s_set, s_par, s_unp, s_app, s_ret, s_retv, s_ite, s_whl, s_fors, s_brk, s_cnt, ss_nil, ss_cons, i_seq, i_rng, i_rng2, o_add, o_sub, o_mul, o_fdiv, o_mod, o_pow, o_addT, o_addL, o_neg, o_not, o_lt, o_le, o_gt, o_ge, o_eq, o_ne, o_eqB, o_neB, o_ixT, o_ixL, g_some, at_0, at_1, at_2, at_3, o_slcT, o_slcL, k_lenT, k_lenL, k_abs, k_int, k_intB, k_tupT, k_tupL, k_lstT, k_lstL, y_int, y_bl, y_tup, y_lst, y_str, y_non, j_and, j_or, j_opt, j_bool, j_ret, j_reto, p_val, p_own, p_rb, pa_n, pa_c, u_tup, pr_vv, ap_v, ap_o, aps, rt_v, rt_o, q_nx, q_bk, q_ct, q_rt, l_nx, l_bk, l_ct, l_rt, f_rt, f_nx, f_exc, v_eq, vo_v, vo_r, vo_o, ld_v, ld_o, ld_t, ld_r, z_nil, z_cons, z1_v, z1_o, z1_r, z1_n, obind, toVal_v, toVal_o, tv_nil, tv_v, tv_o, t_eq, l_eq, mkT_0, mkT_1, mkT_2, mkT_3, mkT_4, mkL_0, mkL_1, mkL_2, mkL_3, sq_l, sq_r, sq_o, sq_t, rg1, rg2, tg_n, tg_t, List.map_cons, List.map_nil, List.cons_append, List.nil_append, List.append_nil, List.replicate, List.set_cons_zero, List.set_cons_succ, List.getElem?_cons_zero, List.getElem?_cons_succ, Nat.reduceSub, Nat.reduceAdd, List.length_cons, List.length_nil, IE.esc, IE.inn, IL.all, IL.inn, IO.inn, II.esc, Option.map_some, if_true, if_false, ite_true, ite_false, reduceIte, decide_true, decide_false, Bool.not_true, Bool.not_false, Bool.false_eq_true]
def wE : ISs := (.cons (.par 2 3 (.var 3) (.bin .mod (.var 2) (.var 3))) .nil)
theorem euclid2 {cl : Call} {s0 s1 : DM} : ∀ (n : Nat) (a b : Int), 0 ≤ b → b.natAbs < n → 0 ≤ a → whileR (fun δ => (evI cl (.cmp .gt (.var 3) (.cst (.int 0))) δ).bind boolD) (evSs cl W wE) n [some s0, some s1, some (.int a, .val), some (.int b, .val)] = .ok (.nx [some s0, some s1, some (.int (Int.gcd a b), .val), some (.int 0, .val)])
  | 0, a, b, _, h, _ => by omega
  | n + 1, a, b, h0, h, ha => by
    by_cases hb : b = 0
    · subst hb
      rw [wh_succ]
      have e : decide ((0 : Int) < 0) = false := by decide
      have e2 : ((a.natAbs : Nat) : Int) = a := by omega
      simp -implicitDefEqProofs only [b_ok, b_exc, b_bad, x_cst, x_var, x_bin, x_neg, x_not, x_cmp, x_and, x_or, x_tup, x_lst, x_ix, x_slc, x_call, x_bi, x_isi, xl_nil, xl_cons, xo_none, xo_some, as_bind, s_pass, s_ex, s_set, s_par, s_unp, s_app, s_ret, s_retv, s_ite, s_whl, s_fors, s_brk, s_cnt, ss_nil, ss_cons, i_seq, i_rng, i_rng2, o_add, o_sub, o_mul, o_fdiv, o_mod, o_pow, o_addT, o_addL, o_neg, o_not, o_lt, o_le, o_gt, o_ge, o_eq, o_ne, o_eqB, o_neB, o_ixT, o_ixL, g_some, at_0, at_1, at_2, at_3, o_slcT, o_slcL, k_lenT, k_lenL, k_abs, k_int, k_intB, k_tupT, k_tupL, k_lstT, k_lstL, y_int, y_bl, y_tup, y_lst, y_str, y_non, j_and, j_or, j_opt, j_bool, j_ret, j_reto, p_val, p_own, p_rb, pa_n, pa_c, u_tup, pr_vv, ap_v, ap_o, aps, rt_v, rt_o, q_nx, q_bk, q_ct, q_rt, l_nx, l_bk, l_ct, l_rt, f_rt, f_nx, f_exc, v_eq, vo_v, vo_r, vo_o, ld_v, ld_o, ld_t, ld_r, z_nil, z_cons, z1_v, z1_o, z1_r, z1_n, obind, toVal_v, toVal_o, tv_nil, tv_v, tv_o, t_eq, l_eq, mkT_0, mkT_1, mkT_2, mkT_3, mkT_4, mkL_0, mkL_1, mkL_2, mkL_3, sq_l, sq_r, sq_o, sq_t, rg1, rg2, tg_n, tg_t, List.map_cons, List.map_nil, List.cons_append, List.nil_append, List.append_nil, List.replicate, List.set_cons_zero, List.set_cons_succ, List.getElem?_cons_zero, List.getElem?_cons_succ, Nat.reduceSub, Nat.reduceAdd, List.length_cons, List.length_nil, IE.esc, IE.inn, IL.all, IL.inn, IO.inn, II.esc, Option.map_some, if_true, if_false, ite_true, ite_false, reduceIte, decide_true, decide_false, Bool.not_true, Bool.not_false, Bool.false_eq_true, e, Int.gcd_zero_right, e2]
    · have f0 : 0 ≤ a.fmod b := by
        rw [Int.fmod_eq_emod_of_nonneg _ h0]
        exact Int.emod_nonneg a hb
      have ih := euclid2 (cl := cl) (s0 := s0) (s1 := s1) n b (a.fmod b) f0 (by have := natAbs_fmod_lt a hb; omega) h0
      rw [gcd_fmod] at ih
      rw [wh_succ]
      have e : decide (0 < b) = true := decide_eq_true (by omega)
      simp -implicitDefEqProofs only [b_ok, b_exc, b_bad, x_cst, x_var, x_bin, x_neg, x_not, x_cmp, x_and, x_or, x_tup, x_lst, x_ix, x_slc, x_call, x_bi, x_isi, xl_nil, xl_cons, xo_none, xo_some, as_bind, s_pass, s_ex, s_set, s_par, s_unp, s_app, s_ret, s_retv, s_ite, s_whl, s_fors, s_brk, s_cnt, ss_nil, ss_cons, i_seq, i_rng, i_rng2, o_add, o_sub, o_mul, o_fdiv, o_mod, o_pow, o_addT, o_addL, o_neg, o_not, o_lt, o_le, o_gt, o_ge, o_eq, o_ne, o_eqB, o_neB, o_ixT, o_ixL, g_some, at_0, at_1, at_2, at_3, o_slcT, o_slcL, k_lenT, k_lenL, k_abs, k_int, k_intB, k_tupT, k_tupL, k_lstT, k_lstL, y_int, y_bl, y_tup, y_lst, y_str, y_non, j_and, j_or, j_opt, j_bool, j_ret, j_reto, p_val, p_own, p_rb, pa_n, pa_c, u_tup, pr_vv, ap_v, ap_o, aps, rt_v, rt_o, q_nx, q_bk, q_ct, q_rt, l_nx, l_bk, l_ct, l_rt, f_rt, f_nx, f_exc, v_eq, vo_v, vo_r, vo_o, ld_v, ld_o, ld_t, ld_r, z_nil, z_cons, z1_v, z1_o, z1_r, z1_n, obind, toVal_v, toVal_o, tv_nil, tv_v, tv_o, t_eq, l_eq, mkT_0, mkT_1, mkT_2, mkT_3, mkT_4, mkL_0, mkL_1, mkL_2, mkL_3, sq_l, sq_r, sq_o, sq_t, rg1, rg2, tg_n, tg_t, List.map_cons, List.map_nil, List.cons_append, List.nil_append, List.append_nil, List.replicate, List.set_cons_zero, List.set_cons_succ, List.getElem?_cons_zero, List.getElem?_cons_succ, Nat.reduceSub, Nat.reduceAdd, List.length_cons, List.length_nil, IE.esc, IE.inn, IL.all, IL.inn, IO.inn, II.esc, Option.map_some, if_true, if_false, ite_true, ite_false, reduceIte, decide_true, decide_false, Bool.not_true, Bool.not_false, Bool.false_eq_true, e, if_neg hb, wE]
      exact ih
theorem lawfrac_ok {n : Nat} (t : Int) {b : Int} (hb : b ≠ 0) (hB : Big n b) (hn : n ≤ 9000) (hW : b.natAbs < W) : callD (fnsOf rows) W (k + 1) 8 [(.int t, .val), (.int b, .val)] = .ok (fD (Rat.divInt t b), .val) := by
  refine Eq.trans (call_at fn8 rfl) ?_
  have h1 : 0 ≤ (if b < 0 then -b else b) := by split <;> omega
  have h2 : 0 ≤ (if t < 0 then -t else t) := by split <;> omega
  have e := euclid2 (cl := callD (fnsOf rows) W k) (s0 := (.int t, .val)) (s1 := (.int b, .val)) (W := W) W _ _ h1 (by split <;> omega) h2
  have eg : Int.gcd (if t < 0 then -t else t) (if b < 0 then -b else b) = Int.gcd t b := by
    split <;> split <;> simp
  rw [eg] at e
  have g0 := gcd_ne (t := t) hb
  have g1 := divOkN_of g0 (gcd_big (t := t) hb hB) hn
  have n1 := red_num t hb
  have n2 := red_den t hb
  unfold fD
  rw [← n1, ← n2]
  unfold b8
  unfold wE at e
  simp -implicitDefEqProofs only [b_ok, b_exc, b_bad, x_cst, x_var, x_bin, x_neg, x_not, x_cmp, x_and, x_or, x_tup, x_lst, x_ix, x_slc, x_call, x_bi, x_isi, xl_nil, xl_cons, xo_none, xo_some, as_bind, s_pass, s_ex, s_set, s_par, s_unp, s_app, s_ret, s_retv, s_ite, s_whl, s_fors, s_brk, s_cnt, ss_nil, ss_cons, i_seq, i_rng, i_rng2, o_add, o_sub, o_mul, o_fdiv, o_mod, o_pow, o_addT, o_addL, o_neg, o_not, o_lt, o_le, o_gt, o_ge, o_eq, o_ne, o_eqB, o_neB, o_ixT, o_ixL, g_some, at_0, at_1, at_2, at_3, o_slcT, o_slcL, k_lenT, k_lenL, k_abs, k_int, k_intB, k_tupT, k_tupL, k_lstT, k_lstL, y_int, y_bl, y_tup, y_lst, y_str, y_non, j_and, j_or, j_opt, j_bool, j_ret, j_reto, p_val, p_own, p_rb, pa_n, pa_c, u_tup, pr_vv, ap_v, ap_o, aps, rt_v, rt_o, q_nx, q_bk, q_ct, q_rt, l_nx, l_bk, l_ct, l_rt, f_rt, f_nx, f_exc, v_eq, vo_v, vo_r, vo_o, ld_v, ld_o, ld_t, ld_r, z_nil, z_cons, z1_v, z1_o, z1_r, z1_n, obind, toVal_v, toVal_o, tv_nil, tv_v, tv_o, t_eq, l_eq, mkT_0, mkT_1, mkT_2, mkT_3, mkT_4, mkL_0, mkL_1, mkL_2, mkL_3, sq_l, sq_r, sq_o, sq_t, rg1, rg2, tg_n, tg_t, List.map_cons, List.map_nil, List.cons_append, List.nil_append, List.append_nil, List.replicate, List.set_cons_zero, List.set_cons_succ, List.getElem?_cons_zero, List.getElem?_cons_succ, Nat.reduceSub, Nat.reduceAdd, List.length_cons, List.length_nil, IE.esc, IE.inn, IL.all, IL.inn, IO.inn, II.esc, Option.map_some, if_true, if_false, ite_true, ite_false, reduceIte, decide_true, decide_false, Bool.not_true, Bool.not_false, Bool.false_eq_true] at e
  by_cases hn : b < 0
  · rw [if_pos hn] at g1 ⊢
    have e1 : decide (b < 0) = true := decide_eq_true hn
    simp -implicitDefEqProofs only [b_ok, b_exc, b_bad, x_cst, x_var, x_bin, x_neg, x_not, x_cmp, x_and, x_or, x_tup, x_lst, x_ix, x_slc, x_call, x_bi, x_isi, xl_nil, xl_cons, xo_none, xo_some, as_bind, s_pass, s_ex, s_set, s_par, s_unp, s_app, s_ret, s_retv, s_ite, s_whl, s_fors, s_brk, s_cnt, ss_nil, ss_cons, i_seq, i_rng, i_rng2, o_add, o_sub, o_mul, o_fdiv, o_mod, o_pow, o_addT, o_addL, o_neg, o_not, o_lt, o_le, o_gt, o_ge, o_eq, o_ne, o_eqB, o_neB, o_ixT, o_ixL, g_some, at_0, at_1, at_2, at_3, o_slcT, o_slcL, k_lenT, k_lenL, k_abs, k_int, k_intB, k_tupT, k_tupL, k_lstT, k_lstL, y_int, y_bl, y_tup, y_lst, y_str, y_non, j_and, j_or, j_opt, j_bool, j_ret, j_reto, p_val, p_own, p_rb, pa_n, pa_c, u_tup, pr_vv, ap_v, ap_o, aps, rt_v, rt_o, q_nx, q_bk, q_ct, q_rt, l_nx, l_bk, l_ct, l_rt, f_rt, f_nx, f_exc, v_eq, vo_v, vo_r, vo_o, ld_v, ld_o, ld_t, ld_r, z_nil, z_cons, z1_v, z1_o, z1_r, z1_n, obind, toVal_v, toVal_o, tv_nil, tv_v, tv_o, t_eq, l_eq, mkT_0, mkT_1, mkT_2, mkT_3, mkT_4, mkL_0, mkL_1, mkL_2, mkL_3, sq_l, sq_r, sq_o, sq_t, rg1, rg2, tg_n, tg_t, List.map_cons, List.map_nil, List.cons_append, List.nil_append, List.append_nil, List.replicate, List.set_cons_zero, List.set_cons_succ, List.getElem?_cons_zero, List.getElem?_cons_succ, Nat.reduceSub, Nat.reduceAdd, List.length_cons, List.length_nil, IE.esc, IE.inn, IL.all, IL.inn, IO.inn, II.esc, Option.map_some, if_true, if_false, ite_true, ite_false, reduceIte, decide_true, decide_false, Bool.not_true, Bool.not_false, Bool.false_eq_true, e, e1, Int.zero_sub, g1]
  · rw [if_neg hn] at g1 ⊢
    have e1 : decide (b < 0) = false := decide_eq_false hn
    simp -implicitDefEqProofs only [b_ok, b_exc, b_bad, x_cst, x_var, x_bin, x_neg, x_not, x_cmp, x_and, x_or, x_tup, x_lst, x_ix, x_slc, x_call, x_bi, x_isi, xl_nil, xl_cons, xo_none, xo_some, as_bind, s_pass, s_ex, s_set, s_par, s_unp, s_app, s_ret, s_retv, s_ite, s_whl, s_fors, s_brk, s_cnt, ss_nil, ss_cons, i_seq, i_rng, i_rng2, o_add, o_sub, o_mul, o_fdiv, o_mod, o_pow, o_addT, o_addL, o_neg, o_not, o_lt, o_le, o_gt, o_ge, o_eq, o_ne, o_eqB, o_neB, o_ixT, o_ixL, g_some, at_0, at_1, at_2, at_3, o_slcT, o_slcL, k_lenT, k_lenL, k_abs, k_int, k_intB, k_tupT, k_tupL, k_lstT, k_lstL, y_int, y_bl, y_tup, y_lst, y_str, y_non, j_and, j_or, j_opt, j_bool, j_ret, j_reto, p_val, p_own, p_rb, pa_n, pa_c, u_tup, pr_vv, ap_v, ap_o, aps, rt_v, rt_o, q_nx, q_bk, q_ct, q_rt, l_nx, l_bk, l_ct, l_rt, f_rt, f_nx, f_exc, v_eq, vo_v, vo_r, vo_o, ld_v, ld_o, ld_t, ld_r, z_nil, z_cons, z1_v, z1_o, z1_r, z1_n, obind, toVal_v, toVal_o, tv_nil, tv_v, tv_o, t_eq, l_eq, mkT_0, mkT_1, mkT_2, mkT_3, mkT_4, mkL_0, mkL_1, mkL_2, mkL_3, sq_l, sq_r, sq_o, sq_t, rg1, rg2, tg_n, tg_t, List.map_cons, List.map_nil, List.cons_append, List.nil_append, List.append_nil, List.replicate, List.set_cons_zero, List.set_cons_succ, List.getElem?_cons_zero, List.getElem?_cons_succ, Nat.reduceSub, Nat.reduceAdd, List.length_cons, List.length_nil, IE.esc, IE.inn, IL.all, IL.inn, IO.inn, II.esc, Option.map_some, if_true, if_false, ite_true, ite_false, reduceIte, decide_true, decide_false, Bool.not_true, Bool.not_false, Bool.false_eq_true, e, e1, g1]
theorem same_ok (p q : Rat) : callD (fnsOf rows) W (k + 2) 9 [(fD p, .val), (fD q, .val)] = .ok (.bl (decide (p = q)), .val) := by
  refine Eq.trans (call_at fn9 rfl) ?_
  have e := cmp_eqF p q (m := .val) (n := .val)
  have e2 : decide (((0 + 1 + 1 : Nat) : Int) = 2) = true := by decide
  unfold b9
  unfold fD at *
  simp -implicitDefEqProofs only [b_ok, b_exc, b_bad, x_cst, x_var, x_bin, x_neg, x_not, x_cmp, x_and, x_or, x_tup, x_lst, x_ix, x_slc, x_call, x_bi, x_isi, xl_nil, xl_cons, xo_none, xo_some, as_bind, s_pass, s_ex, s_set, s_par, s_unp, s_app, s_ret, s_retv, s_ite, s_whl, s_fors, s_brk, s_cnt, ss_nil, ss_cons, i_seq, i_rng, i_rng2, o_add, o_sub, o_mul, o_fdiv, o_mod, o_pow, o_addT, o_addL, o_neg, o_not, o_lt, o_le, o_gt, o_ge, o_eq, o_ne, o_eqB, o_neB, o_ixT, o_ixL, g_some, at_0, at_1, at_2, at_3, o_slcT, o_slcL, k_lenT, k_lenL, k_abs, k_int, k_intB, k_tupT, k_tupL, k_lstT, k_lstL, y_int, y_bl, y_tup, y_lst, y_str, y_non, j_and, j_or, j_opt, j_bool, j_ret, j_reto, p_val, p_own, p_rb, pa_n, pa_c, u_tup, pr_vv, ap_v, ap_o, aps, rt_v, rt_o, q_nx, q_bk, q_ct, q_rt, l_nx, l_bk, l_ct, l_rt, f_rt, f_nx, f_exc, v_eq, vo_v, vo_r, vo_o, ld_v, ld_o, ld_t, ld_r, z_nil, z_cons, z1_v, z1_o, z1_r, z1_n, obind, toVal_v, toVal_o, tv_nil, tv_v, tv_o, t_eq, l_eq, mkT_0, mkT_1, mkT_2, mkT_3, mkT_4, mkL_0, mkL_1, mkL_2, mkL_3, sq_l, sq_r, sq_o, sq_t, rg1, rg2, tg_n, tg_t, List.map_cons, List.map_nil, List.cons_append, List.nil_append, List.append_nil, List.replicate, List.set_cons_zero, List.set_cons_succ, List.getElem?_cons_zero, List.getElem?_cons_succ, Nat.reduceSub, Nat.reduceAdd, List.length_cons, List.length_nil, IE.esc, IE.inn, IL.all, IL.inn, IO.inn, II.esc, Option.map_some, if_true, if_false, ite_true, ite_false, reduceIte, decide_true, decide_false, Bool.not_true, Bool.not_false, Bool.false_eq_true, whole_ok, e]
  first | done | (simp only [e2, b_ok, b_exc, b_bad, x_cst, x_var, x_bin, x_neg, x_not, x_cmp, x_and, x_or, x_tup, x_lst, x_ix, x_slc, x_call, x_bi, x_isi, xl_nil, xl_cons, xo_none, xo_some, as_bind, s_pass, s_ex, s_set, s_par, s_unp, s_app, s_ret, s_retv, s_ite, s_whl, s_fors, s_brk, s_cnt, ss_nil, ss_cons, i_seq, i_rng, i_rng2, o_add, o_sub, o_mul, o_fdiv, o_mod, o_pow, o_addT, o_addL, o_neg, o_not, o_lt, o_le, o_gt, o_ge, o_eq, o_ne, o_eqB, o_neB, o_ixT, o_ixL, g_some, at_0, at_1, at_2, at_3, o_slcT, o_slcL, k_lenT, k_lenL, k_abs, k_int, k_intB, k_tupT, k_tupL, k_lstT, k_lstL, y_int, y_bl, y_tup, y_lst, y_str, y_non, j_and, j_or, j_opt, j_bool, j_ret, j_reto, p_val, p_own, p_rb, pa_n, pa_c, u_tup, pr_vv, ap_v, ap_o, aps, rt_v, rt_o, q_nx, q_bk, q_ct, q_rt, l_nx, l_bk, l_ct, l_rt, f_rt, f_nx, f_exc, v_eq, vo_v, vo_r, vo_o, ld_v, ld_o, ld_t, ld_r, z_nil, z_cons, z1_v, z1_o, z1_r, z1_n, obind, toVal_v, toVal_o, tv_nil, tv_v, tv_o, t_eq, l_eq, mkT_0, mkT_1, mkT_2, mkT_3, mkT_4, mkL_0, mkL_1, mkL_2, mkL_3, sq_l, sq_r, sq_o, sq_t, rg1, rg2, tg_n, tg_t, List.map_cons, List.map_nil, List.cons_append, List.nil_append, List.append_nil, List.replicate, List.set_cons_zero, List.set_cons_succ, List.getElem?_cons_zero, List.getElem?_cons_succ, Nat.reduceSub, Nat.reduceAdd, List.length_cons, List.length_nil, IE.esc, IE.inn, IL.all, IL.inn, IO.inn, II.esc, Option.map_some, if_true, if_false, ite_true, ite_false, reduceIte, decide_true, decide_false, Bool.not_true, Bool.not_false, Bool.false_eq_true, whole_ok, e])
theorem drawn_ok (hW : ∀ n, n ≤ 9000 → 2 ^ n ≤ W) (c : Int) : ∃ s : Rat, Bd 30 s ∧ callD (fnsOf rows) W (k + 2) 10 [(.int c, .val)] = .ok (fD s, .val) := by
  have e1 : powOk 10 9 = true := by decide
  have e2 : (10 : Int) ^ Int.toNat 9 = 1000000000 := by decide
  have e3 : mulOk 2 1000000000 = true := by decide
  have e4 : divOkN 4 = true := by decide
  have e5 : divOkN (2 * 1000000000 + 1) = true := by decide
  have e6 : ¬ ((2 : Int) * 1000000000 + 1 = 0) := by decide
  have e7 : ¬ ((1000000000 : Int) = 0) := by decide
  have f1 := Int.emod_nonneg (c.fdiv 4) (b := 2 * 1000000000 + 1) (by decide)
  have f2 := Int.emod_lt_of_pos (c.fdiv 4) (b := 2 * 1000000000 + 1) (by decide)
  have f3 := Int.emod_nonneg ((c.fdiv 4).fdiv (2 * 1000000000 + 1)) (b := 1000000000) (by decide)
  have f4 := Int.emod_lt_of_pos ((c.fdiv 4).fdiv (2 * 1000000000 + 1)) (b := 1000000000) (by decide)
  rw [← Int.fmod_eq_emod_of_nonneg _ (by decide)] at f1 f2 f3 f4
  have hb : 1 + ((c.fdiv 4).fdiv (2 * 1000000000 + 1)).fmod 1000000000 ≠ 0 := by omega
  have h2 : (2 : Nat) ^ 30 = 1073741824 := by decide
  have hB : Big 30 (1 + ((c.fdiv 4).fdiv (2 * 1000000000 + 1)).fmod 1000000000) := by unfold Big; rw [h2]; omega
  have hT : Big 30 ((c.fdiv 4).fmod (2 * 1000000000 + 1) - 1000000000) := by unfold Big; rw [h2]; omega
  have hl := lawfrac_ok (W := W) (k := k) ((c.fdiv 4).fmod (2 * 1000000000 + 1) - 1000000000) hb hB (by omega) (Nat.lt_of_lt_of_le hB (hW _ (by omega)))
  refine ⟨_, Bd.of hb hT hB, ?_⟩
  refine Eq.trans (call_at fn10 rfl) ?_
  unfold b10
  simp -implicitDefEqProofs only [b_ok, b_exc, b_bad, x_cst, x_var, x_bin, x_neg, x_not, x_cmp, x_and, x_or, x_tup, x_lst, x_ix, x_slc, x_call, x_bi, x_isi, xl_nil, xl_cons, xo_none, xo_some, as_bind, s_pass, s_ex, s_set, s_par, s_unp, s_app, s_ret, s_retv, s_ite, s_whl, s_fors, s_brk, s_cnt, ss_nil, ss_cons, i_seq, i_rng, i_rng2, o_add, o_sub, o_mul, o_fdiv, o_mod, o_pow, o_addT, o_addL, o_neg, o_not, o_lt, o_le, o_gt, o_ge, o_eq, o_ne, o_eqB, o_neB, o_ixT, o_ixL, g_some, at_0, at_1, at_2, at_3, o_slcT, o_slcL, k_lenT, k_lenL, k_abs, k_int, k_intB, k_tupT, k_tupL, k_lstT, k_lstL, y_int, y_bl, y_tup, y_lst, y_str, y_non, j_and, j_or, j_opt, j_bool, j_ret, j_reto, p_val, p_own, p_rb, pa_n, pa_c, u_tup, pr_vv, ap_v, ap_o, aps, rt_v, rt_o, q_nx, q_bk, q_ct, q_rt, l_nx, l_bk, l_ct, l_rt, f_rt, f_nx, f_exc, v_eq, vo_v, vo_r, vo_o, ld_v, ld_o, ld_t, ld_r, z_nil, z_cons, z1_v, z1_o, z1_r, z1_n, obind, toVal_v, toVal_o, tv_nil, tv_v, tv_o, t_eq, l_eq, mkT_0, mkT_1, mkT_2, mkT_3, mkT_4, mkL_0, mkL_1, mkL_2, mkL_3, sq_l, sq_r, sq_o, sq_t, rg1, rg2, tg_n, tg_t, List.map_cons, List.map_nil, List.cons_append, List.nil_append, List.append_nil, List.replicate, List.set_cons_zero, List.set_cons_succ, List.getElem?_cons_zero, List.getElem?_cons_succ, Nat.reduceSub, Nat.reduceAdd, List.length_cons, List.length_nil, IE.esc, IE.inn, IL.all, IL.inn, IO.inn, II.esc, Option.map_some, if_true, if_false, ite_true, ite_false, reduceIte, decide_true, decide_false, Bool.not_true, Bool.not_false, Bool.false_eq_true, e1, e2, e3, e4, e5, if_neg e6, if_neg e7, hl]
def op (kind : Int) (h s : Rat) : Rat := if kind = 0 then h + s else if kind = 1 then h - s else if kind = 2 then h * s else h / s
theorem op_bd {n : Nat} {kind : Int} {h s : Rat} (hh : Bd n h) (hs : Bd 30 s) (h0 : kind = 0 ∨ kind = 1 ∨ s ≠ 0) : Bd (n + 31) (op kind h s) := by
  unfold op
  split
  · exact hh.add hs
  · split
    · exact hh.sub hs
    · split
      · exact (hh.mul hs).mono (by omega)
      · exact (hh.div hs (by rcases h0 with z | z | z; contradiction; contradiction; exact z)).mono (by omega)
theorem deed_ok (hW : ∀ n, n ≤ 9000 → 2 ^ n ≤ W) {n : Nat} {kind : Int} {h s : Rat} (hh : Bd n h) (hs : Bd 30 s) (hn : n ≤ 8000) (h0 : kind = 0 ∨ kind = 1 ∨ s ≠ 0) :
    ∃ t b : Int, b ≠ 0 ∧ Big (n + 30) b ∧ Rat.divInt t b = op kind h s ∧ callD (fnsOf rows) W (k + 4) 11 [(fD h, .val), (fD h, .val), (fD s, .val), (.int kind, .val)] = .ok (.tup [fD (op kind h s), .tup [.int t, .int b]], .val) := by
  have F := FR hW
  have a1 := mulOk_of hh.num hs.den (by omega) (by omega)
  have a2 := mulOk_of hs.num hh.den (by omega) (by omega)
  have a3 := mulOk_of hh.den hs.den (by omega) (by omega)
  have a4 := mulOk_of hh.num hs.num (by omega) (by omega)
  have a5 := mulOk_of hh.den hs.num (by omega) (by omega)
  have d1 := Int.mul_ne_zero (den_ne h) (den_ne s)
  by_cases k0 : kind = 0
  · have e := sum_ok (k := k) F fn2 hh hs (by omega)
    have eo : op kind h s = h + s := by unfold op; rw [if_pos k0]
    rw [eo]
    refine ⟨_, _, d1, hh.den.mul hs.den, (fD_add h s).symm, Eq.trans (call_at fn11 rfl) ?_⟩
    subst k0
    unfold b11
    generalize fD (h + s) = r at e ⊢
    unfold fD at *
    have z : decide ((0 : Int) = 0) = true := by decide
    simp -implicitDefEqProofs only [b_ok, b_exc, b_bad, x_cst, x_var, x_bin, x_neg, x_not, x_cmp, x_and, x_or, x_tup, x_lst, x_ix, x_slc, x_call, x_bi, x_isi, xl_nil, xl_cons, xo_none, xo_some, as_bind, s_pass, s_ex, s_set, s_par, s_unp, s_app, s_ret, s_retv, s_ite, s_whl, s_fors, s_brk, s_cnt, ss_nil, ss_cons, i_seq, i_rng, i_rng2, o_add, o_sub, o_mul, o_fdiv, o_mod, o_pow, o_addT, o_addL, o_neg, o_not, o_lt, o_le, o_gt, o_ge, o_eq, o_ne, o_eqB, o_neB, o_ixT, o_ixL, g_some, at_0, at_1, at_2, at_3, o_slcT, o_slcL, k_lenT, k_lenL, k_abs, k_int, k_intB, k_tupT, k_tupL, k_lstT, k_lstL, y_int, y_bl, y_tup, y_lst, y_str, y_non, j_and, j_or, j_opt, j_bool, j_ret, j_reto, p_val, p_own, p_rb, pa_n, pa_c, u_tup, pr_vv, ap_v, ap_o, aps, rt_v, rt_o, q_nx, q_bk, q_ct, q_rt, l_nx, l_bk, l_ct, l_rt, f_rt, f_nx, f_exc, v_eq, vo_v, vo_r, vo_o, ld_v, ld_o, ld_t, ld_r, z_nil, z_cons, z1_v, z1_o, z1_r, z1_n, obind, toVal_v, toVal_o, tv_nil, tv_v, tv_o, t_eq, l_eq, mkT_0, mkT_1, mkT_2, mkT_3, mkT_4, mkL_0, mkL_1, mkL_2, mkL_3, sq_l, sq_r, sq_o, sq_t, rg1, rg2, tg_n, tg_t, List.map_cons, List.map_nil, List.cons_append, List.nil_append, List.append_nil, List.replicate, List.set_cons_zero, List.set_cons_succ, List.getElem?_cons_zero, List.getElem?_cons_succ, Nat.reduceSub, Nat.reduceAdd, List.length_cons, List.length_nil, IE.esc, IE.inn, IL.all, IL.inn, IO.inn, II.esc, Option.map_some, if_true, if_false, ite_true, ite_false, reduceIte, decide_true, decide_false, Bool.not_true, Bool.not_false, Bool.false_eq_true, e, a1, a2, a3, z]
  · by_cases k1 : kind = 1
    · have e := less_ok (k := k) F fn3 hh hs (by omega)
      have eo : op kind h s = h - s := by unfold op; rw [if_neg k0, if_pos k1]
      rw [eo]
      refine ⟨_, _, d1, hh.den.mul hs.den, (fD_sub h s).symm, Eq.trans (call_at fn11 rfl) ?_⟩
      subst k1
      unfold b11
      generalize fD (h - s) = r at e ⊢
      unfold fD at *
      have z : decide ((1 : Int) = 0) = false := by decide
      have z1 : decide ((1 : Int) = 1) = true := by decide
      simp -implicitDefEqProofs only [b_ok, b_exc, b_bad, x_cst, x_var, x_bin, x_neg, x_not, x_cmp, x_and, x_or, x_tup, x_lst, x_ix, x_slc, x_call, x_bi, x_isi, xl_nil, xl_cons, xo_none, xo_some, as_bind, s_pass, s_ex, s_set, s_par, s_unp, s_app, s_ret, s_retv, s_ite, s_whl, s_fors, s_brk, s_cnt, ss_nil, ss_cons, i_seq, i_rng, i_rng2, o_add, o_sub, o_mul, o_fdiv, o_mod, o_pow, o_addT, o_addL, o_neg, o_not, o_lt, o_le, o_gt, o_ge, o_eq, o_ne, o_eqB, o_neB, o_ixT, o_ixL, g_some, at_0, at_1, at_2, at_3, o_slcT, o_slcL, k_lenT, k_lenL, k_abs, k_int, k_intB, k_tupT, k_tupL, k_lstT, k_lstL, y_int, y_bl, y_tup, y_lst, y_str, y_non, j_and, j_or, j_opt, j_bool, j_ret, j_reto, p_val, p_own, p_rb, pa_n, pa_c, u_tup, pr_vv, ap_v, ap_o, aps, rt_v, rt_o, q_nx, q_bk, q_ct, q_rt, l_nx, l_bk, l_ct, l_rt, f_rt, f_nx, f_exc, v_eq, vo_v, vo_r, vo_o, ld_v, ld_o, ld_t, ld_r, z_nil, z_cons, z1_v, z1_o, z1_r, z1_n, obind, toVal_v, toVal_o, tv_nil, tv_v, tv_o, t_eq, l_eq, mkT_0, mkT_1, mkT_2, mkT_3, mkT_4, mkL_0, mkL_1, mkL_2, mkL_3, sq_l, sq_r, sq_o, sq_t, rg1, rg2, tg_n, tg_t, List.map_cons, List.map_nil, List.cons_append, List.nil_append, List.append_nil, List.replicate, List.set_cons_zero, List.set_cons_succ, List.getElem?_cons_zero, List.getElem?_cons_succ, Nat.reduceSub, Nat.reduceAdd, List.length_cons, List.length_nil, IE.esc, IE.inn, IL.all, IL.inn, IO.inn, II.esc, Option.map_some, if_true, if_false, ite_true, ite_false, reduceIte, decide_true, decide_false, Bool.not_true, Bool.not_false, Bool.false_eq_true, e, a1, a2, a3, z, z1]
    · by_cases k2 : kind = 2
      · have e := times_ok (k := k) F fn4 hh hs (by omega)
        have eo : op kind h s = h * s := by unfold op; rw [if_neg k0, if_neg k1, if_pos k2]
        rw [eo]
        refine ⟨_, _, d1, hh.den.mul hs.den, (fD_mul h s).symm, Eq.trans (call_at fn11 rfl) ?_⟩
        subst k2
        unfold b11
        generalize fD (h * s) = r at e ⊢
        unfold fD at *
        have z : decide ((2 : Int) = 0) = false := by decide
        have z1 : decide ((2 : Int) = 1) = false := by decide
        have z2 : decide ((2 : Int) = 2) = true := by decide
        simp -implicitDefEqProofs only [b_ok, b_exc, b_bad, x_cst, x_var, x_bin, x_neg, x_not, x_cmp, x_and, x_or, x_tup, x_lst, x_ix, x_slc, x_call, x_bi, x_isi, xl_nil, xl_cons, xo_none, xo_some, as_bind, s_pass, s_ex, s_set, s_par, s_unp, s_app, s_ret, s_retv, s_ite, s_whl, s_fors, s_brk, s_cnt, ss_nil, ss_cons, i_seq, i_rng, i_rng2, o_add, o_sub, o_mul, o_fdiv, o_mod, o_pow, o_addT, o_addL, o_neg, o_not, o_lt, o_le, o_gt, o_ge, o_eq, o_ne, o_eqB, o_neB, o_ixT, o_ixL, g_some, at_0, at_1, at_2, at_3, o_slcT, o_slcL, k_lenT, k_lenL, k_abs, k_int, k_intB, k_tupT, k_tupL, k_lstT, k_lstL, y_int, y_bl, y_tup, y_lst, y_str, y_non, j_and, j_or, j_opt, j_bool, j_ret, j_reto, p_val, p_own, p_rb, pa_n, pa_c, u_tup, pr_vv, ap_v, ap_o, aps, rt_v, rt_o, q_nx, q_bk, q_ct, q_rt, l_nx, l_bk, l_ct, l_rt, f_rt, f_nx, f_exc, v_eq, vo_v, vo_r, vo_o, ld_v, ld_o, ld_t, ld_r, z_nil, z_cons, z1_v, z1_o, z1_r, z1_n, obind, toVal_v, toVal_o, tv_nil, tv_v, tv_o, t_eq, l_eq, mkT_0, mkT_1, mkT_2, mkT_3, mkT_4, mkL_0, mkL_1, mkL_2, mkL_3, sq_l, sq_r, sq_o, sq_t, rg1, rg2, tg_n, tg_t, List.map_cons, List.map_nil, List.cons_append, List.nil_append, List.append_nil, List.replicate, List.set_cons_zero, List.set_cons_succ, List.getElem?_cons_zero, List.getElem?_cons_succ, Nat.reduceSub, Nat.reduceAdd, List.length_cons, List.length_nil, IE.esc, IE.inn, IL.all, IL.inn, IO.inn, II.esc, Option.map_some, if_true, if_false, ite_true, ite_false, reduceIte, decide_true, decide_false, Bool.not_true, Bool.not_false, Bool.false_eq_true, e, a4, a3, z, z1, z2]
      · have hs0 : s ≠ 0 := by rcases h0 with z | z | z; contradiction; contradiction; exact z
        have e := by_ok (k := k) F fn5 hh hs hs0 (by omega)
        have eo : op kind h s = h / s := by unfold op; rw [if_neg k0, if_neg k1, if_neg k2]
        rw [eo]
        refine ⟨_, _, Int.mul_ne_zero (den_ne h) (num_ne hs0), hh.den.mul hs.num, (fD_div h s).symm, Eq.trans (call_at fn11 rfl) ?_⟩
        unfold b11
        generalize fD (h / s) = r at e ⊢
        unfold fD at *
        have z : decide (kind = 0) = false := decide_eq_false k0
        have z1 : decide (kind = 1) = false := decide_eq_false k1
        have z2 : decide (kind = 2) = false := decide_eq_false k2
        simp -implicitDefEqProofs only [b_ok, b_exc, b_bad, x_cst, x_var, x_bin, x_neg, x_not, x_cmp, x_and, x_or, x_tup, x_lst, x_ix, x_slc, x_call, x_bi, x_isi, xl_nil, xl_cons, xo_none, xo_some, as_bind, s_pass, s_ex, s_set, s_par, s_unp, s_app, s_ret, s_retv, s_ite, s_whl, s_fors, s_brk, s_cnt, ss_nil, ss_cons, i_seq, i_rng, i_rng2, o_add, o_sub, o_mul, o_fdiv, o_mod, o_pow, o_addT, o_addL, o_neg, o_not, o_lt, o_le, o_gt, o_ge, o_eq, o_ne, o_eqB, o_neB, o_ixT, o_ixL, g_some, at_0, at_1, at_2, at_3, o_slcT, o_slcL, k_lenT, k_lenL, k_abs, k_int, k_intB, k_tupT, k_tupL, k_lstT, k_lstL, y_int, y_bl, y_tup, y_lst, y_str, y_non, j_and, j_or, j_opt, j_bool, j_ret, j_reto, p_val, p_own, p_rb, pa_n, pa_c, u_tup, pr_vv, ap_v, ap_o, aps, rt_v, rt_o, q_nx, q_bk, q_ct, q_rt, l_nx, l_bk, l_ct, l_rt, f_rt, f_nx, f_exc, v_eq, vo_v, vo_r, vo_o, ld_v, ld_o, ld_t, ld_r, z_nil, z_cons, z1_v, z1_o, z1_r, z1_n, obind, toVal_v, toVal_o, tv_nil, tv_v, tv_o, t_eq, l_eq, mkT_0, mkT_1, mkT_2, mkT_3, mkT_4, mkL_0, mkL_1, mkL_2, mkL_3, sq_l, sq_r, sq_o, sq_t, rg1, rg2, tg_n, tg_t, List.map_cons, List.map_nil, List.cons_append, List.nil_append, List.append_nil, List.replicate, List.set_cons_zero, List.set_cons_succ, List.getElem?_cons_zero, List.getElem?_cons_succ, Nat.reduceSub, Nat.reduceAdd, List.length_cons, List.length_nil, IE.esc, IE.inn, IL.all, IL.inn, IO.inn, II.esc, Option.map_some, if_true, if_false, ite_true, ite_false, reduceIte, decide_true, decide_false, Bool.not_true, Bool.not_false, Bool.false_eq_true, e, a1, a5, z, z1, z2]
theorem back_ok (hW : ∀ n, n ≤ 9000 → 2 ^ n ≤ W) {n : Nat} {kind : Int} {h s : Rat} (hh : Bd n h) (hs : Bd 30 s) (hn : n ≤ 8000) (h0 : kind = 0 ∨ kind = 1 ∨ s ≠ 0) : callD (fnsOf rows) W (k + 4) 12 [(fD (op kind h s), .val), (fD s, .val), (.int kind, .val)] = .ok (fD h, .val) := by
  have F := FR hW
  have hb := op_bd hh hs h0
  refine Eq.trans (call_at fn12 rfl) ?_
  by_cases k0 : kind = 0
  · have e := less_ok (k := k) F fn3 hb hs (by omega)
    have eo : op kind h s - s = h := by unfold op; rw [if_pos k0]; exact Rat.add_sub_cancel
    rw [eo] at e
    have z : decide (kind = 0) = true := decide_eq_true k0
    unfold b12
    simp -implicitDefEqProofs only [b_ok, b_exc, b_bad, x_cst, x_var, x_bin, x_neg, x_not, x_cmp, x_and, x_or, x_tup, x_lst, x_ix, x_slc, x_call, x_bi, x_isi, xl_nil, xl_cons, xo_none, xo_some, as_bind, s_pass, s_ex, s_set, s_par, s_unp, s_app, s_ret, s_retv, s_ite, s_whl, s_fors, s_brk, s_cnt, ss_nil, ss_cons, i_seq, i_rng, i_rng2, o_add, o_sub, o_mul, o_fdiv, o_mod, o_pow, o_addT, o_addL, o_neg, o_not, o_lt, o_le, o_gt, o_ge, o_eq, o_ne, o_eqB, o_neB, o_ixT, o_ixL, g_some, at_0, at_1, at_2, at_3, o_slcT, o_slcL, k_lenT, k_lenL, k_abs, k_int, k_intB, k_tupT, k_tupL, k_lstT, k_lstL, y_int, y_bl, y_tup, y_lst, y_str, y_non, j_and, j_or, j_opt, j_bool, j_ret, j_reto, p_val, p_own, p_rb, pa_n, pa_c, u_tup, pr_vv, ap_v, ap_o, aps, rt_v, rt_o, q_nx, q_bk, q_ct, q_rt, l_nx, l_bk, l_ct, l_rt, f_rt, f_nx, f_exc, v_eq, vo_v, vo_r, vo_o, ld_v, ld_o, ld_t, ld_r, z_nil, z_cons, z1_v, z1_o, z1_r, z1_n, obind, toVal_v, toVal_o, tv_nil, tv_v, tv_o, t_eq, l_eq, mkT_0, mkT_1, mkT_2, mkT_3, mkT_4, mkL_0, mkL_1, mkL_2, mkL_3, sq_l, sq_r, sq_o, sq_t, rg1, rg2, tg_n, tg_t, List.map_cons, List.map_nil, List.cons_append, List.nil_append, List.append_nil, List.replicate, List.set_cons_zero, List.set_cons_succ, List.getElem?_cons_zero, List.getElem?_cons_succ, Nat.reduceSub, Nat.reduceAdd, List.length_cons, List.length_nil, IE.esc, IE.inn, IL.all, IL.inn, IO.inn, II.esc, Option.map_some, if_true, if_false, ite_true, ite_false, reduceIte, decide_true, decide_false, Bool.not_true, Bool.not_false, Bool.false_eq_true, e, z]
  · have z : decide (kind = 0) = false := decide_eq_false k0
    by_cases k1 : kind = 1
    · have e := sum_ok (k := k) F fn2 hb hs (by omega)
      have eo : op kind h s + s = h := by unfold op; rw [if_neg k0, if_pos k1]; exact Rat.sub_add_cancel
      rw [eo] at e
      have z1 : decide (kind = 1) = true := decide_eq_true k1
      unfold b12
      simp -implicitDefEqProofs only [b_ok, b_exc, b_bad, x_cst, x_var, x_bin, x_neg, x_not, x_cmp, x_and, x_or, x_tup, x_lst, x_ix, x_slc, x_call, x_bi, x_isi, xl_nil, xl_cons, xo_none, xo_some, as_bind, s_pass, s_ex, s_set, s_par, s_unp, s_app, s_ret, s_retv, s_ite, s_whl, s_fors, s_brk, s_cnt, ss_nil, ss_cons, i_seq, i_rng, i_rng2, o_add, o_sub, o_mul, o_fdiv, o_mod, o_pow, o_addT, o_addL, o_neg, o_not, o_lt, o_le, o_gt, o_ge, o_eq, o_ne, o_eqB, o_neB, o_ixT, o_ixL, g_some, at_0, at_1, at_2, at_3, o_slcT, o_slcL, k_lenT, k_lenL, k_abs, k_int, k_intB, k_tupT, k_tupL, k_lstT, k_lstL, y_int, y_bl, y_tup, y_lst, y_str, y_non, j_and, j_or, j_opt, j_bool, j_ret, j_reto, p_val, p_own, p_rb, pa_n, pa_c, u_tup, pr_vv, ap_v, ap_o, aps, rt_v, rt_o, q_nx, q_bk, q_ct, q_rt, l_nx, l_bk, l_ct, l_rt, f_rt, f_nx, f_exc, v_eq, vo_v, vo_r, vo_o, ld_v, ld_o, ld_t, ld_r, z_nil, z_cons, z1_v, z1_o, z1_r, z1_n, obind, toVal_v, toVal_o, tv_nil, tv_v, tv_o, t_eq, l_eq, mkT_0, mkT_1, mkT_2, mkT_3, mkT_4, mkL_0, mkL_1, mkL_2, mkL_3, sq_l, sq_r, sq_o, sq_t, rg1, rg2, tg_n, tg_t, List.map_cons, List.map_nil, List.cons_append, List.nil_append, List.append_nil, List.replicate, List.set_cons_zero, List.set_cons_succ, List.getElem?_cons_zero, List.getElem?_cons_succ, Nat.reduceSub, Nat.reduceAdd, List.length_cons, List.length_nil, IE.esc, IE.inn, IL.all, IL.inn, IO.inn, II.esc, Option.map_some, if_true, if_false, ite_true, ite_false, reduceIte, decide_true, decide_false, Bool.not_true, Bool.not_false, Bool.false_eq_true, e, z, z1]
    · have z1 : decide (kind = 1) = false := decide_eq_false k1
      have hs0 : s ≠ 0 := by rcases h0 with z | z | z; contradiction; contradiction; exact z
      by_cases k2 : kind = 2
      · have e := by_ok (k := k) F fn5 hb hs hs0 (by omega)
        have eo : op kind h s / s = h := by unfold op; rw [if_neg k0, if_neg k1, if_pos k2]; exact Rat.mul_div_cancel hs0
        rw [eo] at e
        have z2 : decide (kind = 2) = true := decide_eq_true k2
        unfold b12
        simp -implicitDefEqProofs only [b_ok, b_exc, b_bad, x_cst, x_var, x_bin, x_neg, x_not, x_cmp, x_and, x_or, x_tup, x_lst, x_ix, x_slc, x_call, x_bi, x_isi, xl_nil, xl_cons, xo_none, xo_some, as_bind, s_pass, s_ex, s_set, s_par, s_unp, s_app, s_ret, s_retv, s_ite, s_whl, s_fors, s_brk, s_cnt, ss_nil, ss_cons, i_seq, i_rng, i_rng2, o_add, o_sub, o_mul, o_fdiv, o_mod, o_pow, o_addT, o_addL, o_neg, o_not, o_lt, o_le, o_gt, o_ge, o_eq, o_ne, o_eqB, o_neB, o_ixT, o_ixL, g_some, at_0, at_1, at_2, at_3, o_slcT, o_slcL, k_lenT, k_lenL, k_abs, k_int, k_intB, k_tupT, k_tupL, k_lstT, k_lstL, y_int, y_bl, y_tup, y_lst, y_str, y_non, j_and, j_or, j_opt, j_bool, j_ret, j_reto, p_val, p_own, p_rb, pa_n, pa_c, u_tup, pr_vv, ap_v, ap_o, aps, rt_v, rt_o, q_nx, q_bk, q_ct, q_rt, l_nx, l_bk, l_ct, l_rt, f_rt, f_nx, f_exc, v_eq, vo_v, vo_r, vo_o, ld_v, ld_o, ld_t, ld_r, z_nil, z_cons, z1_v, z1_o, z1_r, z1_n, obind, toVal_v, toVal_o, tv_nil, tv_v, tv_o, t_eq, l_eq, mkT_0, mkT_1, mkT_2, mkT_3, mkT_4, mkL_0, mkL_1, mkL_2, mkL_3, sq_l, sq_r, sq_o, sq_t, rg1, rg2, tg_n, tg_t, List.map_cons, List.map_nil, List.cons_append, List.nil_append, List.append_nil, List.replicate, List.set_cons_zero, List.set_cons_succ, List.getElem?_cons_zero, List.getElem?_cons_succ, Nat.reduceSub, Nat.reduceAdd, List.length_cons, List.length_nil, IE.esc, IE.inn, IL.all, IL.inn, IO.inn, II.esc, Option.map_some, if_true, if_false, ite_true, ite_false, reduceIte, decide_true, decide_false, Bool.not_true, Bool.not_false, Bool.false_eq_true, e, z, z1, z2]
      · have e := times_ok (k := k) F fn4 hb hs (by omega)
        have eo : op kind h s * s = h := by unfold op; rw [if_neg k0, if_neg k1, if_neg k2]; exact Rat.div_mul_cancel hs0
        rw [eo] at e
        have z2 : decide (kind = 2) = false := decide_eq_false k2
        unfold b12
        simp -implicitDefEqProofs only [b_ok, b_exc, b_bad, x_cst, x_var, x_bin, x_neg, x_not, x_cmp, x_and, x_or, x_tup, x_lst, x_ix, x_slc, x_call, x_bi, x_isi, xl_nil, xl_cons, xo_none, xo_some, as_bind, s_pass, s_ex, s_set, s_par, s_unp, s_app, s_ret, s_retv, s_ite, s_whl, s_fors, s_brk, s_cnt, ss_nil, ss_cons, i_seq, i_rng, i_rng2, o_add, o_sub, o_mul, o_fdiv, o_mod, o_pow, o_addT, o_addL, o_neg, o_not, o_lt, o_le, o_gt, o_ge, o_eq, o_ne, o_eqB, o_neB, o_ixT, o_ixL, g_some, at_0, at_1, at_2, at_3, o_slcT, o_slcL, k_lenT, k_lenL, k_abs, k_int, k_intB, k_tupT, k_tupL, k_lstT, k_lstL, y_int, y_bl, y_tup, y_lst, y_str, y_non, j_and, j_or, j_opt, j_bool, j_ret, j_reto, p_val, p_own, p_rb, pa_n, pa_c, u_tup, pr_vv, ap_v, ap_o, aps, rt_v, rt_o, q_nx, q_bk, q_ct, q_rt, l_nx, l_bk, l_ct, l_rt, f_rt, f_nx, f_exc, v_eq, vo_v, vo_r, vo_o, ld_v, ld_o, ld_t, ld_r, z_nil, z_cons, z1_v, z1_o, z1_r, z1_n, obind, toVal_v, toVal_o, tv_nil, tv_v, tv_o, t_eq, l_eq, mkT_0, mkT_1, mkT_2, mkT_3, mkT_4, mkL_0, mkL_1, mkL_2, mkL_3, sq_l, sq_r, sq_o, sq_t, rg1, rg2, tg_n, tg_t, List.map_cons, List.map_nil, List.cons_append, List.nil_append, List.append_nil, List.replicate, List.set_cons_zero, List.set_cons_succ, List.getElem?_cons_zero, List.getElem?_cons_succ, Nat.reduceSub, Nat.reduceAdd, List.length_cons, List.length_nil, IE.esc, IE.inn, IL.all, IL.inn, IO.inn, II.esc, Option.map_some, if_true, if_false, ite_true, ite_false, reduceIte, decide_true, decide_false, Bool.not_true, Bool.not_false, Bool.false_eq_true, e, z, z1, z2]
theorem three_ok (hW : ∀ n, n ≤ 9000 → 2 ^ n ≤ W) {n : Nat} {x y z : Rat} (hx : Bd n x) (hy : Bd n y) (hz : Bd n z) (hn : n ≤ 2200) : callD (fnsOf rows) W (k + 4) 13 [(fD x, .val), (fD y, .val), (fD z, .val)] = .ok (.bl true, .val) := by
  have F := FR hW
  have h1 := sum_ok (k := k) F fn2 hy hz (by omega)
  have h2 := times_ok (k := k) F fn4 hx (hy.add hz) (by omega)
  have h3 := times_ok (k := k) F fn4 hx hy (by omega)
  have h4 := times_ok (k := k) F fn4 hx hz (by omega)
  have h5 := sum_ok (k := k) F fn2 (hx.mul hy) (hx.mul hz) (by omega)
  have h6 := sum_ok (k := k) F fn2 hx hy (by omega)
  have h7 := sum_ok (k := k) F fn2 (hx.add hy) hz (by omega)
  have h8 := sum_ok (k := k) F fn2 hx (hy.add hz) (by omega)
  have h9 := less_ok (k := k) F fn3 hy hz (by omega)
  have h10 := less_ok (k := k) F fn3 hx (hy.sub hz) (by omega)
  have h11 := less_ok (k := k) F fn3 hx hy (by omega)
  have h12 := sum_ok (k := k) F fn2 (hx.sub hy) hz (by omega)
  have h13 := lesser_ok (k := k + 2) (W := W) fn6 hx hy (by omega) (by omega)
  have h14 := lesser_ok (k := k + 2) (W := W) fn6 hy hx (by omega) (by omega)
  have h15 := sum_ok (k := k) F fn2 hx hz (by omega)
  have h16 := lesser_ok (k := k + 2) (W := W) fn6 (hx.add hz) (hy.add hz) (by omega) (by omega)
  have g1 : x * (y + z) = x * y + x * z := Rat.mul_add ..
  have g2 : x + y + z = x + (y + z) := Rat.add_assoc ..
  have g3 : x - (y - z) = x - y + z := by grind
  have g4 : (x + z < y + z) ↔ x < y := Rat.add_lt_add_right
  rw [g1] at h2
  rw [g2] at h7
  rw [g3] at h10
  have g5 : decide (x + z < y + z) = decide (x < y) := by rw [decide_eq_decide]; exact g4
  rw [g5] at h16
  refine Eq.trans (call_at fn13 rfl) ?_
  unfold b13
  have s1 : decide ((if decide (x < y) = true then (1 : Int) else 0) + (if decide (y < x) = true then 1 else 0) + (if decide (x = y) = true then 1 else 0) = 1) = true := by
    refine decide_eq_true ?_
    simp only [decide_eq_true_eq]
    by_cases l1 : x < y
    · rw [if_pos l1, if_neg (by grind), if_neg (by grind)]; rfl
    · by_cases l2 : y < x
      · rw [if_neg l1, if_pos l2, if_neg (by grind)]; rfl
      · rw [if_neg l1, if_neg l2, if_pos (by grind)]; rfl
  simp -implicitDefEqProofs only [b_ok, b_exc, b_bad, x_cst, x_var, x_bin, x_neg, x_not, x_cmp, x_and, x_or, x_tup, x_lst, x_ix, x_slc, x_call, x_bi, x_isi, xl_nil, xl_cons, xo_none, xo_some, as_bind, s_pass, s_ex, s_set, s_par, s_unp, s_app, s_ret, s_retv, s_ite, s_whl, s_fors, s_brk, s_cnt, ss_nil, ss_cons, i_seq, i_rng, i_rng2, o_add, o_sub, o_mul, o_fdiv, o_mod, o_pow, o_addT, o_addL, o_neg, o_not, o_lt, o_le, o_gt, o_ge, o_eq, o_ne, o_eqB, o_neB, o_ixT, o_ixL, g_some, at_0, at_1, at_2, at_3, o_slcT, o_slcL, k_lenT, k_lenL, k_abs, k_int, k_intB, k_tupT, k_tupL, k_lstT, k_lstL, y_int, y_bl, y_tup, y_lst, y_str, y_non, j_and, j_or, j_opt, j_bool, j_ret, j_reto, p_val, p_own, p_rb, pa_n, pa_c, u_tup, pr_vv, ap_v, ap_o, aps, rt_v, rt_o, q_nx, q_bk, q_ct, q_rt, l_nx, l_bk, l_ct, l_rt, f_rt, f_nx, f_exc, v_eq, vo_v, vo_r, vo_o, ld_v, ld_o, ld_t, ld_r, z_nil, z_cons, z1_v, z1_o, z1_r, z1_n, obind, toVal_v, toVal_o, tv_nil, tv_v, tv_o, t_eq, l_eq, mkT_0, mkT_1, mkT_2, mkT_3, mkT_4, mkL_0, mkL_1, mkL_2, mkL_3, sq_l, sq_r, sq_o, sq_t, rg1, rg2, tg_n, tg_t, List.map_cons, List.map_nil, List.cons_append, List.nil_append, List.append_nil, List.replicate, List.set_cons_zero, List.set_cons_succ, List.getElem?_cons_zero, List.getElem?_cons_succ, Nat.reduceSub, Nat.reduceAdd, List.length_cons, List.length_nil, IE.esc, IE.inn, IL.all, IL.inn, IO.inn, II.esc, Option.map_some, if_true, if_false, ite_true, ite_false, reduceIte, decide_true, decide_false, Bool.not_true, Bool.not_false, Bool.false_eq_true, h1, h2, h3, h4, h5, h6, h7, h8, h9, h10, h11, h12, h13, h14, h15, h16, cmp_neF, cmp_eqF, s1]
def wLaw : ISs := (.cons (.set 5 (.call 10 (.cons (.var 4) .nil))) (.cons (.set 6 (.bin .mod (.var 4) (.cst (.int 4)))) (.cons (.ite (.cmp .eq (.ix (.var 5) (.cst (.int 0))) (.cst (.int 0))) (.cons (.set 6 (.bin .mod (.var 6) (.cst (.int 2)))) .nil) .nil) (.cons (.unp [7, 2] (.call 11 (.cons (.var 1) (.cons (.var 2) (.cons (.var 5) (.cons (.var 6) .nil)))))) (.cons (.ite (.not (.call 9 (.cons (.var 7) (.cons (.call 8 (.cons (.ix (.var 2) (.cst (.int 0))) (.cons (.ix (.var 2) (.cst (.int 1))) .nil))) .nil)))) (.cons (.ret (.cst (.bl false))) .nil) .nil) (.cons (.ite (.cmp .ne (.call 12 (.cons (.var 7) (.cons (.var 5) (.cons (.var 6) .nil)))) (.var 1)) (.cons (.ret (.cst (.bl false))) .nil) .nil) (.cons (.set 1 (.var 7)) (.cons (.set 2 (.var 1)) (.cons (.app 3 (.var 1)) (.cons (.ite (.not (.call 13 (.cons (.ix (.var 3) (.neg (.cst (.int 3)))) (.cons (.ix (.var 3) (.neg (.cst (.int 2)))) (.cons (.ix (.var 3) (.neg (.cst (.int 1)))) .nil))))) (.cons (.ret (.cst (.bl false))) .nil) .nil) .nil))))))))))
theorem cut_take (xs : List D) (k : Nat) : cutD xs none (some (k : Int)) = xs.take k := by
  unfold cutD
  rw [HT.sIx_none, HT.sIx_nat]
  show (xs.drop 0).take (min k xs.length - 0) = _
  rw [List.drop_zero, Nat.sub_zero]
  by_cases h : k ≤ xs.length
  · rw [Nat.min_eq_left h]
  · rw [Nat.min_eq_right (by omega), List.take_of_length_le (Nat.le_refl _), List.take_of_length_le (by omega)]
theorem turn_ok (hW : ∀ n, n ≤ 9000 → 2 ^ n ≤ W) {n : Nat} {h x y : Rat} {pre : List D} (c : Int) (hh : Bd n h) (hx : Bd n x) (hy : Bd n y) (hn : n ≤ 2100) (hl : pre.length ≤ 100) (s0 c5 c6 c7 : Option DM) :
    ∃ (h' : Rat) (d5 d6 d7 : Option DM), Bd (n + 31) h' ∧ evSs (callD (fnsOf rows) W (k + 4)) W wLaw [s0, some (fD h, .val), some (fD h, .val), some (.lst (pre ++ [fD x, fD y]), .own), some (.int c, .val), c5, c6, c7] =
      .ok (.nx [s0, some (fD h', .val), some (fD h', .val), some (.lst ((pre ++ [fD x]) ++ [fD y, fD h']), .own), some (.int c, .val), d5, d6, d7]) := by
  obtain ⟨s, hs, es⟩ := drawn_ok (W := W) (k := k + 2) hW c
  have k1 := Int.emod_nonneg c (b := 4) (by decide)
  have k2 := Int.emod_lt_of_pos c (b := 4) (by decide)
  rw [← Int.fmod_eq_emod_of_nonneg _ (by decide)] at k1 k2
  have e4 : ¬ ((4 : Int) = 0) := by decide
  have e2 : ¬ ((2 : Int) = 0) := by decide
  have main : ∀ kind : Int, (kind = 0 ∨ kind = 1 ∨ s ≠ 0) → (decide (s.num = 0) = true ∧ kind = (c.fmod 4).fmod 2 ∨ decide (s.num = 0) = false ∧ kind = c.fmod 4) → ∃ (h' : Rat) (d5 d6 d7 : Option DM), Bd (n + 31) h' ∧ evSs (callD (fnsOf rows) W (k + 4)) W wLaw [s0, some (fD h, .val), some (fD h, .val), some (.lst (pre ++ [fD x, fD y]), .own), some (.int c, .val), c5, c6, c7] =
      .ok (.nx [s0, some (fD h', .val), some (fD h', .val), some (.lst ((pre ++ [fD x]) ++ [fD y, fD h']), .own), some (.int c, .val), d5, d6, d7]) := fun kind h0 hk => by
    obtain ⟨t, b, b0, bB, eq, ed⟩ := deed_ok (k := k) hW hh hs (by omega) h0
    have ebk := back_ok (k := k) hW hh hs (by omega) h0
    have bo := op_bd hh hs h0
    have el := lawfrac_ok (k := k + 3) t b0 bB (by omega) (Nat.lt_of_lt_of_le bB (hW _ (by omega)))
    rw [eq] at el
    have esm := same_ok (W := W) (k := k + 2) (op kind h s) (op kind h s)
    have et := three_ok (k := k) hW (hx.mono (Nat.le_add_right n 31)) (hy.mono (Nat.le_add_right n 31)) bo (by omega)
    generalize op kind h s = o at *
    refine ⟨o, some (fD s, .val), some (.int kind, .val), some (fD o, .val), bo, ?_⟩
    have es0 : ∀ q, fD s = q → q = .tup [.int s.num, .int s.den] := fun q e => e ▸ rfl
    have ix0 : ixD (fD s, .val) (.int 0, .val) = .ok (.int s.num, .val) := rfl
    have len : lenOk ((pre ++ [fD x, fD y]).length + 1) = true := by
      unfold lenOk
      refine decide_eq_true ?_
      rw [List.length_append]
      show pre.length + 2 + 1 ≤ _
      omega
    have len2 : (pre ++ [fD x, fD y] ++ [fD o]).length = pre.length + 3 := by
      rw [List.length_append, List.length_append]
      rfl
    have a3 : atI (pre ++ [fD x, fD y] ++ [fD o]) (-3) = some (fD x) := by
      refine (at_neg _ 3 (by decide) (by omega)).trans ?_
      rw [len2, List.append_assoc, List.getElem?_append_right (by omega), show pre.length + 3 - 3 - pre.length = 0 by omega]
      rfl
    have a2 : atI (pre ++ [fD x, fD y] ++ [fD o]) (-2) = some (fD y) := by
      refine (at_neg _ 2 (by decide) (by omega)).trans ?_
      rw [len2, List.append_assoc, List.getElem?_append_right (by omega), show pre.length + 3 - 2 - pre.length = 1 by omega]
      rfl
    have a1 : atI (pre ++ [fD x, fD y] ++ [fD o]) (-1) = some (fD o) := by
      refine (at_neg _ 1 (by decide) (by omega)).trans ?_
      rw [len2, List.append_assoc, List.getElem?_append_right (by omega), show pre.length + 3 - 1 - pre.length = 2 by omega]
      rfl
    have el3 : (pre ++ [fD x]) ++ [fD y, fD o] = pre ++ [fD x, fD y] ++ [fD o] := by simp
    rw [el3]
    unfold wLaw
    generalize callD (fnsOf rows) W (k + 4) = cl at *
    rcases hk with ⟨z, hk⟩ | ⟨z, hk⟩
    · rw [hk] at ed ebk ⊢
      simp -implicitDefEqProofs only [b_ok, b_exc, b_bad, x_cst, x_var, x_bin, x_neg, x_not, x_cmp, x_and, x_or, x_tup, x_lst, x_ix, x_slc, x_call, x_bi, x_isi, xl_nil, xl_cons, xo_none, xo_some, as_bind, s_pass, s_ex, s_set, s_par, s_unp, s_app, s_ret, s_retv, s_ite, s_whl, s_fors, s_brk, s_cnt, ss_nil, ss_cons, i_seq, i_rng, i_rng2, o_add, o_sub, o_mul, o_fdiv, o_mod, o_pow, o_addT, o_addL, o_neg, o_not, o_lt, o_le, o_gt, o_ge, o_eq, o_ne, o_eqB, o_neB, o_ixT, o_ixL, g_some, at_0, at_1, at_2, at_3, o_slcT, o_slcL, k_lenT, k_lenL, k_abs, k_int, k_intB, k_tupT, k_tupL, k_lstT, k_lstL, y_int, y_bl, y_tup, y_lst, y_str, y_non, j_and, j_or, j_opt, j_bool, j_ret, j_reto, p_val, p_own, p_rb, pa_n, pa_c, u_tup, pr_vv, ap_v, ap_o, aps, rt_v, rt_o, q_nx, q_bk, q_ct, q_rt, l_nx, l_bk, l_ct, l_rt, f_rt, f_nx, f_exc, v_eq, vo_v, vo_r, vo_o, ld_v, ld_o, ld_t, ld_r, z_nil, z_cons, z1_v, z1_o, z1_r, z1_n, obind, toVal_v, toVal_o, tv_nil, tv_v, tv_o, t_eq, l_eq, mkT_0, mkT_1, mkT_2, mkT_3, mkT_4, mkL_0, mkL_1, mkL_2, mkL_3, sq_l, sq_r, sq_o, sq_t, rg1, rg2, tg_n, tg_t, List.map_cons, List.map_nil, List.cons_append, List.nil_append, List.append_nil, List.replicate, List.set_cons_zero, List.set_cons_succ, List.getElem?_cons_zero, List.getElem?_cons_succ, Nat.reduceSub, Nat.reduceAdd, List.length_cons, List.length_nil, IE.esc, IE.inn, IL.all, IL.inn, IO.inn, II.esc, Option.map_some, if_true, if_false, ite_true, ite_false, reduceIte, decide_true, decide_false, Bool.not_true, Bool.not_false, Bool.false_eq_true, es, ix0, if_neg e4, if_neg e2, z, ed, el, esm, ebk, cmp_neF, len, a1, a2, a3, et]
    · rw [hk] at ed ebk ⊢
      simp -implicitDefEqProofs only [b_ok, b_exc, b_bad, x_cst, x_var, x_bin, x_neg, x_not, x_cmp, x_and, x_or, x_tup, x_lst, x_ix, x_slc, x_call, x_bi, x_isi, xl_nil, xl_cons, xo_none, xo_some, as_bind, s_pass, s_ex, s_set, s_par, s_unp, s_app, s_ret, s_retv, s_ite, s_whl, s_fors, s_brk, s_cnt, ss_nil, ss_cons, i_seq, i_rng, i_rng2, o_add, o_sub, o_mul, o_fdiv, o_mod, o_pow, o_addT, o_addL, o_neg, o_not, o_lt, o_le, o_gt, o_ge, o_eq, o_ne, o_eqB, o_neB, o_ixT, o_ixL, g_some, at_0, at_1, at_2, at_3, o_slcT, o_slcL, k_lenT, k_lenL, k_abs, k_int, k_intB, k_tupT, k_tupL, k_lstT, k_lstL, y_int, y_bl, y_tup, y_lst, y_str, y_non, j_and, j_or, j_opt, j_bool, j_ret, j_reto, p_val, p_own, p_rb, pa_n, pa_c, u_tup, pr_vv, ap_v, ap_o, aps, rt_v, rt_o, q_nx, q_bk, q_ct, q_rt, l_nx, l_bk, l_ct, l_rt, f_rt, f_nx, f_exc, v_eq, vo_v, vo_r, vo_o, ld_v, ld_o, ld_t, ld_r, z_nil, z_cons, z1_v, z1_o, z1_r, z1_n, obind, toVal_v, toVal_o, tv_nil, tv_v, tv_o, t_eq, l_eq, mkT_0, mkT_1, mkT_2, mkT_3, mkT_4, mkL_0, mkL_1, mkL_2, mkL_3, sq_l, sq_r, sq_o, sq_t, rg1, rg2, tg_n, tg_t, List.map_cons, List.map_nil, List.cons_append, List.nil_append, List.append_nil, List.replicate, List.set_cons_zero, List.set_cons_succ, List.getElem?_cons_zero, List.getElem?_cons_succ, Nat.reduceSub, Nat.reduceAdd, List.length_cons, List.length_nil, IE.esc, IE.inn, IL.all, IL.inn, IO.inn, II.esc, Option.map_some, if_true, if_false, ite_true, ite_false, reduceIte, decide_true, decide_false, Bool.not_true, Bool.not_false, Bool.false_eq_true, es, ix0, if_neg e4, if_neg e2, z, ed, el, esm, ebk, cmp_neF, len, a1, a2, a3, et]
  by_cases z : s.num = 0
  · have f1 := Int.emod_nonneg (c.fmod 4) (b := 2) (by decide)
    have f2 := Int.emod_lt_of_pos (c.fmod 4) (b := 2) (by decide)
    rw [← Int.fmod_eq_emod_of_nonneg _ (by decide)] at f1 f2
    exact main _ (by omega) (.inl ⟨decide_eq_true z, rfl⟩)
  · exact main _ (.inr (.inr fun e => z (by rw [e]; rfl))) (.inr ⟨decide_eq_false z, rfl⟩)
theorem loop_ok (hW : ∀ n, n ≤ 9000 → 2 ^ n ≤ W) (s0 : Option DM) : ∀ (l : List Int) (n : Nat) (h x y : Rat) (pre : List D) (c4 c5 c6 c7 : Option DM), Bd n h → Bd n x → Bd n y → n + 31 * l.length ≤ 2100 → pre.length + l.length ≤ 100 →
    ∃ δ, forR (evSs (callD (fnsOf rows) W (k + 4)) W wLaw) (.name 4) (l.map D.int) [s0, some (fD h, .val), some (fD h, .val), some (.lst (pre ++ [fD x, fD y]), .own), c4, c5, c6, c7] = .ok (.nx δ)
  | [], n, h, x, y, pre, c4, c5, c6, c7, hh, hx, hy, hn, hl => ⟨_, rfl⟩
  | c :: l, n, h, x, y, pre, c4, c5, c6, c7, hh, hx, hy, hn, hl => by
    rw [List.length_cons] at hn hl
    obtain ⟨h', d5, d6, d7, bo, e⟩ := turn_ok (k := k) hW (pre := pre) c hh hx hy (by omega) (by omega) s0 c5 c6 c7
    obtain ⟨δ, ih⟩ := loop_ok hW s0 l (n + 31) h' y h' (pre ++ [fD x]) (some (.int c, .val)) d5 d6 d7 bo (hy.mono (by omega)) bo (by omega) (by rw [List.length_append]; show pre.length + 1 + l.length ≤ 100; omega)
    refine ⟨δ, ?_⟩
    rw [List.map_cons, fr_cons]
    simp -implicitDefEqProofs only [b_ok, b_exc, b_bad, x_cst, x_var, x_bin, x_neg, x_not, x_cmp, x_and, x_or, x_tup, x_lst, x_ix, x_slc, x_call, x_bi, x_isi, xl_nil, xl_cons, xo_none, xo_some, as_bind, s_pass, s_ex, s_set, s_par, s_unp, s_app, s_ret, s_retv, s_ite, s_whl, s_fors, s_brk, s_cnt, ss_nil, ss_cons, i_seq, i_rng, i_rng2, o_add, o_sub, o_mul, o_fdiv, o_mod, o_pow, o_addT, o_addL, o_neg, o_not, o_lt, o_le, o_gt, o_ge, o_eq, o_ne, o_eqB, o_neB, o_ixT, o_ixL, g_some, at_0, at_1, at_2, at_3, o_slcT, o_slcL, k_lenT, k_lenL, k_abs, k_int, k_intB, k_tupT, k_tupL, k_lstT, k_lstL, y_int, y_bl, y_tup, y_lst, y_str, y_non, j_and, j_or, j_opt, j_bool, j_ret, j_reto, p_val, p_own, p_rb, pa_n, pa_c, u_tup, pr_vv, ap_v, ap_o, aps, rt_v, rt_o, q_nx, q_bk, q_ct, q_rt, l_nx, l_bk, l_ct, l_rt, f_rt, f_nx, f_exc, v_eq, vo_v, vo_r, vo_o, ld_v, ld_o, ld_t, ld_r, z_nil, z_cons, z1_v, z1_o, z1_r, z1_n, obind, toVal_v, toVal_o, tv_nil, tv_v, tv_o, t_eq, l_eq, mkT_0, mkT_1, mkT_2, mkT_3, mkT_4, mkL_0, mkL_1, mkL_2, mkL_3, sq_l, sq_r, sq_o, sq_t, rg1, rg2, tg_n, tg_t, List.map_cons, List.map_nil, List.cons_append, List.nil_append, List.append_nil, List.replicate, List.set_cons_zero, List.set_cons_succ, List.getElem?_cons_zero, List.getElem?_cons_succ, Nat.reduceSub, Nat.reduceAdd, List.length_cons, List.length_nil, IE.esc, IE.inn, IL.all, IL.inn, IO.inn, II.esc, Option.map_some, if_true, if_false, ite_true, ite_false, reduceIte, decide_true, decide_false, Bool.not_true, Bool.not_false, Bool.false_eq_true, e]
    exact ih
theorem law_ok (hW : ∀ n, n ≤ 9000 → 2 ^ n ≤ W) (ns : List Int) (hn : ns.length ≤ 63) : callD (fnsOf rows) W (k + 5) 14 [(.lst (ns.map D.int), .val)] = .ok (.bl true, .val) := by
  refine Eq.trans (call_at fn14 rfl) ?_
  have b0 : Bd 1 0 := ⟨by unfold Big; decide, by unfold Big; decide⟩
  have b1 : Bd 1 1 := ⟨by unfold Big; decide, by unfold Big; decide⟩
  have ec : cutD (ns.map D.int) none (some 62) = (ns.take 62).map D.int := by
    rw [List.map_take]
    exact cut_take _ 62
  have ea : (ns.take 62).map D.int ++ [D.int 4, D.int 7] = (ns.take 62 ++ [4, 7]).map D.int := by rw [List.map_append]; rfl
  have tl : (ns.take 62).length ≤ 62 := by rw [List.length_take]; omega
  have len : lenOk (((ns.take 62).map D.int).length + (0 + 1 + 1)) = true := by
    unfold lenOk
    refine decide_eq_true ?_
    rw [List.length_map]
    omega
  obtain ⟨δ, e⟩ := loop_ok (k := k) hW (some (.lst (ns.map D.int), .val)) (ns.take 62 ++ [4, 7]) 1 0 0 1 [] none none none none b0 b0 b1 (by rw [List.length_append]; show 1 + 31 * ((ns.take 62).length + 2) ≤ 2100; omega) (by rw [List.length_append]; show 0 + ((ns.take 62).length + 2) ≤ 100; omega)
  have z0 : fD 0 = .tup [.int 0, .int 1] := rfl
  have z1 : fD 1 = .tup [.int 1, .int 1] := rfl
  rw [z0, z1] at e
  unfold b14
  unfold wLaw at e
  rw [List.nil_append] at e
  generalize callD (fnsOf rows) W (k + 4) = cl at *
  simp -implicitDefEqProofs only [b_ok, b_exc, b_bad, x_cst, x_var, x_bin, x_neg, x_not, x_cmp, x_and, x_or, x_tup, x_lst, x_ix, x_slc, x_call, x_bi, x_isi, xl_nil, xl_cons, xo_none, xo_some, as_bind, s_pass, s_ex, s_set, s_par, s_unp, s_app, s_ret, s_retv, s_ite, s_whl, s_fors, s_brk, s_cnt, ss_nil, ss_cons, i_seq, i_rng, i_rng2, o_add, o_sub, o_mul, o_fdiv, o_mod, o_pow, o_addT, o_addL, o_neg, o_not, o_lt, o_le, o_gt, o_ge, o_eq, o_ne, o_eqB, o_neB, o_ixT, o_ixL, g_some, at_0, at_1, at_2, at_3, o_slcT, o_slcL, k_lenT, k_lenL, k_abs, k_int, k_intB, k_tupT, k_tupL, k_lstT, k_lstL, y_int, y_bl, y_tup, y_lst, y_str, y_non, j_and, j_or, j_opt, j_bool, j_ret, j_reto, p_val, p_own, p_rb, pa_n, pa_c, u_tup, pr_vv, ap_v, ap_o, aps, rt_v, rt_o, q_nx, q_bk, q_ct, q_rt, l_nx, l_bk, l_ct, l_rt, f_rt, f_nx, f_exc, v_eq, vo_v, vo_r, vo_o, ld_v, ld_o, ld_t, ld_r, z_nil, z_cons, z1_v, z1_o, z1_r, z1_n, obind, toVal_v, toVal_o, tv_nil, tv_v, tv_o, t_eq, l_eq, mkT_0, mkT_1, mkT_2, mkT_3, mkT_4, mkL_0, mkL_1, mkL_2, mkL_3, sq_l, sq_r, sq_o, sq_t, rg1, rg2, tg_n, tg_t, List.map_cons, List.map_nil, List.cons_append, List.nil_append, List.append_nil, List.replicate, List.set_cons_zero, List.set_cons_succ, List.getElem?_cons_zero, List.getElem?_cons_succ, Nat.reduceSub, Nat.reduceAdd, List.length_cons, List.length_nil, IE.esc, IE.inn, IL.all, IL.inn, IO.inn, II.esc, Option.map_some, if_true, if_false, ite_true, ite_false, reduceIte, decide_true, decide_false, Bool.not_true, Bool.not_false, Bool.false_eq_true, ec, len, ea, s_fors, i_seq, e]
def fuel (n : Nat) : Nat := 2 ^ n
theorem fuel_ok : ∀ n, n ≤ 9000 → 2 ^ n ≤ fuel 9000 := fun n h => Nat.pow_le_pow_right (by decide) h
def depth : Nat := 5
theorem plain (ns : List Int) (h : ns.length ≤ 63) (_ : ∀ z ∈ ns, Builtin.Int.intBits z ≤ 1048576) : callD (fnsOf rows) (fuel 9000) depth 14 [(.lst (ns.map D.int), .val)] = okB true := law_ok (k := 0) fuel_ok ns h
end K03
open PySem PySem.W PySem.Calls PyProof.Rows
theorem PySem.Challenge.cw_everydraw_k03_whole_walks_of_fractions_holds : PySem.Challenge.rw_everydraw_k03_whole_walks_of_fractions.Holds := by
  w_on; o_law
  refine HandSHeadRun.head_any (r := OpenLaw.row PySem.Challenge.rw_everydraw_k03_whole_walks_of_fractions) (q := view (OpenLaw.row PySem.Challenge.rw_everydraw_k03_whole_walks_of_fractions).prog [19]) (H := K03.hk) (ob := K03.ob) (M := 6000) (loose := K03.loose) (d := HandSHeadRun.topDef (OpenLaw.row PySem.Challenge.rw_everydraw_k03_whole_walks_of_fractions).prog 19) (kwd := []) K03.ob_eq
    (by kernel_rfl) (fun s => by kernel_rfl) K03.run (by kernel_rfl) (by kernel_rfl) (by kernel_rfl) (by rfl) (by first | assumption | decide +kernel) (by decide +kernel) ⟨rfl, rfl, rfl, rfl, rfl, by decide +kernel⟩ ?hw ?hc
  case hw => w_witness2
  case hc =>
    refine LamX.walk_ofTsE (l := PySem.Challenge.rw_everydraw_k03_whole_walks_of_fractions) (n := 63) (k := K03.depth) (x := "_law_script") (CX := fun w => L2.CX (PySem.Challenge.rw_everydraw_k03_whole_walks_of_fractions).prog w) rfl (by decide) (by kernel_rfl) ⟨rfl, by decide, by decide⟩ ?F (fun _ _ _ _ _ z => by
      obtain ⟨_, _, _, _, _, _, _, _, _, _, _, _, z⟩ := z
      exact z)
    intro w mg fa h Y G hmg0
    obtain ⟨K, KX, c⟩ := Y
    have hmg : mg ("law" : PySem.Str) = some (.ref fa) := by
      have e : (HandSHeadRun.topDef (OpenLaw.row PySem.Challenge.rw_everydraw_k03_whole_walks_of_fractions).prog 19).name = ("law" : PySem.Str) := by kernel_rfl
      rw [← e]
      exact hmg0
    exact Ev.law_of KX G c K03.all K03.depth 14 63 (r := K03.w14) rfl rfl hmg K03.plain _
