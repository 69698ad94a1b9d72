import PyProof.Rows.All
import Wide.All
import OpenK.AllK
import Wide.FinOn
import KE.KStateDown
import HandS.ForMost
import HandS.ForExc
import HandS.ExcInit
import HandS.TryMany
import HandS.Defaults
import HandS.Gcd
import HandS.IsInst
import HandS.Deep
import HandS.Conv
import HandS.RaiseMore
import HandS.Wide
import HandS.Zip
import HandS.TupAny
import HandS.Style
import HandS.Small
import HandS.Head2
import HandS.Lambda
import HandS.EndTab
import HandS.HeadEnd
import HandS.HeadHook2
import HandS.HeadWalk
import HandS.EndBits
import HandS.ExcField
import HandS.Head3
import KE.GoesMore
import KE.GoesEnum
import KE.KExcSuper
import KE.KSuper
import HandS.ExcValue
import PyProof.SumAny
import KE.SortData
import HandS.SortInts
import HandS.OwnEq
import HandS.WideBits
import KE.SortCalls
import KE.KNestM
import PySem.Challenge.RW_leverheaps_k71_whole_complements
section
set_option Elab.async false
set_option linter.all false
set_option maxRecDepth 100000
set_option maxHeartbeats 2000000
namespace Lv
open PySem PySem.Spec PyProof.Rows L2
open He (ga ma fAd eqO eqO_ok ba frG frG_in asD)

inductive Fx where
  | fa (f : He.Fa)
  | exi (x self : Str) (ps : List Str)
  | xf (x : Str)
  | ins (x : Str)
  | kit (t : Sum String Str) (cs : List (Sum String Str)) (b : Bool)
  | opb (x : Str) (op : Operator)
  | ktup (x : Str) (vs : List He.Dv)
  | exm (xs : List Str)
  | bfun (x : Str) (id : String)
  | opr (x : Str)
def clV (K : PySem.W.Frag) : Sum String Str → Value
  | .inl T => .type T
  | .inr x => .ref (ga K x)
def oexB (K : PySem.W.Frag) (C : Addr) : Bool := match K.lookup C with
  | some ⟨.type "type", _, .cls cd, sl⟩ => (match cd.mro, sl.toList with
    | .ref C' :: bm, [_, _, _, _, some (.builtin n), _] => decide (C' = C) && (decide (n = "ValueError.__new__") && (!cd.hasDel && (cd.hasDict && PySem.HandSPX.refsVE bm)))
    | _, _ => false)
  | _ => false
/-- the __init__'s code object, its file; the closure's cell -/
def exFnB (pf : Str) (K : PySem.W.Frag) (C f : Addr) (self : Str) (ps : List Str) : Bool := match K.lookup f with
  | some ⟨_, _, .func fd, _⟩ => (match fd.code, fd.closure, (fd.params.posonlyargs ++ fd.params.args).head?, fd.defaults with
    | .ref cda, [(cn, cc)], some ar, .none => decide (cn = ("__class__" : Str)) && (PySem.W.codeIn K (.ref cda) fd.qualname && (decide (ar.arg = self) &&
        ((match K.lookup cda with
          | some ⟨_, _, .fields vs, _⟩ => (match (vs[2]? : Option Value) with
            | some (.str file _) => pf == file
            | _ => false)
          | _ => false) &&
        (match K.lookup cc with
          | some ⟨_, _, .cell (some (.ref D)), _⟩ => decide (D = C)
          | _ => false))))
    | _, _, _, _ => false)
  | _ => false
def Fx.ok (pf : Str) (K : PySem.W.Frag) : Fx → Bool
  | .fa f => f.ok K
  | .exi x self ps => oexB K (ga K x) && (eqO (PySem.W.findIn K (.ref (ga K x)) "__setattr__") (some (some (.builtin "object.__setattr__"))) && (decide (PySem.W.subIn K (.ref (ga K x)) (.type "BaseException") = some true) && (decide (PySem.W.typeIn K (.ref (ga K x)) = some (.type "type")) &&
      (PySem.W.keepIn K (.ref (ga K x)) && (eqO (PySem.W.findIn K (.ref (ga K x)) "__init__") (some (some (.ref (ma K (ga K x) "__init__")))) && (decide (PySem.W.typeIn K (.ref (ma K (ga K x) "__init__")) = some (.type "function")) &&
      (eqO (PySem.W.nsIn K cStatics "thirdparty.any") (some none) && (eqO (PySem.W.ks_superIn K (ga K x) (ga K x) "__init__") (some (some (.builtin "ValueError.__init__"))) && (decide (PySem.W.subIn K (.ref (ga K x)) (.type "ValueError") = some true) &&
      (decide (PySem.W.mroIn K (ga K x) (.ref (ga K x)) = some true) && ((ps.all fun f => eqO (PySem.W.findIn K (.ref (ga K x)) f) (some none)) && exFnB pf K (ga K x) (ma K (ga K x) "__init__") self ps)))))))))))
  | .xf x => xfB K (ga K x)
  | .ins x => PySem.W.plainGet K (ga K x) Str.empty && (PySem.W.hasDictIn K (ga K x) && (PySem.W.plainOver K (ga K x) && (eqO (PySem.W.findIn K (.ref (ga K x)) "__setattr__") (some (some (.builtin "object.__setattr__"))) &&
      (eqO (PySem.W.findIn K (.ref (ga K x)) "__class__") (some (some (.builtin "object.__class__"))) && (eqO (PySem.W.specialIn K (.builtin "object.__class__") "__get__") (some (some (.builtin "getset_descriptor.__get__"))) &&
      (decide (PySem.W.takesIn K (.builtin "object.__class__") = some true) && decide (PySem.W.mroIn K (ga K x) (.type "object") = some true)))))))
  | .kit t cs b => decide (PySem.W.kitAny K (clV K t) (cs.map (clV K)) = some b)
  | .opb x op => PySem.W.selfFirst K (ga K x) && ((match PySem.W.findIn K (.ref (ga K x)) (dunderR op.info.2) with
      | some none => true
      | some (some (.ref _)) => true
      | _ => false) && ((PySem.W.findIn K (.type "int") (PySem.dunder op.info.2)).isSome && ((PySem.W.findIn K (.type "int") (dunderR op.info.2)).isSome && decide (PySem.W.subIn K (.type "int") (.ref (ga K x)) = some false))))
  | .ktup x vs => He.tupB K x vs
  | .exm xs => xs.all fun x => xs.all fun y => decide (PySem.W.exmOne K (.ref (ga K x)) (.ref (ga K y)) = some (decide (x = y)))
  | .opr x => decide (PySem.W.subIn K (.ref (ga K x)) (.type "int") = some false)
  | .bfun x id => eqO (PySem.W.nsIn K mainGlobals x) (some (some (.builtin id)))
/-- what an exception's __init__ looks like in the text -/
structure XD where
  cls : Str
  qual : Str
  params : Arguments
  body : List Stmt
  scope : Scope
  self : Str
  ps : List Str
abbrev FnZ : Type := Option (Str × Str × Arguments × FuncBody × Scope × Addr × List Str × Addr)
def fnZ (K : PySem.W.Frag) (x : Str) : FnZ := match K.lookup (ma K (ga K x) "__init__") with
  | some ⟨_, _, .func fd, _⟩ => some (fd.name, fd.qualname, fd.params, fd.body, fd.scope, fd.globals, fd.closure.map (·.1), fd.builtins)
  | _ => none
def XD.val (d : XD) : FnZ := some ("__init__", d.qual, d.params, .stmts d.body, d.scope, mainGlobals, ["__class__"], builtinsNs)
def tabB (K' : PySem.W.Frag) (x : Str) : Bool := match PySem.W.tabIn K' x with
  | some (c, P) => (match K'.lookup P with
      | some ⟨.none, none, .fields ps, sl⟩ => ps.isEmpty && sl.isEmpty
      | _ => false) && (match K'.lookup c with
      | some ⟨.type t, _, .fields vs, _⟩ => decide (t = "code") && (decide ((vs[11]? : Option Value) = some (.ref P)) && ((match vs.getD 18 .none with
          | .str _ _ => true
          | _ => false) && ((match vs.getD 7 .none with
          | .int _ _ => true
          | _ => false) && ((match vs.getD 9 .none with
          | .bool _ => true
          | _ => false) && ((match vs.getD 10 .none with
          | .int _ _ => true
          | _ => false) && decide (c ≠ P))))))
      | _ => false)
  | none => false
def tabOf (K' : PySem.W.Frag) (x : Str) : Addr × Addr := (PySem.W.tabIn K' x).getD (0, 0)
def cutT (K' : PySem.W.Frag) (ts : List Str) : PySem.W.Frag := K'.filter fun q => !(ts.any fun x => q.1 == (tabOf K' x).2)
abbrev AlX : Type := Bool × List He.FnW × List FnZ
def obsK (pf : Str) (ts : List Str) (fx : List Fx) (fn : List He.DefD) (xd : List XD) (K' K : PySem.W.Frag) : AlX :=
  ((fx.all fun f => f.ok pf K) && ((fn.all fun d => d.ok K) && ts.all fun x => tabB K' x), fn.map (fun d => He.fnW K d.at_), xd.map fun d => fnZ K d.cls)
def valX (fn : List He.DefD) (xd : List XD) : AlX := (true, fn.map He.DefD.val, xd.map XD.val)
def obsX (n : Nat) (pf : Str) (ts : List Str) (fx : List Fx) (fn : List He.DefD) (xd : List XD) (g : Addr → Option Obj) : AlX := obsK pf ts fx fn xd (frG g (cStatics :: asD g n)) (cutT (frG g (cStatics :: asD g n)) ts)
def SaysX (pf : Str) (ts : List Str) (fx : List Fx) (fn : List He.DefD) (xd : List XD) (K' : PySem.W.Frag) : Prop := obsK pf ts fx fn xd K' (cutT K' ts) = valX fn xd
def hookX (n : Nat) (pf : Str) (ts : List Str) (fx : List Fx) (fn : List He.DefD) (xd : List XD) : PySem.W.Hook where
  α := AlX
  obs := fun s => obsX n pf ts fx fn xd s.heap.get?
  val := fun _ => valX fn xd
  says := fun _ h => ∃ K' : PySem.W.Frag, K'.In h ∧ SaysX pf ts fx fn xd K'
  of := fun _ _ e => ⟨_, frG_in, e⟩
  keeps := fun _ _ _ ⟨K, hK, c⟩ k => ⟨K, PySem.W.Frag.In.keeps hK k, c⟩
theorem obsX_eq {n : Nat} {pf : Str} {ts : List Str} {fx : List Fx} {fn : List He.DefD} {xd : List XD} {g : Addr → Option Obj} {s : Shared} (h : ∀ a, g a = s.heap.get? a) : obsX n pf ts fx fn xd g = (hookX n pf ts fx fn xd).obs s := by
  have e : g = s.heap.get? := funext h
  rw [e] <;> rfl
def cb (s : Stmt) : List Stmt := match s with
  | .ClassDef _ _ _ b _ _ _ _ _ _ _ => b
  | _ => []
end Lv
end
section
set_option Elab.async false
set_option linter.all false
set_option maxRecDepth 100000
namespace Lv
/-! ### partings: what the defs compute, in plain lists -/
abbrev Bl := List Nat
abbrev Pt := List Bl
namespace Pa
def hd (b : Bl) : Nat := b.headD 0
def la : Bl → Nat
  | [] => 0
  | [a] => a
  | _ :: b :: r => la (b :: r)
def wth (item : Nat) (p : Pt) : List Pt := (p ++ [[item]]) :: (List.range p.length).map fun k => p.take k ++ [p.getD k [] ++ [item]] ++ p.drop (k + 1)
def parts : Nat → List Pt
  | 0 => [[]]
  | n + 1 => (parts n).flatMap (wth n)
def many (p : Pt) : Nat := (p.map List.length).sum
/-! the package's tests -/
def rows (p : Pt) : Bool := p.all fun b => Nat.beq (la b + 1) (b.length + hd b)
def whole (p : Pt) : Bool := (List.range (many p - 1)).all fun i => !(p.all fun b => Nat.blt (la b) (i + 1) || Nat.ble (i + 1) (hd b))
def areX (one other : Bl) : Bool := (one.zip one.tail).any fun q => let c := (other.filter fun x => Nat.blt q.1 x && Nat.blt x q.2).length; Nat.blt 0 c && Nat.blt c other.length
def jTurn (p : Pt) (here : Nat) (s : List Nat × List Nat) (k : Nat) : List Nat × List Nat := if !(s.1.any fun m => Nat.beq m k) && areX (p.getD here []) (p.getD k []) then (s.1 ++ [k], s.2 ++ [k]) else s
def jLoop (p : Pt) : Nat → List Nat → List Nat → Option (List Nat)
  | 0, _, _ => none
  | f + 1, met, w => match w with
    | [] => some met
    | _ :: _ => let s := (List.range p.length).foldl (jTurn p (la w)) (met, w.dropLast); jLoop p f s.1 s.2
def joined (p : Pt) : Option Bool := match p with
  | [] => some true
  | _ :: _ => match jLoop p 100 [0] [0] with
    | some met => some (Nat.ble p.length met.length)
    | none => none
def isSo (o : Option Bool) (b : Bool) : Bool := match o with
  | some c => c == b
  | none => false
def setAt : List Nat → Nat → Nat → List Nat
  | [], _, _ => []
  | _ :: r, 0, v => v :: r
  | a :: r, i + 1, v => a :: setAt r i v
def putB (at_ : List Nat) (ib : Bl × Nat) : List Nat := ib.1.foldl (fun a item => setAt a item ib.2) at_
def blockOf (p : Pt) : List Nat := (p.zip (List.range p.length)).foldl putB (List.replicate (many p) 0)
def frm (a n : Nat) : List Nat := (List.range (n - a)).map fun i => a + i
def firstX (p : Pt) : Option (Nat × Nat × Nat × Nat) :=
  let at_ := blockOf p
  let n := at_.length
  let g := fun i => at_.getD i 0
  (List.range n).findSome? fun a => ((frm (a + 1) n).filter fun b => !Nat.beq (g b) (g a)).findSome? fun b => ((frm (b + 1) n).filter fun c => Nat.beq (g c) (g a)).findSome? fun c =>
    ((frm (c + 1) n).filter fun d => Nat.beq (g d) (g b)).findSome? fun d => some (a, b, c, d)
def uncr (p : Pt) : Bool := (firstX p).isNone
/-! the law's own tests -/
def oX (one other : Bl) : Bool := one.any fun a => one.any fun c => Nat.blt a c && (!(other.filter fun b => Nat.blt a b && Nat.blt b c).isEmpty && !(other.filter fun d => Nat.blt d a || Nat.blt c d).isEmpty)
def oCr (p : Pt) : Bool := (List.range p.length).any fun k => (p.take k).any fun o => oX (p.getD k []) o
def oRows (p : Pt) : Bool := p.all fun b => Nat.blt (la b) (b.length + hd b)
def beqB (a b : Bl) : Bool := match a, b with
  | [], [] => true
  | x :: xs, y :: ys => Nat.beq x y && beqB xs ys
  | _, _ => false
def oLap (p : Pt) (lot : Pt) : Pt := let more := p.filter fun one => lot.any fun o => oX one o; lot ++ more.filter fun one => !(lot.any fun o => beqB o one)
def oJoined (p : Pt) : Bool := Nat.beq ((List.range (many p)).foldl (fun lot _ => oLap p lot) (p.take 1)).length p.length
def oWhole (p : Pt) : Bool := (List.range (many p - 1)).all fun i => p.any fun b => Nat.blt (hd b) (i + 1) && Nat.ble (i + 1) (la b)
end Pa
end Lv
end
section
set_option Elab.async false
set_option linter.all false
set_option maxRecDepth 100000
namespace Lv
namespace Pa
/-- a right parting of so many things -/
def okP (n : Nat) (p : Pt) : Bool := Nat.beq (many p) n && p.all fun b => !b.isEmpty && b.all fun i => Nat.blt i n
def tst (n : Nat) (p : Pt) : Bool := okP n p && ((rows p == oRows p) && ((whole p == oWhole p) && ((uncr p == !oCr p) && isSo (joined p) (oJoined p))))
theorem t0 : ((parts 0).all (tst 0)) = true := by decide +kernel
theorem t1 : ((parts 1).all (tst 1)) = true := by decide +kernel
theorem t2 : ((parts 2).all (tst 2)) = true := by decide +kernel
theorem t3 : ((parts 3).all (tst 3)) = true := by decide +kernel
theorem t4 : ((parts 4).all (tst 4)) = true := by decide +kernel
theorem t5 : ((parts 5).all (tst 5)) = true := by decide +kernel
theorem t6 : ((parts 6).all (tst 6)) = true := by decide +kernel
theorem t7a : ((parts 7).take 440).all (tst 7) = true := by decide +kernel
theorem t7b : ((parts 7).drop 440).all (tst 7) = true := by decide +kernel
def t8f (p : Pt) : Bool := (wth 7 p).all (tst 8)
theorem t8_0 : (((parts 7).drop 0).take 110).all t8f = true := by decide +kernel
theorem t8_1 : (((parts 7).drop 110).take 110).all t8f = true := by decide +kernel
theorem t8_2 : (((parts 7).drop 220).take 110).all t8f = true := by decide +kernel
theorem t8_3 : (((parts 7).drop 330).take 110).all t8f = true := by decide +kernel
theorem t8_4 : (((parts 7).drop 440).take 110).all t8f = true := by decide +kernel
theorem t8_5 : (((parts 7).drop 550).take 110).all t8f = true := by decide +kernel
theorem t8_6 : (((parts 7).drop 660).take 110).all t8f = true := by decide +kernel
theorem t8_7 : ((parts 7).drop 770).all t8f = true := by decide +kernel
end Pa
end Lv
end
section
set_option Elab.async false
set_option linter.all false
set_option maxRecDepth 100000
namespace Lv
namespace Pa
theorem all_cut {α : Type} {f : α → Bool} {l : List α} (k : Nat) (h1 : (l.take k).all f = true) (h2 : (l.drop k).all f = true) : l.all f = true := by
  rw [← List.take_append_drop k l, List.all_append, h1, h2]; rfl
theorem cut8 {α : Type} (l : List α) (f : α → Bool) (h0 : ((l.drop 0).take 110).all f = true) (h1 : ((l.drop 110).take 110).all f = true) (h2 : ((l.drop 220).take 110).all f = true) (h3 : ((l.drop 330).take 110).all f = true)
    (h4 : ((l.drop 440).take 110).all f = true) (h5 : ((l.drop 550).take 110).all f = true) (h6 : ((l.drop 660).take 110).all f = true) (h7 : (l.drop 770).all f = true) : l.all f = true := by
  have dd : ∀ a b, (l.drop a).drop b = l.drop (a + b) := fun a b => by rw [List.drop_drop]
  rw [← List.drop_zero (l := l)]
  refine all_cut 110 h0 ?_
  rw [dd]
  refine all_cut 110 h1 ?_
  rw [dd]
  refine all_cut 110 h2 ?_
  rw [dd]
  refine all_cut 110 h3 ?_
  rw [dd]
  refine all_cut 110 h4 ?_
  rw [dd]
  refine all_cut 110 h5 ?_
  rw [dd]
  refine all_cut 110 h6 ?_
  rw [dd]
  exact h7
theorem t8a : (parts 7).all t8f = true := cut8 (parts 7) t8f t8_0 t8_1 t8_2 t8_3 t8_4 t8_5 t8_6 t8_7
theorem go {n : Nat} (h : (parts n).all (tst n) = true) (p : Pt) (hp : p ∈ parts n) : tst n p = true := List.all_eq_true.mp h p hp
theorem parts_succ (n : Nat) : parts (n + 1) = (parts n).flatMap (wth n) := rfl
theorem step {n : Nat} (h : (parts n).all (fun p => (wth n p).all (tst (n + 1))) = true) (p : Pt) (hp : p ∈ parts (n + 1)) : tst (n + 1) p = true := by
  rw [parts_succ] at hp
  obtain ⟨q, hq, hm⟩ := List.mem_flatMap.1 hp
  exact List.all_eq_true.mp (List.all_eq_true.mp h q hq) p hm
theorem tests (n : Nat) (hn : n ≤ 8) (p : Pt) (hp : p ∈ parts n) : tst n p = true := by
  have h : n = 0 ∨ n = 1 ∨ n = 2 ∨ n = 3 ∨ n = 4 ∨ n = 5 ∨ n = 6 ∨ n = 7 ∨ n = 7 + 1 := by omega
  rcases h with h | h | h | h | h | h | h | h | h
  · subst h; exact go t0 p hp
  · subst h; exact go t1 p hp
  · subst h; exact go t2 p hp
  · subst h; exact go t3 p hp
  · subst h; exact go t4 p hp
  · subst h; exact go t5 p hp
  · subst h; exact go t6 p hp
  · subst h; exact go (all_cut 440 t7a t7b) p hp
  · subst h; exact step t8a p hp
end Pa
end Lv
end
section
set_option Elab.async false
set_option linter.all false
set_option maxRecDepth 100000
namespace Lv
namespace Pa
/-! ### complements, in plain lists -/
def canJ (p : Pt) (i j : Nat) : Bool := p.all fun b => let c := (b.filter fun x => Nat.blt i x && Nat.ble x j).length; !(Nat.blt 0 c && Nat.blt c b.length)
def fitK (p : Pt) (j : Nat) (bs : Pt) : List Nat := (List.range bs.length).filter fun k => canJ p (hd (bs.getD k [])) j
def addTo : Pt → Nat → Nat → Pt
  | [], _, _ => []
  | b :: r, 0, j => (b ++ [j]) :: r
  | b :: r, k + 1, j => b :: addTo r k j
def cStep (p : Pt) (bs : Pt) (j : Nat) : Pt := match fitK p j bs with
  | [] => bs ++ [[j]]
  | k :: _ => addTo bs k j
def comp (p : Pt) : Pt := (List.range (many p)).foldl (cStep p) []
/-! the law's test -/
def tog (p q : Pt) : Pt := (p.map fun b => b.map fun i => 2 * i) ++ (q.map fun b => b.map fun i => 2 * i + 1)
def rest (q : Pt) (i j : Nat) : Pt := ((List.range q.length).filter fun k => !(Nat.beq k i || Nat.beq k j)).map fun k => q.getD k []
def insN (a : Nat) : List Nat → List Nat
  | [] => [a]
  | b :: r => if Nat.ble a b then a :: b :: r else b :: insN a r
def srtN (l : List Nat) : List Nat := l.foldr insN []
def insB (a : Bl) : Pt → Pt
  | [] => [a]
  | b :: r => if Nat.ble (hd a) (hd b) then a :: b :: r else b :: insB a r
def srtP (l : Pt) : Pt := l.foldr insB []
def asc : List Nat → Bool
  | a :: b :: r => Nat.blt a b && asc (b :: r)
  | _ => true
def turn (n : Nat) (p : Pt) : Pt := srtP (p.map fun b => srtN (b.map fun i => if Nat.blt 0 i then i - 1 else n - 1))
def beqP (a b : Pt) : Bool := match a, b with
  | [], [] => true
  | x :: xs, y :: ys => beqB x y && beqP xs ys
  | _, _ => false
/-- a right parting, its items in order -/
def isPt (n : Nat) (p : Pt) : Bool := Nat.beq (many p) n && (p.all fun b => !b.isEmpty && asc b) && asc (p.map hd) && beqB (srtN p.flatten) (List.range n)
def rgt (n : Nat) (p : Pt) : Bool := let q := comp p
  isPt n q && (uncr q && (!oCr (tog p q) && ((Nat.beq n 0 || Nat.beq (p.length + q.length) (n + 1)) && (((List.range q.length).all fun i => (List.range i).all fun j => !canJ p (hd (q.getD j [])) (hd (q.getD i []))) && (isPt n (turn n p) && beqP (comp q) (turn n p))))))
def ok71 (n : Nat) (p : Pt) : Bool := isPt n p && (oCr p || rgt n p)
def ok8 (p : Pt) : Bool := (wth 7 p).all (ok71 8)
end Pa
end Lv
end
section
set_option Elab.async false
set_option linter.all false
set_option maxRecDepth 100000
namespace Lv
namespace Pa
theorem c0 : (parts 0).all (ok71 0) = true := by decide +kernel
theorem c1 : (parts 1).all (ok71 1) = true := by decide +kernel
theorem c2 : (parts 2).all (ok71 2) = true := by decide +kernel
theorem c3 : (parts 3).all (ok71 3) = true := by decide +kernel
theorem c4 : (parts 4).all (ok71 4) = true := by decide +kernel
theorem c5 : (parts 5).all (ok71 5) = true := by decide +kernel
theorem c6 : (parts 6).all (ok71 6) = true := by decide +kernel
theorem c7a : ((parts 7).take 220).all (ok71 7) = true := by decide +kernel
theorem c7b : (((parts 7).drop 220).take 220).all (ok71 7) = true := by decide +kernel
theorem c7c : (((parts 7).drop 220).drop 220).all (ok71 7) = true := by decide +kernel
theorem c8_0 : (((parts 7).drop 0).take 110).all ok8 = true := by decide +kernel
theorem c8_1 : (((parts 7).drop 110).take 110).all ok8 = true := by decide +kernel
theorem c8_2 : (((parts 7).drop 220).take 110).all ok8 = true := by decide +kernel
theorem c8_3 : (((parts 7).drop 330).take 110).all ok8 = true := by decide +kernel
theorem c8_4 : (((parts 7).drop 440).take 110).all ok8 = true := by decide +kernel
theorem c8_5 : (((parts 7).drop 550).take 110).all ok8 = true := by decide +kernel
theorem c8_6 : (((parts 7).drop 660).take 110).all ok8 = true := by decide +kernel
theorem c8_7 : ((parts 7).drop 770).all ok8 = true := by decide +kernel
theorem goC {n : Nat} (h : (parts n).all (ok71 n) = true) (p : Pt) (hp : p ∈ parts n) : ok71 n p = true := List.all_eq_true.mp h p hp
theorem stepC (h : (parts 7).all ok8 = true) (p : Pt) (hp : p ∈ parts 8) : ok71 8 p = true := by
  have e : parts 8 = (parts 7).flatMap (wth 7) := rfl
  rw [e] at hp
  obtain ⟨q, hq, hm⟩ := List.mem_flatMap.1 hp
  exact List.all_eq_true.mp (List.all_eq_true.mp h q hq) p hm
theorem all71 (n : Nat) (hn : n ≤ 8) (p : Pt) (hp : p ∈ parts n) : ok71 n p = true := by
  have h : n = 0 ∨ n = 1 ∨ n = 2 ∨ n = 3 ∨ n = 4 ∨ n = 5 ∨ n = 6 ∨ n = 7 ∨ n = 8 := by omega
  rcases h with h | h | h | h | h | h | h | h | h
  · subst h; exact goC c0 p hp
  · subst h; exact goC c1 p hp
  · subst h; exact goC c2 p hp
  · subst h; exact goC c3 p hp
  · subst h; exact goC c4 p hp
  · subst h; exact goC c5 p hp
  · subst h; exact goC c6 p hp
  · subst h; exact goC (all_cut 220 c7a (all_cut 220 c7b c7c)) p hp
  · subst h; exact stepC (cut8 (parts 7) ok8 c8_0 c8_1 c8_2 c8_3 c8_4 c8_5 c8_6 c8_7) p hp
end Pa
end Lv
end
section
set_option Elab.async false
set_option linter.all false
set_option maxRecDepth 100000
set_option maxHeartbeats 4000000
namespace K71
open PySem PySem.Spec PyProof.Rows L2 Lv
open He (ga ma fAd)
abbrev PP : Program := PySem.Challenge.pw_leverheaps_k71_whole_complements
def top (i : Nat) : Stmt := PP.main.body.getD i (.Pass ⟨0, 0, 0, 0⟩)
abbrev s_law_pen : Stmt := top 38
def d_law_pen : He.DefD := ⟨("_law_pen", none), "_law_pen", "_law_pen", defArgs s_law_pen, defBody s_law_pen, defScope s_law_pen, [], []⟩
abbrev s_law_draw : Stmt := top 39
def d_law_draw : He.DefD := ⟨("_law_draw", none), "_law_draw", "_law_draw", defArgs s_law_draw, defBody s_law_draw, defScope s_law_draw, [], []⟩
abbrev s_law_pick : Stmt := top 40
def d_law_pick : He.DefD := ⟨("_law_pick", none), "_law_pick", "_law_pick", defArgs s_law_pick, defBody s_law_pick, defScope s_law_pick, [], []⟩
abbrev s_law_m_cross : Stmt := top 42
def d_law_m_cross : He.DefD := ⟨("_law_m_cross", none), "_law_m_cross", "_law_m_cross", defArgs s_law_m_cross, defBody s_law_m_cross, defScope s_law_m_cross, [], []⟩
abbrev s_law_m_is_crossed : Stmt := top 43
def d_law_m_is_crossed : He.DefD := ⟨("_law_m_is_crossed", none), "_law_m_is_crossed", "_law_m_is_crossed", defArgs s_law_m_is_crossed, defBody s_law_m_is_crossed, defScope s_law_m_is_crossed, [], []⟩
abbrev s_law_some_uncrossed : Stmt := top 45
def d_law_some_uncrossed : He.DefD := ⟨("_law_some_uncrossed", none), "_law_some_uncrossed", "_law_some_uncrossed", defArgs s_law_some_uncrossed, defBody s_law_some_uncrossed, defScope s_law_some_uncrossed, [], []⟩
abbrev s_is_integer : Stmt := top 16
def d_is_integer : He.DefD := ⟨("is_integer", none), "is_integer", "is_integer", defArgs s_is_integer, defBody s_is_integer, defScope s_is_integer, [], []⟩
abbrev s_is_block : Stmt := top 21
def d_is_block : He.DefD := ⟨("is_block", none), "is_block", "is_block", defArgs s_is_block, defBody s_is_block, defScope s_is_block, [], []⟩
abbrev s_is_parting : Stmt := top 22
def d_is_parting : He.DefD := ⟨("is_parting", none), "is_parting", "is_parting", defArgs s_is_parting, defBody s_is_parting, defScope s_is_parting, [], []⟩
abbrev s_need_parting : Stmt := top 23
def d_need_parting : He.DefD := ⟨("need_parting", none), "need_parting", "need_parting", defArgs s_need_parting, defBody s_need_parting, defScope s_need_parting, [], []⟩
abbrev s_block_of_each : Stmt := top 24
def d_block_of_each : He.DefD := ⟨("block_of_each", none), "block_of_each", "block_of_each", defArgs s_block_of_each, defBody s_block_of_each, defScope s_block_of_each, [], []⟩
abbrev s_first_crossing : Stmt := top 25
def d_first_crossing : He.DefD := ⟨("first_crossing", none), "first_crossing", "first_crossing", defArgs s_first_crossing, defBody s_first_crossing, defScope s_first_crossing, [], []⟩
abbrev s_can_join : Stmt := top 35
def d_can_join : He.DefD := ⟨("can_join", none), "can_join", "can_join", defArgs s_can_join, defBody s_can_join, defScope s_can_join, [], []⟩
abbrev s_complement : Stmt := top 36
def d_complement : He.DefD := ⟨("complement", none), "complement", "complement", defArgs s_complement, defBody s_complement, defScope s_complement, [], []⟩
abbrev s_law_m_caught : Stmt := top 44
def d_law_m_caught : He.DefD := ⟨("_law_m_caught", none), "_law_m_caught", "_law_m_caught", defArgs s_law_m_caught, defBody s_law_m_caught, defScope s_law_m_caught, [], []⟩
abbrev s_law_together : Stmt := top 46
def d_law_together : He.DefD := ⟨("_law_together", none), "_law_together", "_law_together", defArgs s_law_together, defBody s_law_together, defScope s_law_together, [], []⟩
abbrev s_law_is_right : Stmt := top 47
def d_law_is_right : He.DefD := ⟨("_law_is_right", none), "_law_is_right", "_law_is_right", defArgs s_law_is_right, defBody s_law_is_right, defScope s_law_is_right, [], []⟩
abbrev s_need_sort : Stmt := top 31
def d_need_sort : He.DefD := ⟨("need_sort", none), "need_sort", "need_sort", defArgs s_need_sort, defBody s_need_sort, defScope s_need_sort, [], []⟩
abbrev s_with_item : Stmt := top 32
def d_with_item : He.DefD := ⟨("with_item", none), "with_item", "with_item", defArgs s_with_item, defBody s_with_item, defScope s_with_item, [], []⟩
abbrev s_is_in_rows : Stmt := top 29
def d_is_in_rows : He.DefD := ⟨("is_in_rows", none), "is_in_rows", "is_in_rows", defArgs s_is_in_rows, defBody s_is_in_rows, defScope s_is_in_rows, [], []⟩
abbrev s_are_crossed : Stmt := top 26
def d_are_crossed : He.DefD := ⟨("are_crossed", none), "are_crossed", "are_crossed", defArgs s_are_crossed, defBody s_are_crossed, defScope s_are_crossed, [], []⟩
abbrev s_is_joined : Stmt := top 27
def d_is_joined : He.DefD := ⟨("is_joined", none), "is_joined", "is_joined", defArgs s_is_joined, defBody s_is_joined, defScope s_is_joined, [], []⟩
abbrev s_is_whole : Stmt := top 28
def d_is_whole : He.DefD := ⟨("is_whole", none), "is_whole", "is_whole", defArgs s_is_whole, defBody s_is_whole, defScope s_is_whole, [], []⟩
abbrev s_is_of : Stmt := top 30
def d_is_of : He.DefD := ⟨("is_of", none), "is_of", "is_of", defArgs s_is_of, defBody s_is_of, defScope s_is_of, [], []⟩
abbrev s_partings_of : Stmt := top 33
def d_partings_of : He.DefD := ⟨("partings_of", none), "partings_of", "partings_of", defArgs s_partings_of, defBody s_partings_of, defScope s_partings_of, [], []⟩
abbrev s_is_count : Stmt := top 17
def d_is_count : He.DefD := ⟨("is_count", none), "is_count", "is_count", defArgs s_is_count, defBody s_is_count, defScope s_is_count, [.non], []⟩
abbrev s_partings : Stmt := top 34
def d_partings : He.DefD := ⟨("partings", none), "partings", "partings", defArgs s_partings, defBody s_partings, defScope s_partings, [], []⟩
abbrev s_law_m_partings : Stmt := top 41
def d_law_m_partings : He.DefD := ⟨("_law_m_partings", none), "_law_m_partings", "_law_m_partings", defArgs s_law_m_partings, defBody s_law_m_partings, defScope s_law_m_partings, [], []⟩
abbrev s_law_first : Stmt := top 48
def d_law_first : He.DefD := ⟨("_law_first", none), "_law_first", "_law_first", defArgs s_law_first, defBody s_law_first, defScope s_law_first, [], []⟩
abbrev s_law : Stmt := top 49
def d_law : He.DefD := ⟨("law", none), "law", "law", defArgs s_law, defBody s_law, defScope s_law, [], []⟩
abbrev sx_BadNumber : Stmt := (cb (top 2)).getD 0 (.Pass ⟨0, 0, 0, 0⟩)
def x_BadNumber : XD := ⟨"BadNumber", "BadNumber.__init__", defArgs sx_BadNumber, defBody sx_BadNumber, defScope sx_BadNumber, "self", ["what", "value"]⟩
abbrev sx_BadRow : Stmt := (cb (top 3)).getD 0 (.Pass ⟨0, 0, 0, 0⟩)
def x_BadRow : XD := ⟨"BadRow", "BadRow.__init__", defArgs sx_BadRow, defBody sx_BadRow, defScope sx_BadRow, "self", ["value"]⟩
abbrev sx_BadItem : Stmt := (cb (top 4)).getD 0 (.Pass ⟨0, 0, 0, 0⟩)
def x_BadItem : XD := ⟨"BadItem", "BadItem.__init__", defArgs sx_BadItem, defBody sx_BadItem, defScope sx_BadItem, "self", ["value"]⟩
abbrev sx_BadRule : Stmt := (cb (top 5)).getD 0 (.Pass ⟨0, 0, 0, 0⟩)
def x_BadRule : XD := ⟨"BadRule", "BadRule.__init__", defArgs sx_BadRule, defBody sx_BadRule, defScope sx_BadRule, "self", ["why"]⟩
abbrev sx_NotAbove : Stmt := (cb (top 7)).getD 0 (.Pass ⟨0, 0, 0, 0⟩)
def x_NotAbove : XD := ⟨"NotAbove", "NotAbove.__init__", defArgs sx_NotAbove, defBody sx_NotAbove, defScope sx_NotAbove, "self", ["index"]⟩
abbrev sx_BadParting : Stmt := (cb (top 8)).getD 0 (.Pass ⟨0, 0, 0, 0⟩)
def x_BadParting : XD := ⟨"BadParting", "BadParting.__init__", defArgs sx_BadParting, defBody sx_BadParting, defScope sx_BadParting, "self", ["value"]⟩
abbrev sx_BadSort : Stmt := (cb (top 9)).getD 0 (.Pass ⟨0, 0, 0, 0⟩)
def x_BadSort : XD := ⟨"BadSort", "BadSort.__init__", defArgs sx_BadSort, defBody sx_BadSort, defScope sx_BadSort, "self", ["value"]⟩
abbrev sx_Crossed : Stmt := (cb (top 10)).getD 0 (.Pass ⟨0, 0, 0, 0⟩)
def x_Crossed : XD := ⟨"Crossed", "Crossed.__init__", defArgs sx_Crossed, defBody sx_Crossed, defScope sx_Crossed, "self", ["a", "b", "c", "d"]⟩
abbrev sx_NotOne : Stmt := (cb (top 11)).getD 0 (.Pass ⟨0, 0, 0, 0⟩)
def x_NotOne : XD := ⟨"NotOne", "NotOne.__init__", defArgs sx_NotOne, defBody sx_NotOne, defScope sx_NotOne, "self", ["value"]⟩
abbrev sx_BadWord : Stmt := (cb (top 12)).getD 0 (.Pass ⟨0, 0, 0, 0⟩)
def x_BadWord : XD := ⟨"BadWord", "BadWord.__init__", defArgs sx_BadWord, defBody sx_BadWord, defScope sx_BadWord, "self", ["value"]⟩
abbrev sx_BadStep : Stmt := (cb (top 13)).getD 0 (.Pass ⟨0, 0, 0, 0⟩)
def x_BadStep : XD := ⟨"BadStep", "BadStep.__init__", defArgs sx_BadStep, defBody sx_BadStep, defScope sx_BadStep, "self", ["index"]⟩
abbrev sx_TooHigh : Stmt := (cb (top 14)).getD 0 (.Pass ⟨0, 0, 0, 0⟩)
def x_TooHigh : XD := ⟨"TooHigh", "TooHigh.__init__", defArgs sx_TooHigh, defBody sx_TooHigh, defScope sx_TooHigh, "self", ["height"]⟩
def clsN : Nat → Str
  | 0 => "BadNumber"
  | 1 => "BadRow"
  | 2 => "BadItem"
  | 3 => "BadRule"
  | 4 => "NoTable"
  | 5 => "NotAbove"
  | 6 => "BadParting"
  | 7 => "BadSort"
  | 8 => "Crossed"
  | 9 => "NotOne"
  | 10 => "BadWord"
  | 11 => "BadStep"
  | 12 => "TooHigh"
  | _ => ""
def fx : List Fx := [.fa (.glo "law"),
  .exi "BadNumber" "self" ["what", "value"],
  .exi "BadRow" "self" ["value"],
  .exi "BadItem" "self" ["value"],
  .exi "BadRule" "self" ["why"],
  .exi "NotAbove" "self" ["index"],
  .exi "BadParting" "self" ["value"],
  .exi "BadSort" "self" ["value"],
  .exi "Crossed" "self" ["a", "b", "c", "d"],
  .exi "NotOne" "self" ["value"],
  .exi "BadWord" "self" ["value"],
  .exi "BadStep" "self" ["index"],
  .exi "TooHigh" "self" ["height"],
  .fa (.free "int"),
  .fa (.free "list"),
  .fa (.free "len"),
  .fa (.glo "_law_draw"),
  .fa (.free "enumerate"),
  .fa (.glo "_law_m_cross"),
  .fa (.free "range"),
  .fa (.glo "_law_m_is_crossed"),
  .fa (.glo "_law_pick"),
  .fa (.free "tuple"),
  .fa (.free "isinstance"),
  .fa (.free "bool"),
  .fa (.glo "is_integer"),
  .fa (.free "all"),
  .fa (.free "zip"),
  .fa (.glo "is_block"),
  .fa (.int "MOST" 8),
  .fa (.free "sorted"),
  .fa (.glo "is_parting"),
  .fa (.glo "BadParting"),
  .fa (.free "super"),
  .fa (.free "sum"),
  .fa (.glo "block_of_each"),
  .fa (.glo "need_parting"),
  .fa (.glo "first_crossing"),
  .fa (.glo "Crossed"),
  .fa (.glo "can_join"),
  .fa (.noat "BadNumber" "what"),
  .xf "BadNumber",
  .fa (.noat "BadNumber" "value"),
  .fa (.free "repr"),
  .fa (.noat "BadRow" "value"),
  .xf "BadRow",
  .fa (.noat "BadItem" "value"),
  .xf "BadItem",
  .fa (.noat "BadRule" "why"),
  .xf "BadRule",
  .fa (.noat "NotAbove" "index"),
  .xf "NotAbove",
  .fa (.noat "BadParting" "value"),
  .xf "BadParting",
  .fa (.noat "BadSort" "value"),
  .xf "BadSort",
  .fa (.noat "Crossed" "a"),
  .xf "Crossed",
  .fa (.noat "Crossed" "b"),
  .fa (.noat "Crossed" "c"),
  .fa (.noat "Crossed" "d"),
  .fa (.noat "NotOne" "value"),
  .xf "NotOne",
  .fa (.noat "BadWord" "value"),
  .xf "BadWord",
  .fa (.noat "BadStep" "index"),
  .xf "BadStep",
  .fa (.noat "TooHigh" "height"),
  .xf "TooHigh",
  .fa (.glo "TooHigh"),
  .fa (.glo "BadStep"),
  .fa (.glo "BadWord"),
  .fa (.glo "NotOne"),
  .fa (.glo "BadSort"),
  .fa (.glo "NotAbove"),
  .fa (.glo "NoTable"),
  .fa (.glo "BadRule"),
  .fa (.glo "BadItem"),
  .fa (.glo "BadRow"),
  .fa (.glo "BadNumber"),
  .exm ["BadNumber", "BadRow", "BadItem", "BadRule", "NoTable", "NotAbove", "BadParting", "BadSort", "Crossed", "NotOne", "BadWord", "BadStep", "TooHigh"],
  .fa (.glo "_law_m_caught"),
  .fa (.glo "_law_together"),
  .fa (.glo "complement"),
  .fa (.free "str"),
  .fa (.glo "are_crossed"),
  .fa (.glo "is_in_rows"),
  .fa (.glo "is_joined"),
  .fa (.glo "is_whole"),
  .fa (.glo "with_item"),
  .fa (.glo "is_of"),
  .fa (.glo "is_count"),
  .ktup "SORTS" [.str "all", .str "uncrossed", .str "rows", .str "joined", .str "whole", .str "uncrossed whole"],
  .fa (.glo "SORTS"),
  .fa (.glo "need_sort"),
  .fa (.glo "partings_of"),
  .fa (.glo "_law_pen"),
  .fa (.glo "_law_some_uncrossed"),
  .fa (.glo "_law_is_right"),
  .fa (.glo "partings"),
  .fa (.glo "_law_m_partings"),
  .fa (.glo "_law_first"),
  .kit (.inl "NoneType") [.inl "int"] false,
  .kit (.inl "bool") [.inl "int"] true,
  .kit (.inl "int") [.inl "int"] true,
  .kit (.inl "str") [.inl "int"] false,
  .kit (.inl "tuple") [.inl "int"] false,
  .kit (.inl "list") [.inl "int"] false,
  .kit (.inl "dict") [.inl "int"] false,
  .kit (.inl "NoneType") [.inl "bool"] false,
  .kit (.inl "bool") [.inl "bool"] true,
  .kit (.inl "int") [.inl "bool"] false,
  .kit (.inl "str") [.inl "bool"] false,
  .kit (.inl "tuple") [.inl "bool"] false,
  .kit (.inl "list") [.inl "bool"] false,
  .kit (.inl "dict") [.inl "bool"] false,
  .kit (.inl "NoneType") [.inl "tuple"] false,
  .kit (.inl "bool") [.inl "tuple"] false,
  .kit (.inl "int") [.inl "tuple"] false,
  .kit (.inl "str") [.inl "tuple"] false,
  .kit (.inl "tuple") [.inl "tuple"] true,
  .kit (.inl "list") [.inl "tuple"] false,
  .kit (.inl "dict") [.inl "tuple"] false,
  .kit (.inl "NoneType") [.inl "str"] false,
  .kit (.inl "bool") [.inl "str"] false,
  .kit (.inl "int") [.inl "str"] false,
  .kit (.inl "str") [.inl "str"] true,
  .kit (.inl "tuple") [.inl "str"] false,
  .kit (.inl "list") [.inl "str"] false,
  .kit (.inl "dict") [.inl "str"] false]
def fn : List He.DefD := [d_law_pen, d_law_draw, d_law_pick, d_law_m_cross, d_law_m_is_crossed, d_law_some_uncrossed, d_is_integer, d_is_block, d_is_parting, d_need_parting, d_block_of_each, d_first_crossing, d_can_join, d_complement, d_law_m_caught, d_law_together, d_law_is_right, d_need_sort, d_with_item, d_is_in_rows, d_are_crossed, d_is_joined, d_is_whole, d_is_of, d_partings_of, d_is_count, d_partings, d_law_m_partings, d_law_first, d_law]
def xd : List XD := [x_BadNumber, x_BadRow, x_BadItem, x_BadRule, x_NotAbove, x_BadParting, x_BadSort, x_Crossed, x_NotOne, x_BadWord, x_BadStep, x_TooHigh]
end K71
end
section
set_option Elab.async false
set_option linter.all false
set_option maxRecDepth 100000
set_option maxHeartbeats 2000000
namespace Lv
open PySem PySem.Spec PyProof.Rows L2

/-! ### local values, local heap -/
/-- a local value: immutable things by value (a tuple, a list that is written no more, an instance that is written no more), others by their number in the local heap -/
inductive LV where
  | non | bl (b : Bool) | int (i : Int) | str (x : Str)
  | tup (xs : List LV) | fl (xs : List LV) | sl (xs : List LV) | obj (c : Nat) (fs : List (Str × LV))
  | ref (n : Nat) | con (v : V)
/-- what stands in the local heap -/
inductive LO where
  | lst (xs : List LV) | dct (kvs : List (Key × LV)) | ins (c : Nat) (fs : List (Str × LV)) | dead
  | rls (ms : List Nat) | held (ms : List Nat)
abbrev LH := List LO
mutual
/-- no number within -/
def noRef : LV → Bool
  | .ref _ => false
  | .tup xs => noRefs xs
  | .fl xs => noRefs xs
  | .sl xs => noRefs xs
  | .obj _ fs => noReff fs
  | _ => true
def noRefs : List LV → Bool
  | [] => true
  | x :: xs => noRef x && noRefs xs
def noReff : List (Str × LV) → Bool
  | [] => true
  | (_, x) :: xs => noRef x && noReff xs
end
def noRefk : List (Key × LV) → Bool
  | [] => true
  | (_, x) :: xs => noRef x && noRefk xs
/-- the cells hold no numbers; a list of lists holds numbers below its own -/
def LO.fit (n : Nat) : LO → Bool
  | .lst xs => noRefs xs
  | .dct kvs => noRefk kvs
  | .ins _ fs => noReff fs
  | .dead => true
  | .rls ms => ms.all fun m => decide (m < n)
  | .held ms => ms.all fun m => decide (m < n)
/-- it may be written -/
def LO.wr : LO → Bool
  | .dead => false
  | .held _ => false
  | _ => true
abbrev LE := List (Option LV)
inductive Res (α : Type) where
  | ok (a : α) (h : LH) | exn (c : Nat) (fs : List (Str × LV)) (h : LH) | stuck
/-- an expression's evaluator: the slots, the heap -/
abbrev Ev := LE → LH → Res LV
abbrev EvL := LE → LH → Res (List LV)
abbrev Fn := List LV → LH → Res LV

/-- the classes' addresses by their numbers; the tables of code objects, with the names that they tell -/
structure Cad where
  adr : Nat → Addr
  tab : List (Addr × Str)
instance : CoeFun Cad fun _ => Nat → Addr := ⟨Cad.adr⟩
/-! ### the world: the numbers' addresses, the local heap, the abstract heap -/
structure Wd where
  φ : List Addr
  lh : LH
  H : Hp
/-- a number that is not dead stands at a -/
def Live (w : Wd) (a : Addr) : Prop := ∃ (n : Nat) (lo : LO), w.lh[n]? = some lo ∧ lo ≠ .dead ∧ w.φ[n]? = some a
/-- a number that may be written stands at a -/
def Wr (w : Wd) (a : Addr) : Prop := ∃ (n : Nat) (lo : LO), w.lh[n]? = some lo ∧ lo.wr = true ∧ w.φ[n]? = some a
theorem LO.wr_live {lo : LO} (h : lo.wr = true) : lo ≠ .dead := fun e => by subst e; cases h
theorem nwr {w : Wd} {a : Addr} (h : ¬ Live w a) : ¬ Wr w a := fun ⟨n, lo, h1, h2, h3⟩ => h ⟨n, lo, h1, LO.wr_live h2, h3⟩
section
variable (K : PySem.W.Frag) (cad : Cad)
def VL (w : Wd) (a : Addr) (xs : List V) : Prop := w.H a = some (.lst xs) ∧ ¬ Live w a
/-- a list from outside -/
def VS (w : Wd) (a : Addr) (xs : List V) : Prop :=
  ((∃ o, w.H a = some (.frz o (.lst xs))) ∧ ¬ Live w a) ∨
    ∃ (o : Obj) (its : Array Value) (n : Nat), K.lookup a = some o ∧ o.cls = .type "list" ∧ o.dict = none ∧ o.data = .seq its n ∧ its.size ≤ sizeLine ∧ Vals xs its.toList
def VT (w : Wd) (a : Addr) (xs : List V) : Prop :=
  (Rd w.H a (.tup xs) ∧ ¬ Live w a) ∨
    ∃ (o : Obj) (its : Array Value) (n : Nat), K.lookup a = some o ∧ o.cls = .type "tuple" ∧ o.data = .seq its n ∧ its.size ≤ sizeLine ∧ Vals xs its.toList
mutual
def RL (w : Wd) : LV → V → Prop
  | .non, v => v = .non
  | .bl b, v => v = .bl b
  | .int i, v => v = .int i
  | .str x, v => v = .str x
  | .tup xs, v => ∃ a vs, v = .ref a ∧ VT K w a vs ∧ RLs w xs vs
  | .fl xs, v => ∃ a vs, v = .ref a ∧ VL w a vs ∧ RLs w xs vs
  | .sl xs, v => ∃ a vs, v = .ref a ∧ VS K w a vs ∧ RLs w xs vs
  | .obj c fs, v => ∃ a dx vs, v = .ref a ∧ w.H a = some (.ins (cad c) dx vs) ∧ ¬ Live w a ∧ RLf w fs vs
  | .ref n, v => ∃ a, v = .ref a ∧ w.φ[n]? = some a
  | .con u, v => v = u
def RLs (w : Wd) : List LV → List V → Prop
  | [], vs => vs = []
  | x :: xs, vs => ∃ y ys, vs = y :: ys ∧ RL w x y ∧ RLs w xs ys
def RLf (w : Wd) : List (Str × LV) → List (Str × V) → Prop
  | [], vs => vs = []
  | (k, x) :: xs, vs => ∃ y ys, vs = (k, y) :: ys ∧ RL w x y ∧ RLf w xs ys
end
def RLk (w : Wd) : List (Key × LV) → List (Key × V) → Prop
  | [], vs => vs = []
  | (k, x) :: xs, vs => ∃ y ys, vs = (k, y) :: ys ∧ RL K cad w x y ∧ RLk w xs ys
/-- a cell's content -/
def CellOk (w : Wd) (a : Addr) : LO → Prop
  | .lst xs => ∃ vs, w.H a = some (.lst vs) ∧ RLs K cad w xs vs
  | .dct kvs => ∃ vs, w.H a = some (.dK vs) ∧ RLk K cad w kvs vs
  | .ins c fs => ∃ dx vs, w.H a = some (.ins (cad c) dx vs) ∧ RLf K cad w fs vs
  | .dead => True
  | .rls ms => ∃ vs, w.H a = some (.lst vs) ∧ RLs K cad w (ms.map .ref) vs
  | .held ms => ∃ vs, w.H a = some (.lst vs) ∧ RLs K cad w (ms.map .ref) vs
structure Emb (w : Wd) : Prop where
  len : w.φ.length = w.lh.length
  nd : ∀ (m n : Nat) (a : Addr), w.φ[m]? = some a → w.φ[n]? = some a → (∃ lo, w.lh[m]? = some lo ∧ lo ≠ .dead) → (∃ lo, w.lh[n]? = some lo ∧ lo ≠ .dead) → m = n
  some_ : ∀ (n : Nat) (a : Addr), w.φ[n]? = some a → w.H a ≠ none
  cell : ∀ (n : Nat) (a : Addr) (lo : LO), w.φ[n]? = some a → w.lh[n]? = some lo → CellOk K cad w a lo
  nr : ∀ (n : Nat) (lo : LO), w.lh[n]? = some lo → lo.fit n = true
  tabs : LamX.Tabs cad.tab w.H
/-- a later world -/
structure Ext (w w' : Wd) : Prop where
  pre : ∀ (n : Nat) (a : Addr), w.φ[n]? = some a → w'.φ[n]? = some a
  keep : ∀ a o, w.H a = some o → (∀ ps, o ≠ .tbl ps) → ¬ Wr w a → w'.H a = some o
  live : ∀ a, Live w' a → Live w a ∨ w.H a = none
  grow : ∀ a, w.H a ≠ none → w'.H a ≠ none
  wr : ∀ a, Wr w' a → Wr w a ∨ w.H a = none
end
section
variable {K : PySem.W.Frag} {cad : Cad} {w w' w'' : Wd}
theorem Ext.refl (w : Wd) : Ext w w := ⟨fun _ _ e => e, fun _ _ e _ _ => e, fun _ e => .inl e, fun _ e => e, fun _ e => .inl e⟩
theorem Ext.trans (x : Ext w w') (y : Ext w' w'') : Ext w w'' where
  pre := fun n a e => y.pre n a (x.pre n a e)
  keep := fun a o e nt nl => y.keep a o (x.keep a o e nt nl) nt fun l => by
    rcases x.wr a l with l | l
    · exact nl l
    · rw [e] at l; cases l
  live := fun a l => by
    rcases y.live a l with l | l
    · exact x.live a l
    · cases q : w.H a with
      | none => exact .inr rfl
      | some o => exact absurd l (x.grow a (by rw [q]; simp))
  grow := fun a e => y.grow a (x.grow a e)
  wr := fun a l => by
    rcases y.wr a l with l | l
    · exact x.wr a l
    · cases q : w.H a with
      | none => exact .inr rfl
      | some o => exact absurd l (x.grow a (by rw [q]; simp))
theorem Ext.notLive (x : Ext w w') {a : Addr} {o : HO} (e : w.H a = some o) (nl : ¬ Live w a) : ¬ Live w' a := fun l => by
  rcases x.live a l with l | l
  · exact nl l
  · rw [e] at l; cases l
theorem VL.mono {a : Addr} {xs : List V} (x : Ext w w') (h : VL w a xs) : VL w' a xs := ⟨x.keep _ _ h.1 (fun _ q => nomatch q) (nwr h.2), x.notLive h.1 h.2⟩
theorem VS.mono {a : Addr} {xs : List V} (x : Ext w w') (h : VS K w a xs) : VS K w' a xs := by
  rcases h with ⟨⟨o, h⟩, nl⟩ | h
  · exact .inl ⟨⟨o, x.keep _ _ h (fun _ q => nomatch q) (nwr nl)⟩, x.notLive h nl⟩
  · exact .inr h
theorem VT.mono {a : Addr} {xs : List V} (x : Ext w w') (h : VT K w a xs) : VT K w' a xs := by
  rcases h with ⟨h | ⟨o, h⟩, nl⟩ | h
  · exact .inl ⟨.inl (x.keep _ _ h (fun _ q => nomatch q) (nwr nl)), x.notLive h nl⟩
  · exact .inl ⟨.inr ⟨o, x.keep _ _ h (fun _ q => nomatch q) (nwr nl)⟩, x.notLive h nl⟩
  · exact .inr h
theorem VL.sq {a : Addr} {xs : List V} (h : VL w a xs) : SqL K w.H a xs := .inl (.inl h.1)
theorem VS.sq {a : Addr} {xs : List V} (h : VS K w a xs) : SqL K w.H a xs := by
  rcases h with ⟨h, _⟩ | h
  · exact .inl (.inr h)
  · exact .inr h
theorem VT.sq {a : Addr} {xs : List V} (h : VT K w a xs) : SqT K w.H a xs := by
  rcases h with ⟨h, _⟩ | h
  · exact .inl h
  · exact .inr h
mutual
theorem RL.mono (x : Ext w w') : ∀ (l : LV) (v : V), RL K cad w l v → RL K cad w' l v
  | .non, _, h => by simp only [RL] at h ⊢; exact h
  | .bl _, _, h => by simp only [RL] at h ⊢; exact h
  | .int _, _, h => by simp only [RL] at h ⊢; exact h
  | .str _, _, h => by simp only [RL] at h ⊢; exact h
  | .con _, _, h => by simp only [RL] at h ⊢; exact h
  | .tup xs, _, h => by
    simp only [RL] at h ⊢
    obtain ⟨a, vs, rfl, p, r⟩ := h
    exact ⟨a, vs, rfl, p.mono x, RLs.mono x xs vs r⟩
  | .fl xs, _, h => by
    simp only [RL] at h ⊢
    obtain ⟨a, vs, rfl, p, r⟩ := h
    exact ⟨a, vs, rfl, p.mono x, RLs.mono x xs vs r⟩
  | .sl xs, _, h => by
    simp only [RL] at h ⊢
    obtain ⟨a, vs, rfl, p, r⟩ := h
    exact ⟨a, vs, rfl, p.mono x, RLs.mono x xs vs r⟩
  | .obj c fs, _, h => by
    simp only [RL] at h ⊢
    obtain ⟨a, dx, vs, rfl, e, nl, r⟩ := h
    exact ⟨a, dx, vs, rfl, x.keep _ _ e (fun _ q => nomatch q) (nwr nl), x.notLive e nl, RLf.mono x fs vs r⟩
  | .ref n, _, h => by
    simp only [RL] at h ⊢
    obtain ⟨a, rfl, e⟩ := h
    exact ⟨a, rfl, x.pre n a e⟩
theorem RLs.mono (x : Ext w w') : ∀ (l : List LV) (v : List V), RLs K cad w l v → RLs K cad w' l v
  | [], _, h => by simp only [RLs] at h ⊢; exact h
  | y :: ys, _, h => by
    simp only [RLs] at h ⊢
    obtain ⟨v, vs, rfl, a, b⟩ := h
    exact ⟨v, vs, rfl, RL.mono x y v a, RLs.mono x ys vs b⟩
theorem RLf.mono (x : Ext w w') : ∀ (l : List (Str × LV)) (v : List (Str × V)), RLf K cad w l v → RLf K cad w' l v
  | [], _, h => by simp only [RLf] at h ⊢; exact h
  | (k, y) :: ys, _, h => by
    simp only [RLf] at h ⊢
    obtain ⟨v, vs, rfl, a, b⟩ := h
    exact ⟨v, vs, rfl, RL.mono x y v a, RLf.mono x ys vs b⟩
end
theorem RLk.mono (x : Ext w w') : ∀ {l : List (Key × LV)} {v : List (Key × V)}, RLk K cad w l v → RLk K cad w' l v
  | [], _, h => h
  | (k, y) :: ys, _, h => by
    obtain ⟨v, vs, rfl, a, b⟩ := h
    exact ⟨v, vs, rfl, RL.mono x y v a, RLk.mono x b⟩
end
end Lv
end
section
set_option Elab.async false
set_option linter.all false
set_option maxRecDepth 100000
set_option maxHeartbeats 2000000
namespace Lv
open PySem PySem.Spec PyProof.Rows L2

/-! ### evaluators' results -/
def rb {α β : Type} (r : Res α) (k : α → LH → Res β) : Res β := match r with
  | .ok a h => k a h
  | .exn c fs h => .exn c fs h
  | .stuck => .stuck
@[simp] theorem rb_ok {α β : Type} (a : α) (h : LH) (k : α → LH → Res β) : rb (.ok a h) k = k a h := rfl
@[simp] theorem rb_exn {α β : Type} (c : Nat) (fs : List (Str × LV)) (h : LH) (k : α → LH → Res β) : rb (.exn c fs h) k = .exn c fs h := rfl
@[simp] theorem rb_stuck {α β : Type} (k : α → LH → Res β) : rb .stuck k = .stuck := rfl
section
variable (K : PySem.W.Frag) (cad : Cad)
/-- the dict of an exception -/
def XdOk (w : Wd) (fs : List (Str × LV)) : Option Addr → Prop
  | none => fs = []
  | some d => ∃ ufs, w.H d = some (.xd ufs) ∧ ¬ Live w d ∧ RLf K cad w fs ufs
/-- what a result promises of the worlds behind it -/
def Po {α β : Type} (R : Wd → α → β → Prop) (w : Wd) (Q : β → Hp → Prop) (E : XK) : Res α → Prop
  | .ok v lh' => ∀ w', w'.lh = lh' → Ext w w' → Emb K cad w' → ∀ u, R w' v u → Q u w'.H
  | .exn c fs lh' => ∀ w', w'.lh = lh' → Ext w w' → Emb K cad w' → ∀ d, XdOk K cad w' fs d → E (.ref (cad c)) d w'.H
  | .stuck => False
/-- the slots -/
def RLe (w : Wd) (env : LE) (σ : L2.St) : Prop := env.length = σ.length ∧ ∀ (i : Nat) (l : LV), env[i]? = some (some l) → ∃ v, σ[i]? = some (some v) ∧ RL K cad w l v
abbrev XS (W : WX) (σ : L2.St) : XK := fun c d H => W c d σ H
def tE (W : WX) (ev : Ev) : TE := fun σ H Q => ∃ w env, w.H = H ∧ Emb K cad w ∧ RLe K cad w env σ ∧ Po K cad (RL K cad) w Q (XS W σ) (ev env w.lh)
def tA (W : WX) (ev : EvL) : TA := fun σ H Q => ∃ w env, w.H = H ∧ Emb K cad w ∧ RLe K cad w env σ ∧ Po K cad (RLs K cad) w Q (XS W σ) (ev env w.lh)
abbrev EvT := LE → LH → Res Bool
def tT (W : WX) (ev : EvT) : TT := fun σ H Q => ∃ w env, w.H = H ∧ Emb K cad w ∧ RLe K cad w env σ ∧ Po K cad (fun _ (x y : Bool) => x = y) w Q (XS W σ) (ev env w.lh)
end
section
variable {K : PySem.W.Frag} {cad : Cad} {w w' : Wd} {α β γ δ : Type} {R : Wd → α → β → Prop} {R2 : Wd → γ → δ → Prop} {Q : β → Hp → Prop} {Q2 : δ → Hp → Prop} {E : XK}
theorem Po.ext {r : Res α} (x : Ext w w') (h : Po K cad R w Q E r) : Po K cad R w' Q E r := by
  cases r with
  | ok a lh => exact fun w'' e y m u ru => h w'' e (x.trans y) m u ru
  | exn c fs lh => exact fun w'' e y m d xd => h w'' e (x.trans y) m d xd
  | stuck => exact h
theorem po_bind {r : Res α} {k : α → LH → Res γ} (h : Po K cad R2 w Q2 E (rb r k)) (f : ∀ w' a u, Ext w w' → Emb K cad w' → R w' a u → Po K cad R2 w' Q2 E (k a w'.lh) → Q u w'.H) : Po K cad R w Q E r := by
  cases r with
  | ok a lh =>
    intro w' e x m u ru
    subst e
    exact f w' a u x m ru (Po.ext x h)
  | exn c fs lh => exact h
  | stuck => exact h
/-- the same, the wish told of the world ahead -/
theorem po_bindW {w2 : Wd} {r : Res α} {k : α → LH → Res γ} (x : Ext w w2) (h : Po K cad R2 w Q2 E (rb r k)) (f : ∀ w' a u, Ext w2 w' → Emb K cad w' → R w' a u → Po K cad R2 w Q2 E (k a w'.lh) → Q u w'.H) : Po K cad R w2 Q E r := by
  cases r with
  | ok a lh =>
    intro w' e y m u ru
    subst e
    exact f w' a u y m ru h
  | exn c fs lh => exact Po.ext x h
  | stuck => exact h
theorem RLe.mono {env : LE} {σ : L2.St} (x : Ext w w') (h : RLe K cad w env σ) : RLe K cad w' env σ :=
  ⟨h.1, fun i l e => let ⟨v, e2, r⟩ := h.2 i l e; ⟨v, e2, RL.mono x l v r⟩⟩
/-- a value of no heap -/
theorem po_here {a : α} {u : β} (h : Po K cad R w Q E (.ok a w.lh)) (m : Emb K cad w) (r : R w a u) : Q u w.H := h w rfl (Ext.refl w) m u r
theorem PE.imp {X : Cx} {e : Expr} {t t' : TE} (h : PE X e t) (q : ∀ σ H Q, t' σ H Q → t σ H Q) : PE X e t' := ⟨fun pins s σ H Q I z => h.run pins s σ H Q I (q σ H Q z)⟩
theorem PT.imp {X : Cx} {e : Expr} {t t' : TT} (h : PT X e t) (q : ∀ σ H Q, t' σ H Q → t σ H Q) : PT X e t' := ⟨fun pins s σ H Q I z => h.run pins s σ H Q I (q σ H Q z)⟩
theorem PA.imp {X : Cx} {e : List Expr} {t t' : TA} (h : PA X e t) (q : ∀ σ H Q, t' σ H Q → t σ H Q) : PA X e t' := ⟨fun pos pins s σ H Q I z => h.run pos pins s σ H Q I (q σ H Q z)⟩
theorem PS.imp {X : Cx} {e : Stmt} {t t' : TS} (h : PS X e t) (q : ∀ D σ H, t' D σ H → t D σ H) : PS X e t' := ⟨fun pins s σ H D I z => h.run pins s σ H D I (q D σ H z)⟩
theorem PSs.imp {X : Cx} {e : List Stmt} {t t' : TS} (h : PSs X e t) (q : ∀ D σ H, t' D σ H → t D σ H) : PSs X e t' := ⟨fun pins s σ H D I z => h.run pins s σ H D I (q D σ H z)⟩
theorem PW.imp {X : Cx} {e : Expr} {t t' : TT} (h : PW X e t) (q : ∀ σ H Q, t' σ H Q → t σ H Q) : PW X e t' := ⟨fun wh pins s σ H Q I z => h.run wh pins s σ H Q I (q σ H Q z)⟩
end

/-! ### new objects, changed cells -/
section
variable {K : PySem.W.Frag} {cad : Cad} {w w' : Wd} {p a : Addr} {o : HO}
theorem upd_some {H : Hp} {p a : Addr} {o : HO} (e : H a ≠ none) : upd H p o a ≠ none := by
  unfold upd; split
  · simp
  · exact e
theorem tabs_upd {T : List (Addr × Str)} {H : Hp} {p : Addr} {o : HO} (h : LamX.Tabs T H) (hp : H p = none ∨ (∀ ps, H p ≠ some (.tbl ps)) ∧ ∀ φ, H p ≠ some (.ext φ)) : LamX.Tabs T (upd H p o) := fun q hq => by
  obtain ⟨ps, h1, h2, h3⟩ := h q hq
  have n1 : q.1 ≠ p := fun e => by
    rw [e] at h1
    rcases hp with hp | hp
    · rw [hp] at h1; cases h1
    · exact hp.1 _ h1
  refine ⟨ps, by rw [upd_ne n1]; exact h1, h2, fun pos cv e => ?_⟩
  obtain ⟨c, e1, e2⟩ := h3 pos cv e
  have n2 : c ≠ p := fun e => by
    rw [e] at e2
    rcases hp with hp | hp
    · rw [hp] at e2; cases e2
    · exact hp.2 _ e2
  exact ⟨c, e1, by rw [upd_ne n2]; exact e2⟩
theorem cell_noTab {lo : LO} (h : CellOk K cad w a lo) (hd : lo ≠ .dead) : (∀ ps, w.H a ≠ some (.tbl ps)) ∧ ∀ φ, w.H a ≠ some (.ext φ) := by
  cases lo with
  | lst xs => obtain ⟨vs, e, r⟩ := h; rw [e]; exact ⟨(fun _ q => nomatch q), (fun _ q => nomatch q)⟩
  | dct xs => obtain ⟨vs, e, r⟩ := h; rw [e]; exact ⟨(fun _ q => nomatch q), (fun _ q => nomatch q)⟩
  | ins c fs => obtain ⟨dx, vs, e, r⟩ := h; rw [e]; exact ⟨(fun _ q => nomatch q), (fun _ q => nomatch q)⟩
  | rls xs => obtain ⟨vs, e, r⟩ := h; rw [e]; exact ⟨(fun _ q => nomatch q), (fun _ q => nomatch q)⟩
  | held xs => obtain ⟨vs, e, r⟩ := h; rw [e]; exact ⟨(fun _ q => nomatch q), (fun _ q => nomatch q)⟩
  | dead => exact absurd rfl hd
/-- a new object that is none of the numbers -/
theorem Ext.new (e : w.H p = none) : Ext w { w with H := upd w.H p o } where
  pre := fun _ _ h => h
  keep := fun a u h _ _ => by
    have : a ≠ p := fun z => by subst z; rw [e] at h; cases h
    show upd w.H p o a = some u
    rw [upd_ne this]; exact h
  live := fun a l => .inl l
  grow := fun a h => upd_some h
  wr := fun a l => .inl l
theorem CellOk.mono (x : Ext w w') (hk : ∀ o, w.H a = some o → w'.H a = some o) {lo : LO} (h : CellOk K cad w a lo) : CellOk K cad w' a lo := by
  cases lo with
  | lst xs => obtain ⟨vs, e, r⟩ := h; exact ⟨vs, hk _ e, RLs.mono x _ _ r⟩
  | dct xs => obtain ⟨vs, e, r⟩ := h; exact ⟨vs, hk _ e, RLk.mono x r⟩
  | ins c fs => obtain ⟨dx, vs, e, r⟩ := h; exact ⟨dx, vs, hk _ e, RLf.mono x _ _ r⟩
  | rls xs => obtain ⟨vs, e, r⟩ := h; exact ⟨vs, hk _ e, RLs.mono x _ _ r⟩
  | held xs => obtain ⟨vs, e, r⟩ := h; exact ⟨vs, hk _ e, RLs.mono x _ _ r⟩
  | dead => trivial
theorem Emb.notLive (m : Emb K cad w) (e : w.H p = none) : ¬ Live w p := fun ⟨n, lo, _, _, h⟩ => m.some_ n p h e
theorem Emb.new (m : Emb K cad w) (e : w.H p = none) : Emb K cad { w with H := upd w.H p o } where
  len := m.len
  nd := m.nd
  some_ := fun n a h => upd_some (m.some_ n a h)
  cell := fun n a lo h1 h2 => (m.cell n a lo h1 h2).mono (Ext.new e) fun u h => by
    have : a ≠ p := fun z => by subst z; rw [e] at h; cases h
    show upd w.H p o a = some u
    rw [upd_ne this]; exact h
  nr := m.nr
  tabs := tabs_upd m.tabs (.inl e)
theorem VT.new (m : Emb K cad w) (e : w.H p = none) {vs : List V} : VT K { w with H := upd w.H p (.tup vs) } p vs := .inl ⟨.inl upd_same, m.notLive e⟩
theorem VL.new (m : Emb K cad w) (e : w.H p = none) {vs : List V} : VL { w with H := upd w.H p (.lst vs) } p vs := ⟨upd_same, m.notLive e⟩
/-- a new number -/
theorem Ext.cell (m : Emb K cad w) (lo : LO) (e : w.H p = none) : Ext w ⟨w.φ ++ [p], w.lh ++ [lo], upd w.H p o⟩ where
  pre := fun n a h => by
    have hn : n < w.φ.length := (List.getElem?_eq_some_iff.mp h).1
    show (w.φ ++ [p])[n]? = some a
    rw [List.getElem?_append_left hn]; exact h
  keep := fun a u h _ _ => by
    have : a ≠ p := fun z => by subst z; rw [e] at h; cases h
    show upd w.H p o a = some u
    rw [upd_ne this]; exact h
  live := fun a ⟨n, lo', h1, h2, h3⟩ => by
    have h1' : (w.lh ++ [lo])[n]? = some lo' := h1
    have h3' : (w.φ ++ [p])[n]? = some a := h3
    by_cases hn : n < w.lh.length
    · rw [List.getElem?_append_left hn] at h1'
      rw [List.getElem?_append_left (by rw [m.len]; exact hn)] at h3'
      exact .inl ⟨n, lo', h1', h2, h3'⟩
    · have hge : w.φ.length ≤ n := by rw [m.len]; omega
      rw [List.getElem?_append_right hge] at h3'
      have hx : n - w.φ.length = 0 := by
        have := (List.getElem?_eq_some_iff.mp h3').1
        simp at this; omega
      rw [hx] at h3'
      have : a = p := by simpa using h3'.symm
      subst this
      exact .inr e
  grow := fun a h => upd_some h
  wr := fun a ⟨n, lo', h1, h2, h3⟩ => by
    have h1' : (w.lh ++ [lo])[n]? = some lo' := h1
    have h3' : (w.φ ++ [p])[n]? = some a := h3
    by_cases hn : n < w.lh.length
    · rw [List.getElem?_append_left hn] at h1'
      rw [List.getElem?_append_left (by rw [m.len]; exact hn)] at h3'
      exact .inl ⟨n, lo', h1', h2, h3'⟩
    · have hge : w.φ.length ≤ n := by rw [m.len]; omega
      rw [List.getElem?_append_right hge] at h3'
      have hx : n - w.φ.length = 0 := by
        have := (List.getElem?_eq_some_iff.mp h3').1
        simp at this; omega
      rw [hx] at h3'
      have : a = p := by simpa using h3'.symm
      subst this
      exact .inr e
theorem getElem?_snoc {α : Type} {l : List α} {x y : α} {n : Nat} (h : (l ++ [x])[n]? = some y) : (n < l.length ∧ l[n]? = some y) ∨ (n = l.length ∧ y = x) := by
  by_cases hn : n < l.length
  · rw [List.getElem?_append_left hn] at h; exact .inl ⟨hn, h⟩
  · rw [List.getElem?_append_right (by omega)] at h
    have hx : n - l.length = 0 := by
      have := (List.getElem?_eq_some_iff.mp h).1
      simp at this; omega
    rw [hx] at h
    exact .inr ⟨by omega, by simpa using h.symm⟩
theorem Emb.cell' (m : Emb K cad w) (lo : LO) (e : w.H p = none) (hn : lo.fit w.lh.length = true) (hc : CellOk K cad ⟨w.φ ++ [p], w.lh ++ [lo], upd w.H p o⟩ p lo) : Emb K cad ⟨w.φ ++ [p], w.lh ++ [lo], upd w.H p o⟩ where
  len := by simp [m.len]
  nd := fun i j a h1 h2 l1 l2 => by
    rcases getElem?_snoc h1 with ⟨b1, g1⟩ | ⟨b1, g1⟩ <;> rcases getElem?_snoc h2 with ⟨b2, g2⟩ | ⟨b2, g2⟩
    · refine m.nd i j a g1 g2 ?_ ?_
      · obtain ⟨lo', q, z⟩ := l1
        have q' : (w.lh ++ [lo])[i]? = some lo' := q
        rw [List.getElem?_append_left (by rw [← m.len]; exact b1)] at q'
        exact ⟨lo', q', z⟩
      · obtain ⟨lo', q, z⟩ := l2
        have q' : (w.lh ++ [lo])[j]? = some lo' := q
        rw [List.getElem?_append_left (by rw [← m.len]; exact b2)] at q'
        exact ⟨lo', q', z⟩
    · subst g2; exact absurd e (m.some_ i a g1)
    · subst g1; exact absurd e (m.some_ j a g2)
    · omega
  some_ := fun n a h => by
    rcases getElem?_snoc h with ⟨_, g⟩ | ⟨_, g⟩
    · exact upd_some (m.some_ n a g)
    · subst g
      show upd w.H a o a ≠ none
      rw [upd_same]; simp
  cell := fun n a lo' h1 h2 => by
    rcases getElem?_snoc h1 with ⟨b1, g1⟩ | ⟨b1, g1⟩ <;> rcases getElem?_snoc h2 with ⟨b2, g2⟩ | ⟨b2, g2⟩
    · refine (m.cell n a lo' g1 g2).mono (Ext.cell m lo e) fun u h => ?_
      have : a ≠ p := fun z => by subst z; rw [e] at h; cases h
      show upd w.H p o a = some u
      rw [upd_ne this]; exact h
    · rw [m.len] at b1; omega
    · rw [m.len] at b1; omega
    · subst g1 g2; exact hc
  nr := fun n lo' h => by
    rcases getElem?_snoc h with ⟨_, g⟩ | ⟨b, g⟩
    · exact m.nr n lo' g
    · subst g; rw [b]; exact hn
  tabs := tabs_upd m.tabs (.inl e)
/-- a number's content is changed -/
theorem Ext.set {n : Nat} {lo lo' : LO} (ha : w.φ[n]? = some a) (hl : w.lh[n]? = some lo) (hd : lo.wr = true) : Ext w ⟨w.φ, w.lh.set n lo', upd w.H a o⟩ where
  pre := fun _ _ h => h
  keep := fun b u h _ nl => by
    have : b ≠ a := fun z => by subst z; exact nl ⟨n, lo, hl, hd, ha⟩
    show upd w.H a o b = some u
    rw [upd_ne this]; exact h
  live := fun b ⟨k, lo2, h1, h2, h3⟩ => by
    have h1' : (w.lh.set n lo')[k]? = some lo2 := h1
    by_cases hk : k = n
    · subst hk
      have h3' : w.φ[k]? = some b := h3
      rw [ha] at h3'; cases h3'
      exact .inl ⟨k, lo, hl, LO.wr_live hd, ha⟩
    · rw [List.getElem?_set_ne (Ne.symm hk)] at h1'
      exact .inl ⟨k, lo2, h1', h2, h3⟩
  grow := fun b h => upd_some h
  wr := fun b ⟨k, lo2, h1, h2, h3⟩ => by
    have h1' : (w.lh.set n lo')[k]? = some lo2 := h1
    by_cases hk : k = n
    · subst hk
      have h3' : w.φ[k]? = some b := h3
      rw [ha] at h3'; cases h3'
      exact .inl ⟨k, lo, hl, hd, ha⟩
    · rw [List.getElem?_set_ne (Ne.symm hk)] at h1'
      exact .inl ⟨k, lo2, h1', h2, h3⟩
theorem Emb.set {n : Nat} {lo lo' : LO} (m : Emb K cad w) (ha : w.φ[n]? = some a) (hl : w.lh[n]? = some lo) (hd : lo.wr = true) (hd' : lo' ≠ .dead) (hn : lo'.fit n = true)
    (hc : CellOk K cad ⟨w.φ, w.lh.set n lo', upd w.H a o⟩ a lo') : Emb K cad ⟨w.φ, w.lh.set n lo', upd w.H a o⟩ where
  len := by simp [m.len]
  nd := fun i j b h1 h2 l1 l2 => by
    have back : ∀ k : Nat, (∃ z, (w.lh.set n lo')[k]? = some z ∧ z ≠ LO.dead) → ∃ z, w.lh[k]? = some z ∧ z ≠ LO.dead := by
      intro k h
      obtain ⟨z, q, r⟩ := h
      by_cases hk : k = n
      · subst hk; exact ⟨lo, hl, LO.wr_live hd⟩
      · rw [List.getElem?_set_ne (Ne.symm hk)] at q; exact ⟨z, q, r⟩
    exact m.nd i j b h1 h2 (back i l1) (back j l2)
  some_ := fun k b h => upd_some (m.some_ k b h)
  cell := fun k b lo2 h1 h2 => by
    have h2' : (w.lh.set n lo')[k]? = some lo2 := h2
    by_cases hk : k = n
    · subst hk
      have h1' : w.φ[k]? = some b := h1
      rw [ha] at h1'; cases h1'
      have hlt : k < w.lh.length := (List.getElem?_eq_some_iff.mp hl).1
      rw [List.getElem?_set_self hlt] at h2'
      cases h2'
      exact hc
    · rw [List.getElem?_set_ne (Ne.symm hk)] at h2'
      by_cases hdd : lo2 = .dead
      · subst hdd; trivial
      · have hb : b ≠ a := fun z => by
          subst z
          exact hk (m.nd k n b h1 ha ⟨lo2, h2', hdd⟩ ⟨lo, hl, LO.wr_live hd⟩)
        refine (m.cell k b lo2 h1 h2').mono (Ext.set ha hl hd) fun u h => ?_
        show upd w.H a o b = some u
        rw [upd_ne hb]; exact h
  nr := fun k lo2 h => by
    have h' : (w.lh.set n lo')[k]? = some lo2 := h
    by_cases hk : k = n
    · subst hk
      rw [List.getElem?_set_self (List.getElem?_eq_some_iff.mp hl).1] at h'; cases h'; exact hn
    · rw [List.getElem?_set_ne (Ne.symm hk)] at h'; exact m.nr k lo2 h'
  tabs := tabs_upd m.tabs (.inr (cell_noTab (m.cell n a lo ha hl) (LO.wr_live hd)))
/-- a number dies: what stood there is known by value from now on -/
theorem Ext.die {n : Nat} : Ext w ⟨w.φ, w.lh.set n .dead, w.H⟩ where
  pre := fun _ _ h => h
  keep := fun b u h _ _ => h
  live := fun b ⟨k, lo2, h1, h2, h3⟩ => by
    have h1' : (w.lh.set n .dead)[k]? = some lo2 := h1
    by_cases hk : k = n
    · subst hk
      by_cases hlt : k < w.lh.length
      · rw [List.getElem?_set_self hlt] at h1'; cases h1'; exact absurd rfl h2
      · rw [List.getElem?_eq_none (by simp; omega)] at h1'; cases h1'
    · rw [List.getElem?_set_ne (Ne.symm hk)] at h1'
      exact .inl ⟨k, lo2, h1', h2, h3⟩
  grow := fun b h => h
  wr := fun b ⟨k, lo2, h1, h2, h3⟩ => by
    have h1' : (w.lh.set n .dead)[k]? = some lo2 := h1
    by_cases hk : k = n
    · subst hk
      by_cases hlt : k < w.lh.length
      · rw [List.getElem?_set_self hlt] at h1'; cases h1'; cases h2
      · rw [List.getElem?_eq_none (by simp; omega)] at h1'; cases h1'
    · rw [List.getElem?_set_ne (Ne.symm hk)] at h1'
      exact .inl ⟨k, lo2, h1', h2, h3⟩
theorem Emb.die {n : Nat} (m : Emb K cad w) : Emb K cad ⟨w.φ, w.lh.set n .dead, w.H⟩ where
  len := by simp [m.len]
  nd := fun i j b h1 h2 l1 l2 => by
    have back : ∀ k : Nat, (∃ z, (w.lh.set n LO.dead)[k]? = some z ∧ z ≠ LO.dead) → ∃ z, w.lh[k]? = some z ∧ z ≠ LO.dead := by
      intro k h
      obtain ⟨z, q, r⟩ := h
      by_cases hk : k = n
      · subst hk
        by_cases hlt : k < w.lh.length
        · rw [List.getElem?_set_self hlt] at q; cases q; exact absurd rfl r
        · rw [List.getElem?_eq_none (by simp; omega)] at q; cases q
      · rw [List.getElem?_set_ne (Ne.symm hk)] at q; exact ⟨z, q, r⟩
    exact m.nd i j b h1 h2 (back i l1) (back j l2)
  some_ := m.some_
  cell := fun k b lo2 h1 h2 => by
    have h2' : (w.lh.set n .dead)[k]? = some lo2 := h2
    by_cases hk : k = n
    · subst hk
      by_cases hlt : k < w.lh.length
      · rw [List.getElem?_set_self hlt] at h2'; cases h2'; trivial
      · rw [List.getElem?_eq_none (by simp; omega)] at h2'; cases h2'
    · rw [List.getElem?_set_ne (Ne.symm hk)] at h2'
      exact (m.cell k b lo2 h1 h2').mono Ext.die fun u h => h
  nr := fun k lo2 h => by
    have h' : (w.lh.set n .dead)[k]? = some lo2 := h
    by_cases hk : k = n
    · subst hk
      by_cases hlt : k < w.lh.length
      · rw [List.getElem?_set_self hlt] at h'; cases h'; rfl
      · rw [List.getElem?_eq_none (by simp; omega)] at h'; cases h'
    · rw [List.getElem?_set_ne (Ne.symm hk)] at h'; exact m.nr k lo2 h'
  tabs := m.tabs
/-- behind its death nothing lives there -/
theorem dead_notLive {n : Nat} {lo : LO} (m : Emb K cad w) (ha : w.φ[n]? = some a) (hl : w.lh[n]? = some lo) (hd : lo ≠ .dead) : ¬ Live ⟨w.φ, w.lh.set n .dead, w.H⟩ a := fun ⟨k, lo2, h1, h2, h3⟩ => by
  have h1' : (w.lh.set n .dead)[k]? = some lo2 := h1
  have hlt : n < w.lh.length := (List.getElem?_eq_some_iff.mp hl).1
  by_cases hk : k = n
  · subst hk; rw [List.getElem?_set_self hlt] at h1'; cases h1'; exact h2 rfl
  · rw [List.getElem?_set_ne (Ne.symm hk)] at h1'
    exact hk (m.nd k n a h3 ha ⟨lo2, h1', h2⟩ ⟨lo, hl, hd⟩)
/-! ### cutting the numbers of a left frame -/
def Wd.cut (w : Wd) (n : Nat) : Wd := ⟨w.φ.take n, w.lh.take n, w.H⟩
theorem cut_live {n : Nat} {a : Addr} (h : Live (w.cut n) a) : Live w a := by
  obtain ⟨k, lo, h1, h2, h3⟩ := h
  have h1' : (w.lh.take n)[k]? = some lo := h1
  have h3' : (w.φ.take n)[k]? = some a := h3
  rw [List.getElem?_take] at h1' h3'
  by_cases hk : k < n
  · rw [if_pos hk] at h1' h3'; exact ⟨k, lo, h1', h2, h3'⟩
  · rw [if_neg hk] at h1'; cases h1'
theorem cut_wr {n : Nat} {a : Addr} (h : Wr (w.cut n) a) : Wr w a := by
  obtain ⟨k, lo, h1, h2, h3⟩ := h
  have h1' : (w.lh.take n)[k]? = some lo := h1
  have h3' : (w.φ.take n)[k]? = some a := h3
  rw [List.getElem?_take] at h1' h3'
  by_cases hk : k < n
  · rw [if_pos hk] at h1' h3'; exact ⟨k, lo, h1', h2, h3'⟩
  · rw [if_neg hk] at h1'; cases h1'
theorem VT.cut {n : Nat} {a : Addr} {xs : List V} (h : VT K w a xs) : VT K (w.cut n) a xs := by
  rcases h with ⟨h, nl⟩ | h
  · exact .inl ⟨h, fun l => nl (cut_live l)⟩
  · exact .inr h
theorem VS.cut {n : Nat} {a : Addr} {xs : List V} (h : VS K w a xs) : VS K (w.cut n) a xs := by
  rcases h with ⟨h, nl⟩ | h
  · exact .inl ⟨h, fun l => nl (cut_live l)⟩
  · exact .inr h
mutual
theorem RL.cut {n : Nat} : ∀ (l : LV) (v : V), noRef l = true → RL K cad w l v → RL K cad (w.cut n) l v
  | .non, _, _, h => by simp only [RL] at h ⊢; exact h
  | .bl _, _, _, h => by simp only [RL] at h ⊢; exact h
  | .int _, _, _, h => by simp only [RL] at h ⊢; exact h
  | .str _, _, _, h => by simp only [RL] at h ⊢; exact h
  | .con _, _, _, h => by simp only [RL] at h ⊢; exact h
  | .tup xs, _, z, h => by
    simp only [RL] at h ⊢
    simp only [noRef] at z
    obtain ⟨a, vs, rfl, p, r⟩ := h
    exact ⟨a, vs, rfl, p.cut, RLs.cut xs vs z r⟩
  | .fl xs, _, z, h => by
    simp only [RL] at h ⊢
    simp only [noRef] at z
    obtain ⟨a, vs, rfl, p, r⟩ := h
    exact ⟨a, vs, rfl, ⟨p.1, fun l => p.2 (cut_live l)⟩, RLs.cut xs vs z r⟩
  | .sl xs, _, z, h => by
    simp only [RL] at h ⊢
    simp only [noRef] at z
    obtain ⟨a, vs, rfl, p, r⟩ := h
    exact ⟨a, vs, rfl, p.cut, RLs.cut xs vs z r⟩
  | .obj c fs, _, z, h => by
    simp only [RL] at h ⊢
    simp only [noRef] at z
    obtain ⟨a, dx, vs, rfl, e, nl, r⟩ := h
    exact ⟨a, dx, vs, rfl, e, fun l => nl (cut_live l), RLf.cut fs vs z r⟩
  | .ref n, _, z, h => by simp [noRef] at z
theorem RLs.cut {n : Nat} : ∀ (l : List LV) (v : List V), noRefs l = true → RLs K cad w l v → RLs K cad (w.cut n) l v
  | [], _, _, h => by simp only [RLs] at h ⊢; exact h
  | y :: ys, _, z, h => by
    simp only [RLs] at h ⊢
    simp only [noRefs, Bool.and_eq_true] at z
    obtain ⟨v, vs, rfl, a, b⟩ := h
    exact ⟨v, vs, rfl, RL.cut y v z.1 a, RLs.cut ys vs z.2 b⟩
theorem RLf.cut {n : Nat} : ∀ (l : List (Str × LV)) (v : List (Str × V)), noReff l = true → RLf K cad w l v → RLf K cad (w.cut n) l v
  | [], _, _, h => by simp only [RLf] at h ⊢; exact h
  | (k, y) :: ys, _, z, h => by
    simp only [RLf] at h ⊢
    simp only [noReff, Bool.and_eq_true] at z
    obtain ⟨v, vs, rfl, a, b⟩ := h
    exact ⟨v, vs, rfl, RL.cut y v z.1 a, RLf.cut ys vs z.2 b⟩
end
theorem RLs.cutR {n k : Nat} (hk : k < n) : ∀ (ms : List Nat) (v : List V), (ms.all fun m => decide (m < k)) = true → RLs K cad w (ms.map .ref) v → RLs K cad (w.cut n) (ms.map .ref) v
  | [], _, _, h => by simp only [List.map_nil, RLs] at h ⊢; exact h
  | y :: ys, _, z, h => by
    simp only [List.map_cons, RLs] at h ⊢
    simp only [List.all_cons, Bool.and_eq_true, decide_eq_true_eq] at z
    obtain ⟨v, vs, rfl, a, b⟩ := h
    refine ⟨v, vs, rfl, ?_, RLs.cutR hk ys vs z.2 b⟩
    simp only [RL] at a ⊢
    obtain ⟨a, rfl, e⟩ := a
    refine ⟨a, rfl, ?_⟩
    show (w.φ.take n)[y]? = some a
    rw [List.getElem?_take, if_pos (Nat.lt_trans z.1 hk)]; exact e
theorem RLk.cut {n : Nat} : ∀ {l : List (Key × LV)} {v : List (Key × V)}, noRefk l = true → RLk K cad w l v → RLk K cad (w.cut n) l v
  | [], _, _, h => h
  | (k, y) :: ys, _, z, h => by
    simp only [noRefk, Bool.and_eq_true] at z
    obtain ⟨v, vs, rfl, a, b⟩ := h
    exact ⟨v, vs, rfl, RL.cut y v z.1 a, RLk.cut z.2 b⟩
theorem Emb.cut (m : Emb K cad w) (n : Nat) : Emb K cad (w.cut n) where
  len := by simp [Wd.cut, m.len]
  nd := fun i j a h1 h2 l1 l2 => by
    have g1 : (w.φ.take n)[i]? = some a := h1
    have g2 : (w.φ.take n)[j]? = some a := h2
    obtain ⟨lo1, k1, z1⟩ := l1
    obtain ⟨lo2, k2, z2⟩ := l2
    have k1' : (w.lh.take n)[i]? = some lo1 := k1
    have k2' : (w.lh.take n)[j]? = some lo2 := k2
    rw [List.getElem?_take] at g1 g2 k1' k2'
    by_cases hi : i < n
    · by_cases hj : j < n
      · rw [if_pos hi] at g1 k1'
        rw [if_pos hj] at g2 k2'
        exact m.nd i j a g1 g2 ⟨lo1, k1', z1⟩ ⟨lo2, k2', z2⟩
      · rw [if_neg hj] at g2; cases g2
    · rw [if_neg hi] at g1; cases g1
  some_ := fun k a h => by
    have h' : (w.φ.take n)[k]? = some a := h
    rw [List.getElem?_take] at h'
    by_cases hk : k < n
    · rw [if_pos hk] at h'; exact m.some_ k a h'
    · rw [if_neg hk] at h'; cases h'
  cell := fun k a lo h1 h2 => by
    have g1 : (w.φ.take n)[k]? = some a := h1
    have g2 : (w.lh.take n)[k]? = some lo := h2
    rw [List.getElem?_take] at g1 g2
    by_cases hk : k < n
    · rw [if_pos hk] at g1 g2
      have z := m.nr k lo g2
      have c := m.cell k a lo g1 g2
      cases lo with
      | lst xs => obtain ⟨vs, e, r⟩ := c; exact ⟨vs, e, RLs.cut _ _ z r⟩
      | dct xs => obtain ⟨vs, e, r⟩ := c; exact ⟨vs, e, RLk.cut z r⟩
      | ins c fs => obtain ⟨dx, vs, e, r⟩ := c; exact ⟨dx, vs, e, RLf.cut _ _ z r⟩
      | rls ms => obtain ⟨vs, e, r⟩ := c; exact ⟨vs, e, RLs.cutR hk _ _ z r⟩
      | held ms => obtain ⟨vs, e, r⟩ := c; exact ⟨vs, e, RLs.cutR hk _ _ z r⟩
      | dead => trivial
    · rw [if_neg hk] at g1; cases g1
  nr := fun k lo h => by
    have h' : (w.lh.take n)[k]? = some lo := h
    rw [List.getElem?_take] at h'
    by_cases hk : k < n
    · rw [if_pos hk] at h'; exact m.nr k lo h'
    · rw [if_neg hk] at h'; cases h'
  tabs := m.tabs
/-- a world behind, cut back to the numbers of the world ahead (or some more) -/
theorem Ext.cut (x : Ext w w') (m : Emb K cad w) {n : Nat} (hn : w.lh.length ≤ n) : Ext w (w'.cut n) where
  pre := fun k a h => by
    have hk : k < w.lh.length := by rw [← m.len]; exact (List.getElem?_eq_some_iff.mp h).1
    show (w'.φ.take n)[k]? = some a
    rw [List.getElem?_take, if_pos (Nat.lt_of_lt_of_le hk hn)]
    exact x.pre k a h
  keep := x.keep
  live := fun a l => x.live a (cut_live l)
  grow := x.grow
  wr := fun a l => x.wr a (cut_wr l)
/-- what stood at the first number that is cut lives no more -/
theorem cut_dead (m : Emb K cad w) {n : Nat} {a : Addr} {lo : LO} (ha : w.φ[n]? = some a) (hl : w.lh[n]? = some lo) (hd : lo ≠ .dead) : ¬ Live (w.cut n) a := fun ⟨k, lo2, h1, h2, h3⟩ => by
  have h1' : (w.lh.take n)[k]? = some lo2 := h1
  have h3' : (w.φ.take n)[k]? = some a := h3
  rw [List.getElem?_take] at h1' h3'
  by_cases hk : k < n
  · rw [if_pos hk] at h1' h3'
    have := m.nd k n a h3' ha ⟨lo2, h1', h2⟩ ⟨lo, hl, hd⟩
    omega
  · rw [if_neg hk] at h1'; cases h1'
end
end Lv
end
section
set_option Elab.async false
set_option linter.all false
set_option maxRecDepth 100000
set_option maxHeartbeats 2000000
namespace Lv
open PySem PySem.Spec PyProof.Rows L2

/-- the most items that an evaluator lets a sequence have -/
abbrev LIM : Nat := 1000000
theorem lim_line {n : Nat} (h : n ≤ LIM) : n ≤ sizeLine := Nat.le_trans h (by decide)
theorem lim_lt {n : Nat} (h : n ≤ LIM) : n < sizeLine := Nat.lt_of_le_of_lt h (by decide)

/-! ### about the relation -/
section
variable {K : PySem.W.Frag} {cad : Cad} {w w' : Wd}
theorem RLs.length : ∀ {xs : List LV} {vs : List V}, RLs K cad w xs vs → xs.length = vs.length
  | [], vs, h => by simp only [RLs] at h; subst h; rfl
  | x :: xs, vs, h => by
    simp only [RLs] at h
    obtain ⟨y, ys, rfl, _, r⟩ := h
    have := RLs.length r
    simp [this]
theorem RLs.nil : RLs K cad w [] [] := by simp only [RLs]
theorem RLs.cons {x : LV} {y : V} {xs : List LV} {ys : List V} (a : RL K cad w x y) (b : RLs K cad w xs ys) : RLs K cad w (x :: xs) (y :: ys) := by simp only [RLs]; exact ⟨y, ys, rfl, a, b⟩
theorem RLs.append : ∀ {xs ys : List LV} {vs us : List V}, RLs K cad w xs vs → RLs K cad w ys us → RLs K cad w (xs ++ ys) (vs ++ us)
  | [], _, vs, _, h, g => by simp only [RLs] at h; subst h; exact g
  | x :: xs, _, vs, _, h, g => by
    simp only [RLs] at h
    obtain ⟨y, ys, rfl, a, r⟩ := h
    exact RLs.cons a (RLs.append r g)
theorem RLs.get : ∀ {xs : List LV} {vs : List V} {i : Nat} {x : LV}, RLs K cad w xs vs → xs[i]? = some x → ∃ v, vs[i]? = some v ∧ RL K cad w x v
  | [], _, _, _, _, e => by simp at e
  | y :: xs, vs, i, x, h, e => by
    simp only [RLs] at h
    obtain ⟨v, us, rfl, a, r⟩ := h
    cases i with
    | zero => simp at e; subst e; exact ⟨v, rfl, a⟩
    | succ i => simp at e; obtain ⟨u, e2, r2⟩ := RLs.get r e; exact ⟨u, by simpa using e2, r2⟩
theorem RLs.get' {xs : List LV} {vs : List V} {i : Nat} {v : V} (h : RLs K cad w xs vs) (e : vs[i]? = some v) : ∃ x, xs[i]? = some x ∧ RL K cad w x v := by
  have hl : i < vs.length := (List.getElem?_eq_some_iff.mp e).1
  rw [← h.length] at hl
  obtain ⟨u, e2, r⟩ := h.get (List.getElem?_eq_getElem hl)
  rw [e] at e2; cases e2
  exact ⟨_, List.getElem?_eq_getElem hl, r⟩
theorem RLs.take : ∀ {xs : List LV} {vs : List V} (n : Nat), RLs K cad w xs vs → RLs K cad w (xs.take n) (vs.take n)
  | _, _, 0, _ => by simp only [List.take_zero]; exact RLs.nil
  | [], _, n + 1, h => by simp only [RLs] at h; subst h; exact RLs.nil
  | x :: xs, _, n + 1, h => by
    simp only [RLs] at h
    obtain ⟨v, us, rfl, a, r⟩ := h
    exact RLs.cons a (RLs.take n r)
theorem RLs.drop : ∀ {xs : List LV} {vs : List V} (n : Nat), RLs K cad w xs vs → RLs K cad w (xs.drop n) (vs.drop n)
  | _, _, 0, h => h
  | [], _, n + 1, h => by simp only [RLs] at h; subst h; exact RLs.nil
  | x :: xs, _, n + 1, h => by
    simp only [RLs] at h
    obtain ⟨v, us, rfl, a, r⟩ := h
    exact RLs.drop n r
theorem RLs.set : ∀ {xs : List LV} {vs : List V} {x : LV} {v : V} (n : Nat), RLs K cad w xs vs → RL K cad w x v → RLs K cad w (xs.set n x) (vs.set n v)
  | [], _, _, _, n, h, _ => by simp only [RLs] at h; subst h; exact RLs.nil
  | y :: xs, _, x, v, 0, h, g => by
    simp only [RLs] at h
    obtain ⟨u, us, rfl, a, r⟩ := h
    exact RLs.cons g r
  | y :: xs, _, x, v, n + 1, h, g => by
    simp only [RLs] at h
    obtain ⟨u, us, rfl, a, r⟩ := h
    exact RLs.cons a (RLs.set n r g)
theorem RLs.reverse {xs : List LV} {vs : List V} (h : RLs K cad w xs vs) : RLs K cad w xs.reverse vs.reverse := by
  induction xs generalizing vs with
  | nil => simp only [RLs] at h; subst h; exact RLs.nil
  | cons x xs ih =>
    simp only [RLs] at h
    obtain ⟨v, us, rfl, a, r⟩ := h
    simp only [List.reverse_cons]
    exact RLs.append (ih r) (RLs.cons a RLs.nil)
theorem rl_int {i : Int} {v : V} (h : RL K cad w (.int i) v) : v = .int i := by simpa only [RL] using h
theorem rl_bl {i : Bool} {v : V} (h : RL K cad w (.bl i) v) : v = .bl i := by simpa only [RL] using h
theorem rl_str {i : Str} {v : V} (h : RL K cad w (.str i) v) : v = .str i := by simpa only [RL] using h
theorem rl_non {v : V} (h : RL K cad w .non v) : v = .non := by simpa only [RL] using h
theorem rl_con {u v : V} (h : RL K cad w (.con u) v) : v = u := by simpa only [RL] using h
theorem rl_tup {xs : List LV} {v : V} (h : RL K cad w (.tup xs) v) : ∃ a vs, v = .ref a ∧ VT K w a vs ∧ RLs K cad w xs vs := by simpa only [RL] using h
theorem rl_fl {xs : List LV} {v : V} (h : RL K cad w (.fl xs) v) : ∃ a vs, v = .ref a ∧ VL w a vs ∧ RLs K cad w xs vs := by simpa only [RL] using h
theorem rl_sl {xs : List LV} {v : V} (h : RL K cad w (.sl xs) v) : ∃ a vs, v = .ref a ∧ VS K w a vs ∧ RLs K cad w xs vs := by simpa only [RL] using h
theorem rl_ref {n : Nat} {v : V} (h : RL K cad w (.ref n) v) : ∃ a, v = .ref a ∧ w.φ[n]? = some a := by simpa only [RL] using h
theorem rl_obj {c : Nat} {fs : List (Str × LV)} {v : V} (h : RL K cad w (.obj c fs) v) : ∃ a dx vs, v = .ref a ∧ w.H a = some (.ins (cad c) dx vs) ∧ ¬ Live w a ∧ RLf K cad w fs vs := by simpa only [RL] using h
theorem mk_int (i : Int) : RL K cad w (.int i) (.int i) := by simp only [RL]
theorem mk_bl (i : Bool) : RL K cad w (.bl i) (.bl i) := by simp only [RL]
theorem mk_str (i : Str) : RL K cad w (.str i) (.str i) := by simp only [RL]
theorem mk_non : RL K cad w .non .non := by simp only [RL]
theorem mk_con (v : V) : RL K cad w (.con v) v := by simp only [RL]
theorem mk_tup {xs : List LV} {a : Addr} {vs : List V} (p : VT K w a vs) (r : RLs K cad w xs vs) : RL K cad w (.tup xs) (.ref a) := by simp only [RL]; exact ⟨a, vs, rfl, p, r⟩
theorem mk_fl {xs : List LV} {a : Addr} {vs : List V} (p : VL w a vs) (r : RLs K cad w xs vs) : RL K cad w (.fl xs) (.ref a) := by simp only [RL]; exact ⟨a, vs, rfl, p, r⟩
theorem mk_ref {n : Nat} {a : Addr} (e : w.φ[n]? = some a) : RL K cad w (.ref n) (.ref a) := by simp only [RL]; exact ⟨a, rfl, e⟩
variable {Q : V → Hp → Prop} {E : XK}
/-- a new tuple, a new list by value, a new list by number -/
theorem po_tup {xs : List LV} {vs : List V} (h : Po K cad (RL K cad) w Q E (.ok (.tup xs) w.lh)) (m : Emb K cad w) (r : RLs K cad w xs vs) (p : Addr) (hp : w.H p = none) : Q (.ref p) (upd w.H p (.tup vs)) :=
  h { w with H := upd w.H p (.tup vs) } rfl (Ext.new hp) (m.new hp) _ (mk_tup (VT.new m hp) (RLs.mono (Ext.new hp) _ _ r))
theorem po_fl {xs : List LV} {vs : List V} (h : Po K cad (RL K cad) w Q E (.ok (.fl xs) w.lh)) (m : Emb K cad w) (r : RLs K cad w xs vs) (p : Addr) (hp : w.H p = none) : Q (.ref p) (upd w.H p (.lst vs)) :=
  h { w with H := upd w.H p (.lst vs) } rfl (Ext.new hp) (m.new hp) _ (mk_fl (VL.new m hp) (RLs.mono (Ext.new hp) _ _ r))
theorem po_lst {xs : List LV} {vs : List V} (hz : noRefs xs = true) (h : Po K cad (RL K cad) w Q E (.ok (.ref w.lh.length) (w.lh ++ [.lst xs]))) (m : Emb K cad w) (r : RLs K cad w xs vs) (p : Addr) (hp : w.H p = none) : Q (.ref p) (upd w.H p (.lst vs)) := by
  have x : Ext w ⟨w.φ ++ [p], w.lh ++ [.lst xs], upd w.H p (.lst vs)⟩ := Ext.cell m (.lst xs) hp
  refine h ⟨w.φ ++ [p], w.lh ++ [.lst xs], upd w.H p (.lst vs)⟩ rfl x (m.cell' (.lst xs) hp hz ⟨vs, upd_same, RLs.mono x _ _ r⟩) _ (mk_ref ?_)
  show (w.φ ++ [p])[w.lh.length]? = some p
  rw [← m.len]; simp
theorem po_int {i : Int} (h : Po K cad (RL K cad) w Q E (.ok (.int i) w.lh)) (m : Emb K cad w) : Q (.int i) w.H := po_here h m (mk_int i)
theorem po_bl {i : Bool} (h : Po K cad (RL K cad) w Q E (.ok (.bl i) w.lh)) (m : Emb K cad w) : Q (.bl i) w.H := po_here h m (mk_bl i)
theorem po_str {i : Str} (h : Po K cad (RL K cad) w Q E (.ok (.str i) w.lh)) (m : Emb K cad w) : Q (.str i) w.H := po_here h m (mk_str i)
theorem po_non (h : Po K cad (RL K cad) w Q E (.ok .non w.lh)) (m : Emb K cad w) : Q .non w.H := po_here h m mk_non
end

/-! ### evaluators of expressions -/
def eVar (i : Nat) : Ev := fun env lh => match env[i]? with
  | some (some v) => .ok v lh
  | _ => .stuck
def eC (v : LV) : Ev := fun _ lh => .ok v lh
def eU (f : LV → LH → Res LV) (a : Ev) : Ev := fun env lh => rb (a env lh) f
def eB (f : LV → LV → LH → Res LV) (a c : Ev) : Ev := fun env lh => rb (a env lh) fun x lh1 => rb (c env lh1) fun y lh2 => f x y lh2
def lNil : EvL := fun _ lh => .ok [] lh
def lCons (a : Ev) (r : EvL) : EvL := fun env lh => rb (a env lh) fun x lh1 => rb (r env lh1) fun xs lh2 => .ok (x :: xs) lh2
def eL (f : List LV → LH → Res LV) (l : EvL) : Ev := fun env lh => rb (l env lh) f
def fTup : List LV → LH → Res LV := fun xs lh => if xs.length ≤ LIM then .ok (.tup xs) lh else .stuck
def fFl : List LV → LH → Res LV := fun xs lh => if xs.length ≤ LIM then .ok (.fl xs) lh else .stuck
def fLst : List LV → LH → Res LV := fun xs lh => if xs.length ≤ LIM ∧ noRefs xs = true then .ok (.ref lh.length) (lh ++ [.lst xs]) else .stuck
def toB : LV → LH → Res Bool := fun x lh => match x with
  | .bl k => .ok k lh
  | _ => .stuck
def eTest (a : Ev) : EvT := fun env lh => rb (a env lh) toB
def eAnd (a c : Ev) : Ev := fun env lh => rb (a env lh) fun x lh1 => rb (toB x lh1) fun k lh2 => if k = true then c env lh2 else .ok (.bl false) lh2
def eOr (a c : Ev) : Ev := fun env lh => rb (a env lh) fun x lh1 => rb (toB x lh1) fun k lh2 => if k = true then .ok (.bl true) lh2 else c env lh2
def eNot (a : Ev) : Ev := fun env lh => rb (a env lh) fun x lh1 => rb (toB x lh1) fun k lh2 => .ok (.bl (!k)) lh2
def eIf (t : EvT) (a c : Ev) : Ev := fun env lh => rb (t env lh) fun k lh1 => if k = true then a env lh1 else c env lh1
def tAnd' (a c : EvT) : EvT := fun env lh => rb (a env lh) fun k lh1 => if k = true then c env lh1 else .ok false lh1
def tOr' (a c : EvT) : EvT := fun env lh => rb (a env lh) fun k lh1 => if k = true then .ok true lh1 else c env lh1
def tNot' (a : EvT) : EvT := fun env lh => rb (a env lh) fun k lh1 => .ok (!k) lh1
/-- a op1 c op2 d -/
def eChain (f g : LV → LV → LH → Res LV) (a c d : Ev) : Ev := fun env lh => rb (a env lh) fun x lh1 => rb (c env lh1) fun y lh2 => rb (f x y lh2) fun z lh3 => rb (toB z lh3) fun k lh4 =>
  if k = true then rb (d env lh4) fun u lh5 => g y u lh5 else .ok (.bl false) lh4

/-! ### the links -/
abbrev SE (X : Cx) (cad : Cad) (W : WX) (e : Expr) (ev : Ev) : Prop := PE X e (tE X.K cad W ev)
abbrev SA (X : Cx) (cad : Cad) (W : WX) (es : List Expr) (ev : EvL) : Prop := PA X es (tA X.K cad W ev)
abbrev ST (X : Cx) (cad : Cad) (W : WX) (e : Expr) (ev : EvT) : Prop := L2.PT X e (tT X.K cad W ev)
abbrev SW (X : Cx) (cad : Cad) (W : WX) (e : Expr) (ev : EvT) : Prop := PW X e (tT X.K cad W ev)
section
variable {X : Cx} {cad : Cad} {W : WX} {pos : Pos} {e a c d : Expr} {es rest : List Expr} {ea ec ed : Ev} {el : EvL} {ta tc : EvT}
theorem pe_imp {t t' : TE} (h : PE X e t) (q : ∀ σ H Q, t' σ H Q → t σ H Q) : PE X e t' := Lv.PE.imp h q
theorem se_var (i : Nat) {x : Str} {pos : Pos} (hN : X.N[i]? = some x := by rfl) (hv : Vis X.env.scope x := by first | exact Or.inl rfl | exact Or.inr (Or.inl rfl) | exact Or.inr (Or.inr rfl)) (hd : (x == ("__debug__" : Str)) = false := by decide)
    (hcd : (x == ("__classdict__" : Str)) = false := by decide) : SE X cad W (.Name x pos) (eVar i) := by
  refine Lv.PE.imp (pv i hN hv hd hcd) fun σ H Q ⟨w, env, eH, m, re, po⟩ => ?_
  subst eH
  unfold eVar at po
  cases q : env[i]? with
  | none => rw [q] at po; exact po.elim
  | some o =>
    cases o with
    | none => rw [q] at po; exact po.elim
    | some v =>
      rw [q] at po
      obtain ⟨u, e2, r⟩ := re.2 i v q
      exact ⟨u, e2, po_here po m r⟩
/-- a constant -/
theorem se_c {v : V} {l : LV} (h : PE X e (tC v)) (r : ∀ w, RL X.K cad w l v) : SE X cad W e (eC l) :=
  Lv.PE.imp h fun σ H Q ⟨w, env, eH, m, re, po⟩ => by subst eH; exact po_here (a := l) po m (r w)
theorem se_int {i : Int} {j : Nat} : SE X cad W (.Constant (.int i) j pos) (eC (.int i)) := se_c pe_int fun _ => mk_int i
theorem se_bl {i : Bool} {j : Nat} : SE X cad W (.Constant (.bool i) j pos) (eC (.bl i)) := se_c pe_bl fun _ => mk_bl i
theorem se_non {j : Nat} : SE X cad W (.Constant .none j pos) (eC .non) := se_c pe_non fun _ => mk_non
theorem se_str {x : Str} {j : Nat} : SE X cad W (.Constant (.str x) j pos) (eC (.str x)) := se_c pe_str fun _ => mk_str x
theorem sa_nil : SA X cad W [] lNil := Lv.PA.imp pa_nil fun σ H Q ⟨w, env, eH, m, re, po⟩ => by subst eH; exact po_here po m RLs.nil
theorem sa_cons (ha : SE X cad W e ea) (hr : SA X cad W es el) (hs : starEach (e :: es) X.env = (false, eval e X.env) :: starEach es X.env := by rfl) : SA X cad W (e :: es) (lCons ea el) := by
  refine Lv.PA.imp (pa_cons ha hr hs) fun σ H Q ⟨w, env, eH, m, re, po⟩ => ?_
  refine ⟨w, env, eH, m, re, po_bind po fun w1 l u x1 m1 r1 po1 => ?_⟩
  refine ⟨w1, env, rfl, m1, re.mono x1, po_bind po1 fun w2 ls us x2 m2 r2 po2 => ?_⟩
  exact po_here po2 m2 (RLs.cons (RL.mono x2 _ _ r1) r2)
theorem se_tup {x1} (hl : SA X cad W es el) : SE X cad W (.Tuple es x1 pos) (eL fTup el) := by
  refine Lv.PE.imp (pe_tup hl) fun σ H Q ⟨w, env, eH, m, re, po⟩ => ?_
  refine ⟨w, env, eH, m, re, po_bind po fun w1 ls us x1 m1 r1 po1 => ?_⟩
  unfold fTup at po1
  by_cases hz : ls.length ≤ LIM
  · rw [if_pos hz] at po1
    exact ⟨by rw [← r1.length]; exact lim_line hz, fun p hp => po_tup po1 m1 r1 p hp⟩
  · rw [if_neg hz] at po1; exact po1.elim
theorem se_fl (hl : SA X cad W es el) : SE X cad W (.List es pos) (eL fFl el) := by
  refine Lv.PE.imp (pe_lst hl) fun σ H Q ⟨w, env, eH, m, re, po⟩ => ?_
  refine ⟨w, env, eH, m, re, po_bind po fun w1 ls us x1 m1 r1 po1 => ?_⟩
  unfold fFl at po1
  by_cases hz : ls.length ≤ LIM
  · rw [if_pos hz] at po1
    exact ⟨by rw [← r1.length]; exact lim_line hz, fun p hp => po_fl po1 m1 r1 p hp⟩
  · rw [if_neg hz] at po1; exact po1.elim
theorem se_lst (hl : SA X cad W es el) : SE X cad W (.List es pos) (eL fLst el) := by
  refine Lv.PE.imp (pe_lst hl) fun σ H Q ⟨w, env, eH, m, re, po⟩ => ?_
  refine ⟨w, env, eH, m, re, po_bind po fun w1 ls us x1 m1 r1 po1 => ?_⟩
  unfold fLst at po1
  by_cases hz : ls.length ≤ LIM ∧ noRefs ls = true
  · rw [if_pos hz] at po1
    exact ⟨by rw [← r1.length]; exact lim_line hz.1, fun p hp => po_lst hz.2 po1 m1 r1 p hp⟩
  · rw [if_neg hz] at po1; exact po1.elim
/-- what a function of local values says of a function of values -/
def Op2 (X : Cx) (cad : Cad) (W : WX) (g : Value → Value → Sem Value) (f : LV → LV → LH → Res LV) : Prop :=
  ∀ (pins : List (Addr × Obj)) (s : Shared) (σ : L2.St) (w : Wd) (l1 l2 : LV) (x y : V) (v u : Value) (Q : VK), Inv X pins σ w.H s → Emb X.K cad w → RL X.K cad w l1 x → RL X.K cad w l2 y → RelV x v → RelV y u →
    Po X.K cad (RL X.K cad) w Q (XS W σ) (f l1 l2 w.lh) → wpAny (model X.prog X.w) X.A (g v u) (EP X pins σ Q) X.xe s
def Op1 (X : Cx) (cad : Cad) (W : WX) (g : Value → Sem Value) (f : LV → LH → Res LV) : Prop :=
  ∀ (pins : List (Addr × Obj)) (s : Shared) (σ : L2.St) (w : Wd) (l : LV) (x : V) (v : Value) (Q : VK), Inv X pins σ w.H s → Emb X.K cad w → RL X.K cad w l x → RelV x v →
    Po X.K cad (RL X.K cad) w Q (XS W σ) (f l w.lh) → wpAny (model X.prog X.w) X.A (g v) (EP X pins σ Q) X.xe s
def ClL (X : Cx) (cad : Cad) (W : WX) (g : List Value → Sem Value) (f : List LV → LH → Res LV) : Prop :=
  ∀ (pins : List (Addr × Obj)) (s : Shared) (σ : L2.St) (w : Wd) (ls : List LV) (xs : List V) (us : List Value) (Q : VK), Inv X pins σ w.H s → Emb X.K cad w → RLs X.K cad w ls xs → Vals xs us →
    Po X.K cad (RL X.K cad) w Q (XS W σ) (f ls w.lh) → wpAny (model X.prog X.w) X.A (g us) (EP X pins σ Q) X.xe s
theorem op2_of {g : Value → Value → Sem Value} {f : LV → LV → LH → Res LV} {r : R2} (h : OpR X g r)
    (k : ∀ (w : Wd) (l1 l2 : LV) (x y : V) (Q : VK) (E : XK), Emb X.K cad w → RL X.K cad w l1 x → RL X.K cad w l2 y → Po X.K cad (RL X.K cad) w Q E (f l1 l2 w.lh) → r x y w.H Q) : Op2 X cad W g f :=
  fun pins s σ w l1 l2 x y v u Q I m r1 r2 q1 q2 po => h pins s σ w.H x y v u Q I q1 q2 (k w l1 l2 x y Q _ m r1 r2 po)
theorem op1_of {g : Value → Sem Value} {f : LV → LH → Res LV} {r : V → Hp → VK → Prop} (h : UnR X g r)
    (k : ∀ (w : Wd) (l : LV) (x : V) (Q : VK) (E : XK), Emb X.K cad w → RL X.K cad w l x → Po X.K cad (RL X.K cad) w Q E (f l w.lh) → r x w.H Q) : Op1 X cad W g f :=
  fun pins s σ w l x v Q I m r1 q1 po => h pins s σ w.H x v Q I q1 (k w l x Q _ m r1 po)
theorem cl_of {g : Value} {f : List LV → LH → Res LV} {r : List V → Hp → VK → Prop} (h : CallR X g r)
    (k : ∀ (w : Wd) (ls : List LV) (xs : List V) (Q : VK) (E : XK), Emb X.K cad w → RLs X.K cad w ls xs → Po X.K cad (RL X.K cad) w Q E (f ls w.lh) → r xs w.H Q) : ClL X cad W (fun us => call g us) f :=
  fun pins s σ w ls xs us Q I m r1 q1 po => h pins s σ w.H xs us Q I q1 (k w ls xs Q _ m r1 po)
/-- two operands evaluated -/
theorem two {f : LV → LV → LH → Res LV} {σ : L2.St} {H : Hp} {Q : VK} (h : tE X.K cad W (eB f ea ec) σ H Q) :
    tE X.K cad W ea σ H fun x H1 => tE X.K cad W ec σ H1 fun y H2 => ∃ w l1 l2, w.H = H2 ∧ Emb X.K cad w ∧ RL X.K cad w l1 x ∧ RL X.K cad w l2 y ∧ Po X.K cad (RL X.K cad) w Q (XS W σ) (f l1 l2 w.lh) := by
  obtain ⟨w, env, eH, m, re, po⟩ := h
  refine ⟨w, env, eH, m, re, po_bind po fun w1 l1 u1 x1 m1 r1 po1 => ?_⟩
  refine ⟨w1, env, rfl, m1, re.mono x1, po_bind po1 fun w2 l2 u2 x2 m2 r2 po2 => ?_⟩
  exact ⟨w2, l1, l2, rfl, m2, RL.mono x2 _ _ r1, r2, po2⟩
theorem one {f : LV → LH → Res LV} {σ : L2.St} {H : Hp} {Q : VK} (h : tE X.K cad W (eU f ea) σ H Q) :
    tE X.K cad W ea σ H fun x H1 => ∃ w l1, w.H = H1 ∧ Emb X.K cad w ∧ RL X.K cad w l1 x ∧ Po X.K cad (RL X.K cad) w Q (XS W σ) (f l1 w.lh) := by
  obtain ⟨w, env, eH, m, re, po⟩ := h
  exact ⟨w, env, eH, m, re, po_bind po fun w1 l1 u1 x1 m1 r1 po1 => ⟨w1, l1, rfl, m1, r1, po1⟩⟩
theorem many {f : List LV → LH → Res LV} {σ : L2.St} {H : Hp} {Q : VK} (h : tE X.K cad W (eL f el) σ H Q) :
    tA X.K cad W el σ H fun xs H1 => ∃ w ls, w.H = H1 ∧ Emb X.K cad w ∧ RLs X.K cad w ls xs ∧ Po X.K cad (RL X.K cad) w Q (XS W σ) (f ls w.lh) := by
  obtain ⟨w, env, eH, m, re, po⟩ := h
  exact ⟨w, env, eH, m, re, po_bind po fun w1 l1 u1 x1 m1 r1 po1 => ⟨w1, l1, rfl, m1, r1, po1⟩⟩
theorem se_bin {op : Operator} {f : LV → LV → LH → Res LV} (ho : Op2 X cad W (binaryOp op) f) (ha : SE X cad W a ea) (hc : SE X cad W c ec) : SE X cad W (.BinOp a op c pos) (eB f ea ec) := by
  refine ⟨fun pins s σ H Q I h => ?_⟩
  refine wpAny_BinOp (binT ha hc I (two h) fun v u s2 x y H2 I2 rx ry q => ?_)
  obtain ⟨w, l1, l2, eH, m, r1, r2, po⟩ := q
  subst eH
  exact ho pins s2 σ w l1 l2 x y v u Q I2 m r1 r2 rx ry po
theorem se_un {op : UnaryOp} {f : LV → LH → Res LV} (ho : Op1 X cad W (unaryOp op) f) (ha : SE X cad W a ea) : SE X cad W (.UnaryOp op a pos) (eU f ea) := by
  refine ⟨fun pins s σ H Q I h => ?_⟩
  refine UnaryOp_ (thn (ha.run pins s σ H _ I (one h)) fun v s1 ⟨x, H1, I1, rx, q⟩ => ?_)
  obtain ⟨w, l1, eH, m, r1, po⟩ := q
  subst eH
  exact ho pins s1 σ w l1 x v Q I1 m r1 rx po
theorem se_cmp {op : CmpOp} {f : LV → LV → LH → Res LV} (ho : Op2 X cad W (compareOp op) f) (ha : SE X cad W a ea) (hc : SE X cad W c ec)
    (hm : behindInMarks op c = false := by first | exact nomark _ | rfl | with_unfolding_all rfl) : SE X cad W (.Compare a [op] [c] pos) (eB f ea ec) := by
  refine ⟨fun pins s σ H Q I h => ?_⟩
  refine wpAny_Compare1 (binT ha hc I (two h) fun v u s2 x y H2 I2 rx ry q => ?_) hm
  obtain ⟨w, l1, l2, eH, m, r1, r2, po⟩ := q
  subst eH
  exact ho pins s2 σ w l1 l2 x y v u Q I2 m r1 r2 rx ry po
theorem test_of {σ : L2.St} {H : Hp} {Q : Bool → Hp → Prop} (h : tT X.K cad W (eTest ea) σ H Q) :
    tE X.K cad W ea σ H fun x H1 => ∃ k, x = .bl k ∧ Q k H1 := by
  obtain ⟨w, env, eH, m, re, po⟩ := h
  refine ⟨w, env, eH, m, re, po_bind po fun w1 l1 u1 x1 m1 r1 po1 => ?_⟩
  cases l1 with
  | bl k => exact ⟨k, rl_bl r1, po_here (u := k) po1 m1 rfl⟩
  | _ => exact po1.elim
theorem st_val (h : SE X cad W e ea) (he : ∀ whole, isTrue e X.env whole = (do let v ← whole; standAt e.pos; holding [v] (truthy v)) := by intro _; rfl) : ST X cad W e (eTest ea) :=
  Lv.PT.imp (pt_val h he) fun σ H Q h => test_of h
theorem st_cmp {op : CmpOp} {f : LV → LV → LH → Res LV} (ho : Op2 X cad W (compareOp op) f) (ha : SE X cad W a ea) (hc : SE X cad W c ec)
    (hm : behindInMarks op c = false := by first | exact nomark _ | rfl | with_unfolding_all rfl) : ST X cad W (.Compare a [op] [c] pos) (eTest (eB f ea ec)) := by
  refine ⟨fun pins s σ H Q I h => ?_⟩
  refine wpAny_isTrue_Compare1 (thn (ha.run pins s σ H _ I (two (test_of h))) fun v s1 ⟨x, H1, I1, r1, q1⟩ => thn (hc.run pins s1 σ H1 _ I1 q1) fun u s2 ⟨y, H2, I2, r2, q2⟩ => ?_) hm
  obtain ⟨w, l1, l2, eH, m, p1, p2, po⟩ := q2
  subst eH
  refine thn (ho pins s2 σ w l1 l2 x y v u _ I2 m p1 p2 r1 r2 po) fun cv s3 ⟨z, H3, I3, r3, k, ez, q3⟩ => ?_
  subst ez
  cases r3
  exact wpAny_truthy_bool ⟨H3, I3, q3⟩
theorem and_of {σ : L2.St} {H : Hp} {Q : VK} (h : tE X.K cad W (eAnd ea ec) σ H Q) : tAndV (tE X.K cad W ea) (tE X.K cad W ec) σ H Q := by
  obtain ⟨w, env, eH, m, re, po⟩ := h
  refine ⟨w, env, eH, m, re, po_bind po fun w1 l1 u1 x1 m1 r1 po1 => ?_⟩
  cases l1 with
  | bl k =>
    refine ⟨k, rl_bl r1, ?_⟩
    cases k with
    | true => exact iteT ⟨w1, env, rfl, m1, re.mono x1, po1⟩
    | false => exact iteF (po_here po1 m1 (mk_bl false))
  | _ => exact po1.elim
theorem or_of {σ : L2.St} {H : Hp} {Q : VK} (h : tE X.K cad W (eOr ea ec) σ H Q) : tOrV (tE X.K cad W ea) (tE X.K cad W ec) σ H Q := by
  obtain ⟨w, env, eH, m, re, po⟩ := h
  refine ⟨w, env, eH, m, re, po_bind po fun w1 l1 u1 x1 m1 r1 po1 => ?_⟩
  cases l1 with
  | bl k =>
    refine ⟨k, rl_bl r1, ?_⟩
    cases k with
    | true => exact iteT (po_here po1 m1 (mk_bl true))
    | false => exact iteF ⟨w1, env, rfl, m1, re.mono x1, po1⟩
  | _ => exact po1.elim
theorem se_one {op : BoolOp} (h : SE X cad W a ea) : SE X cad W (.BoolOp op [a] pos) ea := pe_one h
theorem se_and (ha : SE X cad W a ea) (hc : SE X cad W (.BoolOp .And (c :: rest) pos) ec) : SE X cad W (.BoolOp .And (a :: c :: rest) pos) (eAnd ea ec) :=
  Lv.PE.imp (pe_and ha hc) fun _ _ _ h => and_of h
theorem se_or (ha : SE X cad W a ea) (hc : SE X cad W (.BoolOp .Or (c :: rest) pos) ec) : SE X cad W (.BoolOp .Or (a :: c :: rest) pos) (eOr ea ec) :=
  Lv.PE.imp (pe_or ha hc) fun _ _ _ h => or_of h
theorem se_not (ha : SE X cad W a ea) : SE X cad W (.UnaryOp .Not a pos) (eNot ea) := by
  refine Lv.PE.imp (pe_not ha) fun σ H Q ⟨w, env, eH, m, re, po⟩ => ?_
  refine ⟨w, env, eH, m, re, po_bind po fun w1 l1 u1 x1 m1 r1 po1 => ?_⟩
  cases l1 with
  | bl k => exact ⟨k, rl_bl r1, po_here po1 m1 (mk_bl _)⟩
  | _ => exact po1.elim
theorem se_if {t : Expr} (ht : ST X cad W t ta) (ha : SE X cad W a ea) (hc : SE X cad W c ec) : SE X cad W (.IfExp t a c pos) (eIf ta ea ec) := by
  refine Lv.PE.imp (pe_ifExp ht ha hc) fun σ H Q ⟨w, env, eH, m, re, po⟩ => ?_
  refine ⟨w, env, eH, m, re, po_bind po fun w1 k k' x1 m1 r1 po1 => ?_⟩
  subst r1
  cases k with
  | true => exact iteT ⟨w1, env, rfl, m1, re.mono x1, po1⟩
  | false => exact iteF ⟨w1, env, rfl, m1, re.mono x1, po1⟩
theorem sw_and1 (ha : ST X cad W a ta) : SW X cad W (.BoolOp .And [a] pos) ta := pw_and1 ha
theorem sw_or1 (ha : ST X cad W a ta) : SW X cad W (.BoolOp .Or [a] pos) ta := pw_or1 ha
theorem sw_and (ha : ST X cad W a ta) (hc : SW X cad W (.BoolOp .And (c :: rest) pos) tc) : SW X cad W (.BoolOp .And (a :: c :: rest) pos) (tAnd' ta tc) := by
  refine Lv.PW.imp (pw_and ha hc) fun σ H Q ⟨w, env, eH, m, re, po⟩ => ?_
  refine ⟨w, env, eH, m, re, po_bind po fun w1 k k' x1 m1 r1 po1 => ?_⟩
  subst r1
  cases k with
  | true => exact iteT ⟨w1, env, rfl, m1, re.mono x1, po1⟩
  | false => exact iteF (po_here (u := false) po1 m1 rfl)
theorem sw_or (ha : ST X cad W a ta) (hc : SW X cad W (.BoolOp .Or (c :: rest) pos) tc) : SW X cad W (.BoolOp .Or (a :: c :: rest) pos) (tOr' ta tc) := by
  refine Lv.PW.imp (pw_or ha hc) fun σ H Q ⟨w, env, eH, m, re, po⟩ => ?_
  refine ⟨w, env, eH, m, re, po_bind po fun w1 k k' x1 m1 r1 po1 => ?_⟩
  subst r1
  cases k with
  | true => exact iteT (po_here (u := true) po1 m1 rfl)
  | false => exact iteF ⟨w1, env, rfl, m1, re.mono x1, po1⟩
theorem st_not (ha : ST X cad W a ta) : ST X cad W (.UnaryOp .Not a pos) (tNot' ta) := by
  refine Lv.PT.imp (pt_not ha) fun σ H Q ⟨w, env, eH, m, re, po⟩ => ?_
  refine ⟨w, env, eH, m, re, po_bind po fun w1 k k' x1 m1 r1 po1 => ?_⟩
  subst r1
  exact po_here (u := !k) po1 m1 rfl
theorem chain_of {f g : LV → LV → LH → Res LV} {σ : L2.St} {H : Hp} {Q : VK} (h : tE X.K cad W (eChain f g ea ec ed) σ H Q) :
    tE X.K cad W ea σ H fun x H1 => tE X.K cad W ec σ H1 fun y H2 => ∃ w env l1 l2, w.H = H2 ∧ Emb X.K cad w ∧ RLe X.K cad w env σ ∧ RL X.K cad w l1 x ∧ RL X.K cad w l2 y ∧
      Po X.K cad (RL X.K cad) w Q (XS W σ) (rb (f l1 l2 w.lh) fun z lh3 => rb (toB z lh3) fun k lh4 => if k = true then rb (ed env lh4) fun u lh5 => g l2 u lh5 else .ok (.bl false) lh4) := by
  obtain ⟨w, env, eH, m, re, po⟩ := h
  refine ⟨w, env, eH, m, re, po_bind po fun w1 l1 u1 x1 m1 r1 po1 => ?_⟩
  refine ⟨w1, env, rfl, m1, re.mono x1, po_bind po1 fun w2 l2 u2 x2 m2 r2 po2 => ?_⟩
  exact ⟨w2, env, l1, l2, rfl, m2, (re.mono x1).mono x2, RL.mono x2 _ _ r1, r2, po2⟩
end
end Lv
end
section
set_option Elab.async false
set_option linter.all false
set_option maxRecDepth 100000
set_option maxHeartbeats 2000000
namespace Lv
open PySem PySem.Spec PyProof.Rows L2

/-! ### chains of two comparisons -/
section
variable {X : Cx} {cad : Cad} {W : WX} {pos : Pos} {e a c d : Expr} {ea ec ed : Ev}
theorem se_chain {op op' : CmpOp} {f g : LV → LV → LH → Res LV} (ho : Op2 X cad W (compareOp op) f) (ho' : Op2 X cad W (compareOp op') g) (ha : SE X cad W a ea) (hc : SE X cad W c ec) (hd : SE X cad W d ed)
    (hm : lastMarks [op, op'] [c, d] = false := by with_unfolding_all rfl) : SE X cad W (.Compare a [op, op'] [c, d] pos) (eChain f g ea ec ed) := by
  refine ⟨fun pins s σ H Q I h => ?_⟩
  refine Compare_chain (thn (ha.run pins s σ H _ I (chain_of h)) fun v s1 ⟨x, H1, I1, r1, q1⟩ => chain_link (thn (hc.run pins s1 σ H1 _ I1 q1) fun u s2 ⟨y, H2, I2, r2, q2⟩ => ?_)) hm
  obtain ⟨w, env, l1, l2, eH, m, re, p1, p2, po⟩ := q2
  subst eH
  refine thn (ho pins s2 σ w l1 l2 x y v u (fun z H3 => ∃ w3 env k, w3.H = H3 ∧ Emb X.K cad w3 ∧ RLe X.K cad w3 env σ ∧ RL X.K cad w3 l2 y ∧ z = .bl k ∧
    Po X.K cad (RL X.K cad) w3 Q (XS W σ) (if k = true then rb (ed env w3.lh) fun u lh5 => g l2 u lh5 else .ok (.bl false) w3.lh)) I2 m p1 p2 r1 r2 (po_bind po fun w3 l3 u3 x3 m3 r3 po3 => ?_)) ?_
  · cases l3 with
    | bl k => exact ⟨w3, env, k, rfl, m3, re.mono x3, RL.mono x3 _ _ p2, rl_bl r3, po3⟩
    | _ => exact po3.elim
  · intro dv s3 ⟨z, H3, I3, r3, w3, env3, k, e3, m3, re3, p3, ez, po3⟩
    subst ez e3
    cases r3
    refine wpAny_truthy_bool ?_
    cases k with
    | false => exact ite_ff ⟨.bl false, w3.H, I3, rfl, po_here po3 m3 (mk_bl false)⟩
    | true =>
      refine ite_tt (chain_last (thn (hd.run pins s3 σ w3.H (fun u4 H4 => ∃ (w4 : Wd) (l4 : LV), w4.H = H4 ∧ Emb X.K cad w4 ∧ RL X.K cad w4 l2 y ∧ RL X.K cad w4 l4 u4 ∧ Po X.K cad (RL X.K cad) w4 Q (XS W σ) (g l2 l4 w4.lh)) I3
        ⟨w3, env3, rfl, m3, re3, po_bind po3 fun w4 l4 u4 x4 m4 r4 po4 => ⟨w4, l4, rfl, m4, RL.mono x4 _ _ p3, r4, po4⟩⟩) fun w' s4 ⟨z', H4, I4, r4, q4⟩ => ?_))
      obtain ⟨w4, l4, e4, m4, p4, p5, po4⟩ := q4
      subst e4
      exact ho' pins s4 σ w4 l2 l4 y z' u w' Q I4 m4 p4 p5 r2 r4 po4
theorem st_chain {op op' : CmpOp} {f g : LV → LV → LH → Res LV} (ho : Op2 X cad W (compareOp op) f) (ho' : Op2 X cad W (compareOp op') g) (ha : SE X cad W a ea) (hc : SE X cad W c ec) (hd : SE X cad W d ed)
    (hm : lastMarks [op, op'] [c, d] = false := by with_unfolding_all rfl) : ST X cad W (.Compare a [op, op'] [c, d] pos) (eTest (eChain f g ea ec ed)) := by
  refine ⟨fun pins s σ H Q I h => ?_⟩
  refine isTrue_chain (thn (ha.run pins s σ H _ I (chain_of (test_of h))) fun v s1 ⟨x, H1, I1, r1, q1⟩ => test_link (thn (hc.run pins s1 σ H1 _ I1 q1) fun u s2 ⟨y, H2, I2, r2, q2⟩ => ?_)) hm
  obtain ⟨w, env, l1, l2, eH, m, re, p1, p2, po⟩ := q2
  subst eH
  refine thn (ho pins s2 σ w l1 l2 x y v u (fun z H3 => ∃ w3 env k, w3.H = H3 ∧ Emb X.K cad w3 ∧ RLe X.K cad w3 env σ ∧ RL X.K cad w3 l2 y ∧ z = .bl k ∧
    Po X.K cad (RL X.K cad) w3 (fun x H1 => ∃ k, x = .bl k ∧ Q k H1) (XS W σ) (if k = true then rb (ed env w3.lh) fun u lh5 => g l2 u lh5 else .ok (.bl false) w3.lh)) I2 m p1 p2 r1 r2 (po_bind po fun w3 l3 u3 x3 m3 r3 po3 => ?_)) ?_
  · cases l3 with
    | bl k => exact ⟨w3, env, k, rfl, m3, re.mono x3, RL.mono x3 _ _ p2, rl_bl r3, po3⟩
    | _ => exact po3.elim
  · intro dv s3 ⟨z, H3, I3, r3, w3, env3, k, e3, m3, re3, p3, ez, po3⟩
    subst ez e3
    cases r3
    refine wpAny_truthy_bool ?_
    cases k with
    | false =>
      obtain ⟨k', e', q'⟩ := po_here po3 m3 (mk_bl false)
      cases e'
      exact ite_ff ⟨w3.H, I3, q'⟩
    | true =>
      refine ite_tt (test_last (thn (hd.run pins s3 σ w3.H (fun u4 H4 => ∃ (w4 : Wd) (l4 : LV), w4.H = H4 ∧ Emb X.K cad w4 ∧ RL X.K cad w4 l2 y ∧ RL X.K cad w4 l4 u4 ∧ Po X.K cad (RL X.K cad) w4 (fun x H1 => ∃ k, x = .bl k ∧ Q k H1) (XS W σ) (g l2 l4 w4.lh)) I3
        ⟨w3, env3, rfl, m3, re3, po_bind po3 fun w4 l4 u4 x4 m4 r4 po4 => ⟨w4, l4, rfl, m4, RL.mono x4 _ _ p3, r4, po4⟩⟩) fun w' s4 ⟨z', H4, I4, r4, q4⟩ => ?_))
      obtain ⟨w4, l4, e4, m4, p4, p5, po4⟩ := q4
      subst e4
      refine thn (ho' pins s4 σ w4 l2 l4 y z' u w' _ I4 m4 p4 p5 r2 r4 po4) fun d' s5 ⟨z2, H5, I5, r5, k2, e2, q5⟩ => ?_
      subst e2
      cases r5
      exact wpAny_truthy_bool ⟨H5, I5, q5⟩
end

/-! ### what a def promises by its mirror -/
def spOf (K : PySem.W.Frag) (cad : Cad) (n : Nat) (m : Fn) : Sp := fun vs H Q E => ∃ w ls, w.H = H ∧ Emb K cad w ∧ RLs K cad w ls vs ∧ ls.length = n ∧ Po K cad (RL K cad) w Q E (m ls w.lh)
/-- a def's promise where no repr runs around -/
structure FnG (P : Program) (w : World) (K : PySem.W.Frag) (mg : Str → Option Value) (base : Heap) (cad : Cad) (k : Nat) (f : Addr) (fd : FuncData) (ps : List Str) (n : Nat) (m : Fn) : Prop where
  len : ps.length = n
  run : ∀ (A : Around) (outer : List Env) (s : Shared) (H : Hp) (args : Args) (us : List Value) (vs : List V) (Q : VK) (E : XK), Room k A → A.guards = some [] → Env0 P w K mg base A outer s H → BindsTo s fd args (ps.zip us) → Vals vs us → spOf K cad n m vs H Q E →
    codeAny (model P w) A (.call (.ref f) args) (CR (L2.CX P w) outer P w H s Q E) s
/-- a def of the text whose mirror is m, callable from X; dls: the defaults that fill up -/
structure Own (X : Cx) (cad : Cad) (f : Addr) (n : Nat) (m : Fn) (dls : List LV) : Prop where
  ok : ∃ fd ps k ds dvs, FnG X.prog X.w X.K X.mg X.base cad k f fd ps n m ∧ Room (k + 1) X.A ∧ X.A.guards = some [] ∧ Binds X.K fd ps ds ∧ Vals dvs ds ∧ ∀ w, RLs X.K cad w dls dvs
/-- a class's method -/
structure OwnM (X : Cx) (cad : Cad) (c : Nat) (name : Str) (n : Nat) (m : Fn) (dls : List LV) : Prop where
  ex : ∃ f, Own X cad f n m dls ∧ PySem.W.findIn X.K (.ref (cad c)) name = some (some (.ref f)) ∧ PySem.W.isFn X.K (.ref f) = true ∧ PySem.W.keepIn X.K (.ref f) = true
section
variable {X : Cx} {cad : Cad} {W : WX} {pins : List (Addr × Obj)} {s : Shared} {σ : L2.St} {w : Wd} {Q : VK}
/-- such a def runs -/
theorem run_own {f : Addr} {n : Nat} {m : Fn} {ls dls : List LV} {vs : List V} {us : List Value} (o : Own X cad f n m dls) (tk : Takes X W) (I : Inv X pins σ w.H s) (em : Emb X.K cad w) (rl : RLs X.K cad w ls vs) (r : Vals vs us) (hn : (ls ++ dls).length = n)
    (po : Po X.K cad (RL X.K cad) w Q (XS W σ) (m (ls ++ dls) w.lh)) : wpAny (model X.prog X.w) X.A (call (.ref f) us) (EP X pins σ Q) X.xe s := by
  obtain ⟨fd, ps, k, ds, dvs, F, hr, hgd, hb, hd, hdl⟩ := o.ok
  have sp : spOf X.K cad n m (vs ++ dvs) w.H Q (XS W σ) := ⟨w, ls ++ dls, rfl, em, rl.append (hdl w), hn, po⟩
  have r2 := r.append hd
  have hl : (us ++ ds).length = ps.length := by rw [← r2.length, F.len, ← (rl.append (hdl w)).length]; exact hn
  refine wpAny_call (codeAny_mono (F.run X.A X.stack s w.H ⟨us, []⟩ (us ++ ds) (vs ++ dvs) Q (XS W σ) (hr.mono (Nat.le_succ k)) hgd I.env0 (hb s us I.kIn hl) r2 sp) fun z s' hq => ?_)
  cases z with
  | error e => exact tk e s' (XE.of_call I (fun _ _ _ h => h) hq)
  | ok fl =>
    cases fl with
    | ret u => exact I.after hq
    | next => exact hq.elim
    | brk => exact hq.elim
    | cont => exact hq.elim
/-- an instance as the library's rules take it -/
theorem inst_of {c : Nat} {fs : List (Str × LV)} {a : Addr} (I : Inv X pins σ w.H s) (h : RL X.K cad w (.obj c fs) (.ref a)) : ∃ (od : Addr × Obj), PySem.W.InstAt s.heap a (PySem.W.instObj (cad c) od.1) (cad c) (some od.2) := by
  obtain ⟨a', dx, vs, ea, hH, nl, r⟩ := rl_obj h
  cases ea
  obtain ⟨mA, om, h1, h2, h3⟩ := ins_get I.hok hH
  obtain ⟨od, ia, _⟩ := om.look
  exact ⟨(dx, od), ia⟩
theorem cmpBack {u : Value} {s' : Shared} (h : EP X pins σ Q u s') : PySem.W.CmpBack (EP X pins σ Q) u s' := by
  obtain ⟨v, H', I, r, q⟩ := h
  cases v with
  | non => cases r; exact ⟨.non, H', I, rfl, q⟩
  | bl b => cases r; exact ⟨.bl b, H', I, rfl, q⟩
  | int i => obtain ⟨t, rfl⟩ := r; exact ⟨.int i, H', I, ⟨t, rfl⟩, q⟩
  | str i => obtain ⟨t, rfl⟩ := r; exact ⟨.str i, H', I, ⟨t, rfl⟩, q⟩
  | byt i => obtain ⟨t, rfl⟩ := r; exact ⟨.byt i, H', I, ⟨t, rfl⟩, q⟩
  | flt i => obtain ⟨t, rfl⟩ := r; exact ⟨.flt i, H', I, ⟨t, rfl⟩, q⟩
  | ref a => cases r; exact ⟨.ref a, H', I, rfl, q⟩
  | ty n => cases r; exact ⟨.ty n, H', I, rfl, q⟩
end
/-- an own class's operator: the left operand's method; the right one is of the same class or an int -/
structure OwnB (X : Cx) (cad : Cad) (op : Operator) (c : Nat) (m : Fn) : Prop where
  meth : OwnM X cad c (PySem.dunder op.info.2) 2 m []
  first : PySem.W.selfFirst X.K (cad c) = true
  int_ : ∃ fo ro rc, PySem.W.findIn X.K (.ref (cad c)) (dunderR op.info.2) = some rc ∧ (rc = none ∨ ∃ g : Addr, rc = some (.ref g)) ∧ PySem.W.findIn X.K (.type "int") (PySem.dunder op.info.2) = some fo ∧
    PySem.W.findIn X.K (.type "int") (dunderR op.info.2) = some ro ∧ PySem.W.subIn X.K (.type "int") (.ref (cad c)) = some false
section
variable {X : Cx} {cad : Cad} {W : WX}
theorem fr_of {pins : List (Addr × Obj)} {s : Shared} {σ : L2.St} {H : Hp} (I : Inv X pins σ H s) : ∃ m, Fr X.base X.env.locals s.heap m := I.fr
theorem own_same {op : Operator} {c : Nat} {m : Fn} (ob : OwnB X cad op c m) (tk : Takes X W) {pins : List (Addr × Obj)} {s : Shared} {σ : L2.St} {w : Wd} {Q : VK} {fs gs : List (Str × LV)} {x y : V} {v u : Value} (I : Inv X pins σ w.H s) (em : Emb X.K cad w)
    (r1 : RL X.K cad w (.obj c fs) x) (r2 : RL X.K cad w (.obj c gs) y) (q1 : RelV x v) (q2 : RelV y u) (po : Po X.K cad (RL X.K cad) w Q (XS W σ) (m [.obj c fs, .obj c gs] w.lh)) :
    wpAny (model X.prog X.w) X.A (binaryOp op v u) (EP X pins σ Q) X.xe s := by
  obtain ⟨a, dx, vs, rfl, _⟩ := rl_obj r1
  obtain ⟨a2, dx2, vs2, rfl, _⟩ := rl_obj r2
  cases q1
  cases q2
  obtain ⟨od, ia⟩ := inst_of I r1
  obtain ⟨od2, ia2⟩ := inst_of I r2
  obtain ⟨f, o, hf, hfn, _⟩ := ob.meth.ex
  obtain ⟨mm, F⟩ := I.fr
  exact PySem.W.binop_K F I.mod.kin ia ia2.type ob.first hf hfn (thn (run_own o tk I em (RLs.cons r1 (RLs.cons r2 RLs.nil)) (.cons rfl (.cons rfl .nil)) rfl po) fun v' s' h => cmpBack h)
theorem own_int {op : Operator} {c : Nat} {m : Fn} (ob : OwnB X cad op c m) (tk : Takes X W) {pins : List (Addr × Obj)} {s : Shared} {σ : L2.St} {w : Wd} {Q : VK} {fs : List (Str × LV)} {i : Int} {x y : V} {v u : Value} (I : Inv X pins σ w.H s) (em : Emb X.K cad w)
    (r1 : RL X.K cad w (.obj c fs) x) (r2 : RL X.K cad w (.int i) y) (q1 : RelV x v) (q2 : RelV y u) (po : Po X.K cad (RL X.K cad) w Q (XS W σ) (m [.obj c fs, .int i] w.lh)) :
    wpAny (model X.prog X.w) X.A (binaryOp op v u) (EP X pins σ Q) X.xe s := by
  obtain ⟨a, dx, vs, rfl, _⟩ := rl_obj r1
  have e2 := rl_int r2
  subst e2
  cases q1
  obtain ⟨t, rfl⟩ := q2
  obtain ⟨od, ia⟩ := inst_of I r1
  obtain ⟨f, o, hf, hfn, _⟩ := ob.meth.ex
  obtain ⟨fo, ro, rc, k1, k2, k3, k4, k5⟩ := ob.int_
  obtain ⟨mm, F⟩ := I.fr
  exact PySem.W.ksp_binT F I.mod.kin ia (T := "int") rfl ob.first hf hfn k1 k2 k3 k4 k5 (thn (run_own o tk I em (RLs.cons r1 (RLs.cons r2 RLs.nil)) (.cons rfl (.cons ⟨t, rfl⟩ .nil)) rfl po) fun v' s' h => cmpBack h)
/-- an own class's operator on the left -/
def ownV (own : List (Nat × Fn)) (c : Nat) (fs : List (Str × LV)) (y : LV) (lh : LH) : Res LV := match own.lookup c with
  | some m => (match y with
    | .int i => m [.obj c fs, .int i] lh
    | .obj c' gs => if c' = c then m [.obj c fs, .obj c' gs] lh else .stuck
    | _ => .stuck)
  | none => .stuck
def OwnAll (X : Cx) (cad : Cad) (op : Operator) (own : List (Nat × Fn)) : Prop := ∀ c m, own.lookup c = some m → OwnB X cad op c m
theorem OwnAll.nil {op : Operator} : OwnAll X cad op [] := fun c m h => by simp at h
theorem OwnAll.cons {op : Operator} {c : Nat} {m : Fn} {l : List (Nat × Fn)} (h : OwnB X cad op c m) (r : OwnAll X cad op l) : OwnAll X cad op ((c, m) :: l) := fun c' m' e => by
  rw [List.lookup_cons] at e
  by_cases hc : c' = c
  · subst hc; simp at e; subst e; exact h
  · have : (c' == c) = false := by simpa using hc
    rw [this] at e; exact r c' m' e
theorem own_run {op : Operator} {own : List (Nat × Fn)} (oa : OwnAll X cad op own) (tk : Takes X W) {pins : List (Addr × Obj)} {s : Shared} {σ : L2.St} {w : Wd} {Q : VK} {c : Nat} {fs : List (Str × LV)} {l2 : LV} {x y : V} {v u : Value} (I : Inv X pins σ w.H s) (em : Emb X.K cad w)
    (r1 : RL X.K cad w (.obj c fs) x) (r2 : RL X.K cad w l2 y) (q1 : RelV x v) (q2 : RelV y u) (po : Po X.K cad (RL X.K cad) w Q (XS W σ) (ownV own c fs l2 w.lh)) :
    wpAny (model X.prog X.w) X.A (binaryOp op v u) (EP X pins σ Q) X.xe s := by
  unfold ownV at po
  cases hl : own.lookup c with
  | none => rw [hl] at po; exact po.elim
  | some m =>
    rw [hl] at po
    have ob := oa c m hl
    cases l2 with
    | int i => exact own_int ob tk I em r1 r2 q1 q2 po
    | obj c' gs =>
      dsimp only at po
      by_cases hc : c' = c
      · subst hc
        rw [if_pos rfl] at po
        exact own_same ob tk I em r1 r2 q1 q2 po
      · rw [if_neg hc] at po; exact po.elim
    | _ => exact po.elim
end

/-! ### operators -/
def addV (own : List (Nat × Fn)) : LV → LV → LH → Res LV
  | .int i, .int j, h => .ok (.int (i + j)) h
  | .str x, .str y, h => if x.length + y.length ≤ LIM then .ok (.str (x ++ y)) h else .stuck
  | .tup xs, .tup ys, h => if xs.length + ys.length ≤ LIM then .ok (.tup (xs ++ ys)) h else .stuck
  | .fl xs, .fl ys, h => if xs.length + ys.length ≤ LIM then .ok (.fl (xs ++ ys)) h else .stuck
  | .obj c fs, y, h => ownV own c fs y h
  | _, _, _ => .stuck
def subV (own : List (Nat × Fn)) : LV → LV → LH → Res LV
  | .int i, .int j, h => .ok (.int (i - j)) h
  | .bl p, .bl q, h => .ok (.int (b2i p - b2i q)) h
  | .obj c fs, y, h => ownV own c fs y h
  | _, _, _ => .stuck
def mulOk (i j : Int) : Bool := ((decide (-(2 ^ 64) < i) && decide (i < 2 ^ 64)) || (decide (-(2 ^ 64) < j) && decide (j < 2 ^ 64))) || decide (i.natAbs.log2 + j.natAbs.log2 < 1000000)
def mulV (own : List (Nat × Fn)) : LV → LV → LH → Res LV
  | .int i, .int j, h => if mulOk i j = true then .ok (.int (i * j)) h else .stuck
  | .obj c fs, y, h => ownV own c fs y h
  | _, _, _ => .stuck
def fdivV : LV → LV → LH → Res LV
  | .int i, .int j, h => if j ≠ 0 ∧ j.natAbs.log2 < 9000 then .ok (.int (i.fdiv j)) h else .stuck
  | _, _, _ => .stuck
def modV : LV → LV → LH → Res LV
  | .int i, .int j, h => if j ≠ 0 then .ok (.int (i.fmod j)) h else .stuck
  | _, _, _ => .stuck
def powV : LV → LV → LH → Res LV
  | .int i, .int j, h => if 0 ≤ j ∧ j ≤ 1000000 ∧ i.natAbs < 2 ^ 64 then .ok (.int (i ^ j.toNat)) h else .stuck
  | _, _, _ => .stuck
def cmpV (f : Int → Int → Bool) : LV → LV → LH → Res LV
  | .int i, .int j, h => .ok (.bl (f i j)) h
  | _, _, _ => .stuck
def negV : LV → LH → Res LV
  | .int i, h => .ok (.int (-i)) h
  | _, _ => .stuck
def isNon : LV → LV → LH → Res LV
  | .obj _ _, .non, h => .ok (.bl false) h
  | .tup _, .non, h => .ok (.bl false) h
  | .fl _, .non, h => .ok (.bl false) h
  | .sl _, .non, h => .ok (.bl false) h
  | .ref _, .non, h => .ok (.bl false) h
  | .int _, .non, h => .ok (.bl false) h
  | .bl _, .non, h => .ok (.bl false) h
  | .str _, .non, h => .ok (.bl false) h
  | .non, .non, h => .ok (.bl true) h
  | _, _, _ => .stuck
def notNon (x y : LV) (h : LH) : Res LV := rb (isNon x y h) fun v h' => match v with
  | .bl k => .ok (.bl (!k)) h'
  | _ => .stuck
section
variable {X : Cx} {cad : Cad} {W : WX}
theorem cat_lists {pins : List (Addr × Obj)} {s : Shared} {σ : L2.St} {H : Hp} {Q : VK} {l b : Addr} {xs zs : List V} (I : Inv X pins σ H s) (h1 : H l = some (.lst xs)) (h2 : H b = some (.lst zs)) (hz : xs.length + zs.length ≤ sizeLine)
    (q : ∀ p, H p = none → Q (.ref p) (upd H p (.lst (xs ++ zs)))) : wpAny (model X.prog X.w) X.A (binaryOp .Add (.ref l) (.ref b)) (EP X pins σ Q) X.xe s :=
  op_cat pins s σ H _ _ _ _ Q I (show RelV (.ref l) _ from rfl) (show RelV (.ref b) _ from rfl) ⟨l, b, xs, zs, rfl, rfl, h1, h2, hz, q⟩
theorem o_add {own : List (Nat × Fn)} (oa : OwnAll X cad .Add own) (tk : Takes X W) : Op2 X cad W (binaryOp .Add) (addV own) := by
  intro pins s σ w l1 l2 x y v u Q I m r1 r2 q1 q2 po
  cases l1 with
  | int i =>
    cases l2 with
    | int j => exact op_add pins s σ w.H x y v u Q I q1 q2 ⟨i, j, rl_int r1, rl_int r2, po_int po m⟩
    | _ => exact po.elim
  | str i =>
    cases l2 with
    | str j =>
      dsimp only [addV] at po
      by_cases hz : i.length + j.length ≤ LIM
      · rw [if_pos hz] at po
        exact op_add_str pins s σ w.H x y v u Q I q1 q2 ⟨i, j, rl_str r1, rl_str r2, lim_line hz, po_str po m⟩
      · rw [if_neg hz] at po; exact po.elim
    | _ => exact po.elim
  | tup xs =>
    cases l2 with
    | tup ys =>
      dsimp only [addV] at po
      by_cases hz : xs.length + ys.length ≤ LIM
      · rw [if_pos hz] at po
        obtain ⟨a, vs, e1, p1, s1⟩ := rl_tup r1
        obtain ⟨a2, vs2, e2, p2, s2⟩ := rl_tup r2
        refine op_catA pins s σ w.H x y v u Q I q1 q2 ⟨a, a2, vs, vs2, e1, e2, p1.sq, p2.sq, by rw [← s1.length, ← s2.length]; exact lim_line hz, fun hx => ?_, fun hx hy => ?_, fun hx hy p hp => po_tup po m (s1.append s2) p hp⟩
        · subst hx
          have : xs = [] := List.eq_nil_of_length_eq_zero (by rw [s1.length]; rfl)
          subst this
          exact po_here po m (mk_tup p2 s2)
        · subst hy
          have : ys = [] := List.eq_nil_of_length_eq_zero (by rw [s2.length]; rfl)
          subst this
          rw [List.append_nil] at po
          exact po_here po m (mk_tup p1 s1)
      · rw [if_neg hz] at po; exact po.elim
    | _ => exact po.elim
  | fl xs =>
    cases l2 with
    | fl ys =>
      dsimp only [addV] at po
      by_cases hz : xs.length + ys.length ≤ LIM
      · rw [if_pos hz] at po
        obtain ⟨a, vs, rfl, p1, s1⟩ := rl_fl r1
        obtain ⟨a2, vs2, rfl, p2, s2⟩ := rl_fl r2
        cases q1
        cases q2
        exact cat_lists I p1.1 p2.1 (by rw [← s1.length, ← s2.length]; exact lim_line hz) fun p hp => po_fl po m (s1.append s2) p hp
      · rw [if_neg hz] at po; exact po.elim
    | _ => exact po.elim
  | obj c fs => exact own_run oa tk I m r1 r2 q1 q2 (by cases l2 <;> exact po)
  | _ => exact po.elim
theorem o_sub {own : List (Nat × Fn)} (oa : OwnAll X cad .Sub own) (tk : Takes X W) : Op2 X cad W (binaryOp .Sub) (subV own) := by
  intro pins s σ w l1 l2 x y v u Q I m r1 r2 q1 q2 po
  cases l1 with
  | int i =>
    cases l2 with
    | int j => exact op_sub pins s σ w.H x y v u Q I q1 q2 ⟨i, j, rl_int r1, rl_int r2, po_int po m⟩
    | _ => exact po.elim
  | bl i =>
    cases l2 with
    | bl j =>
      have e1 := rl_bl r1
      have e2 := rl_bl r2
      subst e1 e2
      cases q1
      cases q2
      exact sub_bool ⟨.int _, w.H, I.tok _, ⟨_, rfl⟩, po_int po m⟩
    | _ => exact po.elim
  | obj c fs => exact own_run oa tk I m r1 r2 q1 q2 (by cases l2 <;> exact po)
  | _ => exact po.elim
theorem o_mul {own : List (Nat × Fn)} (oa : OwnAll X cad .Mult own) (tk : Takes X W) : Op2 X cad W (binaryOp .Mult) (mulV own) := by
  intro pins s σ w l1 l2 x y v u Q I m r1 r2 q1 q2 po
  cases l1 with
  | int i =>
    cases l2 with
    | int j =>
      dsimp only [mulV] at po
      by_cases hz : mulOk i j = true
      · rw [if_pos hz] at po
        unfold mulOk at hz
        rw [Bool.or_eq_true] at hz
        rcases hz with hz | hz
        · refine op_mul pins s σ w.H x y v u Q I q1 q2 ⟨i, j, rl_int r1, rl_int r2, ?_, po_int po m⟩
          simpa [CMul] using hz
        · exact op_mulW pins s σ w.H x y v u Q I q1 q2 ⟨i, j, rl_int r1, rl_int r2, (of_decide_eq_true hz : i.natAbs.log2 + j.natAbs.log2 < 1000000), po_int po m⟩
      · rw [if_neg hz] at po; exact po.elim
    | _ => exact po.elim
  | obj c fs => exact own_run oa tk I m r1 r2 q1 q2 (by cases l2 <;> exact po)
  | _ => exact po.elim
theorem log2_64 {n : Nat} (h : n < 2 ^ 64) : n.log2 < 9000 := by
  by_cases h0 : n = 0
  · subst h0; decide
  · have := (Nat.log2_lt h0).2 h
    omega
theorem op_fdivL {X : Cx} : OpR X (binaryOp .FloorDiv) (rI (fun _ j => j ≠ 0 ∧ j.natAbs.log2 < 9000) fun i j => .int (i.fdiv j)) :=
  opI fun _ _ _ _ _ _ _ hc q => floordiv_int hc.1 q (.inl (PyProof.noPylong_of_log2 hc.2))
theorem o_fdiv : Op2 X cad W (binaryOp .FloorDiv) fdivV := op2_of op_fdivL fun w l1 l2 x y Q E m r1 r2 po => by
  cases l1 with
  | int i =>
    cases l2 with
    | int j =>
      dsimp only [fdivV] at po
      by_cases hz : j ≠ 0 ∧ j.natAbs.log2 < 9000
      · rw [if_pos hz] at po; exact ⟨i, j, rl_int r1, rl_int r2, hz, po_int po m⟩
      · rw [if_neg hz] at po; exact po.elim
    | _ => exact po.elim
  | _ => exact po.elim
theorem o_mod : Op2 X cad W (binaryOp .Mod) modV := op2_of op_modN fun w l1 l2 x y Q E m r1 r2 po => by
  cases l1 with
  | int i =>
    cases l2 with
    | int j =>
      dsimp only [modV] at po
      by_cases hz : j ≠ 0
      · rw [if_pos hz] at po; exact ⟨i, j, rl_int r1, rl_int r2, hz, po_int po m⟩
      · rw [if_neg hz] at po; exact po.elim
    | _ => exact po.elim
  | _ => exact po.elim
theorem o_pow : Op2 X cad W (binaryOp .Pow) powV := op2_of op_pow fun w l1 l2 x y Q E m r1 r2 po => by
  cases l1 with
  | int i =>
    cases l2 with
    | int j =>
      dsimp only [powV] at po
      by_cases hz : 0 ≤ j ∧ j ≤ 1000000 ∧ i.natAbs < 2 ^ 64
      · rw [if_pos hz] at po; exact ⟨i, j, rl_int r1, rl_int r2, hz, po_int po m⟩
      · rw [if_neg hz] at po; exact po.elim
    | _ => exact po.elim
  | _ => exact po.elim
theorem o_neg : Op1 X cad W (unaryOp .USub) negV := op1_of un_neg fun w l x Q E m r po => by
  cases l with
  | int i => exact ⟨i, rl_int r, po_int po m⟩
  | _ => exact po.elim
theorem o_cmp {g : Value → Value → Sem Value} {f : Int → Int → Bool} (h : OpR X g (rI0 fun i j => .bl (f i j))) : Op2 X cad W g (cmpV f) := op2_of h fun w l1 l2 x y Q E m r1 r2 po => by
  cases l1 with
  | int i =>
    cases l2 with
    | int j => exact ⟨i, j, rl_int r1, rl_int r2, po_bl po m⟩
    | _ => exact po.elim
  | _ => exact po.elim
abbrev ltV := cmpV fun i j => decide (i < j)
abbrev leV := cmpV fun i j => decide (i ≤ j)
abbrev gtV := cmpV fun i j => decide (j < i)
abbrev geV := cmpV fun i j => decide (j ≤ i)
theorem o_lt : Op2 X cad W (compareOp .Lt) ltV := o_cmp op_lt
theorem o_le : Op2 X cad W (compareOp .LtE) leV := o_cmp op_le
theorem o_gt : Op2 X cad W (compareOp .Gt) gtV := o_cmp op_gt
theorem o_ge : Op2 X cad W (compareOp .GtE) geV := o_cmp op_ge
theorem isNon_eq {w : Wd} {l1 l2 : LV} {x y : V} {Q : VK} {E : XK} (m : Emb X.K cad w) (r1 : RL X.K cad w l1 x) (r2 : RL X.K cad w l2 y) (po : Po X.K cad (RL X.K cad) w Q E (isNon l1 l2 w.lh)) : y = .non ∧ Q (.bl (decide (x = .non))) w.H := by
  cases l2 with
  | non =>
    refine ⟨rl_non r2, ?_⟩
    cases l1 with
    | non => rw [rl_non r1]; exact po_bl po m
    | int i => rw [rl_int r1]; exact po_bl po m
    | bl i => rw [rl_bl r1]; exact po_bl po m
    | str i => rw [rl_str r1]; exact po_bl po m
    | tup xs => obtain ⟨a, vs, rfl, _⟩ := rl_tup r1; exact po_bl po m
    | fl xs => obtain ⟨a, vs, rfl, _⟩ := rl_fl r1; exact po_bl po m
    | sl xs => obtain ⟨a, vs, rfl, _⟩ := rl_sl r1; exact po_bl po m
    | obj c fs => obtain ⟨a, dx, vs, rfl, _⟩ := rl_obj r1; exact po_bl po m
    | ref n => obtain ⟨a, rfl, _⟩ := rl_ref r1; exact po_bl po m
    | con u => exact po.elim
  | _ => cases l1 <;> exact po.elim
theorem o_isN : Op2 X cad W (compareOp .Is) isNon := op2_of op_isN fun w l1 l2 x y Q E m r1 r2 po => isNon_eq m r1 r2 po
theorem o_notN : Op2 X cad W (compareOp .IsNot) notNon := op2_of op_notN fun w l1 l2 x y Q E m r1 r2 po => by
  refine isNon_eq (Q := fun v H => Q (match v with | .bl k => .bl (!k) | z => z) H) (E := E) m r1 r2 (po_bind po fun w' a u x' m' r' po' => ?_)
  cases a with
  | bl k =>
    rw [rl_bl r']
    exact po_bl po' m'
  | _ => exact po'.elim
end
end Lv
end
section
set_option Elab.async false
set_option linter.all false
set_option maxRecDepth 100000
set_option maxHeartbeats 2000000
namespace Lv
open PySem PySem.Spec PyProof.Rows L2

/-! ### statements -/
inductive SR where
  | nx (env : LE) (h : LH) | rt (v : LV) (h : LH) | bk (env : LE) (h : LH) | ct (env : LE) (h : LH)
  | exn (c : Nat) (fs : List (Str × LV)) (env : LE) (h : LH) | stuck
abbrev Sv := LE → LH → SR
def rS {α : Type} (r : Res α) (env : LE) (k : α → LH → SR) : SR := match r with
  | .ok a h => k a h
  | .exn c fs h => .exn c fs env h
  | .stuck => .stuck
@[simp] theorem rS_ok {α : Type} (a : α) (h : LH) (env : LE) (k : α → LH → SR) : rS (.ok a h) env k = k a h := rfl
@[simp] theorem rS_exn {α : Type} (c : Nat) (fs : List (Str × LV)) (h : LH) (env : LE) (k : α → LH → SR) : rS (.exn c fs h : Res α) env k = .exn c fs env h := rfl
@[simp] theorem rS_stuck {α : Type} (env : LE) (k : α → LH → SR) : rS (.stuck : Res α) env k = .stuck := rfl
section
variable (K : PySem.W.Frag) (cad : Cad)
def PoS (w : Wd) (D : Ends) (W : WX) : SR → Prop
  | .nx env lh => ∀ w', w'.lh = lh → Ext w w' → Emb K cad w' → ∀ σ, RLe K cad w' env σ → D.nx σ w'.H
  | .bk env lh => ∀ w', w'.lh = lh → Ext w w' → Emb K cad w' → ∀ σ, RLe K cad w' env σ → D.bk σ w'.H
  | .ct env lh => ∀ w', w'.lh = lh → Ext w w' → Emb K cad w' → ∀ σ, RLe K cad w' env σ → D.ct σ w'.H
  | .rt v lh => ∀ w', w'.lh = lh → Ext w w' → Emb K cad w' → ∀ u, RL K cad w' v u → D.rt u w'.H
  | .exn c fs env lh => ∀ w', w'.lh = lh → Ext w w' → Emb K cad w' → ∀ σ, RLe K cad w' env σ → ∀ d, XdOk K cad w' fs d → W (.ref (cad c)) d σ w'.H
  | .stuck => False
def tS (W : WX) (sv : Sv) : TS := fun D σ H => ∃ w env, w.H = H ∧ Emb K cad w ∧ RLe K cad w env σ ∧ PoS K cad w D W (sv env w.lh)
end
abbrev SS (X : Cx) (cad : Cad) (W : WX) (st : Stmt) (sv : Sv) : Prop := PS X st (tS X.K cad W sv)
abbrev SSs (X : Cx) (cad : Cad) (W : WX) (st : List Stmt) (sv : Sv) : Prop := PSs X st (tS X.K cad W sv)
section
variable {K : PySem.W.Frag} {cad : Cad} {w w' : Wd} {D : Ends} {W : WX} {α β : Type} {R : Wd → α → β → Prop} {Q : β → Hp → Prop}
theorem PoS.ext {r : SR} (x : Ext w w') (h : PoS K cad w D W r) : PoS K cad w' D W r := by
  cases r with
  | nx env lh => exact fun w'' e y m => h w'' e (x.trans y) m
  | bk env lh => exact fun w'' e y m => h w'' e (x.trans y) m
  | ct env lh => exact fun w'' e y m => h w'' e (x.trans y) m
  | rt env lh => exact fun w'' e y m => h w'' e (x.trans y) m
  | exn c fs env lh => exact fun w'' e y m => h w'' e (x.trans y) m
  | stuck => exact h
theorem poS_bind {r : Res α} {env : LE} {σ : L2.St} {k : α → LH → SR} (h : PoS K cad w D W (rS r env k)) (re : RLe K cad w env σ)
    (f : ∀ w' a u, Ext w w' → Emb K cad w' → R w' a u → PoS K cad w' D W (k a w'.lh) → Q u w'.H) : Po K cad R w Q (XS W σ) r := by
  cases r with
  | ok a lh =>
    intro w' e x m u ru
    subst e
    exact f w' a u x m ru (PoS.ext x h)
  | exn c fs lh => exact fun w' e x m d xd => h w' e x m σ (re.mono x) d xd
  | stuck => exact h
theorem poS_nx {env : LE} {σ : L2.St} (h : PoS K cad w D W (.nx env w.lh)) (m : Emb K cad w) (re : RLe K cad w env σ) : D.nx σ w.H := h w rfl (Ext.refl w) m σ re
theorem RLe.set {env : LE} {σ : L2.St} {i : Nat} {l : LV} {v : V} (re : RLe K cad w env σ) (r : RL K cad w l v) : RLe K cad w (env.set i (some l)) (σ.set i (some v)) := by
  refine ⟨by simp [re.1], fun j l' e => ?_⟩
  by_cases hj : j = i
  · subst hj
    by_cases hlt : j < env.length
    · rw [List.getElem?_set_self hlt] at e
      cases e
      exact ⟨v, List.getElem?_set_self (by rw [← re.1]; exact hlt), r⟩
    · rw [List.getElem?_eq_none (by simp; omega)] at e; cases e
  · rw [List.getElem?_set_ne (Ne.symm hj)] at e
    obtain ⟨u, e2, r2⟩ := re.2 j l' e
    exact ⟨u, by rw [List.getElem?_set_ne (Ne.symm hj)]; exact e2, r2⟩
/-- a slot forgotten -/
theorem RLe.drop {env : LE} {σ : L2.St} {i : Nat} {o : Option V} (re : RLe K cad w env σ) : RLe K cad w (env.set i none) (σ.set i o) := by
  refine ⟨by simp [re.1], fun j l' e => ?_⟩
  by_cases hj : j = i
  · subst hj
    by_cases hlt : j < env.length
    · rw [List.getElem?_set_self hlt] at e; cases e
    · rw [List.getElem?_eq_none (by simp; omega)] at e; cases e
  · rw [List.getElem?_set_ne (Ne.symm hj)] at e
    obtain ⟨u, e2, r2⟩ := re.2 j l' e
    exact ⟨u, by rw [List.getElem?_set_ne (Ne.symm hj)]; exact e2, r2⟩
end

def sNil : Sv := fun env lh => .nx env lh
def sSeq (s t : Sv) : Sv := fun env lh => match s env lh with
  | .nx env' lh' => t env' lh'
  | r => r
def sExpr (a : Ev) : Sv := fun env lh => rS (a env lh) env fun _ lh' => .nx env lh'
def sRet (a : Ev) : Sv := fun env lh => rS (a env lh) env fun v lh' => .rt v lh'
def sSet (i : Nat) (a : Ev) : Sv := fun env lh => rS (a env lh) env fun v lh' => .nx (env.set i (some v)) lh'
def sIf (t : EvT) (s u : Sv) : Sv := fun env lh => rS (t env lh) env fun k lh' => if k = true then s env lh' else u env lh'
def sBrk : Sv := fun env lh => .bk env lh
def sCnt : Sv := fun env lh => .ct env lh
/-- a, b = c, d -/
def sPar (i j : Nat) (a c : Ev) : Sv := fun env lh => rS (a env lh) env fun x lh1 => rS (c env lh1) env fun y lh2 => .nx ((env.set i (some x)).set j (some y)) lh2
section
variable {X : Cx} {cad : Cad} {W : WX} {pos : Pos} {e a c : Expr} {es : List Expr} {st : Stmt} {rest : List Stmt} {ea ec : Ev} {s u : Sv} {ta : EvT}
theorem ss_nil : SSs X cad W [] sNil := Lv.PSs.imp pss_nil fun D σ H ⟨w, env, eH, m, re, po⟩ => by subst eH; exact poS_nx po m re
theorem seq_of {D : Ends} {σ : L2.St} {H : Hp} (h : tS X.K cad W (sSeq s u) D σ H) : tS X.K cad W s { D with nx := tS X.K cad W u D } σ H := by
  obtain ⟨w, env, eH, m, re, po⟩ := h
  refine ⟨w, env, eH, m, re, ?_⟩
  unfold sSeq at po
  cases q : s env w.lh with
  | nx env' lh' =>
    rw [q] at po
    intro w' e x m' σ' re'
    subst e
    exact ⟨w', env', rfl, m', re', PoS.ext x po⟩
  | bk env' lh' => rw [q] at po; exact po
  | ct env' lh' => rw [q] at po; exact po
  | rt env' lh' => rw [q] at po; exact po
  | exn c fs env' lh' => rw [q] at po; exact po
  | stuck => rw [q] at po; exact po
theorem ss_cons (h1 : SS X cad W st s) (h2 : SSs X cad W rest u) : SSs X cad W (st :: rest) (sSeq s u) := Lv.PSs.imp (pss_cons h1 h2) fun D σ H h => seq_of h
theorem ss_one (h : SS X cad W st s) : SSs X cad W [st] s := pss_one h
theorem s_pass : SS X cad W (.Pass pos) sNil := Lv.PS.imp ps_pass fun D σ H ⟨w, env, eH, m, re, po⟩ => by subst eH; exact poS_nx po m re
theorem s_break : SS X cad W (.Break pos) sBrk := Lv.PS.imp ps_break fun D σ H ⟨w, env, eH, m, re, po⟩ => by subst eH; exact po w rfl (Ext.refl w) m σ re
theorem s_cont : SS X cad W (.Continue pos) sCnt := Lv.PS.imp ps_continue fun D σ H ⟨w, env, eH, m, re, po⟩ => by subst eH; exact po w rfl (Ext.refl w) m σ re
theorem s_expr (he : SE X cad W e ea) (hs : swapsWith e none pos.line X.env = pure false := by rfl) : SS X cad W (.Expr e pos) (sExpr ea) := by
  refine Lv.PS.imp (ps_expr he hs) fun D σ H ⟨w, env, eH, m, re, po⟩ => ?_
  exact ⟨w, env, eH, m, re, poS_bind po re fun w' l v x m' r po' => poS_nx po' m' (re.mono x)⟩
theorem s_ret (he : SE X cad W e ea) : SS X cad W (.Return (some e) pos) (sRet ea) := by
  refine Lv.PS.imp (ps_ret he) fun D σ H ⟨w, env, eH, m, re, po⟩ => ?_
  exact ⟨w, env, eH, m, re, poS_bind po re fun w' l v x m' r po' => po' w' rfl (Ext.refl w') m' v r⟩
theorem set_of {i : Nat} {D : Ends} {σ : L2.St} {H : Hp} (h : tS X.K cad W (sSet i ea) D σ H) : tAsg (tE X.K cad W ea) (gName i) D σ H := by
  obtain ⟨w, env, eH, m, re, po⟩ := h
  exact ⟨w, env, eH, m, re, poS_bind po re fun w' l v x m' r po' => poS_nx po' m' ((re.mono x).set r)⟩
theorem s_set {i : Nat} {x : Str} {pos' : Pos} (hN : X.N.Nodup) (hi : X.N[i]? = some x) (hx : Loc X.env.scope x) (he : SE X cad W e ea) (hs : swapsWith e (some (.Name x pos')) pos.line X.env = pure false := by rfl)
    (hf : X.fn x = true ∨ X.env.scope.names.lookup x = some .local := by first | exact .inl rfl | exact .inr rfl | assumption) : SS X cad W (.Assign [.Name x pos'] e pos) (sSet i ea) :=
  Lv.PS.imp (ps_set hN hi hx he hs hf) fun D σ H h => set_of h
theorem s_par {i j : Nat} {x y : Str} {px py pt : Pos} {kt k2 pt2} (hc : X.calm = true) (hN : X.N.Nodup) (hi : X.N[i]? = some x) (hj : X.N[j]? = some y) (hij : i ≠ j)
    (hx : X.env.scope.names.lookup x = some .local) (hy : X.env.scope.names.lookup y = some .local) (ha : SE X cad W a ea) (hcc : SE X cad W c ec)
    (hw : swappedStores [.Tuple [.Name x px, .Name y py] kt pt] (.Tuple [a, c] k2 pt2) X.env = pure (some [x, y]))
    (hs1 : starEach [a, c] X.env = (false, eval a X.env) :: starEach [c] X.env := by rfl) (hs2 : starEach [c] X.env = (false, eval c X.env) :: starEach [] X.env := by rfl)
    (hs : swapsWithSole [.Tuple [.Name x px, .Name y py] kt pt] (.Tuple [a, c] k2 pt2) pos.line X.env = pure false := by rfl) :
    SS X cad W (.Assign [.Tuple [.Name x px, .Name y py] kt pt] (.Tuple [a, c] k2 pt2) pos) (sPar i j ea ec) := by
  refine Lv.PS.imp (ps_par hc hN hi hj hij hx hy (sa_cons ha (sa_cons hcc sa_nil hs2) hs1) hw hs) fun D σ H ⟨w, env, eH, m, re, po⟩ => ?_
  refine ⟨w, env, eH, m, re, ?_⟩
  show Po X.K cad (RLs X.K cad) w _ _ (rb (ea env w.lh) fun x lh1 => rb (rb (ec env lh1) fun y lh2 => rb (Res.ok ([] : List LV) lh2) fun z lh3 => .ok (y :: z) lh3) fun xs lh2 => .ok (x :: xs) lh2)
  unfold sPar at po
  cases q : ea env w.lh with
  | stuck => rw [q] at po; exact po
  | exn c fs lh => rw [q] at po; exact fun w' e x m d xd => po w' e x m σ (re.mono x) d xd
  | ok l lh =>
    rw [q] at po
    simp only [rb_ok, rS_ok] at po ⊢
    cases q2 : ec env lh with
    | stuck => rw [q2] at po; exact po
    | exn c fs lh => rw [q2] at po; exact fun w' e x m d xd => po w' e x m σ (re.mono x) d xd
    | ok l2 lh2 =>
      rw [q2] at po
      simp only [rb_ok, rS_ok] at po ⊢
      intro w' e x m' us r
      simp only [RLs] at r
      obtain ⟨v1, us1, rfl, r1, v2, us2, rfl, r2, rfl⟩ := r
      exact ⟨v1, v2, rfl, po w' e x m' _ (((re.mono x).set r1).set r2)⟩
theorem s_if {t : Expr} {ss us : List Stmt} (ht : ST X cad W t ta) (h1 : SSs X cad W ss s) (h2 : SSs X cad W us u) : SS X cad W (.If t ss us pos) (sIf ta s u) := by
  refine Lv.PS.imp (ps_if ht h1 h2) fun D σ H ⟨w, env, eH, m, re, po⟩ => ?_
  refine ⟨w, env, eH, m, re, poS_bind po re fun w' k k' x m' r po' => ?_⟩
  subst r
  cases k with
  | true => exact iteT ⟨w', env, rfl, m', re.mono x, po'⟩
  | false => exact iteF ⟨w', env, rfl, m', re.mono x, po'⟩
end

/-! ### while -/
def wLoop (t : EvT) (s : Sv) : Nat → Sv
  | 0 => fun _ _ => .stuck
  | n + 1 => fun env lh => rS (t env lh) env fun k lh1 => if k = true then (match s env lh1 with
      | .nx env' lh' => wLoop t s n env' lh'
      | .ct env' lh' => wLoop t s n env' lh'
      | .bk env' lh' => .nx env' lh'
      | r => r) else .nx env lh1
/-- fuel: a bound of the turns, by the slots at the loop's start -/
def sWhile (fuel : LE → Nat) (t : EvT) (s : Sv) : Sv := fun env lh => wLoop t s (fuel env) env lh
section
variable {X : Cx} {cad : Cad} {W : WX} {pos : Pos} {c : Expr} {body : List Stmt} {s : Sv} {ta : EvT}
theorem s_while (fuel : LE → Nat) (hp : PassesOwn (model X.prog X.w) X.A X.env X.xe) (ht : ST X cad W c ta) (hb : SSs X cad W body s) : SS X cad W (.While c body [] pos) (sWhile fuel ta s) := by
  refine Lv.PS.imp (ps_while hp ht hb) fun D σ H ⟨w, env, eH, m, re, po⟩ => ?_
  refine ⟨fun n σ H => ∃ w env, w.H = H ∧ Emb X.K cad w ∧ RLe X.K cad w env σ ∧ PoS X.K cad w D W (wLoop ta s n env w.lh), ⟨fuel env, w, env, eH, m, re, po⟩, ?_⟩
  rintro n σ H ⟨w, env, eH, m, re, po⟩
  cases n with
  | zero => exact po.elim
  | succ n =>
    refine ⟨w, env, eH, m, re, poS_bind po re fun w' k k' x m' r po' => ?_⟩
    subst r
    cases k with
    | false => exact iteF (poS_nx po' m' (re.mono x))
    | true =>
      refine iteT ⟨fun σ H => ∃ w env, w.H = H ∧ Emb X.K cad w ∧ RLe X.K cad w env σ ∧ PoS X.K cad w D W (wLoop ta s n env w.lh), fun σ' H' h => ⟨n, Nat.lt_succ_self n, h⟩, ?_⟩
      refine ⟨w', env, rfl, m', re.mono x, ?_⟩
      rw [if_pos rfl] at po'
      cases q : s env w'.lh with
      | nx env' lh' => rw [q] at po'; exact fun w2 e y m2 σ2 re2 => ⟨w2, env', rfl, m2, re2, by subst e; exact PoS.ext y po'⟩
      | ct env' lh' => rw [q] at po'; exact fun w2 e y m2 σ2 re2 => ⟨w2, env', rfl, m2, re2, by subst e; exact PoS.ext y po'⟩
      | bk env' lh' => rw [q] at po'; exact po'
      | rt v lh' => rw [q] at po'; exact po'
      | exn c fs env' lh' => rw [q] at po'; exact po'
      | stuck => rw [q] at po'; exact po'
end

/-! ### targets -/
inductive Tg where
  | nm (i : Nat) | tp (is : List Nat)
def asgs : List Nat → List LV → LE → Option LE
  | [], [], env => some env
  | i :: is, x :: xs, env => asgs is xs (env.set i (some x))
  | _, _, _ => none
def asg : Tg → LV → LE → Option LE
  | .nm i, x, env => some (env.set i (some x))
  | .tp is, .tup xs, env => asgs is xs env
  | .tp _, _, _ => none
def gNms : List Nat → TGs
  | [] => gNil
  | i :: is => gCons (gName i) (gNms is)
def tG (K : PySem.W.Frag) : Tg → TG
  | .nm i => gName i
  | .tp is => gTup K is.length (gNms is)
def setsV : List Nat → List V → L2.St → L2.St
  | i :: is, x :: xs, σ => setsV is xs (σ.set i (some x))
  | _, _, σ => σ
theorem gNms_ok {is : List Nat} : ∀ {vs : List V} {σ : L2.St} {H : Hp} {Q : L2.St → Hp → Prop}, vs.length = is.length → Q (setsV is vs σ) H → gNms is vs σ H Q := by
  induction is with
  | nil => intro vs σ H Q h q; cases vs with
    | nil => exact ⟨rfl, q⟩
    | cons _ _ => cases h
  | cons i is ih => intro vs σ H Q h q; cases vs with
    | nil => cases h
    | cons v vs => exact ⟨v, vs, rfl, ih (by simpa using h) q⟩
def Tg.ix : Tg → List Nat
  | .nm i => [i]
  | .tp is => is
section
variable {K : PySem.W.Frag} {cad : Cad} {w : Wd}
theorem asgs_ok : ∀ {is : List Nat} {xs : List LV} {env env' : LE} {vs : List V} {σ : L2.St}, asgs is xs env = some env' → RLs K cad w xs vs → RLe K cad w env σ → vs.length = is.length ∧ RLe K cad w env' (setsV is vs σ)
  | [], [], env, env', vs, σ, h, r, re => by
    simp only [RLs] at r; subst r
    cases h; exact ⟨rfl, re⟩
  | [], _ :: _, _, _, _, _, h, _, _ => by cases h
  | i :: is, [], _, _, _, _, h, _, _ => by cases h
  | i :: is, x :: xs, env, env', vs, σ, h, r, re => by
    simp only [RLs] at r
    obtain ⟨v, us, rfl, r1, r2⟩ := r
    obtain ⟨h1, h2⟩ := asgs_ok (is := is) (xs := xs) h r2 (re.set r1)
    exact ⟨by simp [h1], h2⟩
/-- the store into a target: the slots behind it -/
theorem asg_ok {g : Tg} {l : LV} {v : V} {env env' : LE} {σ : L2.St} (h : asg g l env = some env') (r : RL K cad w l v) (re : RLe K cad w env σ) :
    ∃ σ', RLe K cad w env' σ' ∧ (∀ Q : L2.St → Hp → Prop, Q σ' w.H → tG K g v σ w.H Q) ∧ ∃ vs, σ' = setsV g.ix vs σ := by
  cases g with
  | nm i =>
    cases h
    exact ⟨σ.set i (some v), re.set r, fun Q q => q, [v], rfl⟩
  | tp is =>
    cases l with
    | tup xs =>
      obtain ⟨a, vs, rfl, p, rs⟩ := rl_tup r
      obtain ⟨h1, h2⟩ := asgs_ok h rs re
      exact ⟨_, h2, fun Q q => ⟨a, vs, rfl, p.sq, h1, gNms_ok h1 q⟩, vs, rfl⟩
    | _ => cases h
end
end Lv
end
section
set_option Elab.async false
set_option linter.all false
set_option maxRecDepth 100000
set_option maxHeartbeats 2000000
namespace Lv
open PySem PySem.Spec PyProof.Rows L2

/-! ### what is walked: items known ahead -/
section
variable (K : PySem.W.Frag) (cad : Cad)
def Src (w : Wd) (items : List LV) (J : It) : Prop := ∀ w', Ext w w' → Emb K cad w' → (∀ i : Nat, items.length ≤ i → J.stop i w'.H) ∧ ∀ (i : Nat) (l : LV), items[i]? = some l → J.go i w'.H ∧ ∀ x H', J.yld i w'.H x H' →
  ∃ w'' : Wd, w''.H = H' ∧ w''.lh = w'.lh ∧ Ext w' w'' ∧ Emb K cad w'' ∧ RL K cad w'' l x
def tI (W : WX) (ev : EvL) : TI := fun σ H R => ∃ w env, w.H = H ∧ Emb K cad w ∧ RLe K cad w env σ ∧ Po K cad (Src K cad) w R (XS W σ) (ev env w.lh)
end
abbrev SI (X : Cx) (cad : Cad) (W : WX) (tg iter : Expr) (ev : EvL) : Prop := PI X tg iter (tI X.K cad W ev)
theorem PI.imp {X : Cx} {tg e : Expr} {t t' : TI} (h : PI X tg e t) (q : ∀ σ H R, t' σ H R → t σ H R) : PI X tg e t' := ⟨fun pins s σ H R I z => h.run pins s σ H R I (q σ H R z)⟩
section
variable {K : PySem.W.Frag} {cad : Cad} {w w' : Wd}
theorem Src.ext {items : List LV} {J : It} (x : Ext w w') (h : Src K cad w items J) : Src K cad w' items J := fun w2 y m => h w2 (x.trans y) m
/-- two descriptions of one list agree -/
theorem vl_inj {a : Addr} {xs ys : List V} (h : VL w a xs) (h' : SqL K w.H a ys) (hk : K.lookup a = none) : xs = ys := by
  rcases h' with (h' | ⟨o, h'⟩) | ⟨o, _, _, q, _⟩
  · rw [h.1] at h'; cases h'; rfl
  · rw [h.1] at h'; cases h'
  · rw [hk] at q; cases q
end
/-- the items of a value that is walked -/
def itemsOf : LV → LH → Res (List LV)
  | .fl xs, lh => .ok xs lh
  | .sl xs, lh => .ok xs lh
  | .tup xs, lh => .ok xs lh
  | _, _ => .stuck
def eIt (a : Ev) : EvL := fun env lh => rb (a env lh) itemsOf
def rangeL (lo hi : Int) : List LV := (List.range (hi - lo).toNat).map fun i => .int (lo + (i : Nat))
def eRng1 (a : Ev) : EvL := fun env lh => rb (a env lh) fun x lh1 => match x with
  | .int j => if -(2 ^ 62) ≤ j ∧ j < 2 ^ 62 then .ok (rangeL 0 j) lh1 else .stuck
  | _ => .stuck
def eRng2 (a c : Ev) : EvL := fun env lh => rb (a env lh) fun x lh1 => rb (c env lh1) fun y lh2 => match x, y with
  | .int i, .int j => if (-(2 ^ 62) ≤ i ∧ i < 2 ^ 62) ∧ (-(2 ^ 62) ≤ j ∧ j < 2 ^ 62) then .ok (rangeL i j) lh2 else .stuck
  | _, _ => .stuck
def enumL : Nat → List LV → List LV
  | _, [] => []
  | i, x :: xs => .tup [.int (i : Nat), x] :: enumL (i + 1) xs
def zipL : List LV → List LV → List LV
  | x :: xs, y :: ys => .tup [x, y] :: zipL xs ys
  | _, _ => []
def eEnum (a : Ev) : EvL := fun env lh => rb (a env lh) fun x lh1 => rb (itemsOf x lh1) fun xs lh2 => .ok (enumL 0 xs) lh2
def eZip (a c : Ev) : EvL := fun env lh => rb (a env lh) fun x lh1 => rb (c env lh1) fun y lh2 => rb (itemsOf x lh2) fun xs lh3 => rb (itemsOf y lh3) fun ys lh4 => .ok (zipL xs ys) lh4
theorem enumL_get : ∀ (xs : List LV) (i k : Nat), (enumL k xs)[i]? = (xs[i]?).map fun x => LV.tup [.int ((k + i : Nat) : Int), x]
  | [], i, k => by simp [enumL]
  | x :: xs, 0, k => by simp [enumL]
  | x :: xs, i + 1, k => by
    simp only [enumL, List.getElem?_cons_succ]
    rw [enumL_get xs i (k + 1)]
    have : k + 1 + i = k + (i + 1) := by omega
    rw [this]
theorem enumL_length : ∀ (xs : List LV) (k : Nat), (enumL k xs).length = xs.length
  | [], k => rfl
  | x :: xs, k => by simp [enumL, enumL_length xs (k + 1)]
theorem zipL_get : ∀ (xs ys : List LV) (i : Nat) (l : LV), (zipL xs ys)[i]? = some l → ∃ x y, xs[i]? = some x ∧ ys[i]? = some y ∧ l = .tup [x, y]
  | [], _, i, l, h => by simp [zipL] at h
  | _ :: _, [], i, l, h => by simp [zipL] at h
  | x :: xs, y :: ys, 0, l, h => by simp [zipL] at h; exact ⟨x, y, rfl, rfl, h.symm⟩
  | x :: xs, y :: ys, i + 1, l, h => by
    simp only [zipL, List.getElem?_cons_succ] at h
    obtain ⟨a, b, h1, h2, h3⟩ := zipL_get xs ys i l h
    exact ⟨a, b, by simpa using h1, by simpa using h2, h3⟩
theorem zipL_length : ∀ (xs ys : List LV), (zipL xs ys).length = min xs.length ys.length
  | [], _ => by simp [zipL]
  | _ :: _, [] => by simp [zipL]
  | x :: xs, y :: ys => by simp only [zipL, List.length_cons, zipL_length xs ys]; omega
theorem rangeL_get {lo hi : Int} {i : Nat} {l : LV} (h : (rangeL lo hi)[i]? = some l) : i < (hi - lo).toNat ∧ l = .int (lo + (i : Nat)) := by
  unfold rangeL at h
  rw [List.getElem?_map] at h
  cases q : (List.range (hi - lo).toNat)[i]? with
  | none => rw [q] at h; cases h
  | some j =>
    rw [q] at h
    obtain ⟨hl, e⟩ := List.getElem?_eq_some_iff.mp q
    simp at hl e
    subst e
    exact ⟨by omega, by simpa using h.symm⟩
theorem rangeL_length (lo hi : Int) : (rangeL lo hi).length = (hi - lo).toNat := by simp [rangeL]
/-- a sequence as a value, at an address -/
def SqAt (K : PySem.W.Frag) (w : Wd) (a : Addr) (vs : List V) : Prop := VL w a vs ∨ VS K w a vs
section
variable {K : PySem.W.Frag} {cad : Cad} {w w' : Wd}
theorem SqAt.mono {a : Addr} {vs : List V} (x : Ext w w') (h : SqAt K w a vs) : SqAt K w' a vs := by
  rcases h with h | h
  · exact .inl (h.mono x)
  · exact .inr (h.mono x)
theorem SqAt.sq {a : Addr} {vs : List V} (h : SqAt K w a vs) : SqL K w.H a vs := by
  rcases h with h | h
  · exact h.sq
  · exact h.sq
/-- a walked value -/
theorem itemsOf_ok {l : LV} {xs : List LV} {lh : LH} {v : V} {lh' : LH} (h : itemsOf l lh = .ok xs lh') (r : RL K cad w l v) : lh' = lh ∧ ∃ a vs, v = .ref a ∧ RLs K cad w xs vs ∧ ((SqAt K w a vs ∧ ∀ ys, l ≠ .tup ys) ∨ (VT K w a vs ∧ l = .tup xs)) := by
  cases l with
  | fl ys => cases h; obtain ⟨a, vs, rfl, p, s⟩ := rl_fl r; exact ⟨rfl, a, vs, rfl, s, .inl ⟨.inl p, fun _ h => nomatch h⟩⟩
  | sl ys => cases h; obtain ⟨a, vs, rfl, p, s⟩ := rl_sl r; exact ⟨rfl, a, vs, rfl, s, .inl ⟨.inr p, fun _ h => nomatch h⟩⟩
  | tup ys => cases h; obtain ⟨a, vs, rfl, p, s⟩ := rl_tup r; exact ⟨rfl, a, vs, rfl, s, .inr ⟨p, rfl⟩⟩
  | _ => cases h
end
section
variable {X : Cx} {cad : Cad} {W : WX} {pos : Pos} {tg e e2 a c : Expr} {ea ec : Ev}
/-- a list, a tuple, walked as it stands -/
theorem pi_seq {tl : TE} (hl : PE X e tl) : PI X tg e (fun σ H R => tl σ H fun x H1 => ∃ a, x = .ref a ∧ (((∃ xs, SqL X.K H1 a xs) ∧ R (Itl X.K a) H1) ∨ ((∃ xs, SqT X.K H1 a xs) ∧ R (Itt X.K a) H1))) := by
  refine ⟨fun pins s σ H R I h => ?_⟩
  refine thn (hl.run pins s σ H _ I h) fun v s1 ⟨x, H1, I1, r1, q1⟩ => ?_
  obtain ⟨a, ex, q1⟩ := q1
  subst ex
  cases r1
  have fresh : ∀ b ∈ [s1.heap.objs.size], FpOk X pins H1 b := fun b hb => by
    have eb : b = s1.heap.objs.size := by simpa using hb
    rw [eb]
    exact I1.fpOk (Nat.le_refl _) (I1.hok.fresh (Nat.le_refl _))
  rcases q1 with ⟨⟨xs, hq⟩, q⟩ | ⟨⟨xs, hq⟩, q⟩
  · obtain ⟨its, rv, pl, _⟩ := I1.list hq
    exact wpAny_pyIter_list pl.isList ⟨_, _, _, _, H1, rfl, I1.kept (t' := s1.toks) fun b o z => Heap.get?_push_of_some _ z, turn_list a _, ⟨_, Heap.get?_push_size _ rfl, rfl, rfl⟩, fresh, q⟩
  · obtain ⟨its, rv, pl, _⟩ := I1.tuple hq
    exact wpAny_pyIter_tuple (show s1.heap.IsTuple a its.toArray from pl) ⟨_, _, _, _, H1, rfl, I1.kept (t' := s1.toks) fun b o z => Heap.get?_push_of_some _ z, turn_tuple a _, ⟨_, Heap.get?_push_size _ rfl, rfl, rfl⟩, fresh, q⟩
theorem src_list {K : PySem.W.Frag} {w : Wd} {xs : List LV} {vs : List V} {ad : Addr} (p : SqAt K w ad vs) (r : RLs K cad w xs vs) : Src K cad w xs (Itl K ad) := fun w' x m => by
  have p' := (p.mono x).sq
  have r' := RLs.mono x _ _ r
  refine ⟨fun i hi => ⟨vs, p', by rw [← r.length]; exact hi⟩, fun i l hl => ?_⟩
  obtain ⟨v, hv, rv⟩ := r'.get hl
  refine ⟨⟨vs, v, p', hv⟩, fun y H' hy => ?_⟩
  obtain ⟨rfl, hy⟩ := hy
  have e := hy vs p'
  rw [hv] at e
  cases e
  exact ⟨w', rfl, rfl, Ext.refl w', m, rv⟩
theorem src_tup {K : PySem.W.Frag} {w : Wd} {xs : List LV} {vs : List V} {ad : Addr} (p : VT K w ad vs) (r : RLs K cad w xs vs) : Src K cad w xs (Itt K ad) := fun w' x m => by
  have p' := (p.mono x).sq
  have r' := RLs.mono x _ _ r
  refine ⟨fun i hi => ⟨vs, p', by rw [← r.length]; exact hi⟩, fun i l hl => ?_⟩
  obtain ⟨v, hv, rv⟩ := r'.get hl
  refine ⟨⟨vs, v, p', hv⟩, fun y H' hy => ?_⟩
  obtain ⟨rfl, hy⟩ := hy
  have e := hy vs p'
  rw [hv] at e
  cases e
  exact ⟨w', rfl, rfl, Ext.refl w', m, rv⟩
theorem src_rng {K : PySem.W.Frag} {w : Wd} {lo hi : Int} : Src K cad w (rangeL lo hi) (Itr lo (hi - lo).toNat) := fun w' x m => by
  refine ⟨fun i h => by rw [rangeL_length] at h; exact h, fun i l hl => ?_⟩
  obtain ⟨h1, rfl⟩ := rangeL_get hl
  refine ⟨h1, fun y H' hy => ?_⟩
  obtain ⟨rfl, rfl⟩ := hy
  exact ⟨w', rfl, rfl, Ext.refl w', m, mk_int _⟩
theorem si_seq (ha : SE X cad W a ea) : SI X cad W tg a (eIt ea) := by
  refine Lv.PI.imp (pi_seq ha) fun σ H R ⟨w, env, eH, m, re, po⟩ => ?_
  refine ⟨w, env, eH, m, re, po_bind po fun w1 l v x1 m1 r1 po1 => ?_⟩
  cases q : itemsOf l w1.lh with
  | stuck => rw [q] at po1; exact po1.elim
  | exn c fs lh => cases l <;> cases q
  | ok xs lh =>
    rw [q] at po1
    obtain ⟨e, ad, vs, rfl, r, p⟩ := itemsOf_ok q r1
    subst e
    refine ⟨ad, rfl, ?_⟩
    rcases p with ⟨p, _⟩ | ⟨p, _⟩
    · exact .inl ⟨⟨vs, p.sq⟩, po_here po1 m1 (src_list p r)⟩
    · exact .inr ⟨⟨vs, p.sq⟩, po_here po1 m1 (src_tup p r)⟩
theorem si_rng1 {p : Pos} (hg : Gl X "range") (hm : X.mg "range" = none) (ha : SE X cad W a ea) (hs : starEach [a] X.env = [(false, eval a X.env)] := by rfl) : SI X cad W tg (.Call (.Name "range" p) [a] [] pos) (eRng1 ea) := by
  refine Lv.PI.imp (pi_range1 hg hm (pa_cons ha pa_nil hs) hs) fun σ H R ⟨w, env, eH, m, re, po⟩ => ?_
  refine ⟨w, env, eH, m, re, po_bind po fun w1 l v x1 m1 r1 po1 => ?_⟩
  cases l with
  | int j =>
    dsimp only at po1
    by_cases hj : -(2 ^ 62) ≤ j ∧ j < 2 ^ 62
    · rw [if_pos hj] at po1
      have q := po_here po1 m1 (src_rng (lo := 0) (hi := j))
      rw [show j - 0 = j by omega] at q
      exact ⟨j, by rw [rl_int r1], hj.1, hj.2, q⟩
    · rw [if_neg hj] at po1; exact po1.elim
  | _ => exact po1.elim
theorem si_rng2 {p : Pos} (hg : Gl X "range") (hm : X.mg "range" = none) (ha : SE X cad W a ea) (hc : SE X cad W c ec) (hs : starEach [a, c] X.env = [(false, eval a X.env), (false, eval c X.env)] := by rfl) (hs2 : starEach [c] X.env = [(false, eval c X.env)] := by rfl) :
    SI X cad W tg (.Call (.Name "range" p) [a, c] [] pos) (eRng2 ea ec) := by
  refine Lv.PI.imp (pi_range2 hg hm (pa_cons ha (pa_cons hc pa_nil hs2) (by rw [hs, hs2])) hs hs2) fun σ H R ⟨w, env, eH, m, re, po⟩ => ?_
  refine ⟨w, env, eH, m, re, po_bind po fun w1 l v x1 m1 r1 po1 => ?_⟩
  refine ⟨w1, env, rfl, m1, re.mono x1, po_bind po1 fun w2 l2 v2 x2 m2 r2 po2 => ?_⟩
  cases l with
  | int i =>
    cases l2 with
    | int j =>
      dsimp only at po2
      by_cases hj : (-(2 ^ 62) ≤ i ∧ i < 2 ^ 62) ∧ (-(2 ^ 62) ≤ j ∧ j < 2 ^ 62)
      · rw [if_pos hj] at po2
        exact ⟨i, j, by rw [rl_int r1, rl_int r2], ⟨hj.1.1, hj.1.2, hj.2.1, hj.2.2⟩, po_here po2 m2 src_rng⟩
      · rw [if_neg hj] at po2; exact po2.elim
    | _ => exact po2.elim
  | _ => exact po2.elim
end

/-! ### for -/
def fLoop (g : Tg) (s : Sv) : List LV → Sv
  | [] => fun env lh => .nx env lh
  | x :: xs => fun env lh => match asg g x env with
    | none => .stuck
    | some env1 => (match s env1 lh with
      | .nx env' lh' => fLoop g s xs env' lh'
      | .ct env' lh' => fLoop g s xs env' lh'
      | .bk env' lh' => .nx env' lh'
      | r => r)
def sFor (it : EvL) (g : Tg) (s : Sv) : Sv := fun env lh => rS (it env lh) env fun xs lh1 => fLoop g s xs env lh1
section
variable {X : Cx} {cad : Cad} {W : WX} {pos : Pos} {tg iter : Expr} {body : List Stmt} {ei : EvL} {s : Sv} {g : Tg}
theorem s_for (hp : PassesOwn (model X.prog X.w) X.A X.env X.xe) (hc : X.calm = true) (hi : SI X cad W tg iter ei) (hg : PG X tg (tG X.K g)) (hb : SSs X cad W body s)
    (hs : ∀ x, foldedSetIterable iter X.env x = pure x := by intro _; rfl) : SS X cad W (.For tg iter body [] pos) (sFor ei g s) := by
  refine Lv.PS.imp (ps_for hp hc hi hg hb hs) fun D σ H ⟨w, env, eH, m, re, po⟩ => ?_
  refine ⟨w, env, eH, m, re, poS_bind po re fun w1 items J x1 m1 src po1 => ?_⟩
  refine ⟨fun i n σ H => ∃ w env, w.H = H ∧ Ext w1 w ∧ Emb X.K cad w ∧ RLe X.K cad w env σ ∧ n = items.length - i ∧ PoS X.K cad w D W (fLoop g s (items.drop i) env w.lh),
    ⟨items.length, w1, env, rfl, Ext.refl w1, m1, re.mono x1, rfl, po1⟩, ?_⟩
  rintro i n σ H ⟨w, env, eH, x, m, re, en, po⟩
  subst eH
  obtain ⟨h1, h2⟩ := src w x m
  by_cases hi : items.length ≤ i
  · rw [List.drop_eq_nil_of_le hi] at po
    exact .inl ⟨h1 i hi, poS_nx po m re⟩
  · have hlt : i < items.length := by omega
    obtain ⟨go, yl⟩ := h2 i items[i] (List.getElem?_eq_getElem hlt)
    rw [List.drop_eq_getElem_cons hlt] at po
    refine .inr ⟨go, fun σ' H' => ∃ w env, w.H = H' ∧ Ext w1 w ∧ Emb X.K cad w ∧ RLe X.K cad w env σ' ∧ PoS X.K cad w D W (fLoop g s (items.drop (i + 1)) env w.lh), fun σ' H' ⟨w', env', e', x', m', re', po'⟩ =>
      ⟨items.length - (i + 1), by omega, w', env', e', x', m', re', rfl, po'⟩, fun v H' hy => ?_⟩
    obtain ⟨w2, e2, el, x2, m2, r2⟩ := yl v H' hy
    subst e2
    have po2 := PoS.ext x2 po
    unfold fLoop at po2
    cases qa : asg g items[i] env with
    | none => rw [qa] at po2; exact po2.elim
    | some env1 =>
      rw [qa] at po2
      obtain ⟨σ', re', hQ, _⟩ := asg_ok qa r2 (re.mono x2)
      refine hQ _ ⟨w2, env1, rfl, m2, re', ?_⟩
      rw [el]
      dsimp only at po2
      cases q : s env1 w.lh with
      | nx env' lh' => rw [q] at po2; exact fun w3 e y m3 σ3 re3 => ⟨w3, env', rfl, (x.trans x2).trans y, m3, re3, by subst e; exact PoS.ext y po2⟩
      | ct env' lh' => rw [q] at po2; exact fun w3 e y m3 σ3 re3 => ⟨w3, env', rfl, (x.trans x2).trans y, m3, re3, by subst e; exact PoS.ext y po2⟩
      | bk env' lh' => rw [q] at po2; exact po2
      | rt v lh' => rw [q] at po2; exact po2
      | exn c fs env' lh' => rw [q] at po2; exact po2
      | stuck => rw [q] at po2; exact po2
end

/-! ### list comprehensions of one clause -/
def lwipe (env : LE) : List Nat → LE
  | [] => env
  | v :: vs => (lwipe env vs).set v none
/-- an item is put behind the list at n -/
def pushAt (n : Nat) (y : LV) (lh : LH) : Res Unit := match lh[n]? with
  | some (.lst acc) => if acc.length ≤ LIM ∧ noRef y = true then .ok () (lh.set n (.lst (acc ++ [y]))) else .stuck
  | _ => .stuck
/-- the turns; the list is made at n -/
def cLoop (g : Tg) (t : EvT) (el : Ev) (env : LE) (n : Nat) : List LV → LH → Res Unit
  | [], lh => .ok () lh
  | x :: xs, lh => match asg g x env with
    | none => .stuck
    | some env1 => rb (t env1 lh) fun k lh1 => if k = true then rb (el env1 lh1) fun y lh2 => rb (pushAt n y lh2) fun _ lh3 => cLoop g t el env n xs lh3 else cLoop g t el env n xs lh1
/-- no exception leaves a comprehension -/
def calmR {α : Type} : Res α → Res α
  | .exn _ _ _ => .stuck
  | r => r
/-- mt: whether the made list is written later on -/
def lcFin (mt : Bool) (n : Nat) (lh : LH) : Res LV := match lh[n]? with
  | some (.lst acc) => if mt = true then .ok (.ref n) (lh.take (n + 1)) else .ok (.fl acc) (lh.take n)
  | _ => .stuck
def eLc (mt : Bool) (it : EvL) (g : Tg) (t : EvT) (el : Ev) (vs : List Nat) : Ev := fun env lh => rb (it env lh) fun xs lh1 =>
  rb (calmR (cLoop g t el (lwipe env vs) lh1.length xs (lh1 ++ [.lst []]))) fun _ lh2 => lcFin mt lh1.length lh2
def tYes' : EvT := fun _ lh => .ok true lh
abbrev W0 : WX := fun _ _ _ _ => False
section
variable {K : PySem.W.Frag} {cad : Cad} {w : Wd}
theorem RLe.wipe {env : LE} {σ : L2.St} (re : RLe K cad w env σ) : ∀ vs : List Nat, RLe K cad w (lwipe env vs) (L2.wipe σ vs)
  | [] => re
  | v :: vs => RLe.drop (RLe.wipe re vs)
theorem wipe_set {σ : L2.St} {x : Option V} : ∀ {vs : List Nat} {i : Nat}, i ∈ vs → L2.wipe (σ.set i x) vs = L2.wipe σ vs
  | [], i, h => nomatch h
  | v :: vs, i, h => by
    show (L2.wipe (σ.set i x) vs).set v none = (L2.wipe σ vs).set v none
    by_cases hi : i ∈ vs
    · rw [wipe_set hi]
    · have e : i = v := by simpa [hi] using h
      subst e
      have : ∀ (us : List Nat), i ∉ us → (L2.wipe (σ.set i x) us).set i none = (L2.wipe σ us).set i none := by
        intro us
        induction us with
        | nil => intro _; show (σ.set i x).set i none = σ.set i none; rw [List.set_set]
        | cons u us ih =>
          intro hu
          have hne : i ≠ u := fun e => hu (by simp [e])
          have hus : i ∉ us := fun e => hu (List.mem_cons_of_mem _ e)
          show ((L2.wipe (σ.set i x) us).set u none).set i none = ((L2.wipe σ us).set u none).set i none
          rw [List.set_comm _ _ (Ne.symm hne), ih hus, List.set_comm _ _ hne]
      exact this vs hi
theorem wipe_wipe {σ : L2.St} : ∀ {vs : List Nat}, L2.wipe (L2.wipe σ vs) vs = L2.wipe σ vs := by
  have : ∀ (us vs : List Nat), (∀ u ∈ us, u ∈ vs) → L2.wipe (L2.wipe σ us) vs = L2.wipe σ vs := by
    intro us
    induction us with
    | nil => intro vs _; rfl
    | cons u us ih =>
      intro vs h
      show L2.wipe ((L2.wipe σ us).set u none) vs = _
      rw [wipe_set (h u (List.mem_cons_self ..)), ih vs fun z hz => h z (List.mem_cons_of_mem _ hz)]
  intro vs
  exact this vs vs fun _ h => h
theorem wipe_sets {vs : List Nat} : ∀ {is : List Nat} {us : List V} {σ : L2.St}, (∀ i ∈ is, i ∈ vs) → L2.wipe (setsV is us σ) vs = L2.wipe σ vs
  | [], us, σ, _ => by cases us <;> rfl
  | i :: is, [], σ, _ => rfl
  | i :: is, u :: us, σ, h => by
    show L2.wipe (setsV is us (σ.set i (some u))) vs = _
    rw [wipe_sets fun j hj => h j (List.mem_cons_of_mem _ hj), wipe_set (h i (List.mem_cons_self ..))]
end
theorem noRefs_append : ∀ {xs ys : List LV}, noRefs xs = true → noRefs ys = true → noRefs (xs ++ ys) = true
  | [], _, _, h => h
  | x :: xs, ys, h, g => by
    simp only [noRefs, Bool.and_eq_true] at h
    show (noRef x && noRefs (xs ++ ys)) = true
    rw [h.1, noRefs_append h.2 g]; rfl
theorem noRefs_snoc {xs : List LV} {y : LV} (h : noRefs xs = true) (g : noRef y = true) : noRefs (xs ++ [y]) = true :=
  noRefs_append h (by show (noRef y && true) = true; rw [g]; rfl)
theorem po_calm {K : PySem.W.Frag} {cad : Cad} {w : Wd} {α β : Type} {R : Wd → α → β → Prop} {Q : β → Hp → Prop} {E : XK} {r : Res α} (h : ∃ a lh, calmR r = .ok a lh) : ∃ a lh, r = .ok a lh := by
  cases r with
  | ok a lh => exact ⟨a, lh, rfl⟩
  | _ => obtain ⟨a, lh, h⟩ := h; cases h
section
variable {X : Cx} {cad : Cad} {W : WX} {pos : Pos} {tg iter elt : Expr} {ifs : List Expr} {scope : Scope} {own : List (Str × Nat)} {ei : EvL} {g : Tg} {t : EvT} {el : Ev} {mt : Bool}
/-- the tests of one clause, in any block -/
abbrev STs (X : Cx) (cad : Cad) (W : WX) (ifs : List Expr) (t : EvT) : Prop := PTs X ifs (tT X.K cad W t)
theorem sts_nil : STs X cad W [] tYes' := ⟨fun pins s σ H Q I ⟨w, env, eH, m, re, po⟩ => pts_nil.run pins s σ H Q I (by subst eH; exact po_here (u := true) po m rfl)⟩
theorem sts_one {c : Expr} (h : ST X cad W c t) : STs X cad W [c] t := pts_one h
/-- the block of a comprehension -/
abbrev Blk (X : Cx) (s : Shared) (H : Hp) (scope : Scope) (C : Addr) (cl : List (Str × Addr)) (fp : List Addr) : Cx := X.blk s H scope (compEnvC scope cl C X.env) fp
theorem po_cb {K : PySem.W.Frag} {cad : Cad} {w1 w2 : Wd} {α β γ δ ε : Type} {R : Wd → α → β → Prop} {R2 : Wd → δ → ε → Prop} {Q' : β → Hp → Prop} {Q : ε → Hp → Prop} {E E' : XK} {r : Res α} {k : α → LH → Res γ} {fin : γ → LH → Res δ}
    (h : Po K cad R2 w1 Q E (rb (calmR (rb r k)) fin)) (f : ∀ (w' : Wd) (a : α) (u : β), Ext w2 w' → Emb K cad w' → R w' a u → Po K cad R2 w1 Q E (rb (calmR (k a w'.lh)) fin) → Q' u w'.H) : Po K cad R w2 Q' E' r := by
  cases r with
  | ok a lh => intro w' e x m u ru; subst e; exact f w' a u x m ru h
  | exn c fs lh => exact h.elim
  | stuck => exact h.elim
theorem lc_of {σ : L2.St} {H : Hp} {Q : VK} {vs : List Nat} (hix : ∀ i ∈ g.ix, i ∈ vs) (h : tE X.K cad W (eLc mt ei g t el vs) σ H Q) :
    tLc (tI X.K cad W ei) (tG X.K g) (tT X.K cad W0 t) (tE X.K cad W0 el) vs σ H Q := by
  obtain ⟨w, env, eH, m, re, po⟩ := h
  refine ⟨w, env, eH, m, re, po_bind po fun w1 items J x1 m1 src po1 => fun D hD => ?_⟩
  have x0 : Ext w1 ⟨w1.φ ++ [D], w1.lh ++ [.lst []], upd w1.H D (.lst [])⟩ := Ext.cell m1 (.lst []) hD
  have m0 : Emb X.K cad ⟨w1.φ ++ [D], w1.lh ++ [.lst []], upd w1.H D (.lst [])⟩ := m1.cell' (.lst []) hD rfl ⟨[], upd_same, RLs.nil⟩
  have hφ0 : (⟨w1.φ ++ [D], w1.lh ++ [.lst []], upd w1.H D (.lst [])⟩ : Wd).φ[w1.lh.length]? = some D := by
    show (w1.φ ++ [D])[w1.lh.length]? = some D
    rw [← m1.len]; simp
  generalize hw0 : (⟨w1.φ ++ [D], w1.lh ++ [.lst []], upd w1.H D (.lst [])⟩ : Wd) = w0 at x0 m0 hφ0
  have hH0 : w0.H = upd w1.H D (.lst []) := by rw [← hw0]
  have hlh0 : w0.lh = w1.lh ++ [.lst []] := by rw [← hw0]
  refine ⟨fun i k H => ∃ w, w.H = H ∧ Ext w0 w ∧ Emb X.K cad w ∧ k = items.length - i ∧ Po X.K cad (RL X.K cad) w1 Q (XS W σ) (rb (calmR (cLoop g t el (lwipe env vs) w1.lh.length (items.drop i) w.lh)) fun _ lh2 => lcFin mt w1.lh.length lh2),
    ⟨items.length, w0, hH0, Ext.refl w0, m0, rfl, by rw [hlh0]; exact po1⟩, ?_⟩
  rintro i k H ⟨w2, eH2, x2, m2, ek, po2⟩
  subst eH2
  have hφ : w2.φ[w1.lh.length]? = some D := x2.pre _ _ hφ0
  obtain ⟨h1, h2⟩ := src w2 (x0.trans x2) m2
  by_cases hi : items.length ≤ i
  · refine .inl ⟨h1 i hi, ?_⟩
    rw [List.drop_eq_nil_of_le hi] at po2
    have po3 : Po X.K cad (RL X.K cad) w1 Q (XS W σ) (lcFin mt w1.lh.length w2.lh) := po2
    unfold lcFin at po3
    cases hl : w2.lh[w1.lh.length]? with
    | none => rw [hl] at po3; exact po3.elim
    | some lo =>
      rw [hl] at po3
      cases lo with
      | lst acc =>
        obtain ⟨us, e, r⟩ := m2.cell _ _ _ hφ hl
        have nr : noRefs acc = true := m2.nr _ _ hl
        dsimp only at po3
        cases mt with
        | true =>
          rw [if_pos rfl] at po3
          refine po3 (w2.cut (w1.lh.length + 1)) rfl ((x0.trans x2).cut m1 (Nat.le_succ _)) (m2.cut _) _ (mk_ref ?_)
          show (w2.φ.take (w1.lh.length + 1))[w1.lh.length]? = some D
          rw [List.getElem?_take, if_pos (Nat.lt_succ_self _)]; exact hφ
        | false =>
          rw [if_neg Bool.false_ne_true] at po3
          exact po3 (w2.cut w1.lh.length) rfl ((x0.trans x2).cut m1 (Nat.le_refl _)) (m2.cut _) _ (mk_fl ⟨e, cut_dead m2 hφ hl (fun q => nomatch q)⟩ (RLs.cut _ _ nr r))
      | _ => exact po3.elim
  · have hlt : i < items.length := by omega
    obtain ⟨go, yl⟩ := h2 i items[i] (List.getElem?_eq_getElem hlt)
    rw [List.drop_eq_getElem_cons hlt] at po2
    refine .inr ⟨go, fun H' => ∃ w', w'.H = H' ∧ Ext w0 w' ∧ Emb X.K cad w' ∧ Po X.K cad (RL X.K cad) w1 Q (XS W σ) (rb (calmR (cLoop g t el (lwipe env vs) w1.lh.length (items.drop (i + 1)) w'.lh)) fun _ lh2 => lcFin mt w1.lh.length lh2),
      fun H' ⟨w', e', x', m', po'⟩ => ⟨items.length - (i + 1), by omega, w', e', x', m', rfl, po'⟩, fun v H' hy => ?_⟩
    obtain ⟨w3, e3, el3, x3, m3, r3⟩ := yl v H' hy
    subst e3
    unfold cLoop at po2
    have re3 : RLe X.K cad w3 (lwipe env vs) (L2.wipe σ vs) := ((((re.mono x1).mono x0).mono x2).mono x3).wipe vs
    cases qa : asg g items[i] (lwipe env vs) with
    | none => rw [qa] at po2; exact po2.elim
    | some env1 =>
      rw [qa] at po2
      obtain ⟨σ', re', hQ, us, hs⟩ := asg_ok qa r3 re3
      refine hQ _ ⟨by rw [hs, wipe_sets hix, wipe_wipe], w3, env1, rfl, m3, re', ?_⟩
      rw [el3]
      refine po_cb po2 fun w4 k' k2 x4 m4 r4 po4 => ?_
      subst r4
      cases k' with
      | false =>
        rw [if_neg Bool.false_ne_true] at po4
        exact iteF ⟨w4, rfl, (x2.trans x3).trans x4, m4, po4⟩
      | true =>
        rw [if_pos rfl] at po4
        refine iteT ⟨w4, env1, rfl, m4, re'.mono x4, po_cb po4 fun w5 yl' y' x5 m5 r5 po5 => ?_⟩
        have x05 : Ext w0 w5 := ((x2.trans x3).trans x4).trans x5
        have hφ5 : w5.φ[w1.lh.length]? = some D := x05.pre _ _ hφ0
        unfold pushAt at po5
        cases hl : w5.lh[w1.lh.length]? with
        | none => rw [hl] at po5; exact po5.elim
        | some lo =>
          rw [hl] at po5
          cases lo with
          | lst acc =>
            dsimp only at po5
            by_cases hz : acc.length ≤ LIM ∧ noRef yl' = true
            · rw [if_pos hz] at po5
              obtain ⟨as, ea, ra⟩ := m5.cell _ _ _ hφ5 hl
              have xs5 : Ext w5 ⟨w5.φ, w5.lh.set w1.lh.length (.lst (acc ++ [yl'])), upd w5.H D (.lst (as ++ [y']))⟩ := Ext.set hφ5 hl rfl
              refine ⟨as, ea, by rw [← ra.length]; exact lim_lt hz.1, ⟨w5.φ, w5.lh.set w1.lh.length (.lst (acc ++ [yl'])), upd w5.H D (.lst (as ++ [y']))⟩, rfl, x05.trans xs5, ?_, po5⟩
              refine m5.set hφ5 hl rfl (fun q => nomatch q) ?_ ⟨_, upd_same, (RLs.mono xs5 _ _ ra).append (RLs.cons (RL.mono xs5 _ _ r5) RLs.nil)⟩
              have nr : noRefs acc = true := m5.nr _ _ hl
              show noRefs (acc ++ [yl']) = true
              exact noRefs_snoc nr hz.2
            · rw [if_neg hz] at po5; exact po5.elim
          | _ => exact po5.elim
theorem se_lc {vs : List Nat} (hc : X.calm = true) (hN : X.N.Nodup) (hi : SI X cad W tg iter ei) (ok : BlkOk X.N X.env.scope scope own)
    (hg : ∀ (s : Shared) (H : Hp) (C : Addr) (cl : List (Str × Addr)) (fp : List Addr), PG (Blk X s H scope C cl fp) tg (tG X.K g)) (ht : ∀ (s : Shared) (H : Hp) (C : Addr) (cl : List (Str × Addr)) (fp : List Addr), STs (Blk X s H scope C cl fp) cad W0 ifs t)
    (he : ∀ (s : Shared) (H : Hp) (C : Addr) (cl : List (Str × Addr)) (fp : List Addr), SE (Blk X s H scope C cl fp) cad W0 elt el) (hv : own.map (·.2) = vs) (hix : ∀ i ∈ g.ix, i ∈ vs) (hs : ∀ x, foldedSetIterable iter X.env x = pure x := by intro _; rfl) :
    SE X cad W (.ListComp elt [⟨tg, iter, ifs, 0⟩] scope pos) (eLc mt ei g t el vs) := by
  subst hv
  exact Lv.PE.imp (pe_lc hc hN hi ok hg ht he hs) fun σ H Q h => lc_of hix h
/-- name = [..] on one line -/
theorem s_setLc {vs : List Nat} {i : Nat} {y : Str} {py spos : Pos} (hc : X.calm = true) (hN : X.N.Nodup) (hy : X.N[i]? = some y) (hyl : X.env.scope.names.lookup y = some .local)
    (hsw : swapsWith (.ListComp elt [⟨tg, iter, ifs, 0⟩] scope pos) (some (.Name y py)) spos.line X.env = pure true) (hi : SI X cad W tg iter ei) (ok : BlkOk X.N X.env.scope scope own)
    (hg : ∀ (s : Shared) (H : Hp) (C : Addr) (cl : List (Str × Addr)) (fp : List Addr), PG (Blk X s H scope C cl fp) tg (tG X.K g)) (ht : ∀ (s : Shared) (H : Hp) (C : Addr) (cl : List (Str × Addr)) (fp : List Addr), STs (Blk X s H scope C cl fp) cad W0 ifs t)
    (he : ∀ (s : Shared) (H : Hp) (C : Addr) (cl : List (Str × Addr)) (fp : List Addr), SE (Blk X s H scope C cl fp) cad W0 elt el) (hv : own.map (·.2) = vs) (hix : ∀ i ∈ g.ix, i ∈ vs) (hs : ∀ x, foldedSetIterable iter X.env x = pure x := by intro _; rfl) :
    SS X cad W (.Assign [.Name y py] (.ListComp elt [⟨tg, iter, ifs, 0⟩] scope pos) spos) (sSet i (eLc mt ei g t el vs)) := by
  subst hv
  refine Lv.PS.imp (ps_setLc (tt := tT X.K cad W0 t) (te := tE X.K cad W0 el) hc hN hy hyl hsw hi ok hg ht he hs) fun D σ H h => ?_
  obtain ⟨w, env, eH, m, re, po⟩ := h
  exact lc_of hix ⟨w, env, eH, m, re, poS_bind po re fun w' l v x m' r po' => poS_nx po' m' ((re.mono x).set r)⟩
end
end Lv
end
section
set_option Elab.async false
set_option linter.all false
set_option maxRecDepth 100000
set_option maxHeartbeats 2000000
namespace Lv
open PySem PySem.Spec PyProof.Rows L2

/-! ### a def by its body -/
def endR : SR → Res LV
  | .nx _ lh => .ok .non lh
  | .rt v lh => .ok v lh
  | .exn c fs _ lh => .exn c fs lh
  | _ => .stuck
/-- the frame's own numbers go -/
def trimR (n : Nat) : Res LV → Res LV
  | .ok v lh => if noRef v = true then .ok v (lh.take n) else .ok v lh
  | .exn c fs lh => if noReff fs = true then .exn c fs (lh.take n) else .exn c fs lh
  | .stuck => .stuck
def startL (N : Nat) (ls : List LV) : LE := ls.map some ++ List.replicate (N - ls.length) none
def fnB (N : Nat) (s : Sv) : Fn := fun ls lh => trimR lh.length (endR (s (startL N ls) lh))
section
variable {K : PySem.W.Frag} {cad : Cad} {w w' : Wd}
theorem xd_cut {fs : List (Str × LV)} {d : Option Addr} {n : Nat} (h : noReff fs = true) (x : XdOk K cad w fs d) : XdOk K cad (w.cut n) fs d := by
  cases d with
  | none => exact x
  | some d => obtain ⟨ufs, e, nl, r⟩ := x; exact ⟨ufs, e, fun l => nl (cut_live l), RLf.cut _ _ h r⟩
theorem start_ok {ls : List LV} {vs : List V} {N : List Str} (r : RLs K cad w ls vs) : RLe K cad w (startL N.length ls) (L2.start N vs) := by
  have hl := r.length
  refine ⟨by simp [startL, L2.start, hl], fun i l e => ?_⟩
  unfold startL at e
  by_cases hi : i < ls.length
  · rw [List.getElem?_append_left (by simpa using hi), List.getElem?_map] at e
    cases q : ls[i]? with
    | none => rw [q] at e; cases e
    | some l' =>
      rw [q] at e
      have : l' = l := by simpa using e
      subst this
      obtain ⟨v, hv, rv⟩ := r.get q
      refine ⟨v, ?_, rv⟩
      unfold L2.start
      rw [List.getElem?_append_left (by rw [List.length_map, ← hl]; exact hi), List.getElem?_map, hv]; rfl
  · rw [List.getElem?_append_right (by simpa using Nat.le_of_not_lt hi), List.getElem?_replicate] at e
    split at e <;> cases e
theorem trim_po {E : XK} {Q : VK} {r : SR} {W : WX} (m : Emb K cad w) (po : Po K cad (RL K cad) w Q E (trimR w.lh.length (endR r))) (hW : ∀ c d σ H, E c d H → W c d σ H) :
    PoS K cad w { nx := fun _ H' => Q .non H', rt := Q } W r := by
  cases r with
  | nx env lh =>
    intro w' e x m' σ _
    subst e
    have po' : Po K cad (RL K cad) w Q E (.ok .non (w'.lh.take w.lh.length)) := po
    exact po' (w'.cut w.lh.length) rfl (x.cut m (Nat.le_refl _)) (m'.cut _) _ mk_non
  | rt v lh =>
    intro w' e x m' u ru
    subst e
    have po' : Po K cad (RL K cad) w Q E (if noRef v = true then .ok v (w'.lh.take w.lh.length) else .ok v w'.lh) := po
    by_cases h : noRef v = true
    · rw [if_pos h] at po'
      exact po' (w'.cut w.lh.length) rfl (x.cut m (Nat.le_refl _)) (m'.cut _) _ (RL.cut _ _ h ru)
    · rw [if_neg h] at po'
      exact po' w' rfl x m' _ ru
  | exn c fs env lh =>
    intro w' e x m' σ re d xd
    subst e
    have po' : Po K cad (RL K cad) w Q E (if noReff fs = true then .exn c fs (w'.lh.take w.lh.length) else .exn c fs w'.lh) := po
    refine hW _ _ _ _ ?_
    by_cases h : noReff fs = true
    · rw [if_pos h] at po'
      exact po' (w'.cut w.lh.length) rfl (x.cut m (Nat.le_refl _)) (m'.cut _) _ (xd_cut h xd)
    · rw [if_neg h] at po'
      exact po' w' rfl x m' _ xd
  | bk env lh => exact po.elim
  | ct env lh => exact po.elim
  | stuck => exact po.elim
/-- the wish of a def's body about exceptions -/
abbrev WB (E : XK) : WX := fun c d _ H => E c d H
theorem fn_mirror {P : Program} {wld : World} {mg : Str → Option Value} {base : Heap} {x qual : Str} {params : Arguments} {body : List Stmt} {scope : Scope} {dvs : List V} {kws : List (Str × V)} {f : Addr} {fd : FuncData} {N ps : List Str} {k : Nat} {sv : Sv}
    (F : FunD K x qual params body scope dvs kws f fd) (S : FnScope N ps scope)
    (hb : ∀ (cdv : Value) (A : Around) (outer : List Env) (s : Shared) (H : Hp) (E : XK), Room k (A.deeper (envOfC qual scope s.heap.objs.size f cdv)) → (A.deeper (envOfC qual scope s.heap.objs.size f cdv)).guards = some [] →
      SSs (cxOf (L2.CX P wld) P wld K mg base N qual scope f cdv A outer s H E) cad (WB E) body sv) :
    FnG P wld K mg base cad (k + 1) f fd ps ps.length (fnB N.length sv) := by
  refine ⟨rfl, fun A outer s H args us vs Q E hr hg e0 bt r sp => ?_⟩
  obtain ⟨oc, od, dV, kV, doc, pm, an, cdv, ct, osl, rfl, lk, hcd, _⟩ := F.ex
  obtain ⟨w, ls, eH, m, rl, hl, po⟩ := sp
  refine LamX.run_ofS lk hcd S hr e0 bt r (by rw [← rl.length]; exact hl) fun hr' => ⟨_, hb cdv A outer s H E hr' hg, w, startL N.length ls, eH, m, start_ok rl, ?_⟩
  exact trim_po m po fun _ _ _ _ h => h
end

/-! ### calls -/
def fCall (n : Nat) (m : Fn) (dls : List LV) : List LV → LH → Res LV := fun ls lh => if (ls ++ dls).length = n then m (ls ++ dls) lh else .stuck
def fMake (c n : Nat) (m : Fn) (dls : List LV) : List LV → LH → Res LV := fun ls lh => if (ls ++ dls).length + 1 = n then
  (rb (m (.ref lh.length :: (ls ++ dls)) (lh ++ [.ins c []])) fun v lh2 => match v, lh2[lh.length]? with
    | .non, some (.ins c' fs) => if c' = c then .ok (.obj c fs) (lh2.take lh.length) else .stuck
    | _, _ => .stuck) else .stuck
/-- a method of an instance: found ahead of the arguments -/
def eMeth (name : Str) (tbl : List (Nat × (Nat × Fn × List LV))) (a : Ev) (l : EvL) : Ev := fun env lh => rb (a env lh) fun x lh1 => match x with
  | .obj c fs => (match tbl.lookup c with
    | some (n, m, dls) => if fs.lookup name = none then rb (l env lh1) fun xs lh2 => fCall n m dls (.obj c fs :: xs) lh2 else .stuck
    | none => .stuck)
  | _ => .stuck
section
variable {X : Cx} {cad : Cad} {W : WX} {x name : Str} {p pos apos : Pos} {e o : Expr} {es : List Expr} {el : EvL} {ea : Ev} {f : Addr} {n c : Nat} {m : Fn} {dls : List LV}
theorem cl_own (ow : Own X cad f n m dls) (tk : Takes X W) : ClL X cad W (fun us => call (.ref f) us) (fCall n m dls) := fun pins s σ w ls xs us Q I em r1 q1 po => by
  unfold fCall at po
  by_cases h : (ls ++ dls).length = n
  · rw [if_pos h] at po; exact run_own ow tk I em r1 q1 h po
  · rw [if_neg h] at po; exact po.elim
theorem se_call (ow : Own X cad f n m dls) (tk : Takes X W) (hg : Gl X x) (hm : X.mg x = some (.ref f)) (hk : PySem.W.keepIn X.K (.ref f) = true) (ha : SA X cad W (e :: es) el)
    (hdb : (x == ("__debug__" : Str)) = false := by decide) (he : starEach (e :: es) X.env = (false, eval e X.env) :: starEach es X.env := by rfl) (hpl : (backTo pos (starEach es X.env)).any (·.1) = false := by rfl) :
    SE X cad W (.Call (.Name x p) (e :: es) [] pos) (eL (fCall n m dls) el) := by
  refine ⟨fun pins s σ H Q I h => ?_⟩
  refine wpAny_Call_Name_kw (ld_glob I hg hm ?_ hdb)
  refine PySem.W.callWith_K (h₀ := X.base) I.ok.mod.kin hk (thn (ha.run pos pins s σ H _ I (many h)) fun us s1 ⟨vs, H1, I1, r, q⟩ => ⟨I1.kIn, ?_⟩) he hpl
  obtain ⟨w, ls, eH, em, rl, po⟩ := q
  subst eH
  exact cl_own ow tk pins s1 σ w ls vs us Q I1 em rl r po
theorem se_call0 (ow : Own X cad f n m dls) (tk : Takes X W) (hg : Gl X x) (hm : X.mg x = some (.ref f)) (hk : PySem.W.keepIn X.K (.ref f) = true)
    (hdb : (x == ("__debug__" : Str)) = false := by decide) : SE X cad W (.Call (.Name x p) [] [] pos) (eL (fCall n m dls) lNil) := by
  refine ⟨fun pins s σ H Q I h => ?_⟩
  refine wpAny_Call_Name_kw (ld_glob I hg hm ?_ hdb)
  obtain ⟨w, env, eH, em, re, po⟩ := h
  subst eH
  exact PySem.W.callWith_K0 I.kIn hk (cl_own ow tk pins s σ w [] [] [] Q I em RLs.nil .nil po)
/-- a class that is made -/
structure OwnC (X : Cx) (cad : Cad) (c n : Nat) (m : Fn) (dls : List LV) : Prop where
  ex : ∃ f, Own X cad f n m dls ∧ Mk X.K (cad c) f
theorem cl_make (oc : OwnC X cad c n m dls) (tk : Takes X W) : ClL X cad W (fun us => call (.ref (cad c)) us) (fMake c n m dls) := fun pins s σ w ls vs us Q I em rl r po => by
  unfold fMake at po
  by_cases hn : (ls ++ dls).length + 1 = n
  · rw [if_pos hn] at po
    obtain ⟨f, ow, M⟩ := oc.ex
    obtain ⟨fd, ps, k, ds, dvs, F, hr, hgd, hb, hd, hdl⟩ := ow.ok
    have hx : w.H (s.heap.objs.size + 1) = none := I.hok.fresh (Nat.le_succ _)
    have hdx : w.H s.heap.objs.size = none := I.hok.fresh (Nat.le_refl _)
    have hne : s.heap.objs.size ≠ s.heap.objs.size + 1 := Nat.ne_of_lt (Nat.lt_succ_self _)
    have I2 := Inv.made (C := cad c) I
    -- the world with the instance's own dict, then with the new number
    have x1 : Ext w { w with H := upd w.H s.heap.objs.size (.own (s.heap.objs.size + 1)) } := Ext.new hdx
    have em1 : Emb X.K cad { w with H := upd w.H s.heap.objs.size (.own (s.heap.objs.size + 1)) } := em.new hdx
    have hx1 : (upd w.H s.heap.objs.size (.own (s.heap.objs.size + 1))) (s.heap.objs.size + 1) = none := by rw [upd_ne (Ne.symm hne)]; exact hx
    have x2 := Ext.cell (o := .ins (cad c) s.heap.objs.size []) em1 (.ins c []) hx1
    have em2 := em1.cell' (o := .ins (cad c) s.heap.objs.size []) (.ins c []) hx1 rfl ⟨s.heap.objs.size, [], upd_same, by simp only [RLf]⟩
    have hφ : (w.φ ++ [s.heap.objs.size + 1])[w.lh.length]? = some (s.heap.objs.size + 1) := by rw [← em.len]; simp
    have rls2 := RLs.cons (mk_ref (K := X.K) (cad := cad) (w := ⟨w.φ ++ [s.heap.objs.size + 1], w.lh ++ [.ins c []], upd (upd w.H s.heap.objs.size (.own (s.heap.objs.size + 1))) (s.heap.objs.size + 1) (.ins (cad c) s.heap.objs.size [])⟩) hφ)
      (RLs.mono (x1.trans x2) _ _ (rl.append (hdl w)))
    have r2 : Vals (V.ref (s.heap.objs.size + 1) :: (vs ++ dvs)) (Value.ref (s.heap.objs.size + 1) :: (us ++ ds)) := .cons rfl (r.append hd)
    have sp : spOf X.K cad n m (V.ref (s.heap.objs.size + 1) :: (vs ++ dvs)) (upd (upd w.H s.heap.objs.size (.own (s.heap.objs.size + 1))) (s.heap.objs.size + 1) (.ins (cad c) s.heap.objs.size []))
        (fun v H2 => v = .non ∧ Q (.ref (s.heap.objs.size + 1)) H2) (XS W σ) := by
      refine ⟨_, _, rfl, em2, rls2, by simpa using hn, ?_⟩
      refine po_bindW (x1.trans x2) po fun w3 l v x3 em3 r3 po3 => ?_
      cases l with
      | non =>
        refine ⟨rl_non r3, ?_⟩
        have hφ3 := x3.pre _ _ hφ
        cases hl : w3.lh[w.lh.length]? with
        | none => rw [hl] at po3; exact po3.elim
        | some lo =>
          rw [hl] at po3
          cases lo with
          | ins c' fs =>
            dsimp only at po3
            by_cases hc : c' = c
            · subst hc
              rw [if_pos rfl] at po3
              obtain ⟨dx, vfs, e, rf⟩ := em3.cell _ _ _ hφ3 hl
              have nr : noReff fs = true := em3.nr _ _ hl
              refine po3 (w3.cut w.lh.length) rfl ((x1.trans (x2.trans x3)).cut em (Nat.le_refl _)) (em3.cut _) _ ?_
              simp only [RL]
              exact ⟨_, dx, vfs, rfl, e, cut_dead em3 hφ3 hl (fun q => nomatch q), RLf.cut _ _ nr rf⟩
            · rw [if_neg hc] at po3; exact po3.elim
          | _ => exact po3.elim
      | _ => exact po3.elim
    have hl : (Value.ref (s.heap.objs.size + 1) :: us ++ ds).length = ps.length := by
      have e := r2.length
      have e2 : (Value.ref (s.heap.objs.size + 1) :: (us ++ ds)).length = ps.length := by rw [← e, ← rls2.length, F.len, ← hn]; simp
      simpa using e2
    refine wpAny_call (make_map (f := f) I.kIn M.makes M.init (beq_iff_eq.mp M.fn) (codeAny_mono (F.run _ X.stack _ _ ⟨Value.ref (s.heap.objs.size + 1) :: us, []⟩ _ _ _ (XS W σ) (hr.make (cad c) us []) (show pushGuards [] X.A.guards = some [] from hgd) (I2.env0.make (cad c) us []) (hb _ (Value.ref (s.heap.objs.size + 1) :: us) I2.kIn hl) r2 sp) fun z s' hq' => ?_))
    cases z with
    | error e => exact tk e s' (XE.of_call I2 (fun _ _ _ h => h) hq')
    | ok fl =>
      cases fl with
      | ret u =>
        obtain ⟨v, H', I3, rv, ev, q3⟩ := I2.after hq'
        subst ev
        exact ⟨rv, ⟨V.ref (s.heap.objs.size + 1), H', I3, rfl, q3⟩⟩
      | next => exact hq'.elim
      | brk => exact hq'.elim
      | cont => exact hq'.elim
  · rw [if_neg hn] at po; exact po.elim
theorem se_make (oc : OwnC X cad c n m dls) (tk : Takes X W) (hg : Gl X x) (hm : X.mg x = some (.ref (cad c))) (ha : SA X cad W (e :: es) el)
    (hdb : (x == ("__debug__" : Str)) = false := by decide) (he : starEach (e :: es) X.env = (false, eval e X.env) :: starEach es X.env := by rfl) (hpl : (backTo pos (starEach es X.env)).any (·.1) = false := by rfl) :
    SE X cad W (.Call (.Name x p) (e :: es) [] pos) (eL (fMake c n m dls) el) := by
  refine ⟨fun pins s σ H Q I h => ?_⟩
  refine wpAny_Call_Name_kw (ld_glob I hg hm ?_ hdb)
  obtain ⟨f, ow, M⟩ := id oc.ex
  refine PySem.W.callWith_K (h₀ := X.base) I.ok.mod.kin M.kp (thn (ha.run pos pins s σ H _ I (many h)) fun us s1 ⟨vs, H1, I1, r, q⟩ => ⟨I1.kIn, ?_⟩) he hpl
  obtain ⟨w, ls, eH, em, rl, po⟩ := q
  subst eH
  exact cl_make oc tk pins s1 σ w ls vs us Q I1 em rl r po
theorem se_make0 (oc : OwnC X cad c n m dls) (tk : Takes X W) (hg : Gl X x) (hm : X.mg x = some (.ref (cad c)))
    (hdb : (x == ("__debug__" : Str)) = false := by decide) : SE X cad W (.Call (.Name x p) [] [] pos) (eL (fMake c n m dls) lNil) := by
  refine ⟨fun pins s σ H Q I h => ?_⟩
  refine wpAny_Call_Name_kw (ld_glob I hg hm ?_ hdb)
  obtain ⟨f, ow, M⟩ := id oc.ex
  obtain ⟨w, env, eH, em, re, po⟩ := h
  subst eH
  exact PySem.W.callWith_K0 I.kIn M.kp (cl_make oc tk pins s σ w [] [] [] Q I em RLs.nil .nil po)
/-- the methods of a name, by classes -/
def MethAll (X : Cx) (cad : Cad) (name : Str) (tbl : List (Nat × (Nat × Fn × List LV))) : Prop := ∀ c n m dls, tbl.lookup c = some (n, m, dls) → OwnM X cad c name n m dls ∧ Cls X.K (cad c)
theorem MethAll.nil : MethAll X cad name [] := fun c n m d h => by simp at h
theorem MethAll.cons {tbl : List (Nat × (Nat × Fn × List LV))} (h : OwnM X cad c name n m dls) (hc : Cls X.K (cad c)) (r : MethAll X cad name tbl) : MethAll X cad name ((c, (n, m, dls)) :: tbl) := fun c' n' m' d' e => by
  rw [List.lookup_cons] at e
  by_cases hcc : c' = c
  · subst hcc; simp at e; obtain ⟨rfl, rfl, rfl⟩ := e; exact ⟨h, hc⟩
  · have : (c' == c) = false := by simpa using hcc
    rw [this] at e; exact r c' n' m' d' e
theorem rlf_lookup {K : PySem.W.Frag} {w : Wd} (name : Str) : ∀ {fs : List (Str × LV)} {vs : List (Str × V)}, RLf K cad w fs vs → (fs.lookup name = none ↔ vs.lookup name = none) ∧ ∀ l, fs.lookup name = some l → ∃ v, vs.lookup name = some v ∧ RL K cad w l v
  | [], vs, h => by simp only [RLf] at h; subst h; exact ⟨by simp, fun l e => by simp at e⟩
  | (k, x) :: fs, vs, h => by
    simp only [RLf] at h
    obtain ⟨y, ys, rfl, r, rs⟩ := h
    have ih := rlf_lookup name rs
    simp only [List.lookup_cons]
    cases name == k with
    | true => exact ⟨by simp, fun l e => by cases e; exact ⟨y, rfl, r⟩⟩
    | false => exact ih
/-- what stands ahead of the arguments -/
theorem meth_of {tbl : List (Nat × (Nat × Fn × List LV))} {σ : L2.St} {H : Hp} {Q : VK} (h : tE X.K cad W (eMeth name tbl ea el) σ H Q) :
    tE X.K cad W ea σ H fun x H1 => ∃ w1 env c fs n m dls, w1.H = H1 ∧ Emb X.K cad w1 ∧ RLe X.K cad w1 env σ ∧ RL X.K cad w1 (.obj c fs) x ∧ tbl.lookup c = some (n, m, dls) ∧ fs.lookup name = none ∧
      Po X.K cad (RL X.K cad) w1 Q (XS W σ) (rb (el env w1.lh) fun xs lh2 => fCall n m dls (.obj c fs :: xs) lh2) := by
  obtain ⟨w, env, eH, em, re, po⟩ := h
  refine ⟨w, env, eH, em, re, po_bind po fun w1 l u x1 em1 r1 po1 => ?_⟩
  cases l with
  | obj c fs =>
    dsimp only at po1
    cases ht : tbl.lookup c with
    | none => rw [ht] at po1; exact po1.elim
    | some nm =>
      obtain ⟨n, m, dls⟩ := nm
      rw [ht] at po1
      dsimp only at po1
      by_cases hl : fs.lookup name = none
      · rw [if_pos hl] at po1
        exact ⟨w1, env, c, fs, n, m, dls, rfl, em1, re.mono x1, r1, ht, hl, po1⟩
      · rw [if_neg hl] at po1; exact po1.elim
  | _ => exact po1.elim
theorem se_meth {tbl : List (Nat × (Nat × Fn × List LV))} {pl : Sem Bool} (hm : MethAll X cad name tbl) (tk : Takes X W) (ho : SE X cad W o ea) (ha : SA X cad W (e :: es) el)
    (hst : starEach (e :: es) X.env = (false, eval e X.env) :: starEach es X.env := by rfl) (hpl : (backTo pos (starEach es X.env)).any (·.1) = false := by rfl)
    (ht : eval (.Call (.Attribute o name apos) (e :: es) [] pos) X.env = (do
      let ov ← eval o X.env
      standAt apos.atName
      let (f, first) ← holding [ov] (getMethod ov name pl)
      callWith pos f first (backTo pos (starEach (e :: es) X.env)) (backToKw pos (keywordEach [] X.env))) := by rfl) :
    SE X cad W (.Call (.Attribute o name apos) (e :: es) [] pos) (eMeth name tbl ea el) := by
  refine ⟨fun pins s σ H Q I h => ?_⟩
  refine PySem.W.methodCall_KW (pl := pl) (thn (ho.run pins s σ H _ I (meth_of h)) fun u s1 ⟨x, H1, I1, rx, w1, env, c, fs, n, m, dls, eH1, em1, re1, r1, hl, hf, po1⟩ => ?_) ht
  subst eH1
  obtain ⟨a, dx, vfs, rfl, ea', nl, rf⟩ := rl_obj r1
  obtain rfl : u = Value.ref a := rx
  obtain ⟨mm, hc⟩ := hm c n m dls hl
  obtain ⟨f, ow, hfind, hfn, hkp⟩ := mm.ex
  refine getmeth_ok I1 ea' hc ⟨hfind, hfn, hkp⟩ ((rlf_lookup name rf).1.mp hf) ?_
  refine PySem.W.callWith_K (first := [.ref a]) (h₀ := X.base) I1.ok.mod.kin hkp (thn (ha.run pos pins s1 σ w1.H (fun vs H2 => ∃ w2 ls, w2.H = H2 ∧ Emb X.K cad w2 ∧ RL X.K cad w2 (.obj c fs) (.ref a) ∧ RLs X.K cad w2 ls vs ∧ Po X.K cad (RL X.K cad) w2 Q (XS W σ) (fCall n m dls (.obj c fs :: ls) w2.lh)) I1
    ⟨w1, env, rfl, em1, re1, po_bind po1 fun w2 ls vs x2 em2 r2 po2 => ⟨w2, ls, rfl, em2, RL.mono x2 _ _ r1, r2, po2⟩⟩) fun us s2 ⟨vs, H2, I2, r, w2, ls, eH2, em2, r1', r2, po2⟩ => ⟨I2.kIn, ?_⟩) hst hpl
  subst eH2
  exact cl_own ow tk pins s2 σ w2 (.obj c fs :: ls) (.ref a :: vs) (.ref a :: us) Q I2 em2 (RLs.cons r1' r2) (.cons rfl r) po2
theorem se_meth0 {tbl : List (Nat × (Nat × Fn × List LV))} {pl : Sem Bool} (hm : MethAll X cad name tbl) (tk : Takes X W) (ho : SE X cad W o ea)
    (ht : eval (.Call (.Attribute o name apos) [] [] pos) X.env = (do
      let ov ← eval o X.env
      standAt apos.atName
      let (f, first) ← holding [ov] (getMethod ov name pl)
      callWith pos f first (backTo pos (starEach [] X.env)) (backToKw pos (keywordEach [] X.env))) := by rfl) :
    SE X cad W (.Call (.Attribute o name apos) [] [] pos) (eMeth name tbl ea lNil) := by
  refine ⟨fun pins s σ H Q I h => ?_⟩
  refine PySem.W.methodCall_KW (pl := pl) (thn (ho.run pins s σ H _ I (meth_of h)) fun u s1 ⟨x, H1, I1, rx, w1, env, c, fs, n, m, dls, eH1, em1, re1, r1, hl, hf, po1⟩ => ?_) ht
  subst eH1
  obtain ⟨a, dx, vfs, rfl, ea', nl, rf⟩ := rl_obj r1
  obtain rfl : u = Value.ref a := rx
  obtain ⟨mm, hc⟩ := hm c n m dls hl
  obtain ⟨f, ow, hfind, hfn, hkp⟩ := mm.ex
  refine getmeth_ok I1 ea' hc ⟨hfind, hfn, hkp⟩ ((rlf_lookup name rf).1.mp hf) ?_
  exact PySem.W.callWith_K0 (first := [.ref a]) I1.kIn hkp (cl_own ow tk pins s1 σ w1 [.obj c fs] [.ref a] [.ref a] Q I1 em1 (RLs.cons r1 RLs.nil) (.cons rfl .nil) po1)
end

/-! ### fields -/
/-- o.f: an instance by value, or by number -/
def fFld (f : Str) : LV → LH → Res LV := fun x lh => match x with
  | .obj _ fs => (match fs.lookup f with
    | some v => .ok v lh
    | none => .stuck)
  | .ref n => (match lh[n]? with
    | some (.ins _ fs) => (match fs.lookup f with
      | some v => .ok v lh
      | none => .stuck)
    | _ => .stuck)
  | _ => .stuck
/-- the classes with this field: none of them has the name itself -/
def FldAll (X : Cx) (cad : Cad) (f : Str) (cs : List Nat) : Prop := ∀ c ∈ cs, Cls X.K (cad c) ∧ NoAttr X.K (cad c) f
def clsOf (x : LV) (lh : LH) : Option Nat := match x with
  | .obj c _ => some c
  | .ref n => (match lh[n]? with
    | some (.ins c _) => some c
    | _ => none)
  | _ => none
def fFldC (f : Str) (cs : List Nat) : LV → LH → Res LV := fun x lh => match clsOf x lh with
  | some c => if c ∈ cs then fFld f x lh else .stuck
  | none => .stuck
def putL (f : Str) (v : LV) : List (Str × LV) → List (Str × LV)
  | [] => [(f, v)]
  | (g, x) :: r => if g = f then (g, v) :: r else (g, x) :: putL f v r
/-- o.f = v: an instance by number -/
def sFldL (f : Str) (cs : List Nat) (o v : Ev) : Sv := fun env lh => rS (v env lh) env fun y lh1 => rS (o env lh1) env fun x lh2 => match x with
  | .ref n => (match lh2[n]? with
    | some (.ins c fs) => if c ∈ cs ∧ fs.length < 1000 ∧ noRef y = true then .nx env (lh2.set n (.ins c (putL f y fs))) else .stuck
    | _ => .stuck)
  | _ => .stuck
theorem noReff_put {f : Str} {v : LV} (h : noRef v = true) : ∀ {fs : List (Str × LV)}, noReff fs = true → noReff (putL f v fs) = true
  | [], _ => by show (noRef v && true) = true; rw [h]; rfl
  | (g, x) :: r, z => by
    simp only [noReff, Bool.and_eq_true] at z
    simp only [putL]
    split
    · show (noRef v && noReff r) = true; rw [h, z.2]; rfl
    · show (noRef x && noReff (putL f v r)) = true; rw [z.1, noReff_put h z.2]; rfl
section
variable {X : Cx} {cad : Cad} {W : WX} {f : Str} {cs : List Nat} {pos pos' : Pos} {e o : Expr} {ea eo : Ev}
theorem rlf_put {K : PySem.W.Frag} {w : Wd} {v : LV} {u : V} (r : RL K cad w v u) : ∀ {fs : List (Str × LV)} {vs : List (Str × V)}, RLf K cad w fs vs → RLf K cad w (putL f v fs) (putF f u vs) ∧ fs.length = vs.length
  | [], vs, h => by simp only [RLf] at h; subst h; refine ⟨?_, rfl⟩; simp only [putL, putF, RLf]; exact ⟨u, [], rfl, r, rfl⟩
  | (k, x) :: fs, vs, h => by
    simp only [RLf] at h
    obtain ⟨y, ys, rfl, r1, r2⟩ := h
    obtain ⟨ih, il⟩ := rlf_put r r2
    refine ⟨?_, by simp [il]⟩
    simp only [putL, putF]
    split
    · simp only [RLf]; exact ⟨u, ys, rfl, r, r2⟩
    · simp only [RLf]; exact ⟨y, _, rfl, r1, ih⟩
theorem FldAll.nil : FldAll X cad f [] := fun c h => nomatch h
theorem FldAll.cons {c : Nat} (h1 : Cls X.K (cad c)) (h2 : NoAttr X.K (cad c) f) (r : FldAll X cad f cs) : FldAll X cad f (c :: cs) := fun c' h => by
  rcases List.mem_cons.mp h with rfl | h
  · exact ⟨h1, h2⟩
  · exact r c' h
theorem se_fld (hf : FldAll X cad f cs) (he : SE X cad W e ea) (hb : attributeBase e f X.env (eval e X.env) = eval e X.env := by rfl) : SE X cad W (.Attribute e f pos) (eU (fFldC f cs) ea) := by
  refine Lv.PE.imp (pe_fld he hb) fun σ H Q h => ?_
  obtain ⟨w, env, eH, em, re, po⟩ := h
  refine ⟨w, env, eH, em, re, po_bind po fun w1 l u x1 em1 r1 po1 => ?_⟩
  unfold fFldC at po1
  cases hc : clsOf l w1.lh with
  | none => rw [hc] at po1; exact po1.elim
  | some c =>
    rw [hc] at po1
    dsimp only at po1
    by_cases hm : c ∈ cs
    · rw [if_pos hm] at po1
      obtain ⟨k1, k2⟩ := hf c hm
      cases l with
      | obj c' fs =>
        cases hc
        obtain ⟨a, dx, vfs, rfl, e1, nl, rf⟩ := rl_obj r1
        simp only [fFld] at po1
        cases hl : fs.lookup f with
        | none => rw [hl] at po1; exact po1.elim
        | some v =>
          rw [hl] at po1
          obtain ⟨v', h1, h2⟩ := (rlf_lookup f rf).2 v hl
          exact ⟨a, _, dx, vfs, v', rfl, e1, k1, k2, h1, po_here po1 em1 h2⟩
      | ref n =>
        obtain ⟨a, rfl, ha⟩ := rl_ref r1
        simp only [clsOf] at hc
        simp only [fFld] at po1
        cases hl : w1.lh[n]? with
        | none => rw [hl] at po1; exact po1.elim
        | some lo =>
          rw [hl] at po1 hc
          cases lo with
          | ins c' fs =>
            cases hc
            obtain ⟨dx, vfs, e1, rf⟩ := em1.cell _ _ _ ha hl
            dsimp only at po1
            cases hl2 : fs.lookup f with
            | none => rw [hl2] at po1; exact po1.elim
            | some v =>
              rw [hl2] at po1
              obtain ⟨v', h1, h2⟩ := (rlf_lookup f rf).2 v hl2
              exact ⟨a, _, dx, vfs, v', rfl, e1, k1, k2, h1, po_here po1 em1 h2⟩
          | _ => exact po1.elim
      | _ => cases hc
    · rw [if_neg hm] at po1; exact po1.elim
theorem s_fld (hf : FldAll X cad f cs) (ho : SE X cad W o eo) (he : SE X cad W e ea) (hs : swapsWith e (some (.Attribute o f pos')) pos.line X.env = pure false := by rfl) : SS X cad W (.Assign [.Attribute o f pos'] e pos) (sFldL f cs eo ea) := by
  refine Lv.PS.imp (ps_fld ho he hs) fun D σ H ⟨w, env, eH, em, re, po⟩ => ?_
  refine ⟨w, env, eH, em, re, poS_bind po re fun w1 y u x1 em1 r1 po1 => ?_⟩
  refine ⟨w1, env, rfl, em1, re.mono x1, poS_bind po1 (re.mono x1) fun w2 l v x2 em2 r2 po2 => ?_⟩
  cases l with
  | ref n =>
    obtain ⟨a, rfl, ha⟩ := rl_ref r2
    dsimp only at po2
    cases hl : w2.lh[n]? with
    | none => rw [hl] at po2; exact po2.elim
    | some lo =>
      rw [hl] at po2
      cases lo with
      | ins c fs =>
        dsimp only at po2
        by_cases hz : c ∈ cs ∧ fs.length < 1000 ∧ noRef y = true
        · rw [if_pos hz] at po2
          obtain ⟨dx, vfs, e1, rf⟩ := em2.cell _ _ _ ha hl
          obtain ⟨k1, k2⟩ := hf c hz.1
          have r1' := RL.mono x2 _ _ r1
          obtain ⟨rp, il⟩ := rlf_put (f := f) r1' rf
          have xs := Ext.set (o := .ins (cad c) dx (putF f u vfs)) (lo' := .ins c (putL f y fs)) ha hl rfl
          have nr : noReff fs = true := em2.nr _ _ hl
          have ems := em2.set (o := .ins (cad c) dx (putF f u vfs)) (lo' := .ins c (putL f y fs)) ha hl rfl (fun q => nomatch q) (noReff_put hz.2.2 nr) ⟨dx, _, upd_same, RLf.mono xs _ _ rp⟩
          exact ⟨a, cad c, dx, vfs, rfl, e1, k1, k2, by rw [← il]; exact hz.2.1, po2 ⟨w2.φ, w2.lh.set n (.ins c (putL f y fs)), upd w2.H a (.ins (cad c) dx (putF f u vfs))⟩ rfl xs ems σ (((re.mono x1).mono x2).mono xs)⟩
        · rw [if_neg hz] at po2; exact po2.elim
      | _ => exact po2.elim
  | _ => exact po2.elim
end
end Lv
end
section
set_option Elab.async false
set_option linter.all false
set_option maxRecDepth 100000
set_option maxHeartbeats 2000000
namespace Lv
open PySem PySem.Spec PyProof.Rows L2

/-! ### items by places and keys -/
def lookL (kvs : List (Key × LV)) (k : Key) : Option LV := (kvs.find? fun kv => decide (kv.1 = k)).map (·.2)
def putKL (kvs : List (Key × LV)) (k : Key) (v : LV) : List (Key × LV) := if (lookL kvs k).isSome then kvs.map fun kv => if kv.1 = k then (kv.1, v) else kv else kvs ++ [(k, v)]
def keyL : LV → Option Key
  | .int i => some (.inl i)
  | .str x => some (.inr x)
  | _ => none
def optR (o : Option LV) (lh : LH) : Res LV := match o with
  | some v => .ok v lh
  | none => .stuck
def ixSeq (xs : List LV) (y : LV) (lh : LH) : Res LV := match y with
  | .int i => optR (atI xs i) lh
  | _ => .stuck
/-- a[i] -/
def fIx : LV → LV → LH → Res LV := fun x y lh => match x with
  | .tup xs => ixSeq xs y lh
  | .fl xs => ixSeq xs y lh
  | .sl xs => ixSeq xs y lh
  | .ref n => (match lh[n]? with
    | some (.lst xs) => ixSeq xs y lh
    | some (.dct kvs) => (match keyL y with | some k => optR (lookL kvs k) lh | none => .stuck)
    | _ => .stuck)
  | _ => .stuck
section
variable {K : PySem.W.Frag} {cad : Cad} {w w' : Wd}
theorem RLs.atI {xs : List LV} {vs : List V} {i : Int} {x : LV} (r : RLs K cad w xs vs) (h : L2.atI xs i = some x) : ∃ v, L2.atI vs i = some v ∧ RL K cad w x v := by
  unfold L2.atI at h ⊢
  rw [← r.length]
  cases q : L2.ixN xs.length i with
  | none => rw [q] at h; cases h
  | some j => rw [q] at h; exact r.get h
theorem rlk_val {k : Key} : ∀ {kvs : List (Key × LV)} {vs : List (Key × V)}, RLk K cad w kvs vs → (∀ l, lookL kvs k = some l → ∃ v, valV vs k = some v ∧ RL K cad w l v) ∧ (lookL kvs k = none → valV vs k = none)
  | [], vs, h => by cases h; exact ⟨fun l e => by simp [lookL] at e, fun _ => rfl⟩
  | (j, x) :: kvs, vs, h => by
    obtain ⟨y, ys, rfl, r, rs⟩ := h
    have ih := rlk_val (k := k) rs
    by_cases hj : j = k
    · subst hj
      have e1 : lookL ((j, x) :: kvs) j = some x := by simp [lookL]
      have e2 : valV ((j, y) :: ys) j = some y := valV_pos rfl
      rw [e1, e2]
      exact ⟨fun l e => by cases e; exact ⟨y, rfl, r⟩, fun e => by cases e⟩
    · have e1 : lookL ((j, x) :: kvs) k = lookL kvs k := by simp [lookL, hj]
      have e2 : valV ((j, y) :: ys) k = valV ys k := valV_neg hj
      rw [e1, e2]
      exact ih
theorem rlk_length : ∀ {kvs : List (Key × LV)} {vs : List (Key × V)}, RLk K cad w kvs vs → kvs.length = vs.length
  | [], vs, h => by cases h; rfl
  | (j, x) :: kvs, vs, h => by obtain ⟨y, ys, rfl, r, rs⟩ := h; simp [rlk_length rs]
theorem rlk_append : ∀ {a b : List (Key × LV)} {u v : List (Key × V)}, RLk K cad w a u → RLk K cad w b v → RLk K cad w (a ++ b) (u ++ v)
  | [], b, u, v, h, g => by cases h; exact g
  | (j, x) :: a, b, u, v, h, g => by obtain ⟨y, ys, rfl, r, rs⟩ := h; exact ⟨y, ys ++ v, rfl, r, rlk_append rs g⟩
theorem rlk_map {k : Key} {x : LV} {v : V} (r : RL K cad w x v) : ∀ {kvs : List (Key × LV)} {vs : List (Key × V)}, RLk K cad w kvs vs →
    RLk K cad w (kvs.map fun kv => if kv.1 = k then (kv.1, x) else kv) (vs.map fun kv => if kv.1 = k then (kv.1, v) else kv)
  | [], vs, h => by cases h; rfl
  | (j, y) :: kvs, vs, h => by
    obtain ⟨z, zs, rfl, r1, rs⟩ := h
    have ih := rlk_map (k := k) r rs
    simp only [List.map_cons]
    by_cases hj : j = k
    · rw [if_pos hj, if_pos hj]; exact ⟨v, _, rfl, r, ih⟩
    · rw [if_neg hj, if_neg hj]; exact ⟨z, _, rfl, r1, ih⟩
theorem rlk_put {k : Key} {x : LV} {v : V} {kvs : List (Key × LV)} {vs : List (Key × V)} (h : RLk K cad w kvs vs) (r : RL K cad w x v) : RLk K cad w (putKL kvs k x) (putK vs k v) := by
  obtain ⟨h1, h2⟩ := rlk_val (k := k) h
  unfold putKL putK
  rw [valV_any]
  cases q : lookL kvs k with
  | none =>
    rw [h2 q]
    exact rlk_append h ⟨v, [], rfl, r, rfl⟩
  | some l =>
    obtain ⟨u, e, _⟩ := h1 l q
    rw [e]
    exact rlk_map r h
theorem noRefk_append : ∀ {a b : List (Key × LV)}, noRefk a = true → noRefk b = true → noRefk (a ++ b) = true
  | [], _, _, h => h
  | (j, x) :: a, b, h, g => by
    simp only [noRefk, Bool.and_eq_true] at h
    show (noRef x && noRefk (a ++ b)) = true
    rw [h.1, noRefk_append h.2 g]; rfl
theorem noRefk_map {k : Key} {x : LV} (hx : noRef x = true) : ∀ {a : List (Key × LV)}, noRefk a = true → noRefk (a.map fun kv => if kv.1 = k then (kv.1, x) else kv) = true
  | [], _ => rfl
  | (j, y) :: a, h => by
    simp only [noRefk, Bool.and_eq_true] at h
    simp only [List.map_cons]
    by_cases hj : j = k
    · rw [if_pos hj]; show (noRef x && _) = true; rw [hx, noRefk_map hx h.2]; rfl
    · rw [if_neg hj]; show (noRef y && _) = true; rw [h.1, noRefk_map hx h.2]; rfl
theorem noRefk_put {k : Key} {x : LV} {a : List (Key × LV)} (hx : noRef x = true) (h : noRefk a = true) : noRefk (putKL a k x) = true := by
  unfold putKL
  split
  · exact noRefk_map hx h
  · exact noRefk_append h (by show (noRef x && true) = true; rw [hx]; rfl)
theorem putKL_length (kvs : List (Key × LV)) (k : Key) (x : LV) : (putKL kvs k x).length ≤ kvs.length + 1 := by
  unfold putKL
  split <;> simp
theorem key_rl {y : LV} {v : V} {k : Key} (h : keyL y = some k) (r : RL K cad w y v) : v = kV k := by
  cases y with
  | int i => cases h; exact rl_int r
  | str i => cases h; exact rl_str r
  | _ => cases h
end
section
variable {X : Cx} {cad : Cad} {W : WX} {pos pos' : Pos} {a c e : Expr} {ea ec ed : Ev}
theorem se_ix (hu : X.A.units + 1 < cLine) (ha : SE X cad W a ea) (hc : SE X cad W c ec) (hs : ∀ o i, subscripted c false o i = operate [o, i] (getItem o i) := by intro _ _; rfl) : SE X cad W (.Subscript a c pos) (eB fIx ea ec) := by
  refine ⟨fun pins s σ H Q I h => ?_⟩
  refine Subscript_ (binT ha hc I (two h) fun v u s2 x y H2 I2 rx ry q => ?_)
  obtain ⟨w, l1, l2, eH, m, r1, r2, po⟩ := q
  subst eH
  have seqI : ∀ {xs : List LV} {vs : List V} {p : Addr}, x = .ref p → (SqL X.K w.H p vs ∨ SqT X.K w.H p vs) → RLs X.K cad w xs vs → Po X.K cad (RL X.K cad) w Q (XS W σ) (ixSeq xs l2 w.lh) →
      wpAny (model X.prog X.w) X.A (subscriptTail a c v u) (EP X pins σ Q) X.xe s2 := by
    intro xs vs p ex hq rs po
    cases l2 with
    | int i =>
      dsimp only [ixSeq] at po
      cases hi : L2.atI xs i with
      | none => rw [hi] at po; exact po.elim
      | some l =>
        rw [hi] at po
        obtain ⟨z, hz, rz⟩ := rs.atI hi
        rcases hq with hq | hq
        · exact ix_list a c pins s2 σ w.H x y v u Q I2 rx ry ⟨p, vs, i, z, ex, rl_int r2, hq, hz, po_here po m rz⟩ (hs _ _)
        · exact ix_tup a c pins s2 σ w.H x y v u Q I2 rx ry ⟨p, vs, i, z, ex, rl_int r2, hq, hz, po_here po m rz⟩ (hs _ _)
    | _ => exact po.elim
  cases l1 with
  | tup xs => obtain ⟨p, vs, ex, pv, rs⟩ := rl_tup r1; exact seqI ex (.inr pv.sq) rs po
  | fl xs => obtain ⟨p, vs, ex, pv, rs⟩ := rl_fl r1; exact seqI ex (.inl pv.sq) rs po
  | sl xs => obtain ⟨p, vs, ex, pv, rs⟩ := rl_sl r1; exact seqI ex (.inl pv.sq) rs po
  | ref n =>
    obtain ⟨p, ex, hp⟩ := rl_ref r1
    simp only [fIx] at po
    cases hl : w.lh[n]? with
    | none => rw [hl] at po; exact po.elim
    | some lo =>
      rw [hl] at po
      cases lo with
      | lst xs => obtain ⟨vs, e1, rs⟩ := m.cell _ _ _ hp hl; exact seqI ex (.inl (.inl (.inl e1))) rs po
      | dct kvs =>
        obtain ⟨vs, e1, rs⟩ := m.cell _ _ _ hp hl
        dsimp only at po
        cases hk : keyL l2 with
        | none => rw [hk] at po; exact po.elim
        | some k =>
          rw [hk] at po
          dsimp only at po
          cases hg : lookL kvs k with
          | none => rw [hg] at po; exact po.elim
          | some l =>
            rw [hg] at po
            obtain ⟨z, hz, rz⟩ := (rlk_val rs).1 l hg
            have ey := key_rl hk r2
            subst ex ey
            obtain rfl : v = Value.ref p := rx
            have g : DGet w.H p (kV k) (some z) := by rw [← hz]; exact DGet.k e1
            exact tail_any (dict_typeIs I2 g) PySem.F.slot_dict_getitem.lookup (d_getItem hu I2 g ry fun w' s3 I3 rw' => ⟨z, w.H, I3, rw', po_here po m rz⟩) (hs _ _)
      | _ => exact po.elim
  | _ => exact po.elim
def subAt (z x y : LV) (env : LE) (lh : LH) : SR := match x with
  | .ref n => (match lh[n]? with
    | some (.lst xs) => (match y with
      | .int k => (match L2.ixN xs.length k with
        | some j => if noRef z = true then .nx env (lh.set n (.lst (xs.set j z))) else .stuck
        | none => .stuck)
      | _ => .stuck)
    | some (.dct kvs) => (match keyL y with
      | some k => if noRef z = true ∧ kvs.length ≤ LIM then .nx env (lh.set n (.dct (putKL kvs k z))) else .stuck
      | none => .stuck)
    | _ => .stuck)
  | _ => .stuck
/-- o[i] = v -/
def sSub (o i v : Ev) : Sv := fun env lh => rS (v env lh) env fun z lh1 => rS (o env lh1) env fun x lh2 => rS (i env lh2) env fun y lh3 => subAt z x y env lh3
theorem noRefs_set {z : LV} (hz : noRef z = true) : ∀ {xs : List LV} {j : Nat}, noRefs xs = true → noRefs (xs.set j z) = true
  | [], _, _ => rfl
  | x :: xs, 0, h => by
    simp only [noRefs, Bool.and_eq_true] at h
    show (noRef z && noRefs xs) = true
    rw [hz, h.2]; rfl
  | x :: xs, j + 1, h => by
    simp only [noRefs, Bool.and_eq_true] at h
    show (noRef x && noRefs (xs.set j z)) = true
    rw [h.1, noRefs_set hz h.2]; rfl
theorem s_sub {o i : Expr} {eo ei : Ev} (hu : X.A.units + 1 < cLine) (ho : SE X cad W o eo) (hi : SE X cad W i ei) (he : SE X cad W e ea) (hs : swapsWith e (some (.Subscript o i pos')) pos.line X.env = pure false := by rfl) :
    SS X cad W (.Assign [.Subscript o i pos'] e pos) (sSub eo ei ea) := by
  refine ⟨fun pins s σ H D I h => ?_⟩
  obtain ⟨w, env, eH, m, re, po⟩ := h
  refine wpAny_Assign_Subscript (thn (he.run pins s σ H (fun z H1 => ∃ w1 lz, w1.H = H1 ∧ Emb X.K cad w1 ∧ RLe X.K cad w1 env σ ∧ RL X.K cad w1 lz z ∧ PoS X.K cad w1 D W (rS (eo env w1.lh) env fun x lh2 => rS (ei env lh2) env fun y lh3 => subAt lz x y env lh3)) I
    ⟨w, env, eH, m, re, poS_bind po re fun w1 lz z x1 m1 r1 po1 => ⟨w1, lz, rfl, m1, re.mono x1, r1, po1⟩⟩) fun rv s1 ⟨z, H1, I1, rz, w1, lz, eH1, m1, re1, r1, po1⟩ =>
    thn (ho.run pins s1 σ H1 (fun x H2 => ∃ w2 lx, w2.H = H2 ∧ Emb X.K cad w2 ∧ RLe X.K cad w2 env σ ∧ RL X.K cad w2 lz z ∧ RL X.K cad w2 lx x ∧ PoS X.K cad w2 D W (rS (ei env w2.lh) env fun y lh3 => subAt lz lx y env lh3)) I1
    ⟨w1, env, eH1, m1, re1, poS_bind po1 re1 fun w2 lx x x2 m2 r2 po2 => ⟨w2, lx, rfl, m2, re1.mono x2, RL.mono x2 _ _ r1, r2, po2⟩⟩) fun u s2 ⟨x, H2, I2, rx, w2, lx, eH2, m2, re2, q1, q2, po2⟩ =>
    thn (hi.run pins s2 σ H2 (fun y H3 => ∃ w3 ly, w3.H = H3 ∧ Emb X.K cad w3 ∧ RLe X.K cad w3 env σ ∧ RL X.K cad w3 lz z ∧ RL X.K cad w3 lx x ∧ RL X.K cad w3 ly y ∧ PoS X.K cad w3 D W (subAt lz lx ly env w3.lh)) I2
    ⟨w2, env, eH2, m2, re2, poS_bind po2 re2 fun w3 ly y x3 m3 r3 po3 => ⟨w3, ly, rfl, m3, re2.mono x3, RL.mono x3 _ _ q1, RL.mono x3 _ _ q2, r3, po3⟩⟩) fun iv s3 ⟨y, H3, I3, ry, w3, ly, eH3, m3, re3, p1, p2, p3, po3⟩ => ?_) hs
  subst eH3
  cases lx with
  | ref n =>
    obtain ⟨p, ex, hp⟩ := rl_ref p2
    subst ex
    obtain rfl : u = Value.ref p := rx
    dsimp only [subAt] at po3
    cases hl : w3.lh[n]? with
    | none => rw [hl] at po3; exact po3.elim
    | some lo =>
      rw [hl] at po3
      cases lo with
      | lst xs =>
        obtain ⟨vs, e1, rs⟩ := m3.cell _ _ _ hp hl
        dsimp only at po3
        cases ly with
        | int k =>
          dsimp only at po3
          cases hj : L2.ixN xs.length k with
          | none => rw [hj] at po3; exact po3.elim
          | some j =>
            rw [hj] at po3
            dsimp only at po3
            by_cases hz : noRef lz = true
            · rw [if_pos hz] at po3
              have xs' := Ext.set (o := .lst (vs.set j z)) (lo' := .lst (xs.set j lz)) hp hl rfl
              have nr : noRefs xs = true := m3.nr _ _ hl
              have ms := m3.set (o := .lst (vs.set j z)) (lo' := .lst (xs.set j lz)) hp hl rfl (fun q => nomatch q) (noRefs_set hz nr) ⟨_, upd_same, (RLs.mono xs' _ _ rs).set j (RL.mono xs' _ _ p1)⟩
              refine thn (set_list pins s3 σ w3.H (.ref p) y z _ iv rv (fun H4 => H4 = upd w3.H p (.lst (vs.set j z))) I3 rfl ry rz ⟨p, vs, k, j, rfl, rl_int p3, e1, by rw [← rs.length]; exact hj, rfl⟩) fun _ s4 hq => ?_
              obtain ⟨H4, I4, hH4⟩ := hq
              subst hH4
              exact ⟨σ, _, I4, po3 ⟨w3.φ, w3.lh.set n (.lst (xs.set j lz)), upd w3.H p (.lst (vs.set j z))⟩ rfl xs' ms σ (re3.mono xs')⟩
            · rw [if_neg hz] at po3; exact po3.elim
        | _ => exact po3.elim
      | dct kvs =>
        obtain ⟨vs, e1, rs⟩ := m3.cell _ _ _ hp hl
        dsimp only at po3
        cases hk : keyL ly with
        | none => rw [hk] at po3; exact po3.elim
        | some k =>
          rw [hk] at po3
          dsimp only at po3
          by_cases hz : noRef lz = true ∧ kvs.length ≤ LIM
          · rw [if_pos hz] at po3
            have ey := key_rl hk p3
            subst ey
            have xs' := Ext.set (o := .dK (putK vs k z)) (lo' := .dct (putKL kvs k lz)) hp hl rfl
            have nr : noRefk kvs = true := m3.nr _ _ hl
            have ms := m3.set (o := .dK (putK vs k z)) (lo' := .dct (putKL kvs k lz)) hp hl rfl (fun q => nomatch q) (noRefk_put hz.1 nr) ⟨_, upd_same, rlk_put (RLk.mono xs' rs) (RL.mono xs' _ _ p1)⟩
            exact d_setItem hu I3 (DPut.k e1 (by rw [← rlk_length rs]; exact lim_lt hz.2)) ry rz fun s4 I4 => ⟨σ, _, I4, po3 ⟨w3.φ, w3.lh.set n (.dct (putKL kvs k lz)), upd w3.H p (.dK (putK vs k z))⟩ rfl xs' ms σ (re3.mono xs')⟩
          · rw [if_neg hz] at po3; exact po3.elim
      | _ => exact po3.elim
  | _ => exact po3.elim
end

/-! ### slices -/
def cutL (xs : List LV) (lo hi : Option Int) : List LV := (xs.drop (HT.sIx xs.length 0 lo)).take (HT.sIx xs.length xs.length hi - HT.sIx xs.length 0 lo)
def partL (o : Option Ev) (env : LE) (lh : LH) : Res (Option Int) := match o with
  | none => .ok none lh
  | some a => rb (a env lh) fun x lh1 => match x with
    | .int i => .ok (some i) lh1
    | _ => .stuck
def cutV' (x : LV) (lo hi : Option Int) (lh : LH) : Res LV := match x with
  | .tup xs => .ok (.tup (cutL xs lo hi)) lh
  | .fl xs => .ok (.fl (cutL xs lo hi)) lh
  | .sl xs => .ok (.fl (cutL xs lo hi)) lh
  | .ref n => (match lh[n]? with
    | some (.lst xs) => .ok (.fl (cutL xs lo hi)) lh
    | _ => .stuck)
  | _ => .stuck
def eSlice (a : Ev) (lo hi : Option Ev) : Ev := fun env lh => rb (a env lh) fun x lh1 => rb (partL lo env lh1) fun l lh2 => rb (partL hi env lh2) fun h lh3 => cutV' x l h lh3
section
variable {X : Cx} {cad : Cad} {W : WX} {pos p2 : Pos} {a : Expr} {ea : Ev}
/-- a part of a slice -/
def SP' (X : Cx) (cad : Cad) (W : WX) (e : Option Expr) (o : Option Ev) : Prop := PO X e (fun σ H Q => ∃ w env, w.H = H ∧ Emb X.K cad w ∧ RLe X.K cad w env σ ∧ Po X.K cad (fun _ (x y : Option Int) => x = y) w Q (XS W σ) (partL o env w.lh))
theorem PO.imp {e : Option Expr} {t t' : TO} (h : PO X e t) (q : ∀ σ H Q, t' σ H Q → t σ H Q) : PO X e t' := ⟨fun pins s σ H Q I z => h.run pins s σ H Q I (q σ H Q z)⟩
theorem sp_none : SP' X cad W none none := Lv.PO.imp po_none fun σ H Q ⟨w, env, eH, m, re, po⟩ => by subst eH; exact po_here (u := (none : Option Int)) po m rfl
theorem sp_some {e : Expr} {ev : Ev} (h : SE X cad W e ev) : SP' X cad W (some e) (some ev) := Lv.PO.imp (po_some h) fun σ H Q ⟨w, env, eH, m, re, po⟩ => by
  refine ⟨w, env, eH, m, re, po_bind po fun w1 l v x1 m1 r1 po1 => ?_⟩
  cases l with
  | int i => exact ⟨i, rl_int r1, po_here (u := some i) po1 m1 rfl⟩
  | _ => exact po1.elim
theorem RLs.cutV {K : PySem.W.Frag} {w : Wd} {xs : List LV} {vs : List V} (r : RLs K cad w xs vs) (lo hi : Option Int) : RLs K cad w (cutL xs lo hi) (L2.cutV vs lo hi) := by
  unfold cutL L2.cutV
  rw [← r.length]
  exact (r.drop _).take _
theorem cut_whole {xs : List LV} {lo hi : Option Int} (h : HT.sIx xs.length 0 lo = 0 ∧ HT.sIx xs.length xs.length hi = xs.length) : cutL xs lo hi = xs := by
  unfold cutL
  rw [h.1, h.2]
  simp
theorem se_slice {lo hi : Option Expr} {l h : Option Ev} (ha : SE X cad W a ea) (hl : SP' X cad W lo l) (hh : SP' X cad W hi h) : SE X cad W (.Subscript a (.Slice lo hi none p2) pos) (eSlice ea l h) := by
  refine Lv.PE.imp (pe_slice (SlR.or sl_list sl_tupA) ha hl hh) fun σ H Q ⟨w, env, eH, m, re, po⟩ => ?_
  refine ⟨w, env, eH, m, re, po_bind po fun w1 x v x1 m1 r1 po1 => ?_⟩
  refine ⟨w1, env, rfl, m1, re.mono x1, po_bind po1 fun w2 o1 o1' x2 m2 r2 po2 => ?_⟩
  subst r2
  refine ⟨w2, env, rfl, m2, (re.mono x1).mono x2, po_bind po2 fun w3 o2 o2' x3 m3 r3 po3 => ?_⟩
  subst r3
  have r1' := RL.mono x3 _ _ (RL.mono x2 _ _ r1)
  cases x with
  | tup xs =>
    obtain ⟨p, vs, rfl, pv, rs⟩ := rl_tup r1'
    refine .inr ⟨p, vs, rfl, pv.sq, fun hw => ?_, fun hw q hq => po_tup po3 m3 (rs.cutV _ _) q hq⟩
    rw [← rs.length] at hw
    have po4 : Po X.K cad (RL X.K cad) w3 Q (XS W σ) (.ok (.tup (cutL xs o1 o2)) w3.lh) := po3
    rw [cut_whole hw] at po4
    exact po_here po4 m3 (mk_tup pv rs)
  | fl xs =>
    obtain ⟨p, vs, rfl, pv, rs⟩ := rl_fl r1'
    exact .inl ⟨p, vs, rfl, pv.sq, fun q hq => po_fl po3 m3 (rs.cutV _ _) q hq⟩
  | sl xs =>
    obtain ⟨p, vs, rfl, pv, rs⟩ := rl_sl r1'
    exact .inl ⟨p, vs, rfl, pv.sq, fun q hq => po_fl po3 m3 (rs.cutV _ _) q hq⟩
  | ref n =>
    obtain ⟨p, rfl, hp⟩ := rl_ref r1'
    simp only [cutV'] at po3
    cases hl' : w3.lh[n]? with
    | none => rw [hl'] at po3; exact po3.elim
    | some lo' =>
      rw [hl'] at po3
      cases lo' with
      | lst xs =>
        obtain ⟨vs, e1, rs⟩ := m3.cell _ _ _ hp hl'
        exact .inl ⟨p, vs, rfl, .inl (.inl e1), fun q hq => po_fl po3 m3 (rs.cutV _ _) q hq⟩
      | _ => exact po3.elim
  | _ => exact po3.elim
end

/-! ### a dict of written texts as keys -/
def dPairs : List (Str × Ev) → LE → LH → Res (List (Key × LV))
  | [], _, lh => .ok [] lh
  | (k, e) :: r, env, lh => rb (e env lh) fun x lh1 => rb (dPairs r env lh1) fun xs lh2 => .ok ((.inr k, x) :: xs) lh2
def mergeL (kvs more : List (Key × LV)) : List (Key × LV) := more.foldl (fun acc kv => putKL acc kv.1 kv.2) kvs
def dictFin (n : Nat) (kvs : List (Key × LV)) (lh : LH) : Res LV := match lh[n]? with
  | some (.dct []) => if noRefk kvs = true ∧ kvs.length ≤ 15 then .ok (.ref n) (lh.set n (.dct (mergeL [] kvs))) else .stuck
  | _ => .stuck
def eDict (ks : List (Str × Ev)) : Ev := fun env lh => rb (dPairs ks env (lh ++ [.dct []])) fun kvs lh2 => dictFin lh.length kvs lh2
section
variable {X : Cx} {cad : Cad} {W : WX} {pos : Pos}
abbrev SD (X : Cx) (cad : Cad) (W : WX) (pos : Pos) (keys : List (Option Expr)) (values : List Expr) (ks : List (Str × Ev)) : Prop := PPs X pos keys values (ks.map fun p => (tC (.str p.1), tE X.K cad W p.2))
theorem sd_nil : SD X cad W pos [] [] [] := pps_nil
theorem sd_cons {k : Str} {j : Nat} {kp : Pos} {v : Expr} {ev : Ev} {ks : List (Option Expr)} {vs : List Expr} {r : List (Str × Ev)} (hv : SE X cad W v ev) (hr : SD X cad W pos ks vs r) :
    SD X cad W pos (some (.Constant (.str k) j kp) :: ks) (v :: vs) ((k, ev) :: r) := pps_cons pe_str hv hr
theorem rlk_merge {K : PySem.W.Frag} {w : Wd} : ∀ {more : List (Key × LV)} {ms : List (Key × V)} {a : List (Key × LV)} {b : List (Key × V)}, RLk K cad w more ms → RLk K cad w a b → RLk K cad w (mergeL a more) (mergeK b ms)
  | [], ms, a, b, h, g => by cases h; exact g
  | (k, x) :: more, ms, a, b, h, g => by
    obtain ⟨y, ys, rfl, r, rs⟩ := h
    show RLk K cad w (mergeL (putKL a k x) more) (mergeK (putK b k y) ys)
    exact rlk_merge rs (rlk_put g r)
theorem noRefk_merge : ∀ {more a : List (Key × LV)}, noRefk more = true → noRefk a = true → noRefk (mergeL a more) = true
  | [], _, _, h => h
  | (k, x) :: more, a, h, g => by
    simp only [noRefk, Bool.and_eq_true] at h
    show noRefk (mergeL (putKL a k x) more) = true
    exact noRefk_merge h.2 (noRefk_put h.1 g)
theorem pairs_of {σ : L2.St} {env : LE} {Q : List (V × V) → Hp → Prop} : ∀ {ks : List (Str × Ev)} {w w0 : Wd} {β : Type} {k : List (Key × LV) → LH → Res β} {R : Wd → β → V → Prop} {Q2 : VK}, Emb X.K cad w → RLe X.K cad w env σ →
    Po X.K cad R w0 Q2 (XS W σ) (rb (dPairs ks env w.lh) k) → Ext w0 w →
    (∀ (w' : Wd) (kvs : List (Key × LV)) (vs : List (Key × V)), Ext w w' → Emb X.K cad w' → RLk X.K cad w' kvs vs → Po X.K cad R w0 Q2 (XS W σ) (k kvs w'.lh) → Q (vs.map fun kv => (kV kv.1, kv.2)) w'.H) →
    tPairs (ks.map fun p => (tC (.str p.1), tE X.K cad W p.2)) σ w.H Q
  | [], w, w0, β, k, R, Q2, m, re, po, x, f => f w [] [] (Ext.refl w) m rfl po
  | (key, e) :: ks, w, w0, β, k, R, Q2, m, re, po, x, f => by
    show tE X.K cad W e σ w.H _
    have po' : Po X.K cad R w0 Q2 (XS W σ) (rb (e env w.lh) fun x lh1 => rb (rb (dPairs ks env lh1) fun xs lh2 => .ok ((.inr key, x) :: xs) lh2) k) := by
      have e2 : rb (dPairs ((key, e) :: ks) env w.lh) k = rb (e env w.lh) fun x lh1 => rb (rb (dPairs ks env lh1) fun xs lh2 => .ok ((.inr key, x) :: xs) lh2) k := by
        show rb (rb (e env w.lh) _) k = _
        cases e env w.lh <;> rfl
      rw [e2] at po; exact po
    refine ⟨w, env, rfl, m, re, po_bindW x po' fun w1 l v x1 m1 r1 po1 => ?_⟩
    have po2 : Po X.K cad R w0 Q2 (XS W σ) (rb (dPairs ks env w1.lh) fun xs lh2 => k ((.inr key, l) :: xs) lh2) := by
      have e2 : rb (rb (dPairs ks env w1.lh) fun xs lh2 => Res.ok ((Sum.inr key, l) :: xs) lh2) k = rb (dPairs ks env w1.lh) fun xs lh2 => k ((.inr key, l) :: xs) lh2 := by
        cases dPairs ks env w1.lh <;> rfl
      rw [e2] at po1; exact po1
    refine pairs_of m1 (re.mono x1) po2 (x.trans x1) fun w2 kvs vs x2 m2 r2 po3 => ?_
    exact f w2 ((.inr key, l) :: kvs) ((.inr key, v) :: vs) (x1.trans x2) m2 ⟨v, vs, rfl, RL.mono x2 _ _ r1, r2⟩ po3
theorem se_dict {keys : List (Option Expr)} {values : List Expr} {ks : List (Str × Ev)} (h : SD X cad W pos keys values ks) (hall : keys.all (·.isSome) = true) (hl : keys.length = values.length) (h0 : keys ≠ []) (h15 : keys.length ≤ 15) :
    SE X cad W (.Dict keys values pos) (eDict ks) := by
  refine Lv.PE.imp (pe_disp h hall hl h0 h15) fun σ H Q ⟨w, env, eH, m, re, po⟩ => fun D hD => ?_
  subst eH
  have x0 : Ext w ⟨w.φ ++ [D], w.lh ++ [.dct []], upd w.H D (.dK [])⟩ := Ext.cell m (.dct []) hD
  have m0 : Emb X.K cad ⟨w.φ ++ [D], w.lh ++ [.dct []], upd w.H D (.dK [])⟩ := m.cell' (.dct []) hD rfl ⟨[], upd_same, rfl⟩
  have hφ0 : (w.φ ++ [D])[w.lh.length]? = some D := by rw [← m.len]; simp
  refine pairs_of (w := ⟨w.φ ++ [D], w.lh ++ [.dct []], upd w.H D (.dK [])⟩) (w0 := w) m0 (re.mono x0) po x0 fun w2 kvs vs x2 m2 r2 po2 => ?_
  have hφ := x2.pre _ _ hφ0
  unfold dictFin at po2
  cases hl' : w2.lh[w.lh.length]? with
  | none => rw [hl'] at po2; exact po2.elim
  | some lo =>
    rw [hl'] at po2
    cases lo with
    | dct old =>
      cases old with
      | cons _ _ => exact po2.elim
      | nil =>
        obtain ⟨us, e1, rs⟩ := m2.cell _ _ _ hφ hl'
        cases rs
        dsimp only at po2
        by_cases hz : noRefk kvs = true ∧ kvs.length ≤ 15
        · rw [if_pos hz] at po2
          have xs := Ext.set (o := .dK (mergeK [] vs)) (lo' := .dct (mergeL [] kvs)) hφ hl' rfl
          have ms := m2.set (o := .dK (mergeK [] vs)) (lo' := .dct (mergeL [] kvs)) hφ hl' rfl (fun q => nomatch q) (noRefk_merge hz.1 rfl) ⟨_, upd_same, rlk_merge (RLk.mono xs r2) rfl⟩
          refine ⟨e1, vs, rfl, by rw [← rlk_length r2]; exact hz.2, ?_⟩
          exact po2 ⟨w2.φ, w2.lh.set w.lh.length (.dct (mergeL [] kvs)), upd w2.H D (.dK (mergeK [] vs))⟩ rfl ((x0.trans x2).trans xs) ms _ (mk_ref hφ)
        · rw [if_neg hz] at po2; exact po2.elim
    | _ => exact po2.elim
end
end Lv
end
section
set_option Elab.async false
set_option linter.all false
set_option maxRecDepth 100000
set_option maxHeartbeats 2000000
namespace Lv
open PySem PySem.Spec PyProof.Rows L2

/-! ### calls of built-ins by name -/
section
variable {X : Cx} {cad : Cad} {W : WX} {x : Str} {p pos : Pos} {e : Expr} {es : List Expr} {el : EvL} {id T : String} {f : List LV → LH → Res LV}
theorem se_blt (hc : ClL X cad W (fun us => call (.builtin id) us) f) (hg : Gl X x) (hm : X.mg x = none) (hv : bootBuiltins x = some (.builtin id)) (ha : SA X cad W (e :: es) el) (hn : x ≠ "__name__" := by decide) (hdb : (x == ("__debug__" : Str)) = false := by decide)
    (he : starEach (e :: es) X.env = (false, eval e X.env) :: starEach es X.env := by rfl) (hpl : (backTo pos (starEach es X.env)).any (·.1) = false := by rfl) : SE X cad W (.Call (.Name x p) (e :: es) [] pos) (eL f el) := by
  refine ⟨fun pins s σ H Q I h => ?_⟩
  refine wpAny_Call_Name_kw (ld_blt I hg hm hv ?_ hn hdb)
  refine PyProof.Rows.callWith_builtin1 (thn (ha.run pos pins s σ H _ I (many h)) fun us s1 ⟨vs, H1, I1, r1, w, ls, eH, em, rl, po⟩ => ?_) he hpl
  subst eH
  exact hc pins s1 σ w ls vs us Q I1 em rl r1 po
theorem se_bltG (hc : ClL X cad W (fun us => call (.builtin id) us) f) (hg : Gl X x) (hm : X.mg x = some (.builtin id)) (ha : SA X cad W (e :: es) el) (hdb : (x == ("__debug__" : Str)) = false := by decide)
    (he : starEach (e :: es) X.env = (false, eval e X.env) :: starEach es X.env := by rfl) (hpl : (backTo pos (starEach es X.env)).any (·.1) = false := by rfl) : SE X cad W (.Call (.Name x p) (e :: es) [] pos) (eL f el) := by
  refine ⟨fun pins s σ H Q I h => ?_⟩
  refine wpAny_Call_Name_kw (ld_glob I hg hm ?_ hdb)
  refine PyProof.Rows.callWith_builtin1 (thn (ha.run pos pins s σ H _ I (many h)) fun us s1 ⟨vs, H1, I1, r1, w, ls, eH, em, rl, po⟩ => ?_) he hpl
  subst eH
  exact hc pins s1 σ w ls vs us Q I1 em rl r1 po
theorem se_ty (hc : ClL X cad W (fun us => call (.type T) us) f) (hg : Gl X x) (hm : X.mg x = none) (hv : bootBuiltins x = some (.type T)) (ha : SA X cad W (e :: es) el) (hn : x ≠ "__name__" := by decide) (hdb : (x == ("__debug__" : Str)) = false := by decide)
    (he : starEach (e :: es) X.env = (false, eval e X.env) :: starEach es X.env := by rfl) (hpl : (backTo pos (starEach es X.env)).any (·.1) = false := by rfl) : SE X cad W (.Call (.Name x p) (e :: es) [] pos) (eL f el) := by
  refine ⟨fun pins s σ H Q I h => ?_⟩
  refine wpAny_Call_Name_kw (ld_blt I hg hm hv ?_ hn hdb)
  refine PyProof.Rows.callWith_type1 (thn (ha.run pos pins s σ H _ I (many h)) fun us s1 ⟨vs, H1, I1, r1, w, ls, eH, em, rl, po⟩ => ?_) he hpl
  subst eH
  exact hc pins s1 σ w ls vs us Q I1 em rl r1 po
end
section
variable {K : PySem.W.Frag} {cad : Cad} {w : Wd}
theorem rls1 {l : LV} {xs : List V} (h : RLs K cad w [l] xs) : ∃ v, xs = [v] ∧ RL K cad w l v := by
  simp only [RLs] at h
  obtain ⟨y, ys, rfl, r, rfl⟩ := h
  exact ⟨y, rfl, r⟩
theorem rls2 {l k : LV} {xs : List V} (h : RLs K cad w [l, k] xs) : ∃ v u, xs = [v, u] ∧ RL K cad w l v ∧ RL K cad w k u := by
  simp only [RLs] at h
  obtain ⟨y, ys, rfl, r, z, zs, rfl, r2, rfl⟩ := h
  exact ⟨y, z, rfl, r, r2⟩
end
/-! ### the mirrors -/
def fInt : List LV → LH → Res LV
  | [.int i], h => .ok (.int i) h
  | [.bl k], h => .ok (.int (if k then 1 else 0)) h
  | _, _ => .stuck
def fAbs : List LV → LH → Res LV
  | [.int i], h => .ok (.int (if i < 0 then -i else i)) h
  | _, _ => .stuck
def fMin : List LV → LH → Res LV
  | [.int i, .int j], h => .ok (.int (if j < i then j else i)) h
  | _, _ => .stuck
def fMax : List LV → LH → Res LV
  | [.int i, .int j], h => .ok (.int (if j > i then j else i)) h
  | _, _ => .stuck
def fGcd : List LV → LH → Res LV
  | [.int i, .int j], h => .ok (.int ((Nat.gcd i.natAbs j.natAbs : Nat) : Int)) h
  | _, _ => .stuck
/-- the items of a sequence, by value or by number -/
def seqOf : LV → LH → Option (List LV)
  | .tup xs, _ => some xs
  | .fl xs, _ => some xs
  | .sl xs, _ => some xs
  | .ref n, lh => (match lh[n]? with
    | some (.lst xs) => some xs
    | _ => none)
  | _, _ => none
def fLen : List LV → LH → Res LV
  | [.str y], h => if y.length ≤ LIM then .ok (.int (y.length : Nat)) h else .stuck
  | [x], h => (match seqOf x h with
    | some xs => .ok (.int (xs.length : Nat)) h
    | none => (match x with
      | .ref n => (match h[n]? with
        | some (.dct kvs) => .ok (.int (kvs.length : Nat)) h
        | _ => .stuck)
      | _ => .stuck))
  | _, _ => .stuck
/-- list(x): mt: whether it is written later on -/
def fList (mt : Bool) : List LV → LH → Res LV
  | [x], h => (match seqOf x h with
    | some xs => if mt = true then (if noRefs xs = true then .ok (.ref h.length) (h ++ [.lst xs]) else .stuck) else .ok (.fl xs) h
    | none => .stuck)
  | _, _ => .stuck
def fTuple : List LV → LH → Res LV
  | [x], h => (match seqOf x h with
    | some xs => .ok (.tup xs) h
    | none => .stuck)
  | _, _ => .stuck
def blsOf : List LV → Option (List Bool)
  | [] => some []
  | .bl b :: xs => (blsOf xs).map (b :: ·)
  | _ :: _ => none
def fAll : List LV → LH → Res LV
  | [.fl xs], h => (match blsOf xs with | some bs => .ok (.bl (bs.all id)) h | none => .stuck)
  | _, _ => .stuck
def fAny : List LV → LH → Res LV
  | [.fl xs], h => (match blsOf xs with | some bs => .ok (.bl (bs.any id)) h | none => .stuck)
  | _, _ => .stuck
section
variable {X : Cx} {cad : Cad} {W : WX}
theorem cl_int : ClL X cad W (fun us => call (.type "int") us) fInt := cl_of call_int1 fun w ls xs Q E m r po => by
  match ls with
  | [.int i] => obtain ⟨v, rfl, r1⟩ := rls1 r; exact .inl ⟨i, by rw [rl_int r1], po_int po m⟩
  | [.bl k] => obtain ⟨v, rfl, r1⟩ := rls1 r; exact .inr ⟨k, by rw [rl_bl r1], po_int po m⟩
  | [] => exact po.elim
  | [.non] => exact po.elim
  | [.str _] => exact po.elim
  | [.tup _] => exact po.elim
  | [.fl _] => exact po.elim
  | [.sl _] => exact po.elim
  | [.obj _ _] => exact po.elim
  | [.ref _] => exact po.elim
  | [.con _] => exact po.elim
  | a :: _ :: _ => exact absurd po (by cases a <;> exact id)
theorem cl_abs : ClL X cad W (fun us => call (.builtin "abs") us) fAbs := cl_of call_abs fun w ls xs Q E m r po => by
  unfold fAbs at po
  split at po
  · obtain ⟨v, rfl, r1⟩ := rls1 r; exact ⟨_, by rw [rl_int r1], po_int po m⟩
  · exact po.elim
theorem cl_min (hc : X.calm = true) : ClL X cad W (fun us => call (.builtin "min") us) fMin := cl_of (call_min2 hc) fun w ls xs Q E m r po => by
  unfold fMin at po
  split at po
  · obtain ⟨v, u, rfl, r1, r2⟩ := rls2 r; exact ⟨_, _, by rw [rl_int r1, rl_int r2], po_int po m⟩
  · exact po.elim
theorem cl_max (hc : X.calm = true) : ClL X cad W (fun us => call (.builtin "max") us) fMax := cl_of (call_max2 hc) fun w ls xs Q E m r po => by
  unfold fMax at po
  split at po
  · obtain ⟨v, u, rfl, r1, r2⟩ := rls2 r; exact ⟨_, _, by rw [rl_int r1, rl_int r2], po_int po m⟩
  · exact po.elim
theorem cl_gcd : ClL X cad W (fun us => call (.builtin "math.gcd") us) fGcd := cl_of cr_gcd fun w ls xs Q E m r po => by
  unfold fGcd at po
  split at po
  · obtain ⟨v, u, rfl, r1, r2⟩ := rls2 r; exact ⟨_, _, by rw [rl_int r1, rl_int r2], po_int po m⟩
  · exact po.elim
theorem seqOf_ok {K : PySem.W.Frag} {w : Wd} {l : LV} {xs : List LV} {v : V} (h : seqOf l w.lh = some xs) (r : RL K cad w l v) (m : Emb K cad w) : ∃ a vs, v = .ref a ∧ RLs K cad w xs vs ∧ ((SqL K w.H a vs ∧ ∀ ys, l ≠ .tup ys) ∨ (VT K w a vs ∧ l = .tup xs)) := by
  cases l with
  | tup ys => cases h; obtain ⟨a, vs, rfl, p, s⟩ := rl_tup r; exact ⟨a, vs, rfl, s, .inr ⟨p, rfl⟩⟩
  | fl ys => cases h; obtain ⟨a, vs, rfl, p, s⟩ := rl_fl r; exact ⟨a, vs, rfl, s, .inl ⟨p.sq, fun _ h => nomatch h⟩⟩
  | sl ys => cases h; obtain ⟨a, vs, rfl, p, s⟩ := rl_sl r; exact ⟨a, vs, rfl, s, .inl ⟨p.sq, fun _ h => nomatch h⟩⟩
  | ref n =>
    obtain ⟨a, rfl, ha⟩ := rl_ref r
    simp only [seqOf] at h
    cases hl : w.lh[n]? with
    | none => rw [hl] at h; cases h
    | some lo =>
      rw [hl] at h
      cases lo with
      | lst ys =>
        cases h
        obtain ⟨vs, e, s⟩ := m.cell _ _ _ ha hl
        exact ⟨a, vs, rfl, s, .inl ⟨.inl (.inl e), fun _ h => nomatch h⟩⟩
      | _ => cases h
  | _ => cases h
theorem cl_len : ClL X cad W (fun us => call (.builtin "len") us) fLen := cl_of (CallR.or call_len call_lenD) fun w ls xs Q E m r po => by
  unfold fLen at po
  split at po
  · obtain ⟨v, rfl, r1⟩ := rls1 r
    split at po
    · rename_i hz
      refine .inl ⟨_, _, rfl, ?_, po_int po m⟩
      rw [rl_str r1]
      exact ⟨lim_line hz, rfl⟩
    · exact po.elim
  · obtain ⟨v, rfl, r1⟩ := rls1 r
    split at po
    · rename_i ys hq
      obtain ⟨a, vs, rfl, s, p⟩ := seqOf_ok hq r1 m
      refine .inl ⟨_, vs.length, rfl, ?_, by rw [s.length] at po; exact po_int po m⟩
      rcases p with ⟨p, _⟩ | ⟨p, _⟩
      · exact .inl ⟨vs, p, rfl⟩
      · exact .inr ⟨vs, p.sq, rfl⟩
    · split at po
      · rename_i n
        split at po
        · rename_i kvs hl
          obtain ⟨a, rfl, ha⟩ := rl_ref r1
          obtain ⟨vs, e, s⟩ := m.cell _ _ _ ha hl
          refine .inr ⟨a, vs, rfl, e, by rw [rlk_length s] at po; exact po_int po m⟩
        · exact po.elim
      · exact po.elim
  · exact po.elim
theorem cl_list (mt : Bool) : ClL X cad W (fun us => call (.type "list") us) (fList mt) := cl_of call_list_of fun w ls xs Q E m r po => by
  unfold fList at po
  split at po
  · obtain ⟨v, rfl, r1⟩ := rls1 r
    split at po
    · rename_i ys hq
      obtain ⟨a, vs, rfl, s, p⟩ := seqOf_ok hq r1 m
      refine ⟨a, vs, rfl, p.elim (fun z => .inl z.1) (fun z => .inr z.1.sq), fun l hl => ?_⟩
      split at po
      · split at po
        · rename_i hn; exact po_lst hn po m s l hl
        · exact po.elim
      · exact po_fl po m s l hl
    · exact po.elim
  · exact po.elim
theorem cl_tuple : ClL X cad W (fun us => call (.type "tuple") us) fTuple := cl_of call_tuple_of fun w ls xs Q E m r po => by
  unfold fTuple at po
  split at po
  · obtain ⟨v, rfl, r1⟩ := rls1 r
    split at po
    · rename_i ys hq
      obtain ⟨a, vs, rfl, s, p⟩ := seqOf_ok hq r1 m
      rcases p with ⟨p, _⟩ | ⟨p, e⟩
      · exact ⟨a, vs, rfl, .inl ⟨p, fun l hl => po_tup po m s l hl⟩⟩
      · exact ⟨a, vs, rfl, .inr ⟨p.sq, po_here po m (mk_tup p s)⟩⟩
    · exact po.elim
  · exact po.elim
theorem blsOf_ok {K : PySem.W.Frag} {w : Wd} : ∀ {xs : List LV} {bs : List Bool} {vs : List V}, blsOf xs = some bs → RLs K cad w xs vs → vs = bs.map V.bl
  | [], bs, vs, h, r => by simp only [RLs] at r; subst r; cases h; rfl
  | .bl b :: xs, bs, vs, h, r => by
    simp only [RLs] at r
    obtain ⟨v, us, rfl, r1, r2⟩ := r
    simp only [blsOf] at h
    cases q : blsOf xs with
    | none => rw [q] at h; cases h
    | some cs =>
      rw [q] at h
      have : b :: cs = bs := by simpa using h
      subst this
      rw [blsOf_ok q r2, show v = V.bl b by simpa only [RL] using r1]; rfl
  | .non :: _, _, _, h, _ => nomatch h
  | .int _ :: _, _, _, h, _ => nomatch h
  | .str _ :: _, _, _, h, _ => nomatch h
  | .tup _ :: _, _, _, h, _ => nomatch h
  | .fl _ :: _, _, _, h, _ => nomatch h
  | .sl _ :: _, _, _, h, _ => nomatch h
  | .obj _ _ :: _, _, _, h, _ => nomatch h
  | .ref _ :: _, _, _, h, _ => nomatch h
  | .con _ :: _, _, _, h, _ => nomatch h
theorem cl_all (hc : X.calm = true) : ClL X cad W (fun us => call (.builtin "all") us) fAll := cl_of (cr_all hc) fun w ls xs Q E m r po => by
  unfold fAll at po
  split at po
  · obtain ⟨v, rfl, r1⟩ := rls1 r
    split at po
    · rename_i bs hq
      obtain ⟨a, vs, rfl, p, s⟩ := rl_fl r1
      exact ⟨a, bs, rfl, by rw [← blsOf_ok hq s]; exact p.sq, po_bl po m⟩
    · exact po.elim
  · exact po.elim
theorem cl_any (hc : X.calm = true) : ClL X cad W (fun us => call (.builtin "any") us) fAny := cl_of (cr_any hc) fun w ls xs Q E m r po => by
  unfold fAny at po
  split at po
  · obtain ⟨v, rfl, r1⟩ := rls1 r
    split at po
    · rename_i bs hq
      obtain ⟨a, vs, rfl, p, s⟩ := rl_fl r1
      exact ⟨a, bs, rfl, by rw [← blsOf_ok hq s]; exact p.sq, po_bl po m⟩
    · exact po.elim
  · exact po.elim
end
end Lv
end
section
set_option Elab.async false
set_option linter.all false
set_option maxRecDepth 100000
set_option maxHeartbeats 2000000
namespace Lv
open PySem PySem.Spec PyProof.Rows L2

/-! ### plain data -/
mutual
def dOf : LV → Option PyData
  | .non => some .none
  | .bl b => some (.bool b)
  | .int i => some (.int i)
  | .str x => some (.str x)
  | .tup xs => match dOfs xs with | some ds => some (.tuple ds) | none => none
  | .fl xs => match dOfs xs with | some ds => some (.list ds) | none => none
  | .sl xs => match dOfs xs with | some ds => some (.list ds) | none => none
  | .obj _ _ => none
  | .ref _ => none
  | .con _ => none
def dOfs : List LV → Option (List PyData)
  | [] => some []
  | x :: xs => match dOf x, dOfs xs with
    | some d, some ds => some (d :: ds)
    | _, _ => none
end
def dTop (l : LV) (lh : LH) : Option PyData := match l with
  | .ref n => (match lh[n]? with
    | some (.lst xs) => (match dOfs xs with | some ds => some (.list ds) | none => none)
    | _ => none)
  | l => dOf l
def eqV' (x y : LV) (lh : LH) : Res LV := match dTop x lh, dTop y lh with
  | some d, some e => if SeqAt.shaped d = true ∧ SeqAt.shaped e = true then .ok (.bl (PyData.eqv d e)) lh else .stuck
  | _, _ => .stuck
def neV' (x y : LV) (lh : LH) : Res LV := match dTop x lh, dTop y lh with
  | some d, some e => if SeqAt.shaped d = true ∧ SeqAt.shaped e = true then .ok (.bl (!PyData.eqv d e)) lh else .stuck
  | _, _ => .stuck
/-- flat items: for in and not in -/
def flatL : LV → Bool
  | .non => true
  | .bl _ => true
  | .int _ => true
  | .str _ => true
  | _ => false
def eqL : LV → LV → Bool
  | .non, .non => true
  | .bl a, .bl b => a == b
  | .bl a, .int b => (if a then 1 else 0) == b
  | .int a, .bl b => a == (if b then 1 else 0)
  | .int a, .int b => a == b
  | .str a, .str b => a == b
  | _, _ => false
def inL (neg : Bool) (x y : LV) (lh : LH) : Res LV := match seqOf y lh with
  | some xs => if flatL x = true ∧ xs.all flatL = true then .ok (.bl (if neg then !(xs.any fun z => eqL z x) else xs.any fun z => eqL z x)) lh else .stuck
  | none => .stuck
section
variable {K : PySem.W.Frag} {cad : Cad} {w : Wd}
mutual
theorem dOf_ok : ∀ (l : LV) (v : V) (d : PyData), dOf l = some d → RL K cad w l v → Dp K w.H v d
  | .non, v, d, h, r => by simp only [dOf] at h; cases h; rw [rl_non r]; exact .non
  | .bl b, v, d, h, r => by simp only [dOf] at h; cases h; rw [rl_bl r]; exact .bl b
  | .int b, v, d, h, r => by simp only [dOf] at h; cases h; rw [rl_int r]; exact .int b
  | .str b, v, d, h, r => by simp only [dOf] at h; cases h; rw [rl_str r]; exact .str b
  | .tup xs, v, d, h, r => by
    simp only [dOf] at h
    obtain ⟨a, vs, rfl, p, s⟩ := rl_tup r
    cases q : dOfs xs with
    | none => rw [q] at h; cases h
    | some ds => rw [q] at h; cases h; exact .tup p.sq (dOfs_ok xs vs ds q s)
  | .fl xs, v, d, h, r => by
    simp only [dOf] at h
    obtain ⟨a, vs, rfl, p, s⟩ := rl_fl r
    cases q : dOfs xs with
    | none => rw [q] at h; cases h
    | some ds => rw [q] at h; cases h; exact .lst p.sq (dOfs_ok xs vs ds q s)
  | .sl xs, v, d, h, r => by
    simp only [dOf] at h
    obtain ⟨a, vs, rfl, p, s⟩ := rl_sl r
    cases q : dOfs xs with
    | none => rw [q] at h; cases h
    | some ds => rw [q] at h; cases h; exact .lst p.sq (dOfs_ok xs vs ds q s)
  | .obj _ _, v, d, h, r => by simp [dOf] at h
  | .ref _, v, d, h, r => by simp [dOf] at h
  | .con _, v, d, h, r => by simp [dOf] at h
theorem dOfs_ok : ∀ (l : List LV) (vs : List V) (ds : List PyData), dOfs l = some ds → RLs K cad w l vs → DpAll K w.H vs ds
  | [], vs, ds, h, r => by
    simp only [dOfs] at h; cases h
    simp only [RLs] at r; subst r; exact .nil
  | x :: xs, vs, ds, h, r => by
    simp only [RLs] at r
    obtain ⟨v, us, rfl, r1, r2⟩ := r
    simp only [dOfs] at h
    cases q : dOf x with
    | none => rw [q] at h; cases h
    | some d =>
      cases q2 : dOfs xs with
      | none => rw [q, q2] at h; cases h
      | some es =>
        rw [q, q2] at h
        cases h
        exact .cons (dOf_ok x v d q r1) (dOfs_ok xs us es q2 r2)
end
theorem dTop_ok {l : LV} {v : V} {d : PyData} (m : Emb K cad w) (h : dTop l w.lh = some d) (r : RL K cad w l v) : Dp K w.H v d := by
  cases l with
  | ref n =>
    obtain ⟨a, rfl, ha⟩ := rl_ref r
    simp only [dTop] at h
    cases hl : w.lh[n]? with
    | none => rw [hl] at h; cases h
    | some lo =>
      rw [hl] at h
      cases lo with
      | lst ys =>
        obtain ⟨vs, e, s⟩ := m.cell _ _ _ ha hl
        dsimp only at h
        cases q : dOfs ys with
        | none => rw [q] at h; cases h
        | some ds => rw [q] at h; cases h; exact .lst (.inl (.inl e)) (dOfs_ok ys vs ds q s)
      | _ => cases h
  | _ => exact dOf_ok _ v d h r
theorem flat_rl {l : LV} {v : V} (h : flatL l = true) (r : RL K cad w l v) : flatV v = true := by
  cases l with
  | non => rw [rl_non r]; rfl
  | bl b => rw [rl_bl r]; rfl
  | int b => rw [rl_int r]; rfl
  | str b => rw [rl_str r]; rfl
  | _ => cases h
theorem eqL_rl {l k : LV} {v u : V} (h : flatL l = true) (g : flatL k = true) (r : RL K cad w l v) (s : RL K cad w k u) : eqV v u = eqL l k := by
  cases l with
  | non =>
    rw [rl_non r]
    cases k with
    | non => rw [rl_non s]; rfl
    | bl b => rw [rl_bl s]; rfl
    | int b => rw [rl_int s]; rfl
    | str b => rw [rl_str s]; rfl
    | _ => cases g
  | bl a =>
    rw [rl_bl r]
    cases k with
    | non => rw [rl_non s]; rfl
    | bl b => rw [rl_bl s]; rfl
    | int b => rw [rl_int s]; rfl
    | str b => rw [rl_str s]; rfl
    | _ => cases g
  | int a =>
    rw [rl_int r]
    cases k with
    | non => rw [rl_non s]; rfl
    | bl b => rw [rl_bl s]; rfl
    | int b => rw [rl_int s]; rfl
    | str b => rw [rl_str s]; rfl
    | _ => cases g
  | str a =>
    rw [rl_str r]
    cases k with
    | non => rw [rl_non s]; rfl
    | bl b => rw [rl_bl s]; rfl
    | int b => rw [rl_int s]; rfl
    | str b => rw [rl_str s]; rfl
    | _ => cases g
  | _ => cases h
theorem flats_rl : ∀ {xs : List LV} {vs : List V}, xs.all flatL = true → RLs K cad w xs vs → vs.all flatV = true
  | [], vs, h, r => by simp only [RLs] at r; subst r; rfl
  | x :: xs, vs, h, r => by
    simp only [RLs] at r
    obtain ⟨v, us, rfl, r1, r2⟩ := r
    rw [List.all_cons, Bool.and_eq_true] at h
    rw [List.all_cons, flat_rl h.1 r1, flats_rl h.2 r2]; rfl
theorem any_rl {l : LV} {v : V} (g : flatL l = true) (s : RL K cad w l v) : ∀ {xs : List LV} {vs : List V}, xs.all flatL = true → RLs K cad w xs vs → inV v vs = xs.any fun z => eqL z l
  | [], vs, h, r => by simp only [RLs] at r; subst r; rfl
  | x :: xs, vs, h, r => by
    simp only [RLs] at r
    obtain ⟨u, us, rfl, r1, r2⟩ := r
    rw [List.all_cons, Bool.and_eq_true] at h
    have ih := any_rl g s h.2 r2
    unfold inV at ih ⊢
    rw [List.any_cons, List.any_cons, ih, eqL_rl h.1 g r1 s]
end
section
variable {X : Cx} {cad : Cad} {W : WX}
theorem o_eq (hu : X.A.units + 64 < cLine) : Op2 X cad W (compareOp .Eq) eqV' := op2_of (op_eqD hu) fun w l1 l2 x y Q E m r1 r2 po => by
  unfold eqV' at po
  split at po
  · rename_i d e h1 h2
    split at po
    · rename_i hz; exact ⟨d, e, dTop_ok m h1 r1, dTop_ok m h2 r2, hz.1, hz.2, po_bl po m⟩
    · exact po.elim
  · exact po.elim
theorem o_ne (hu : X.A.units + 64 < cLine) : Op2 X cad W (compareOp .NotEq) neV' := op2_of (op_neD hu) fun w l1 l2 x y Q E m r1 r2 po => by
  unfold neV' at po
  split at po
  · rename_i d e h1 h2
    split at po
    · rename_i hz; exact ⟨d, e, dTop_ok m h1 r1, dTop_ok m h2 r2, hz.1, hz.2, po_bl po m⟩
    · exact po.elim
  · exact po.elim
theorem in_of {neg : Bool} {w : Wd} {l1 l2 : LV} {x y : V} {Q : VK} {E : XK} (m : Emb X.K cad w) (r1 : RL X.K cad w l1 x) (r2 : RL X.K cad w l2 y) (po : Po X.K cad (RL X.K cad) w Q E (inL neg l1 l2 w.lh)) : rIn X.K neg x y w.H Q := by
  unfold inL at po
  split at po
  · rename_i xs hq
    split at po
    · rename_i hz
      obtain ⟨a, vs, rfl, s, p⟩ := seqOf_ok hq r2 m
      refine ⟨a, vs, rfl, p.elim (fun z => .inl z.1) (fun z => .inr z.1.sq), flat_rl hz.1 r1, flats_rl hz.2 s, ?_⟩
      rw [any_rl hz.1 r1 hz.2 s]
      exact po_bl po m
    · exact po.elim
  · exact po.elim
theorem o_in : Op2 X cad W (compareOp .In) (inL false) := op2_of op_in_seq fun w l1 l2 x y Q E m r1 r2 po => in_of m r1 r2 po
theorem o_notin : Op2 X cad W (compareOp .NotIn) (inL true) := op2_of op_notIn_seq fun w l1 l2 x y Q E m r1 r2 po => in_of m r1 r2 po
end

/-! ### repr of plain data -/
def fRepr : List LV → LH → Res LV
  | [x], lh => (match dTop x lh with
    | some d => if d.showable = true ∧ d.hasDict = false ∧ d.depth ≤ 40 ∧ d.shown.length ≤ LIM then .ok (.str d.shown) lh else .stuck
    | none => .stuck)
  | _, _ => .stuck
section
variable {X : Cx} {cad : Cad} {W : WX}
theorem cl_repr (hg : X.A.guards = some []) (hu : X.A.units + 64 < cLine) : ClL X cad W (fun us => call (.builtin "repr") us) fRepr := fun pins s σ w ls xs us Q I m r q po => by
  unfold fRepr at po
  split at po
  · obtain ⟨v, rfl, r1⟩ := rls1 r
    obtain ⟨u, rfl, rv⟩ := vals1 q
    split at po
    · rename_i d hd
      split at po
      · rename_i hz
        obtain ⟨h1, h2, h3, h4⟩ := hz
        have dp := dTop_ok m hd r1
        have hl : d.shown.length ≤ sizeLine := lim_line h4
        cases dp with
        | non =>
          cases rv
          exact PySem.P.repr_of_none ⟨.str _, w.H, I.tok _, ⟨_, rfl⟩, po_str (by simpa [PyData.shown] using po) m⟩
        | bl b =>
          cases rv
          exact PySem.P.repr_of_bool ⟨.str _, w.H, I.tok _, ⟨_, rfl⟩, po_str (by simpa [PyData.shown] using po) m⟩
        | int i =>
          obtain ⟨t, rfl⟩ := rv
          exact PySem.P.repr_of_int (by simpa [PyData.showable] using h1) ⟨.str _, w.H, I.tok _, ⟨_, rfl⟩, po_str (by simpa [PyData.shown] using po) m⟩
        | str z =>
          obtain ⟨t, rfl⟩ := rv
          exact PySem.P.repr_of_str ⟨.str _, w.H, I.tok _, ⟨_, rfl⟩, po_str (by simpa [PyData.shown] using po) m⟩ (by simpa [PyData.shown] using hl)
        | lst hs ha =>
          cases rv
          obtain ⟨as, rd⟩ := Dp.reads I _ _ _ (Dp.lst hs ha) (show RelV (.ref _) (.ref _) from rfl)
          exact repr_of_reads' rd h1 (PyData.noDict_hsm h2) hg (by omega) (fun _ _ e => e) (fun h' u tk hk => ⟨.str _, w.H, I.kept hk, ⟨_, rfl⟩, po_str po m⟩) hl
        | tup hs ha =>
          cases rv
          obtain ⟨as, rd⟩ := Dp.reads I _ _ _ (Dp.tup hs ha) (show RelV (.ref _) (.ref _) from rfl)
          exact repr_of_reads' rd h1 (PyData.noDict_hsm h2) hg (by omega) (fun _ _ e => e) (fun h' u tk hk => ⟨.str _, w.H, I.kept hk, ⟨_, rfl⟩, po_str po m⟩) hl
      · exact po.elim
    · exact po.elim
  · exact po.elim
end
end Lv
end
section
set_option Elab.async false
set_option linter.all false
set_option maxRecDepth 100000
set_option maxHeartbeats 2000000
namespace Lv
open PySem PySem.Spec PyProof.Rows L2

/-! ### isinstance -/
inductive Tag where
  | b (T : String) | o (c : Nat)
  deriving DecidableEq
def tagOf : LV → LH → Option Tag
  | .non, _ => some (.b "NoneType")
  | .bl _, _ => some (.b "bool")
  | .int _, _ => some (.b "int")
  | .str _, _ => some (.b "str")
  | .tup _, _ => some (.b "tuple")
  | .fl _, _ => some (.b "list")
  | .sl _, _ => some (.b "list")
  | .obj c _, _ => some (.o c)
  | .ref n, lh => (match lh[n]? with
    | some (.lst _) => some (.b "list")
    | some (.dct _) => some (.b "dict")
    | some (.ins c _) => some (.o c)
    | _ => none)
  | .con _, _ => none
/-- what is asked of an own class whose instances are asked for their class -/
structure InsF (K : PySem.W.Frag) (C : Addr) : Prop where
  cl : Cls K C
  ha : PySem.W.findIn K (.ref C) "__class__" = some (some (.builtin "object.__class__"))
  hn : PySem.W.specialIn K (.builtin "object.__class__") "__get__" = some (some (.builtin "getset_descriptor.__get__"))
  ht : PySem.W.takesIn K (.builtin "object.__class__") = some true
  hm : PySem.W.mroIn K C (.type "object") = some true
def tagV (cad : Cad) : Tag → Value
  | .b T => .type T
  | .o c => .ref (cad c)
def fIsi (tbl : List (Tag × Bool)) : LV → LH → Res LV := fun x lh => match tagOf x lh with
  | some t => (match tbl.lookup t with | some r => .ok (.bl r) lh | none => .stuck)
  | none => .stuck
/-- the table's answers are right -/
structure IsiOk (X : Cx) (cad : Cad) (us : List Value) (tbl : List (Tag × Bool)) : Prop where
  kit : ∀ t r, tbl.lookup t = some r → PySem.W.kitAny X.K (tagV cad t) us = some r
  ins : ∀ c r, tbl.lookup (.o c) = some r → InsF X.K (cad c)
theorem IsiOk.nil {X : Cx} {cad : Cad} {us : List Value} : IsiOk X cad us [] := ⟨fun t r h => by simp at h, fun c r h => by simp at h⟩
theorem IsiOk.blt {X : Cx} {cad : Cad} {us : List Value} {tbl : List (Tag × Bool)} {T : String} {r : Bool} (h : PySem.W.kitAny X.K (.type T) us = some r) (k : IsiOk X cad us tbl) : IsiOk X cad us ((.b T, r) :: tbl) := by
  refine ⟨fun t r' e => ?_, fun c r' e => ?_⟩
  · rw [List.lookup_cons] at e
    by_cases ht : t = .b T
    · subst ht; simp at e; subst e; exact h
    · have : (t == Tag.b T) = false := by simpa using ht
      rw [this] at e; exact k.kit t r' e
  · rw [List.lookup_cons] at e
    have : ((Tag.o c : Tag) == Tag.b T) = false := rfl
    rw [this] at e; exact k.ins c r' e
theorem IsiOk.own {X : Cx} {cad : Cad} {us : List Value} {tbl : List (Tag × Bool)} {c : Nat} {r : Bool} (hi : InsF X.K (cad c)) (h : PySem.W.kitAny X.K (.ref (cad c)) us = some r) (k : IsiOk X cad us tbl) : IsiOk X cad us ((.o c, r) :: tbl) := by
  refine ⟨fun t r' e => ?_, fun c' r' e => ?_⟩
  · rw [List.lookup_cons] at e
    by_cases ht : t = .o c
    · subst ht; simp at e; subst e; exact h
    · have : (t == Tag.o c) = false := by simpa using ht
      rw [this] at e; exact k.kit t r' e
  · rw [List.lookup_cons] at e
    by_cases ht : c' = c
    · subst ht; exact hi
    · have : ((Tag.o c' : Tag) == Tag.o c) = false := by simpa using ht
      rw [this] at e; exact k.ins c' r' e
theorem kitAny_one {K : PySem.W.Frag} {t c : Value} {r : Bool} (h : PySem.W.kitAny K t [c] = some r) : PySem.W.kitOne K t c = some r := by
  unfold PySem.W.kitAny at h
  split at h
  · rename_i q; rw [q]; exact h
  · rename_i q; rw [q]; simpa [PySem.W.kitAny] using h
  · cases h
section
variable {X : Cx} {cad : Cad} {W : WX} {w : Wd} {tbl : List (Tag × Bool)} {us : List Value}
theorem tag_ok {l : LV} {x : V} {t : Tag} (m : Emb X.K cad w) (r : RL X.K cad w l x) (h : tagOf l w.lh = some t) (hi : ∀ c, t = .o c → InsF X.K (cad c)) : TyX X.K w.H x (tagV cad t) := by
  have ins : ∀ {c : Nat} {a dx : Addr} {fs : List (Str × V)}, w.H a = some (.ins (cad c) dx fs) → t = .o c → TyX X.K w.H (.ref a) (tagV cad t) := by
    intro c a dx fs e et
    subst et
    obtain ⟨k1, k2, k3, k4, k5⟩ := hi c rfl
    exact .base (.ins e k1 k2 k3 k4 k5)
  cases l with
  | non => cases h; rw [rl_non r]; exact .base .non
  | bl b => cases h; rw [rl_bl r]; exact .base (.bl b)
  | int b => cases h; rw [rl_int r]; exact .base (.int b)
  | str b => cases h; rw [rl_str r]; exact .base (.str b)
  | tup xs =>
    cases h
    obtain ⟨a, vs, rfl, p, _⟩ := rl_tup r
    rcases p with ⟨p | ⟨o, p⟩, _⟩ | ⟨o, its, n, e, c, _⟩
    · exact .base (.tup p)
    · exact .fTuple p
    · exact .kTuple e c
  | fl xs => cases h; obtain ⟨a, vs, rfl, p, _⟩ := rl_fl r; exact .base (.lst p.1)
  | sl xs =>
    cases h
    obtain ⟨a, vs, rfl, p, _⟩ := rl_sl r
    rcases p with ⟨⟨o, p⟩, _⟩ | ⟨o, its, n, e, c, _⟩
    · exact .base (.frz p)
    · exact .kList e c
  | obj c fs =>
    cases h
    obtain ⟨a, dx, vs, rfl, e, _⟩ := rl_obj r
    exact ins e rfl
  | ref n =>
    obtain ⟨a, rfl, ha⟩ := rl_ref r
    simp only [tagOf] at h
    cases hl : w.lh[n]? with
    | none => rw [hl] at h; cases h
    | some lo =>
      rw [hl] at h
      cases lo with
      | lst ys => cases h; obtain ⟨vs, e, _⟩ := m.cell _ _ _ ha hl; exact .base (.lst e)
      | dct ys => cases h; obtain ⟨vs, e, _⟩ := m.cell _ _ _ ha hl; exact .base (.dK e)
      | ins c fs => cases h; obtain ⟨dx, vs, e, _⟩ := m.cell _ _ _ ha hl; exact ins e rfl
      | dead => cases h
      | rls _ => cases h
      | held _ => cases h
  | con v => cases h
theorem isi_of {l : LV} {x : V} {Q : VK} {E : XK} (ok : IsiOk X cad us tbl) (m : Emb X.K cad w) (r : RL X.K cad w l x) (po : Po X.K cad (RL X.K cad) w Q E (fIsi tbl l w.lh)) :
    ∃ t b, TyX X.K w.H x t ∧ PySem.W.kitAny X.K t us = some b ∧ Q (.bl b) w.H ∧ fIsi tbl l w.lh = .ok (.bl b) w.lh := by
  unfold fIsi at po ⊢
  split at po
  · rename_i t ht
    split at po
    · rename_i b hb
      exact ⟨_, b, tag_ok m r ht (fun c e => by subst e; exact ok.ins c b hb), ok.kit t b hb, po_bl po m, rfl⟩
    · exact po.elim
  · exact po.elim
variable {e c : Expr} {ea : Ev} {p pos : Pos}
/-- isinstance(e, C) -/
theorem se_isi {u : V} {cu : Value} (ok : IsiOk X cad [cu] tbl) (hcu : ClsV u cu) (hg : Gl X "isinstance") (hm : X.mg "isinstance" = none) (hv : bootBuiltins "isinstance" = some (.builtin "isinstance")) (he : SE X cad W e ea) (hc : PE X c (tC u))
    (h1 : starEach [e, c] X.env = (false, eval e X.env) :: starEach [c] X.env := by rfl) (h2 : starEach [c] X.env = (false, eval c X.env) :: starEach [] X.env := by rfl) (hpl : (backTo pos (starEach [c] X.env)).any (·.1) = false := by rfl) :
    SE X cad W (.Call (.Name "isinstance" p) [e, c] [] pos) (eU (fIsi tbl) ea) := by
  refine ⟨fun pins s σ H Q I h => ?_⟩
  refine (pe_callB call_isi hg hm hv (pa_cons he (pa_cons hc pa_nil h2) h1) (by decide) (by decide) h1 hpl).run pins s σ H Q I ?_
  obtain ⟨w, env, eH, m, re, po⟩ := h
  refine ⟨w, env, eH, m, re, po_bind po fun w1 l x x1 m1 r1 po1 => ?_⟩
  obtain ⟨t, b, ty, hk, q, _⟩ := isi_of ok m1 r1 po1
  exact ⟨x, u, t, cu, b, rfl, hcu, ty, kitAny_one hk, q⟩
/-- isinstance(e, (C1, C2, ..)) -/
theorem se_isiT {vs : List V} {cs : List Expr} {kt : Nat} {pt : Pos} {tcs : TA} (ok : IsiOk X cad us tbl) (hcu : Paired ClsV vs us) (hlen : vs.length ≤ sizeLine) (hg : Gl X "isinstance") (hm : X.mg "isinstance" = none) (hv : bootBuiltins "isinstance" = some (.builtin "isinstance")) (he : SE X cad W e ea)
    (hc : PA X cs tcs) (ht : ∀ σ H (Q : List V → Hp → Prop), Q vs H → tcs σ H Q)
    (h1 : starEach [e, .Tuple cs kt pt] X.env = (false, eval e X.env) :: starEach [.Tuple cs kt pt] X.env := by rfl) (h2 : starEach [.Tuple cs kt pt] X.env = (false, eval (.Tuple cs kt pt) X.env) :: starEach [] X.env := by rfl) (hpl : (backTo pos (starEach [.Tuple cs kt pt] X.env)).any (·.1) = false := by rfl) :
    SE X cad W (.Call (.Name "isinstance" p) [e, .Tuple cs kt pt] [] pos) (eU (fIsi tbl) ea) := by
  refine ⟨fun pins s σ H Q I h => ?_⟩
  refine (pe_callB call_isiT hg hm hv (pa_cons he (pa_cons (pe_tup hc) pa_nil h2) h1) (by decide) (by decide) h1 hpl).run pins s σ H Q I ?_
  obtain ⟨w, env, eH, m, re, po⟩ := h
  refine ⟨w, env, eH, m, re, po_bind po fun w1 l x x1 m1 r1 po1 => ht σ _ _ ⟨hlen, fun q hq => ?_⟩⟩
  have xn : Ext w1 { w1 with H := upd w1.H q (.tup vs) } := Ext.new hq
  have po2 := Po.ext xn po1
  obtain ⟨t, b, ty, hk, qb, _⟩ := isi_of (w := { w1 with H := upd w1.H q (.tup vs) }) ok (m1.new hq) (RL.mono xn _ _ r1) po2
  exact ⟨x, q, vs, t, us, b, rfl, upd_same, hcu, ty, hk, qb⟩
end
end Lv
end
section
set_option Elab.async false
set_option linter.all false
set_option maxRecDepth 100000
set_option maxHeartbeats 2000000
namespace Lv
open PySem PySem.Spec PyProof.Rows L2

/-! ### enumerate over a tuple -/
def IteT (K : PySem.W.Frag) (a : Addr) : It :=
  ⟨fun i H => ∃ (xs : List V) (x : V), SqT K H a xs ∧ xs[i]? = some x, fun i H v H' => ∃ T x, v = .ref T ∧ H T = none ∧ H' = upd H T (.tup [.int (i : Nat), x]) ∧ ∀ xs, SqT K H a xs → xs[i]? = some x, fun i H => ∃ xs : List V, SqT K H a xs ∧ xs.length ≤ i⟩
theorem turn_enumT {P : Program} {w : World} {K : PySem.W.Frag} {elts : List Expr} {kk : Nat} {tpos : Pos} (a e it : Addr) (hne : e ≠ it) (hai : a ≠ it) (hae : e ≠ a) :
    Turn P w K (.Tuple elts kk tpos) (IteT K a) [e, it] e (fun i h => (∃ old, IsEnum h e it ((i : Nat) : Int) old) ∧ h.IsTupleIter it a i) where
  mem := by simp
  obj := fun i h st b hb => by
    obtain ⟨⟨old, he⟩, ⟨o, ho, hc, hd⟩⟩ := st
    have e' : b = e ∨ b = it := by simpa using hb
    rcases e' with z | z
    · rw [z]; exact ⟨_, he, fun v q => nomatch q⟩
    · rw [z]; exact ⟨o, ho, fun v q => by rw [hd] at q; cases q⟩
  keep := fun i h h' st k => let ⟨⟨old, he⟩, hi⟩ := st; ⟨⟨old, k e (by simp) _ he⟩, hi.at fun o q => k it (by simp) o q⟩
  item := by
    intro X hP hw hK hc i pins s σ H E I hf st hg
    subst hP hw hK
    obtain ⟨⟨old, he⟩, hit⟩ := st
    obtain ⟨xs, x, hq, hx⟩ := hg
    obtain ⟨its, rv, p, hz⟩ := I.tuple hq
    obtain ⟨u, hu, ru⟩ := rv.get hx
    have hel : e < s.heap.objs.size := Heap.lt_size he
    have hil : it < s.heap.objs.size := by obtain ⟨_, q, _⟩ := hit; exact Heap.lt_size q
    have hp : s.heap.IsTuple a its.toArray := p
    have hlt : i < its.toArray.size := by
      have := (List.getElem?_eq_some_iff.mp hx).1
      rw [List.size_toArray, ← rv.length]; exact this
    refine wpAny_pyNext_enum_itemD (Draws.tuple (A := X.A.in1) (I.ok.hd hc) it a hai its.toArray) he ⟨hit, hp⟩ hlt hne (by simp [hne, hae]) fun y h' tk hy ho hst hT hsz hk => ?_
    have ey : y = u := by
      have hu' : its.toArray[i]? = some u := by simpa using hu
      rw [hu'] at hy; cases hy; rfl
    subst ey
    refine ⟨_, rfl, wpAny_letOwnedTupleGo_enum (s := { s with heap := h', toks := tk + 1 }) ho fun h'' he' sb => ?_⟩
    have hT2 : h''.get? s.heap.objs.size = some { cls := .type "tuple", data := .seq #[.int i tk, y] } := (sb.2 _ (Nat.ne_of_gt hel)).trans hT
    have new : ObjOk X.prog X.w (upd H s.heap.objs.size (.tup [.int (i : Nat), x])) h'' s.heap.objs.size (.tup [.int (i : Nat), x]) :=
      ⟨by show 2 ≤ sizeLine; decide, [.int i tk, y], .cons ⟨_, rfl⟩ (.cons ru .nil), ⟨_, hT2, rfl, _, rfl⟩⟩
    have I1 : Inv X pins σ (upd H s.heap.objs.size (.tup [.int (i : Nat), x])) { s with heap := h'', toks := tk + 1 } :=
      I.turnedNew (ch := [e, it]) (fun b ob hb q => (sb.2 b (fun z => hb (by simp [z]))).trans (hk b ob (fun z => hb (by simp [z])) (fun z => hb (by simp [z])) q)) hf (Nat.le_refl _) new
    refine ⟨.ref s.heap.objs.size, _, I1, rfl, ⟨_, x, rfl, I.hok.fresh (Nat.le_refl _), rfl, fun ys hy => by rw [I.tuple_inj hy hq]; exact hx⟩, ⟨⟨y, ?_⟩, hst.1.at fun o q => (sb.2 it (Ne.symm hne)).trans q⟩, fun b hb => ?_⟩
    · have e1 : ((i + 1 : Nat) : Int) = (i : Int) + 1 := by omega
      rw [e1]; exact he'
    · have hb' : b < s.heap.objs.size := by
        have e' : b = e ∨ b = it := by simpa using hb
        rcases e' with z | z
        · rw [z]; exact hel
        · rw [z]; exact hil
      rw [upd_ne (Nat.ne_of_lt hb')]
      exact (hf b hb).1
  done := by
    intro X hP hw hK hc i pins s σ H E I hf st hg
    subst hP hw hK
    obtain ⟨⟨old, he⟩, hit⟩ := st
    obtain ⟨xs, hq, hx⟩ := hg
    obtain ⟨its, rv, p, hz⟩ := I.tuple hq
    have hp : s.heap.IsTuple a its.toArray := p
    obtain ⟨f0, f1, f2, f3, f4, f5⟩ := hf it (by simp)
    have hl := rv.length
    have hn : its.toArray[i]? = none := by simp; omega
    -- the end: as of a list
    have hT : s.TypeIs (.ref e) "enumerate" := ⟨_, he, rfl⟩
    unfold pyNext
    refine wpAny_bind (wpAny_attempt (wpAny_callSpecial?_slot (name := Str.ofString "__next__") hT F.slot_enumerate_next
      (wpAny_call_entry F.slot_enumerate_next hT F.entry_enumerate_next ?_ (F.args_enumerate_next_1 _))))
    show wpAny _ _ (field (.ref e) 2 >>= _) _ _ _
    refine wpAny_bind (wpAny_field he rfl (x := .ref it) rfl ?_)
    refine wpAny_bind (wpAny_nextOf_tuple_end (I.ok.hd hc) hit hp hn fun h' x he' hx' => ?_)
    obtain ⟨o, ho, hc'⟩ := hx'
    refine wpAny_bind (wpAny_isInstance (T := "StopIteration") (b := true) ⟨o, ho, hc'⟩ isSubtype_stop ?_)
    exact wpAny_pure ⟨rfl, I.turned (t' := s.toks) (fun b o hb q => he' b o hb q) f0 f1 f3 f4 f5⟩
  self := fun A i s Q E st h => let ⟨⟨_, he⟩, _⟩ := st; wpAny_pyIter_enum he h
section
variable {prog : Program} {w : World} {A : Around} {E : Value → Shared → Prop} {s : Shared}
theorem meets_enumT {v : Value} {o : Obj} {H : Heap → Prop} (B : Begins v o H) :
    Meets (Builtin.«enumerate.__new__» ⟨[.type "enumerate", v], []⟩) (fun _ R s => H s.heap ∧
      R (.ok (.ret (.ref (s.heap.push o).objs.size))) { s with heap := (s.heap.push o).push { cls := .type "enumerate", data := .fields #[.none, .bool false, .ref s.heap.objs.size, rawInt 0, .none, .none] } }) :=
  .of_wp fun prog w A R s h => by
    obtain ⟨hp, g, d, tk, os⟩ := s; obtain ⟨h1, h⟩ := h
    have hsub := sub_enumerate
    have q1 : ∀ {A' : Around} {E : Value → Shared → Prop} {Q : Value → Shared → Prop}, Q (.ref hp.objs.size) ⟨hp.push o, g, d, tk, os⟩ → wpAny (model prog w) A' (pyIter v) Q E ⟨hp, g, d, tk, os⟩ :=
      fun q => B.iter prog w _ _ ⟨hp, g, d, tk, os⟩ _ h1 q
    wp_walk using q1
    refine wpAny_stack_any fun st => wpAny_pure ?_
    split
    · rename_i c _ _ _ _ _
      cases (c == Value.type "enumerate")
      · wp_walk using q1
        exact ⟨_, rfl, h⟩
      · wp_walk using q1
        exact ⟨_, rfl, h⟩
    · wp_walk using q1
      exact ⟨_, rfl, h⟩
theorem call_enumT {v : Value} {o : Obj} {H : Heap → Prop} {Q : Value → Shared → Prop} (B : Begins v o H) (h1 : H s.heap)
    (h : ∀ h', IsEnum h' (s.heap.objs.size + 1) s.heap.objs.size 0 .none → h'.get? s.heap.objs.size = some o → h'.objs.size = s.heap.objs.size + 2 →
      (∀ b o, s.heap.get? b = some o → h'.get? b = some o) → Q (.ref (s.heap.objs.size + 1)) { s with heap := h' }) :
    wpAny (model prog w) A (call (.type "enumerate") [v]) Q E s := by
  refine callType_new F.called_enumerate (by decide) (F.typeCall_enumerate_1 _) (F.newCall_enumerate_1 _) (fun obj => F.args_object_init_2 obj _) F.entry_enumerate_new
    (meets_enumT B) ⟨h1, ?_⟩
  have hz : (s.heap.push o).objs.size = s.heap.objs.size + 1 := Heap.size_push ..
  show _ ∧ _
  rw [hz]
  have he : IsEnum ((s.heap.push o).push { cls := .type "enumerate", data := .fields #[.none, .bool false, .ref s.heap.objs.size, rawInt 0, .none, .none] }) (s.heap.objs.size + 1) s.heap.objs.size 0 .none := by
    have := Heap.get?_push_size (s.heap.push o) (o := { cls := .type "enumerate", data := .fields #[.none, .bool false, .ref s.heap.objs.size, rawInt 0, .none, .none] }) rfl
    rw [hz] at this; exact this
  refine ⟨⟨_, he, rfl⟩, h _ he (Heap.get?_push_of_some _ (Heap.get?_push_size _ B.free)) (by rw [Heap.size_push, hz]) fun b o x => Heap.get?_push_of_some _ (Heap.get?_push_of_some _ x)⟩
end
section
variable {X : Cx} {cad : Cad} {W : WX} {e : Expr} {ea : Ev}
theorem pi_enum2 {tl : TE} {p pos tpos : Pos} {elts : List Expr} {kk : Nat} (hg : Gl X "enumerate") (hm : X.mg "enumerate" = none) (hl : PE X e tl) (hs : starEach [e] X.env = [(false, eval e X.env)] := by rfl) :
    PI X (.Tuple elts kk tpos) (.Call (.Name "enumerate" p) [e] [] pos) (fun σ H R => tl σ H fun x H1 => ∃ a, x = .ref a ∧ (((∃ xs, SqL X.K H1 a xs) ∧ R (Ite X.K a) H1) ∨ ((∃ xs, SqT X.K H1 a xs) ∧ R (IteT X.K a) H1))) := by
  refine ⟨fun pins s σ H R I h => ?_⟩
  refine Call_ (ld_blt I hg hm boot_enumerate (PyProof.Rows.callWith_type1 (thn ((pa_cons hl pa_nil hs).run pos pins s σ H (fun vs H1 => match vs with | [x] => ∃ a, x = V.ref a ∧ (((∃ xs, SqL X.K H1 a xs) ∧ R (Ite X.K a) H1) ∨ ((∃ xs, SqT X.K H1 a xs) ∧ R (IteT X.K a) H1)) | _ => False) I h) fun us s1 ⟨vs, H1, I1, r1, q1⟩ => ?_) hs rfl))
  match vs, r1, q1 with
  | [x], .cons r rr, q1 =>
    obtain ⟨a, ea, q⟩ := q1
    subst ea
    cases rr
    cases r
    have fresh : ∀ b ∈ [s1.heap.objs.size + 1, s1.heap.objs.size], FpOk X pins H1 b := fun b hb => by
      have e' : b = s1.heap.objs.size + 1 ∨ b = s1.heap.objs.size := by simpa using hb
      have hle : s1.heap.objs.size ≤ b := by
        rcases e' with z | z
        · rw [z]; exact Nat.le_add_right _ _
        · rw [z]; exact Nat.le_refl _
      exact I1.fpOk hle (I1.hok.fresh hle)
    rcases q with ⟨⟨xs, hq⟩, q⟩ | ⟨⟨xs, hq⟩, q⟩
    · obtain ⟨its, rv, p', hz⟩ := I1.list hq
      refine call_enumerate_list p'.isList fun h' he hit hsz hk => wpAny_pyIter_enum he ?_
      have I2 : Inv X pins σ H1 { s1 with heap := h' } := I1.kept (t' := s1.toks) hk
      exact ⟨s1.heap.objs.size + 1, [s1.heap.objs.size + 1, s1.heap.objs.size], _, _, H1, rfl, I2, turn_enum a (s1.heap.objs.size + 1) s1.heap.objs.size, ⟨⟨.none, he⟩, hit, Nat.succ_ne_self _⟩, fresh, q⟩
    · obtain ⟨its, rv, p', hz⟩ := I1.tuple hq
      have hp : s1.heap.IsTuple a its.toArray := p'
      have hlt : a < s1.heap.objs.size := by obtain ⟨_, z, _⟩ := hp; exact Heap.lt_size z
      refine call_enumT (begins_tuple a its.toArray) hp fun h' he hit hsz hk => wpAny_pyIter_enum he ?_
      have I2 : Inv X pins σ H1 { s1 with heap := h' } := I1.kept (t' := s1.toks) hk
      exact ⟨s1.heap.objs.size + 1, [s1.heap.objs.size + 1, s1.heap.objs.size], _, _, H1, rfl, I2, turn_enumT a (s1.heap.objs.size + 1) s1.heap.objs.size (Nat.succ_ne_self _) (Nat.ne_of_lt hlt) (Nat.ne_of_gt (Nat.lt_succ_of_lt hlt)), ⟨⟨.none, he⟩, ⟨_, hit, rfl, rfl⟩⟩, fresh, q⟩
theorem src_enum {K : PySem.W.Frag} {w : Wd} {xs : List LV} {vs : List V} {ad : Addr} (p : SqAt K w ad vs) (r : RLs K cad w xs vs) : Src K cad w (enumL 0 xs) (Ite K ad) := fun w' x m => by
  have p' := (p.mono x).sq
  have r' := RLs.mono x _ _ r
  refine ⟨fun i hi => ⟨vs, p', by rw [← r.length]; rw [enumL_length] at hi; exact hi⟩, fun i l hl => ?_⟩
  rw [enumL_get] at hl
  cases q : xs[i]? with
  | none => rw [q] at hl; cases hl
  | some y =>
    rw [q] at hl
    have el : LV.tup [.int ((0 + i : Nat) : Int), y] = l := by simpa using hl
    subst el
    obtain ⟨v, hv, rv⟩ := r'.get q
    refine ⟨⟨vs, v, p', hv⟩, fun z H' hz => ?_⟩
    obtain ⟨T, u, rfl, hT, rfl, hy⟩ := hz
    have e := hy vs p'
    rw [hv] at e
    cases e
    have xn : Ext w' { w' with H := upd w'.H T (.tup [.int (i : Nat), v]) } := Ext.new hT
    refine ⟨{ w' with H := upd w'.H T (.tup [.int (i : Nat), v]) }, rfl, rfl, xn, m.new hT, mk_tup (VT.new m hT) (RLs.cons ?_ (RLs.cons (RL.mono xn _ _ rv) RLs.nil))⟩
    rw [Nat.zero_add]
    exact mk_int _
theorem src_enumT {K : PySem.W.Frag} {w : Wd} {xs : List LV} {vs : List V} {ad : Addr} (p : VT K w ad vs) (r : RLs K cad w xs vs) : Src K cad w (enumL 0 xs) (IteT K ad) := fun w' x m => by
  have p' := (p.mono x).sq
  have r' := RLs.mono x _ _ r
  refine ⟨fun i hi => ⟨vs, p', by rw [← r.length]; rw [enumL_length] at hi; exact hi⟩, fun i l hl => ?_⟩
  rw [enumL_get] at hl
  cases q : xs[i]? with
  | none => rw [q] at hl; cases hl
  | some y =>
    rw [q] at hl
    have el : LV.tup [.int ((0 + i : Nat) : Int), y] = l := by simpa using hl
    subst el
    obtain ⟨v, hv, rv⟩ := r'.get q
    refine ⟨⟨vs, v, p', hv⟩, fun z H' hz => ?_⟩
    obtain ⟨T, u, rfl, hT, rfl, hy⟩ := hz
    have e := hy vs p'
    rw [hv] at e
    cases e
    have xn : Ext w' { w' with H := upd w'.H T (.tup [.int (i : Nat), v]) } := Ext.new hT
    refine ⟨{ w' with H := upd w'.H T (.tup [.int (i : Nat), v]) }, rfl, rfl, xn, m.new hT, mk_tup (VT.new m hT) (RLs.cons ?_ (RLs.cons (RL.mono xn _ _ rv) RLs.nil))⟩
    rw [Nat.zero_add]
    exact mk_int _
theorem si_enum {p pos tpos : Pos} {elts : List Expr} {kk : Nat} (hg : Gl X "enumerate") (hm : X.mg "enumerate" = none) (he : SE X cad W e ea) (hs : starEach [e] X.env = [(false, eval e X.env)] := by rfl) :
    SI X cad W (.Tuple elts kk tpos) (.Call (.Name "enumerate" p) [e] [] pos) (eEnum ea) := by
  refine Lv.PI.imp (pi_enum2 hg hm he hs) fun σ H R ⟨w, env, eH, m, re, po⟩ => ?_
  refine ⟨w, env, eH, m, re, po_bind po fun w1 l v x1 m1 r1 po1 => ?_⟩
  cases q : itemsOf l w1.lh with
  | stuck => rw [q] at po1; exact po1.elim
  | exn c fs lh => cases l <;> cases q
  | ok xs lh =>
    rw [q] at po1
    obtain ⟨e, ad, vs, rfl, r, p⟩ := itemsOf_ok q r1
    subst e
    refine ⟨ad, rfl, ?_⟩
    rcases p with ⟨p, _⟩ | ⟨p, _⟩
    · exact .inl ⟨⟨vs, p.sq⟩, po_here po1 m1 (src_enum p r)⟩
    · exact .inr ⟨⟨vs, p.sq⟩, po_here po1 m1 (src_enumT p r)⟩
/-- zip of two lists, of two tuples -/
def eZip2 (a c : Ev) : EvL := fun env lh => rb (a env lh) fun x lh1 => rb (c env lh1) fun y lh2 => match x, y with
  | .tup xs, .tup ys => .ok (zipL xs ys) lh2
  | .fl xs, .fl ys => .ok (zipL xs ys) lh2
  | _, _ => .stuck
theorem src_zipL {K : PySem.W.Frag} {w : Wd} {xs ys : List LV} {vs us : List V} {a b : Addr} (p : VL w a vs) (p2 : VL w b us) (r : RLs K cad w xs vs) (r2 : RLs K cad w ys us) : Src K cad w (zipL xs ys) (Itz K a b) := fun w' x m => by
  have p' := (p.mono x).sq (K := K)
  have p2' := (p2.mono x).sq (K := K)
  have r' := RLs.mono x _ _ r
  have r2' := RLs.mono x _ _ r2
  refine ⟨fun i hi => ⟨vs, us, p', p2', ?_⟩, fun i l hl => ?_⟩
  · rw [zipL_length] at hi
    rw [← r.length, ← r2.length]; omega
  obtain ⟨y, z, h1, h2, rfl⟩ := zipL_get _ _ _ _ hl
  obtain ⟨v, hv, rv⟩ := r'.get h1
  obtain ⟨u, hu, ru⟩ := r2'.get h2
  refine ⟨⟨vs, us, v, u, p', p2', hv, hu⟩, fun q H' hz => ?_⟩
  obtain ⟨T, v1, u1, rfl, hT, rfl, hy, hy2⟩ := hz
  have e := hy vs p'
  rw [hv] at e; cases e
  have e := hy2 us p2'
  rw [hu] at e; cases e
  have xn : Ext w' { w' with H := upd w'.H T (.tup [v, u]) } := Ext.new hT
  exact ⟨{ w' with H := upd w'.H T (.tup [v, u]) }, rfl, rfl, xn, m.new hT, mk_tup (VT.new m hT) (RLs.cons (RL.mono xn _ _ rv) (RLs.cons (RL.mono xn _ _ ru) RLs.nil))⟩
theorem src_zipT {K : PySem.W.Frag} {w : Wd} {xs ys : List LV} {vs us : List V} {a b : Addr} (p : VT K w a vs) (p2 : VT K w b us) (r : RLs K cad w xs vs) (r2 : RLs K cad w ys us) : Src K cad w (zipL xs ys) (RZ.ItzT K a b) := fun w' x m => by
  have p' := (p.mono x).sq
  have p2' := (p2.mono x).sq
  have r' := RLs.mono x _ _ r
  have r2' := RLs.mono x _ _ r2
  refine ⟨fun i hi => ⟨vs, us, p', p2', ?_⟩, fun i l hl => ?_⟩
  · rw [zipL_length] at hi
    rw [← r.length, ← r2.length]; omega
  obtain ⟨y, z, h1, h2, rfl⟩ := zipL_get _ _ _ _ hl
  obtain ⟨v, hv, rv⟩ := r'.get h1
  obtain ⟨u, hu, ru⟩ := r2'.get h2
  refine ⟨⟨vs, us, v, u, p', p2', hv, hu⟩, fun q H' hz => ?_⟩
  obtain ⟨T, v1, u1, rfl, hT, rfl, hy, hy2⟩ := hz
  have e := hy vs p'
  rw [hv] at e; cases e
  have e := hy2 us p2'
  rw [hu] at e; cases e
  have xn : Ext w' { w' with H := upd w'.H T (.tup [v, u]) } := Ext.new hT
  exact ⟨{ w' with H := upd w'.H T (.tup [v, u]) }, rfl, rfl, xn, m.new hT, mk_tup (VT.new m hT) (RLs.cons (RL.mono xn _ _ rv) (RLs.cons (RL.mono xn _ _ ru) RLs.nil))⟩
theorem si_zip {e2 : Expr} {ec : Ev} {p pos tpos : Pos} {elts : List Expr} {kk : Nat} (hg : Gl X "zip") (hm : X.mg "zip" = none) (he : SE X cad W e ea) (he2 : SE X cad W e2 ec) (hs : starEach [e, e2] X.env = (false, eval e X.env) :: starEach [e2] X.env := by rfl) (hs2 : starEach [e2] X.env = (false, eval e2 X.env) :: starEach [] X.env := by rfl)
    (hpl : (backTo pos (starEach [e2] X.env)).any (·.1) = false := by rfl) : SI X cad W (.Tuple elts kk tpos) (.Call (.Name "zip" p) [e, e2] [] pos) (eZip2 ea ec) := by
  refine Lv.PI.imp (RZ.pi_zipA hg hm (pa_cons he (pa_cons he2 pa_nil hs2) hs) hs hpl) fun σ H R ⟨w, env, eH, m, re, po⟩ => ?_
  refine ⟨w, env, eH, m, re, po_bind po fun w1 l v x1 m1 r1 po1 => ?_⟩
  refine ⟨w1, env, rfl, m1, re.mono x1, po_bind po1 fun w2 l2 v2 x2 m2 r2 po2 => ?_⟩
  have r1' := RL.mono x2 _ _ r1
  cases l with
  | tup xs =>
    cases l2 with
    | tup ys =>
      obtain ⟨a, vs, rfl, p, s⟩ := rl_tup r1'
      obtain ⟨b, us, rfl, p2, s2⟩ := rl_tup r2
      exact ⟨a, b, vs, us, rfl, .inr ⟨p.sq, p2.sq, po_here po2 m2 (src_zipT p p2 s s2)⟩⟩
    | _ => exact po2.elim
  | fl xs =>
    cases l2 with
    | fl ys =>
      obtain ⟨a, vs, rfl, p, s⟩ := rl_fl r1'
      obtain ⟨b, us, rfl, p2, s2⟩ := rl_fl r2
      exact ⟨a, b, vs, us, rfl, .inl ⟨p.sq, p2.sq, po_here po2 m2 (src_zipL p p2 s s2)⟩⟩
    | _ => exact po2.elim
  | _ => exact po2.elim
end
end Lv
end
section
set_option Elab.async false
set_option linter.all false
set_option maxRecDepth 100000
set_option maxHeartbeats 2000000
namespace Lv
open PySem PySem.Spec PyProof.Rows L2

/-! ### an own exception's __init__: super().__init__(..), then each parameter stored under its name -/
inductive NamesOf : List Str → List Expr → Prop
  | nil : NamesOf [] []
  | cons {p : Str} {pos : Pos} {ps : List Str} {es : List Expr} (r : NamesOf ps es) : NamesOf (p :: ps) (.Name p pos :: es)
inductive StoresOf (self : Str) : List Str → List Stmt → Prop
  | nil : StoresOf self [] []
  | cons {p : Str} {p1 p2 p3 p4 : Pos} {ps : List Str} {ss : List Stmt} (r : StoresOf self ps ss) : StoresOf self (p :: ps) (.Assign [.Attribute (.Name self p1) p p2] (.Name p p3) p4 :: ss)
inductive InitB (self : Str) (ps : List Str) : List Stmt → Prop
  | mk {p0 p1 p2 p3 p4 : Pos} {args : List Expr} {rest : List Stmt} (a : NamesOf ps args) (b : StoresOf self ps rest) (pl : Env → Sem Bool)
      (ev : ∀ env : Env, eval (.Call (.Attribute (.Call (.Name "super" p0) [] [] p1) "__init__" p2) args [] p3) env = (do
        let ov ← attributeBase (.Call (.Name "super" p0) [] [] p1) "__init__" env (eval (.Call (.Name "super" p0) [] [] p1) env)
        standAt p2.atName
        let (f, first) ← holding [ov] (getMethod ov "__init__" (pl env))
        callWith p3 f first (backTo p3 (starEach args env)) []))
      (hpl : ∀ env : Env, (backTo p3 (starEach args env)).any (·.1) = false)
      (hsw : ∀ env : Env, swapsWith (.Call (.Attribute (.Call (.Name "super" p0) [] [] p1) "__init__" p2) args [] p3) none p4.line env = pure false) :
      InitB self ps (.Expr (.Call (.Attribute (.Call (.Name "super" p0) [] [] p1) "__init__" p2) args [] p3) p4 :: rest)
abbrev xObj (C t0 : Addr) (dv : Option Addr) : Obj := { cls := .ref C, dict := dv, data := .fields #[.ref t0, .none, .none, .none, .bool false, .none] }
structure ExI (P : Program) (K : PySem.W.Frag) (C fI : Addr) (slf : Str) (ps : List Str) : Prop where
  T : OexC K C
  iC : PySem.W.findIn K (.ref C) "__init__" = some (some (.ref fI))
  tI : PySem.W.typeIn K (.ref fI) = some (.type "function")
  tp : PySem.W.nsIn K cStatics "thirdparty.any" = some none
  sup : PySem.W.ks_superIn K C C "__init__" = some (some (.builtin "ValueError.__init__"))
  subV : PySem.W.subIn K (.ref C) (.type "ValueError") = some true
  mroC : PySem.W.mroIn K C (.ref C) = some true
  fld : ∀ f ∈ ps, PySem.W.findIn K (.ref C) f = some none
  nd : (slf :: ps).Nodup
  nodb : ∀ f ∈ slf :: ps, (f == ("__debug__" : Str)) = false
  htop : (P.main.scope.names.lookup ("super" : Str)).isSome = false
  fn : ∃ (oc : Value) (od : Option Addr) (osl : Array (Option Value)) (name qual : Str) (params : Arguments) (body : List Stmt) (scope : Scope) (dV kV doc pm : Value) (an : Option Addr) (cda : Addr) (ct : Value) (cc : Addr) (ar : Arg) (vs : Array Value) (file : Str) (tf : Tok)
      (ccl : Value) (cdd : Option Addr) (ccs : Array (Option Value)) (cl : Value) (cld : Option Addr) (csl : Array (Option Value)),
    K.lookup fI = some ⟨oc, od, .func (PySem.W.ksFn name qual params body scope dV kV doc pm an (.ref cda) ct cc), osl⟩ ∧ PySem.W.codeIn K (.ref cda) qual = true ∧
    K.lookup cda = some ⟨ccl, cdd, .fields vs, ccs⟩ ∧ vs[2]? = some (.str file tf) ∧ ((P.main.file : Str) == file) = true ∧
    K.lookup cc = some ⟨cl, cld, .cell (some (.ref C)), csl⟩ ∧ (params.posonlyargs ++ params.args).head? = some ar ∧ ar.arg = slf ∧
    scope.kind = .function ∧ scope.isCoroutine = false ∧ scope.isGenerator = false ∧ scope.names.lookup ("super" : Str) = some .globalImplicit ∧ scope.names.lookup ("__class__" : Str) = some .free ∧
    (∀ y ∈ slf :: ps, scope.names.lookup y = some .local) ∧ (∀ y ∈ scope.names, y.2 ≠ .cell) ∧ InitB slf ps body ∧
    (∀ us : List Value, us.length = ps.length + 1 → bindArgs (PySem.W.ksFn name qual params body scope dV kV doc pm an (.ref cda) ct cc) ⟨us, []⟩ = pure ((slf :: ps).zip us))
section
variable {P : Program} {w : World} {A : Around} {E : Value → Shared → Prop} {K : PySem.W.Frag} {mg : Str → Option Value} {base g : Heap} {L x C fI : Addr} {self : Str} {ps : List Str} {m mA : Str → Option Value} {dv : Option Addr}
/-- the heap while such an __init__ runs; g: what stood ahead of it but the exception -/
structure RI (g h : Heap) (L x C : Addr) (m : Str → Option Value) (dv : Option Addr) (mA : Str → Option Value) : Prop where
  kp : ∀ b o, g.get? b = some o → h.get? b = some o
  ns : h.Ns L m
  ob : ∃ t0 : Addr, h.get? x = some (xObj C t0 dv)
  xn : g.get? x = none
  ln : g.get? L = none
  ne : L ≠ x
  dc : match dv with
    | none => ∀ y, mA y = none
    | some d => h.Ns1 d mA ∧ g.get? d = none ∧ d ≠ x ∧ d ≠ L
theorem ns_of_keep {h h' : Heap} {a : Addr} (hn : h.Ns a m) (k : ∀ o, h.get? a = some o → h'.get? a = some o) : h'.Ns a m := by
  obtain ⟨o, es, ep, e, r⟩ := hn
  exact ⟨o, es, ep, k o e, r⟩
theorem ns1_of_keep {h h' : Heap} {a : Addr} (hn : h.Ns1 a m) (k : ∀ o, h.get? a = some o → h'.get? a = some o) : h'.Ns1 a m := by
  obtain ⟨o, es, ep, e, r⟩ := hn
  exact ⟨o, es, ep, k o e, r⟩
/-- new objects only -/
theorem RI.more {h h' : Heap} (r : RI g h L x C m dv mA) (k : ∀ b o, h.get? b = some o → h'.get? b = some o) : RI g h' L x C m dv mA where
  kp := fun b o e => k b o (r.kp b o e)
  ns := ns_of_keep r.ns fun o e => k _ o e
  ob := let ⟨t0, e⟩ := r.ob; ⟨t0, k _ _ e⟩
  xn := r.xn
  ln := r.ln
  ne := r.ne
  dc := by
    have d := r.dc
    cases dv with
    | none => exact d
    | some dd => exact ⟨ns1_of_keep d.1 fun o e => k _ o e, d.2⟩
/-- the exception's record is written anew -/
theorem RI.wrote {h h' : Heap} {t1 : Addr} (r : RI g h L x C m dv mA) (k : ∀ b o, b ≠ x → h.get? b = some o → h'.get? b = some o) (e : h'.get? x = some (xObj C t1 dv)) : RI g h' L x C m dv mA where
  kp := fun b o z => k b o (fun q => by rw [q, r.xn] at z; cases z) (r.kp b o z)
  ns := ns_of_keep r.ns fun o z => k _ o r.ne z
  ob := ⟨t1, e⟩
  xn := r.xn
  ln := r.ln
  ne := r.ne
  dc := by
    have d := r.dc
    cases dv with
    | none => exact d
    | some dd => exact ⟨ns1_of_keep d.1 fun o z => k _ o d.2.2.1 z, d.2⟩
theorem RI.inst {h : Heap} (r : RI g h L x C m dv mA) : ∃ (ox : Obj) (od : Option Obj), PySem.W.InstAt h x ox C od := by
  obtain ⟨t0, e⟩ := r.ob
  cases dv with
  | none => exact ⟨_, none, ⟨e, rfl, rfl, trivial⟩⟩
  | some d =>
    obtain ⟨o, es, ep, e2, _⟩ := r.dc.1
    exact ⟨_, some o, ⟨e, rfl, rfl, e2⟩⟩
theorem ex_cls (T : OexC K C) : ∃ (nm : Str) (q : Str) (N : Addr) (bs bm : List Value) (sn : List Str) (sub : List Value) (ab : Bool) (col : Option Bool) (dd : Option Addr) (k0 k1 k2 k3 k5 : Option Value), K.lookup C = some (excClassObj nm q C N bs bm true sn sub ab col dd k0 k1 k2 k3 k5 "ValueError.__new__") ∧ PySem.HandSPX.refsVE bm = true ∧
    PySem.W.clsIn K C = some { name := nm, bases := bs, mro := .ref C :: bm, ns := N, qualname := q, hasDict := true, slotNames := sn, subclasses := sub, abstract := ab, collection := col, hasDel := false } := by
  obtain ⟨nm, q, N, bs, bm, sn, sub, ab, col, dd, k0, k1, k2, k3, k5, hC, hbm⟩ := T.cls
  exact ⟨nm, q, N, bs, bm, sn, sub, ab, col, dd, k0, k1, k2, k3, k5, hC, hbm, by unfold PySem.W.clsIn; rw [hC] <;> rfl⟩
theorem ex_set (T : OexC K C) {f : Str} {u : Value} (hno : PySem.W.findIn K (.ref C) f = some none) {s : Shared} {Q : Unit → Shared → Prop} {ns : List Str} (KI : K.In s.heap) (r : RI g s.heap L x C m dv mA) (hw : Within mA ns) (hz : ns.length ≤ 900)
    (h : ∀ h' tk d, RI g h' L x C m (some d) (fun y => if y = f then some u else mA y) → Q () { s with heap := h', toks := tk }) : wpAny (model P w) A (setAttr (.ref x) f u) Q E s := by
  obtain ⟨nm, q, N, bs, bm, sn, sub, ab, col, dd, k0, k1, k2, k3, k5, hC, hbm, hcl⟩ := ex_cls T
  obtain ⟨t0, ho⟩ := r.ob
  have dc := r.dc
  obtain ⟨hp, g', d, t, os⟩ := s
  cases dv with
  | none =>
    refine PySem.W.set_plain KI (ox := xObj C t0 none) (od := none) ⟨ho, rfl, rfl, trivial⟩ T.sa ?_
    refine PySem.HandSPX.exc_osa KI ho hcl (show PySem.HandSPX.refsVE (.ref C :: bm) = true from hbm) rfl hno (fun h' tk' dx k dn dne hx hn => ?_)
    have ex : (fun y => if y = f then some u else mA y) = fun y => if y = f then some u else none := by
      funext y
      rw [dc y]
    have Lh : L < hp.objs.size := by obtain ⟨o, _, _, e, _⟩ := r.ns; exact Heap.lt_size e
    refine h h' tk' dx ⟨fun b o z => k b o (fun q => by rw [q, r.xn] at z; cases z) (r.kp b o z), ns_of_keep r.ns fun o z => k _ o r.ne z, ⟨t0, hx⟩, r.xn, r.ln, r.ne, by rw [ex]; exact hn, ?_, dne, ?_⟩
    · cases z : g.get? dx with
      | none => rfl
      | some o => exact absurd (Heap.lt_size (r.kp _ _ z)) (Nat.not_lt_of_le dn)
    · intro e
      rw [e] at dn
      exact absurd Lh (Nat.not_lt_of_le dn)
  | some dx =>
    obtain ⟨hns, dn, dne, dnL⟩ := dc
    obtain ⟨oD, _, _, hoD, _, _⟩ := hns.count hw
    refine PySem.W.set_plain KI (ox := xObj C t0 (some dx)) (od := some oD) ⟨ho, rfl, rfl, hoD⟩ T.sa ?_
    refine PySem.OEX.osa_old KI ho hns hw (by omega) hcl (show PySem.HandSPX.refsVE (.ref C :: bm) = true from hbm) rfl hno (fun h' tk' k hn => ?_)
    exact h h' tk' dx ⟨fun b o z => k b o (fun q => by rw [q, dn] at z; cases z) (r.kp b o z), ns_of_keep r.ns fun o z => k _ o (Ne.symm dnL) z, ⟨t0, k _ _ (Ne.symm dne) ho⟩, r.xn, r.ln, r.ne, hn, dn, dne, dnL⟩
/-- the names' values -/
theorem ex_names {M : Model} {env : Env} (hk : env.scope.kind = .function) {pos : Pos} {qs : List Str} {es : List Expr} (nm : NamesOf qs es) : ∀ {us : List Value} {s : Shared} {Q : List Value → Shared → Prop}, s.heap.Ns env.locals m → (∀ p ∈ qs, env.kindOf p = some .local ∧ (p == ("__debug__" : Str)) = false) →
    qs.map m = us.map some → Q us s → wpAny M A (spliced (backTo pos (starEach es env))) Q E s := by
  induction nm with
  | nil =>
    intro us s Q _ _ e q
    have : us = [] := by cases us with
      | nil => rfl
      | cons a b => cases e
    subst this
    exact Calls.spliced_nil q
  | @cons p pp qs es r ih =>
    intro us s Q hn hl e q
    cases us with
    | nil => cases e
    | cons u us =>
      rw [List.map_cons, List.map_cons, List.cons.injEq] at e
      obtain ⟨h1, h2⟩ := hl p (List.mem_cons_self ..)
      show wpAny _ _ (spliced ((false, eval (.Name p pp) env) :: backTo pos (starEach es env))) _ _ s
      refine Calls.spliced_cons (wpAny_Name (wpAny_loadName_local hk h1 hn e.1 ?_) h2)
      exact ih hn (fun z hz => hl z (List.mem_cons_of_mem _ hz)) e.2 q
/-- the bound wrapper called: the args are laid anew -/
theorem ex_callB {B newId i : String} {bmB : List Value} (FB : ExcBaseFacts B newId i bmB) {u : Addr} {rest : List Value} {Q : Value → Shared → Prop} {s : Shared} {nm q : Str} {N : Addr} {bs bm : List Value} {hdct : Bool} {sn : List Str} {sub : List Value} {ab : Bool} {col : Option Bool} {dd : Option Addr} {k0 k1 k2 k3 k5 : Option Value}
    (hC : s.heap.get? C = some (excClassObj nm q C N bs bm hdct sn sub ab col dd k0 k1 k2 k3 k5 newId)) (r : RI g s.heap L x C m dv mA) (hu : s.heap.get? u = some (PySem.W.kxs_mw i x)) (hz : rest.length ≤ sizeLine)
    (h : ∀ h', RI g h' L x C m dv mA → Q .none { s with heap := h' }) : wpAny (model P w) A (call (.ref u) rest) Q E s := by
  obtain ⟨t0, ho⟩ := r.ob
  have fin : ∀ h', (∀ b o, b ≠ x → s.heap.get? b = some o → h'.get? b = some o) → h'.get? x = some (PySem.W.excRec (.ref C) s.heap.objs.size dv .none .none (.bool false)) → h'.get? s.heap.objs.size = some (PySem.W.excTup rest) → Q .none { s with heap := h' } :=
    fun h' k e _ => h h' (r.wrote k e)
  obtain ⟨hp, g', d, t, os⟩ := s
  refine wpAny_call (codeAny_of_tree ?_)
  show wpAny _ A.in1 (callAny (.ref u) ⟨rest, []⟩) _ _ _
  simp only [callAny]
  refine wpAny_bind (wpAny_load hu ?_)
  simp only [show (Value.type "method-wrapper" == Value.type "method" || Value.type "method-wrapper" == Value.type "builtin_function_or_method" || Value.type "method-wrapper" == Value.type "method-wrapper") = true by decide, if_true]
  refine PySem.W.KFB.if_so (by decide) ?_
  refine wpAny_bind (PySem.W.check_bound_init FB.toExcCallFacts hC ho rfl ?_)
  refine wpAny_bind (wpAny_pure (wpAny_pure ?_))
  refine ⟨plainId_quiet FB.init.plain _, codeAny_builtin FB.initEntry ?_⟩
  exact PySem.W.exc_init_tree (cls := .ref C) (t0 := t0) (dv := dv) (c2 := .none) (c3 := .none) (b4 := .bool false) ho hz fin
theorem ex_call {u : Addr} {rest : List Value} {Q : Value → Shared → Prop} {s : Shared} (T : OexC K C) (KI : K.In s.heap) (r : RI g s.heap L x C m dv mA) (hu : s.heap.get? u = some (PySem.W.kxs_mw "ValueError.__init__" x)) (hz : rest.length ≤ sizeLine)
    (h : ∀ h', RI g h' L x C m dv mA → Q .none { s with heap := h' }) : wpAny (model P w) A (call (.ref u) rest) Q E s := by
  obtain ⟨nm, q, N, bs, bm, sn, sub, ab, col, dd, k0, k1, k2, k3, k5, hC, hbm, hcl⟩ := ex_cls T
  exact ex_callB F.excBase_ValueError (KI _ _ hC) r hu hz h
def storedM : List Str → List Value → (Str → Option Value) → Str → Option Value
  | p :: ps, u :: us, mA => storedM ps us fun y => if y = p then some u else mA y
  | _, _, mA => mA
theorem ex_stores {env : Env} {c : Code} (T : OexC K C) (hk : env.scope.kind = .function) (KI : K.In g) (hL : env.locals = L) (hself : env.kindOf self = some .local ∧ (self == ("__debug__" : Str)) = false ∧ m self = some (.ref x)) {qs : List Str} {ss : List Stmt} (st : StoresOf self qs ss) :
    ∀ {us : List Value} {s : Shared} {Q : Flow → Shared → Prop} {dv : Option Addr} {mA : Str → Option Value} {ns : List Str}, RI g s.heap L x C m dv mA → (∀ p ∈ qs, env.kindOf p = some .local ∧ (p == ("__debug__" : Str)) = false ∧ PySem.W.findIn K (.ref C) p = some none) →
    qs.map m = us.map some → Within mA ns → ns.length + qs.length ≤ 900 → (∀ h' tk dv', RI g h' L x C m dv' (storedM qs us mA) → (dv' = none → dv = none ∧ qs = []) → Q .next { s with heap := h', toks := tk }) → PySem.wpAt (model P w) A c (execs ss env) Q E s := by
  induction st with
  | nil =>
    intro us s Q dv mA ns r hl e hw hz h
    have eu : us = [] := by cases us with
      | nil => rfl
      | cons a b => cases e
    subst eu
    have q := h s.heap s.toks dv r fun e => ⟨e, rfl⟩
    exact wpAt_of_wpAny (wpAny_pure q)
  | @cons p p1 p2 p3 p4 qs ss r' ih =>
    intro us s Q dv mA ns r hl e hw hz h
    cases us with
    | nil => cases e
    | cons u us =>
      rw [List.map_cons, List.map_cons, List.cons.injEq] at e
      obtain ⟨h1, h2, h3⟩ := hl p (List.mem_cons_self ..)
      have ns0 : s.heap.Ns env.locals m := by rw [hL]; exact r.ns
      refine PySem.ks_wpAt_execs_cons (PySem.ks_wpAt_Assign_Attr (wpAt_of_wpAny (wpAny_Name (wpAny_loadName_local hk h1 ns0 e.1 ?_) h2)))
      refine wpAny_Name (wpAny_loadName_local hk hself.1 ns0 hself.2.2 ?_) hself.2.1
      refine ex_set T h3 (KI.keeps r.kp) r hw (by simp at hz; omega) fun h' tk d r2 => ?_
      refine ih (ns := p :: ns) (us := us) (s := { s with heap := h', toks := tk }) r2 (fun z hz => hl z (List.mem_cons_of_mem _ hz)) e.2 (Within.cons p u hw) (by simp at hz ⊢; omega) fun h2' tk2 dv2 r3 hd => ?_
      refine h h2' tk2 dv2 r3 fun e => ?_
      exact absurd (hd e).1 (by simp)
theorem lookup_none_of {l : List (Str × Value)} {k : Str} (h : k ∉ l.map (·.1)) : l.lookup k = none := by
  induction l with
  | nil => rfl
  | cons p l ih =>
    obtain ⟨a, b⟩ := p
    rw [List.map_cons, List.mem_cons, not_or] at h
    rw [List.lookup_cons]
    have : (k == a) = false := by simpa using h.1
    rw [this]
    exact ih h.2
theorem rev_lookup : ∀ {l : List (Str × Value)} {k : Str} {v : Value}, (l.map (·.1)).Nodup → (k, v) ∈ l → l.reverse.lookup k = some v
  | (a, b) :: l, k, v, nd, hm => by
    rw [List.map_cons, List.nodup_cons] at nd
    rw [List.reverse_cons, List.lookup_append]
    rcases List.mem_cons.mp hm with e | hm
    · cases e
      rw [lookup_none_of (by rw [List.map_reverse, List.mem_reverse]; exact nd.1)]
      simp
    · rw [rev_lookup nd.2 hm]; rfl
theorem zip_names {x : Value} : ∀ {ps : List Str} {us : List Value} {m : Str → Option Value}, us.length = ps.length → (∀ k v, (k, v) ∈ ps.zip us → m k = some v) → ps.map m = us.map some
  | [], us, m, hl, h => by
    cases us with
    | nil => rfl
    | cons a b => cases hl
  | p :: ps, us, m, hl, h => by
    cases us with
    | nil => cases hl
    | cons u us =>
      rw [List.map_cons, List.map_cons, h p u (by simp), zip_names (x := x) (by simpa using hl) fun k v hm => h k v (by rw [List.zip_cons_cons]; exact List.mem_cons_of_mem _ hm)]
theorem ex_init (X : ExI P K C fI self ps) {s : Shared} {mb : Str → Option Value} {t0 : Addr} (KI : K.In g) (hg : g.Ns mainGlobals mg) (mgs : mg "super" = none) (hb : g.Ns builtinsNs mb) (hmb : mb "super" = some (.type "super")) (lim : g.NoLimit) (hA : A.depth < recursionLimit)
    (kp0 : ∀ b o, g.get? b = some o → s.heap.get? b = some o) (hx : s.heap.get? x = some (xObj C t0 none)) (xn : g.get? x = none) {us : List Value} (hu : us.length = ps.length) (hz : ps.length ≤ 800) (hps : ps ≠ []) {R : Result → Shared → Prop}
    (h : ∀ h' tk d, (∀ b o, g.get? b = some o → h'.get? b = some o) → (∃ t0, h'.get? x = some (xObj C t0 (some d))) → h'.Ns1 d (storedM ps us fun _ => none) → g.get? d = none → d ≠ x → R (.ok (.ret .none)) { s with heap := h', toks := tk }) :
    codeAny (model P w) A (.call (.ref fI) ⟨.ref x :: us, []⟩) R s := by
  obtain ⟨oc, od, osl, name, qual, params, body, scope, dV, kV, doc, pm, an, cda, ct, cc, ar, vs, file, tf, ccl, cdd, ccs, cl, cld, csl, lk, hcd, lcda, hvs, hfile, lcc, hp, har, hk, hco, hgen, hks, hkc, hloc, hcell, hB, hbind⟩ := X.fn
  have KS : K.In s.heap := KI.keeps kp0
  refine ks_codeAny_call_defAt (fd := PySem.W.ksFn name qual params body scope dV kV doc pm an (.ref cda) ct cc) (body := body) (binds := (self :: ps).zip (.ref x :: us)) hA (KS _ _ lk) rfl (lim.keeps kp0) (PySem.W.codeRec_of KS hcd) rfl (BindsTo.of_eq (hbind _ (by simp [hu]))) hcell
    (fun y hy => hloc y.1 (List.of_mem_zip hy).1) (fun h₁ hns hk₁ => ?_) hco hgen hk
  have nd : (((self :: ps).zip (.ref x :: us)).map (·.1)).Nodup := by
    rw [List.map_fst_zip (by simp [hu])]; exact X.nd
  have m1 : ((self :: ps).zip (Value.ref x :: us)).reverse.lookup self = some (.ref x) := rev_lookup nd (by simp)
  have m2 : ps.map (fun y => ((self :: ps).zip (Value.ref x :: us)).reverse.lookup y) = us.map some := zip_names (x := .none) hu fun k v hm => rev_lookup nd (by rw [List.zip_cons_cons]; exact List.mem_cons_of_mem _ hm)
  generalize hm0 : (fun y => ((self :: ps).zip (Value.ref x :: us)).reverse.lookup y) = m at hns m2
  have m1' : m self = some (.ref x) := by rw [← hm0]; exact m1
  have hL0 : g.get? s.heap.objs.size = none := by
    cases z : g.get? s.heap.objs.size with
    | none => rfl
    | some o => exact absurd (Heap.lt_size (kp0 _ _ z)) (Nat.lt_irrefl _)
  have r0 : RI g h₁ s.heap.objs.size x C m none fun _ => none := ⟨fun b o e => hk₁ b o (kp0 b o e), hns, ⟨t0, hk₁ _ _ hx⟩, xn, hL0, fun e => absurd (Heap.lt_size hx) (by rw [← e]; exact Nat.lt_irrefl _), fun _ => rfl⟩
  generalize hL : s.heap.objs.size = L at hns r0 hL0
  have hself := X.nodb self (List.mem_cons_self ..)
  have hkl : ∀ y ∈ self :: ps, (PySem.W.ksEnv qual scope L fI (.ref cda) cc).kindOf y = some .local := fun y hy => hloc y hy
  obtain ⟨nmE, q, N, bs, bm, sn, sub, ab, col, dd, k0, k1, k2, k3, k5, hC, hbm, hcl⟩ := ex_cls X.T
  obtain ⟨a, b, pl, ev, hpl, hsw⟩ := hB
  rename_i p0 p1 p2 p3 p4 args rest
  show PySem.wpAt _ (A.deeper (PySem.W.ksEnv qual scope L fI (.ref cda) cc)) (.func _ (PySem.W.ksEnv qual scope L fI (.ref cda) cc)) (execs _ (PySem.W.ksEnv qual scope L fI (.ref cda) cc)) _ _ _
  have K1 : K.In h₁ := KI.keeps r0.kp
  obtain ⟨oD, cdD, hD1, hD2⟩ : ∃ oD cdD, h₁.get? C = some oD ∧ oD.data = .cls cdD := ⟨_, _, K1 _ _ hC, rfl⟩
  refine ks_wpAt_execs_cons (ks_wpAt_Expr_any (ks_wpAt_MethodCall ?_ (ev _)) (by unfold interactive; simp [hk]) (hsw _))
  refine ks_wpAt_super_base (env := PySem.W.ksEnv qual scope L fI (.ref cda) cc) hks hkc (by decide +kernel) rfl (K1 _ _ lk) rfl hp rfl (K1 _ _ lcda) rfl hvs hfile X.htop ?_
  refine PySem.W.ks_loadName_global hk hks (Calls.loadGlobal_builtin (env := PySem.W.ksEnv qual scope L fI (.ref cda) cc) (hg.keeps r0.kp) mgs (hb.keeps r0.kp) hmb ⟨rfl, ?_⟩)
  refine wpAny_loadName_free hk hkc rfl ⟨_, K1 _ _ lcc, rfl⟩ ?_
  rw [har]
  refine wpAny_loadName_local hk (hloc _ (List.mem_cons_self ..)) r0.ns m1' ?_
  refine ks_wpAny_isType_cls hD1 hD2 ⟨rfl, ?_⟩
  obtain ⟨ox, od', I⟩ := r0.inst
  refine ks_wpAny_call_super hD1 hD2 I.at_ I.cls (fun c e => ?_) (PySem.W.looks_mroIn K1 X.mroC) (fun h2 e k => ?_)
  · have := I.no
    unfold PySem.W.notCls at this
    rw [e] at this
    exact Bool.noConfusion this
  have r2 : RI g h2 L x C m none fun _ => none := r0.more k
  have K2 : K.In h2 := KI.keeps r2.kp
  obtain ⟨ox2, od2, I2⟩ := r2.inst
  have hm := X.sup
  unfold PySem.W.ks_superIn at hm
  rw [hcl] at hm
  refine PySem.W.kxs_getMethod PySem.W.kxs_ValueError e (PySem.W.looks_opaque K2 X.tp) (l₀ := .ref C :: bm) (fun A Q E s k q => wpAny_bind ((PySem.W.looks_clsIn K2 hcl) A _ E s k (wpAny_pure q))) rfl K2 hm (I2.type.andThen (PySem.W.looks_subIn K2 X.subV)) (PySem.W.ks_ne K2 I2 hcl) (by decide +kernel) ?_
  have k3 : ∀ b o, h2.get? b = some o → (h2.push (PySem.W.kxs_mw "ValueError.__init__" x)).get? b = some o := fun b o z => Heap.get?_push_of_some _ z
  have r3 : RI g (h2.push (PySem.W.kxs_mw "ValueError.__init__" x)) L x C m none fun _ => none := r2.more k3
  have u3 : (h2.push (PySem.W.kxs_mw "ValueError.__init__" x)).get? h2.objs.size = some (PySem.W.kxs_mw "ValueError.__init__" x) := Heap.get?_push_size _ rfl
  have shape : ∃ pn pp es, args = .Name pn pp :: es := by
    cases a with
    | nil => exact absurd rfl hps
    | cons r => exact ⟨_, _, _, rfl⟩
  obtain ⟨pn, pp, es, eargs⟩ := shape
  have hev : ∀ {Q : Args → Shared → Prop} {E : Value → Shared → Prop} {A' : Around} {s' : Shared}, wpAny (model P w) A' (spliced (backTo p3 (starEach args (PySem.W.ksEnv qual scope L fI (.ref cda) cc)))) (fun vs s₁ => Q ⟨vs, []⟩ s₁) E s' →
      wpAny (model P w) A' (evalArgs (Value.ref h2.objs.size) true (backTo p3 (starEach args (PySem.W.ksEnv qual scope L fI (.ref cda) cc))) []) Q E s' := by
    intro Q E A' s' hq
    rw [eargs] at hq ⊢
    exact Calls.evalArgs_plain hq
  refine PySem.W.kxs_callWith (i := "ValueError.__init__") (x := x) (hpl _) (hev (ex_names (env := PySem.W.ksEnv qual scope L fI (.ref cda) cc) hk a r3.ns (fun p hp => ⟨hloc p (List.mem_cons_of_mem _ hp), X.nodb p (List.mem_cons_of_mem _ hp)⟩) m2 ⟨u3, ?_⟩))
  refine ex_call X.T (KI.keeps r3.kp) r3 u3 (by show us.length ≤ sizeLine; rw [hu, sizeLine_eq]; omega) fun h4 r4 => ?_
  refine ex_stores (env := PySem.W.ksEnv qual scope L fI (.ref cda) cc) X.T hk KI rfl ⟨hloc _ (List.mem_cons_self ..), hself, m1'⟩ b r4 (fun p hp => ⟨hloc p (List.mem_cons_of_mem _ hp), X.nodb p (List.mem_cons_of_mem _ hp), X.fld p hp⟩) m2 (ns := []) (fun y hy => absurd rfl hy) (by simp; omega) fun h5 tk dv r5 hd => ?_
  cases dv with
  | none => exact absurd (hd rfl).2 hps
  | some d =>
    have dc := r5.dc
    exact h h5 tk d r5.kp r5.ob dc.1 dc.2.1 dc.2.2.1
end
/-! ### raise C(e, ..) -/
def fldsL : List Str → List LV → List (Str × LV) → List (Str × LV)
  | p :: ps, x :: xs, acc => fldsL ps xs ((p, x) :: acc)
  | _, _, acc => acc
def fldsV : List Str → List V → List (Str × V) → List (Str × V)
  | p :: ps, x :: xs, acc => fldsV ps xs ((p, x) :: acc)
  | _, _, acc => acc
def sRaise (c : Nat) (ps : List Str) (el : EvL) : Sv := fun env lh => rS (el env lh) env fun xs lh1 => if xs.length = ps.length then .exn c (fldsL ps xs []) env lh1 else .stuck
section
theorem flds_rel : ∀ {ps : List Str} {vs : List V} {us : List Value} {fs : List (Str × V)} {mA : Str → Option Value}, Vals vs us → (∀ y, RelO (fs.lookup y) (mA y)) → ∀ y, RelO ((fldsV ps vs fs).lookup y) (storedM ps us mA y)
  | [], vs, us, fs, mA, _, h => by cases vs <;> cases us <;> exact h
  | p :: ps, [], _, fs, mA, .nil, h => h
  | p :: ps, v :: vs, u :: us, fs, mA, .cons r rs, h => flds_rel (ps := ps) rs (relO_put r h)
theorem flds_rl {K : PySem.W.Frag} {cad : Cad} {w : Wd} : ∀ {ps : List Str} {xs : List LV} {vs : List V} {a : List (Str × LV)} {b : List (Str × V)}, RLs K cad w xs vs → RLf K cad w a b → RLf K cad w (fldsL ps xs a) (fldsV ps vs b)
  | [], xs, vs, a, b, h, g => by
    cases xs <;> cases vs <;> exact g
  | p :: ps, [], vs, a, b, h, g => by
    simp only [RLs] at h; subst h; exact g
  | p :: ps, x :: xs, vs, a, b, h, g => by
    simp only [RLs] at h
    obtain ⟨v, us, rfl, r, rs⟩ := h
    refine flds_rl (ps := ps) rs ?_
    simp only [RLf]
    exact ⟨v, b, rfl, r, g⟩
variable {X : Cx} {cad : Cad} {W : WX} {x : Str} {p pos rpos : Pos} {e : Expr} {es : List Expr} {el : EvL} {c : Nat} {fI : Addr} {self : Str} {ps : List Str} {t : TA}
/-- an own exception with such an __init__ is made -/
theorem pmk_ex {C : Addr} (xi : ExI X.prog X.K C fI self ps) (hps : ps ≠ []) (hz : ps.length ≤ 800) (hd : X.A.depth + 1 < recursionLimit) (hg : Gl X x) (hm : X.mg x = some (.ref C)) (hsup : X.mg "super" = none) (ha : PA X (e :: es) t)
    (hdb : (x == ("__debug__" : Str)) = false := by decide) (he : starEach (e :: es) X.env = (false, eval e X.env) :: starEach es X.env := by rfl) (hpl : (backTo pos (starEach es X.env)).any (·.1) = false := by rfl) :
    PMk X (.Call (.Name x p) (e :: es) [] pos) (fun σ H Q => t σ H fun vs H1 => vs.length = ps.length ∧ ∀ d, H1 d = none → Q (.ref C) (some d) (upd H1 d (.xd (fldsV ps vs [])))) := by
  intro pins s σ H Q I h
  obtain ⟨nm, q, N, bs, bm, sn, sub, ab, col, dd, k0, k1, k2, k3, k5, hC, hbm, hcl⟩ := ex_cls xi.T
  refine wpAny_Call_Name_kw (ld_glob I hg hm ?_ hdb)
  refine PySem.W.callWith_K (h₀ := X.base) I.ok.mod.kin xi.T.kC (thn (ha.run pos pins s σ H _ I h) fun us s1 ⟨vs, H1, I1, r1, hlen, q1⟩ => ⟨I1.kIn, ?_⟩) he hpl
  show wpAny _ _ (call (.ref C) us) _ _ _
  obtain ⟨hp, g, dr, tk, os⟩ := s1
  have hus : us.length = ps.length := by rw [← r1.length]; exact hlen
  have kk : ∀ b o, hp.get? b = some o → ((hp.push (PySem.W.kdv_tup us)).push (PySem.HandSPX.excO C hp.objs.size)).get? b = some o := fun b o e => Heap.get?_push_of_some _ (Heap.get?_push_of_some _ e)
  have hget : ((hp.push (PySem.W.kdv_tup us)).push (PySem.HandSPX.excO C hp.objs.size)).get? (hp.objs.size + 1) = some (PySem.HandSPX.excO C hp.objs.size) := by heap_get
  have hxn : hp.get? (hp.objs.size + 1) = none := by
    cases z : hp.get? (hp.objs.size + 1) with
    | none => rfl
    | some o => exact absurd (Heap.lt_size z) (Nat.not_lt_of_le (Nat.le_succ _))
  obtain ⟨mb, b1, b2⟩ := I1.mod.blt
  refine wpAny_call (PySem.HandSPX.call_own F.excBase_ValueError (fun Y => PySem.HandSPX.refsVE_contains Y bm hbm) (I1.kIn _ _ hC) (PySem.W.looks_findIn I1.kIn xi.iC) (fun self => PySem.W.bind_fn I1.kIn self xi.tI) (by rw [hus, sizeLine_eq]; omega)
    (ex_init (g := hp) (x := hp.objs.size + 1) (t0 := hp.objs.size) xi I1.kIn (I1.mod.glob.keeps I1.bk) hsup (b1.keeps I1.bk) ((b2 "super" (by decide)).trans (by decide +kernel)) (I1.mod.nolimit.keeps I1.bk) (by rw [make_depth]; exact hd) kk hget hxn hus hz hps
      fun h' tk' d kp ob hns hdn hdx => ?_))
  obtain ⟨t0, ob⟩ := ob
  refine ⟨rfl, ?_⟩
  obtain ⟨G, g1', g2'⟩ := restrict h' fun b => decide (b ≠ hp.objs.size + 1)
  have gk : ∀ b, b ≠ hp.objs.size + 1 → G.get? b = h'.get? b := fun b hb => g1' b (decide_eq_true hb)
  have ge : G.get? (hp.objs.size + 1) = none := g2' _ (by simp)
  have hk : ∀ b o, hp.get? b = some o → G.get? b = some o := fun b o z => by
    rw [gk b (fun e => by rw [e, hxn] at z; cases z)]
    exact kp b o z
  have hdH : H1 d = none := I1.hok.gone hdn
  have hxH : H1 (hp.objs.size + 1) = none := I1.hok.fresh (Nat.le_succ _)
  have hdG : G.Ns1 d (storedM ps us fun _ => none) := ns1_of_keep hns fun o z => by rw [gk d hdx]; exact z
  have I2 : Inv X pins σ (upd H1 d (.xd (fldsV ps vs []))) ⟨G, g, dr, tk', os⟩ := Inv.laidN (t' := tk') I1 hk hdn hdH ⟨_, hdG, flds_rel (ps := ps) r1 fun y => True.intro⟩
  refine ⟨hp.objs.size + 1, _, _, ⟨G, g, dr, tk', os⟩, upd H1 d (.xd (fldsV ps vs [])), .ref C, some d, rfl, I2, fun b o z => ?_, ge, ob, ⟨rfl, rfl⟩, rfl, rfl, by rw [upd_ne (Ne.symm hdx)]; exact hxH, rfl, I1.bare, raises_own xi.T.exC xi.T.tyC, q1 d hdH⟩
  rw [← gk b (fun e => by rw [e, ge] at z; cases z)]
  exact z
theorem s_raise (xi : ExI X.prog X.K (cad c) fI self ps) (hps : ps ≠ []) (hz : ps.length ≤ 800) (hd : X.A.depth + 1 < recursionLimit) (hcalm : X.calm = true) (tk : Takes X W) (hg : Gl X x) (hm : X.mg x = some (.ref (cad c))) (hsup : X.mg "super" = none) (ha : SA X cad W (e :: es) el)
    (hdb : (x == ("__debug__" : Str)) = false := by decide) (he : starEach (e :: es) X.env = (false, eval e X.env) :: starEach es X.env := by rfl) (hpl : (backTo pos (starEach es X.env)).any (·.1) = false := by rfl) :
    SS X cad W (.Raise (some (.Call (.Name x p) (e :: es) [] pos)) none rpos) (sRaise c ps el) := by
  refine Lv.PS.imp (ps_raise hcalm tk (pmk_ex xi hps hz hd hg hm hsup ha hdb he hpl)) fun D σ H ⟨w, env, eH, m, re, po⟩ => ?_
  refine ⟨w, env, eH, m, re, poS_bind po re fun w1 xs vs x1 m1 r1 po1 => ?_⟩
  by_cases hl : xs.length = ps.length
  · rw [if_pos hl] at po1
    refine ⟨by rw [← r1.length]; exact hl, fun d hd => ?_⟩
    have xn : Ext w1 { w1 with H := upd w1.H d (.xd (fldsV ps vs [])) } := Ext.new hd
    exact po1 { w1 with H := upd w1.H d (.xd (fldsV ps vs [])) } rfl xn (m1.new hd) σ ((re.mono x1).mono xn) (some d) ⟨_, upd_same, m1.notLive hd, RLf.mono xn _ _ (flds_rl r1 (by simp only [RLf]))⟩
  · rw [if_neg hl] at po1; exact po1.elim
end
end Lv
end
section
set_option Elab.async false
set_option linter.all false
set_option maxRecDepth 100000
set_option maxHeartbeats 2000000
namespace Lv
open PySem PySem.Spec PyProof.Rows L2

/-! ### several except clauses, with names -/
abbrev Cls3 := Value × Option Nat × (Addr → Value → Option Addr → TS)
def wipeD (i : Nat) (D : Ends) : Ends := { nx := fun σ H => D.nx (σ.set i none) H, rt := D.rt, bk := fun σ H => D.bk (σ.set i none) H, ct := fun σ H => D.ct (σ.set i none) H }
def wManyA (K : PySem.W.Frag) (nN : Nat) (Wout : WX) (D : Ends) : List Cls3 → WX
  | [] => Wout
  | (c, o, ts) :: r => fun cls d σ H => ∃ b, PySem.W.exmOne K cls c = some b ∧ (b = true → ∀ a, H a = none → σ.length = nN → match o with
      | none => ts a cls d D σ H
      | some i => ts a cls d (wipeD i D) (σ.set i (some (.ref a))) H) ∧ (b = false → wManyA K nN Wout D r cls d σ H)
inductive HdsA (X : Cx) : List ExceptHandler → List Cls3 → Prop
  | nil : HdsA X [] []
  | bare {x : Str} {c : Value} {ts : Addr → Value → Option Addr → TS} {b₀ : Stmt} {suite : List Stmt} {np pos' : Pos} {hds : List ExceptHandler} {l : List Cls3} (hc : Names X x c)
      (hsu : ∀ (a : Addr) (oe : Obj) (cls : Value) (d : Option Addr) (pn : List (Addr × Obj)), Zc cls d oe → (∃ vs, oe.data = .fields vs) → PSs (X.suite a ((a, oe) :: pn)) (b₀ :: suite) (ts a cls d)) (r : HdsA X hds l) :
      HdsA X (.ExceptHandler (some (.Name x np)) none (b₀ :: suite) pos' :: hds) ((c, none, ts) :: l)
  | as_ {x n : Str} {i : Nat} {c : Value} {ts : Addr → Value → Option Addr → TS} {b₀ : Stmt} {suite : List Stmt} {np pos' : Pos} {hds : List ExceptHandler} {l : List Cls3} (hi : X.N[i]? = some n) (hln : X.env.kindOf n = some .local) (hc : Names X x c)
      (hsu : ∀ (a : Addr) (oe : Obj) (cls : Value) (d : Option Addr) (pn : List (Addr × Obj)), Zc cls d oe → (∃ vs, oe.data = .fields vs) → PSs (X.suite a ((a, oe) :: pn)) (b₀ :: suite) (ts a cls d)) (r : HdsA X hds l) :
      HdsA X (.ExceptHandler (some (.Name x np)) (some n) (b₀ :: suite) pos' :: hds) ((c, some i, ts) :: l)
section
variable {X : Cx} {body : List Stmt} {h₀ : ExceptHandler} {hds : List ExceptHandler} {l : List Cls3} {pos : Pos} {tb : WX → TS} {Wout : WX}
theorem ps_tryA (hs : X.stack = X.env :: X.outer) (hf : X.env.frame = some X.env.locals) (hN : X.N.Nodup) (tk : Takes X Wout)
    (hb : ∀ (W : WX) (pn : List (Addr × Obj)) (xe : Value → Shared → Prop), Takes (X.tr pn xe) W → PassesOwn (model X.prog X.w) X.A X.env xe → PSs (X.tr pn xe) body (tb W))
    (hh : HdsA X (h₀ :: hds) l) : PS X (.Try body (h₀ :: hds) [] [] pos) (fun D σ H => tb (wManyA X.K X.N.length Wout D l) D σ H) := by
  refine ⟨fun pins s σ H D I h => ?_⟩
  have ok := I.ok
  have hfr : X.A.frames = some (X.env :: X.outer) := by rw [ok.frames, hs]
  refine wpAny_Try_except ?_
  refine wpAny_mono ((hb (wManyA X.K X.N.length Wout D l) (X.pn ++ pins) (fun e s₁ => wpAny (model X.prog X.w) X.A (noteFrame e X.env) (fun _ s₂ => wpAny (model X.prog X.w) X.A (setFlight e none) (fun _ s₃ =>
    wpAny (model X.prog X.w) X.A (handleBy e X.env (h₀ :: hds)) (SP X pins D) X.xe s₃) X.xe s₂) X.xe s₁) (fun u s' xx => ?_) PassesOwn.looking).run [] s σ H D (I.toTry _) h) (fun f s1 hsp => ?_) (fun e s1 he => he)
  · obtain ⟨a, B, sI, pins', σ', H', cls, d, rfl, J', nb, up, sky, na, os, ag, w⟩ := xx
    have J : Inv X pins σ' H' sI := J'.ofTry ok
    have sky' : Sky B (X.env :: X.outer) a (Zc cls d) X.env.locals s'.heap := by rw [← hs]; exact sky
    show wpAny (model X.prog X.w) X.A (noteFrame (.ref a) X.env) _ _ _
    refine Sky.land Zc.steady hfr hf sky' fun h3 fl3 up3 => ?_
    have J3 : Inv X pins σ' H' { s' with heap := h3 } := J.landed nb fl3.1 (up.trans up3) os ag
    obtain ⟨oe3, vs3, he3, hz3, hd3⟩ := fl3.there
    have nfr : a ∉ frs (X.env :: X.outer) := fun hm => by
      obtain ⟨_, o', e', hnf⟩ := fl3.2.2.1.mem hm
      rw [he3] at e'; cases e'
      exact hnf _ hd3
    have nL : a ≠ X.env.locals := fun z => nfr (List.mem_filterMap.mpr ⟨X.env, List.mem_cons_self, by rw [hf, z]⟩)
    have nF : a ∉ X.fs := fun hm => by
      obtain ⟨e, he, q⟩ := List.mem_filterMap.mp hm
      exact nfr (List.mem_filterMap.mpr ⟨e, List.mem_cons_of_mem _ he, q⟩)
    have S3 := J3.suite he3 hd3 na nL nF
    have LT : PySem.W.Looks (model X.prog X.w) h3 (typeOf (.ref a)) cls := fun A Q E s k q => wpAny_typeOf_ref (k _ _ he3) (by rw [hz3.1]; exact q)
    have test : ∀ {x : Str} {c : Value} {np : Pos} {Q : Value → Shared → Prop} {E : Value → Shared → Prop}, Names X x c → Q c { s' with heap := h3 } → wpAny (model X.prog X.w) (X.A.mark (some (.ref a))) (eval (.Name x np) X.env) Q E { s' with heap := h3 } := by
      intro x c np Q E hc q
      obtain ⟨hg, hdbg, hm | ⟨hm, hv, hnn⟩⟩ := hc
      · exact ld_glob (X := X.suite a ((a, oe3) :: (X.pn ++ pins))) S3 hg hm q hdbg
      · exact ld_blt (X := X.suite a ((a, oe3) :: (X.pn ++ pins))) S3 hg hm hv q hnn hdbg
    have go : ∀ {hds' : List ExceptHandler} {l' : List Cls3}, HdsA X hds' l' → wManyA X.K X.N.length Wout D l' cls d σ' H' →
        wpAny (model X.prog X.w) X.A (handleBy (.ref a) X.env hds') (SP X pins D) X.xe { s' with heap := h3 } := by
      intro hds' l' hk
      induction hk with
      | nil =>
        intro w
        refine wpAny_handleBy_nil ?_
        obtain ⟨k1, k2, k3, oe, vs, T, oT, ts', he, hz, hd, h1, hr⟩ := id fl3
        unfold PySem.passOn
        refine wpAny_bind (wpAny_field he hd h1 ?_)
        rw [if_neg (show ¬ ((Value.ref T == Value.none) = true) from by simp)]
        have fin : wpAny (model X.prog X.w) X.A (setFlight (.ref a) X.env.frame) (fun _ s4 => wpAny (model X.prog X.w) X.A (throw (.ref a) : Sem Flow) (SP X pins D) X.xe s4) X.xe { s' with heap := h3 } := by
          rw [hf]
          refine HandSPX.setFlight_upZ fl3 fun h4 hh4 up4 => wpAny_throw (tk _ _ ?_)
          exact ⟨a, B, sI, pins, σ', H', cls, d, rfl, J, nb, (up.trans up3).trans up4, .inr (.inr (by rw [hs]; exact hh4)), na, os, ag, w⟩
        first
          | exact wpAny_bind (wpAny_pure (wpAny_bind fin))
          | exact wpAny_bind fin
      | @bare x c ts b₀ suite np pos' hds2 l2 hc hsu r ih =>
        intro w
        obtain ⟨b, hb1, hyes, hno⟩ := w
        refine wpAny_handleBy_cons (codeAny_handlers_test ?_) (by intro q; cases q)
        have LM := PySem.W.exm_one (M := model X.prog X.w) (J3.kIn) LT hb1
        refine test hc (LM.here ?_)
        cases b with
        | true =>
          refine codeAny_handlers_suite ?_
          refine HandSPX.lands_againZ fl3 fun h4 fl4 up4 => ?_
          have J4 : Inv X pins σ' H' { s' with heap := h4 } := J.landed nb fl4.1 ((up.trans up3).trans up4) os ag
          obtain ⟨oe4, vs4, he4, hz4, hd4⟩ := fl4.there
          have S4 := J4.suite he4 hd4 na nL nF
          refine wpAny_mono ((hsu a oe4 cls d (X.pn ++ pins) hz4 ⟨_, hd4⟩).run [] _ _ H' _ S4 (hyes rfl a na J.len)) (fun f s6 hsp => ?_) (fun _ _ z => False.elim z)
          cases f with
          | next => obtain ⟨σ6, H6, S6, q6⟩ := hsp; exact ⟨_, _, S6.unsuite ok, q6⟩
          | brk => obtain ⟨σ6, H6, S6, q6⟩ := hsp; exact ⟨_, _, S6.unsuite ok, q6⟩
          | cont => obtain ⟨σ6, H6, S6, q6⟩ := hsp; exact ⟨_, _, S6.unsuite ok, q6⟩
          | ret u => obtain ⟨v6, σ6, H6, S6, r6, q6⟩ := hsp; exact ⟨_, _, _, S6.unsuite ok, r6, q6⟩
        | false =>
          show wpAny _ X.A (handleBy (.ref a) X.env hds2) _ _ _
          exact ih (hno rfl)
      | @as_ x n i c ts b₀ suite np pos' hds2 l2 hi hln hc hsu r ih =>
        intro w
        obtain ⟨b, hb1, hyes, hno⟩ := w
        refine wpAny_handleBy_cons (codeAny_handlers_test ?_) (by intro q; cases q)
        have LM := PySem.W.exm_one (M := model X.prog X.w) (J3.kIn) LT hb1
        refine test hc (LM.here ?_)
        cases b with
        | true =>
          refine codeAny_handlers_suite_as ?_
          refine HandSPX.lands_againZ fl3 fun h4 fl4 up4 => ?_
          have J4 : Inv X pins σ' H' { s' with heap := h4 } := J.landed nb fl4.1 ((up.trans up3).trans up4) os ag
          obtain ⟨oe4, vs4, he4, hz4, hd4⟩ := fl4.there
          have S4 := J4.suite he4 hd4 na nL nF
          refine store_ok (X := X.suite a ((a, oe4) :: (X.pn ++ pins))) (v := .ref a) S4 hN hi (.inl hln) rfl (fun s5 S5 => ?_) (.inr hln)
          refine wpAny_mono ((hsu a oe4 cls d (X.pn ++ pins) hz4 ⟨_, hd4⟩).run [] s5 _ H' _ S5 (hyes rfl a na J.len)) (fun f s6 hsp => ?_) (fun _ _ z => False.elim z)
          have end_ : ∀ {σ6 : L2.St} {H6 : Hp} {Q : Shared → Prop}, Inv (X.suite a ((a, oe4) :: (X.pn ++ pins))) [] σ6 H6 s6 → (∀ s7, Inv X pins (σ6.set i none) H6 s7 → Q s7) →
              wpAny (model X.prog X.w) X.A (do bindName X.env n .none; unbindBehindTheSuite X.env n pos') (fun _ s7 => Q s7) X.xe s6 := fun {σ6 H6 Q} S6 hq => gone_ok (S6.unsuite ok) hN hi hln hq
          cases f with
          | next => obtain ⟨σ6, H6, S6, q6⟩ := hsp; exact end_ S6 fun s7 J7 => ⟨_, _, J7, q6⟩
          | brk => obtain ⟨σ6, H6, S6, q6⟩ := hsp; exact end_ S6 fun s7 J7 => ⟨_, _, J7, q6⟩
          | cont => obtain ⟨σ6, H6, S6, q6⟩ := hsp; exact end_ S6 fun s7 J7 => ⟨_, _, J7, q6⟩
          | ret u => obtain ⟨v6, σ6, H6, S6, r6, q6⟩ := hsp; exact end_ S6 fun s7 J7 => ⟨_, _, _, J7, r6, q6⟩
        | false =>
          show wpAny _ X.A (handleBy (.ref a) X.env hds2) _ _ _
          exact ih (hno rfl)
    exact go hh w
  · cases f with
    | next => obtain ⟨σ', H', J', q⟩ := hsp; exact wpAny_execs_nil ⟨σ', H', J'.ofTry ok, q⟩
    | brk => obtain ⟨σ', H', J', q⟩ := hsp; exact ⟨σ', H', J'.ofTry ok, q⟩
    | cont => obtain ⟨σ', H', J', q⟩ := hsp; exact ⟨σ', H', J'.ofTry ok, q⟩
    | ret u => obtain ⟨v, σ', H', J', r, q⟩ := hsp; exact ⟨v, σ', H', J'.ofTry ok, r, q⟩
end
/-! ### the suites: return a tuple of texts, fields of the exception, reprs of them -/
abbrev Xv := List (Str × LV) → LH → Res LV
def xC (l : LV) : Xv := fun _ lh => .ok l lh
def xF (f : Str) : Xv := fun fs lh => optR (fs.lookup f) lh
def xR (g : Xv) : Xv := fun fs lh => rb (g fs lh) fun x lh1 => fRepr [x] lh1
def xItems : List Xv → List (Str × LV) → LH → Res (List LV)
  | [], _, lh => .ok [] lh
  | g :: r, fs, lh => rb (g fs lh) fun x lh1 => rb (xItems r fs lh1) fun xs lh2 => .ok (x :: xs) lh2
def xTup (l : List Xv) : Xv := fun fs lh => rb (xItems l fs lh) fTup
section
variable (K : PySem.W.Frag) (cad : Cad) (a : Addr) (cls : Value) (d : Option Addr) (o : Option Nat) (c : Nat)
abbrev E0' : XK := fun _ _ _ => False
def XIn (w : Wd) (σ : L2.St) (H : Hp) (fs : List (Str × LV)) : Prop := w.H = H ∧ Emb K cad w ∧ cls = .ref (cad c) ∧ XdOk K cad w fs d ∧ ∀ i, o = some i → σ[i]? = some (some (.ref a))
def tX (g : Xv) : TE := fun σ H Q => ∃ w fs, XIn K cad a cls d o c w σ H fs ∧ Po K cad (RL K cad) w Q E0' (g fs w.lh)
def tXs (g : List (Str × LV) → LH → Res (List LV)) : TA := fun σ H Q => ∃ w fs, XIn K cad a cls d o c w σ H fs ∧ Po K cad (RLs K cad) w Q E0' (g fs w.lh)
end
section
variable {X : Cx} {cad : Cad} {a : Addr} {oe : Obj} {cls : Value} {d : Option Addr} {o : Option Nat} {c : Nat} {pn : List (Addr × Obj)} {e : Expr} {es : List Expr} {g : Xv} {gs : List Xv} {pos : Pos}
theorem XIn.mono {w w' : Wd} {σ : L2.St} {H : Hp} {fs : List (Str × LV)} {K : PySem.W.Frag} (h : XIn K cad a cls d o c w σ H fs) (x : Ext w w') (m : Emb K cad w') : XIn K cad a cls d o c w' σ w'.H fs := by
  obtain ⟨_, _, h3, h4, h5⟩ := h
  refine ⟨rfl, m, h3, ?_, h5⟩
  cases d with
  | none => exact h4
  | some dd =>
    obtain ⟨ufs, e, nl, r⟩ := h4
    exact ⟨ufs, x.keep _ _ e (fun _ q => nomatch q) (nwr nl), x.notLive e nl, RLf.mono x _ _ r⟩
/-- an item in an except suite -/
abbrev SX (X : Cx) (cad : Cad) (a : Addr) (oe : Obj) (cls : Value) (d : Option Addr) (o : Option Nat) (c : Nat) (pn : List (Addr × Obj)) (e : Expr) (g : Xv) : Prop := PE (X.suite a ((a, oe) :: pn)) e (tX X.K cad a cls d o c g)
abbrev SXs (X : Cx) (cad : Cad) (a : Addr) (oe : Obj) (cls : Value) (d : Option Addr) (o : Option Nat) (c : Nat) (pn : List (Addr × Obj)) (es : List Expr) (g : List Xv) : Prop := PA (X.suite a ((a, oe) :: pn)) es (tXs X.K cad a cls d o c (xItems g))
theorem sx_str {x : Str} {j : Nat} : SX X cad a oe cls d o c pn (.Constant (.str x) j pos) (xC (.str x)) :=
  Lv.PE.imp pe_str fun σ H Q ⟨w, fs, ⟨eH, m, _⟩, po⟩ => by subst eH; exact po_here (a := LV.str x) po m (mk_str x)
theorem sx_fld {i : Nat} {n f : Str} {np : Pos} (T : XfC X.K (cad c)) (hno : PySem.W.findIn X.K (.ref (cad c)) f = some none) (hz : Zc cls d oe) (hf : ∃ vs, oe.data = .fields vs) (hN : X.N[i]? = some n) (hv : Vis X.env.scope n) (hd : (n == ("__debug__" : Str)) = false := by decide) (hcd : (n == ("__classdict__" : Str)) = false := by decide)
    (hb : attributeBase (.Name n np) f X.env (eval (.Name n np) X.env) = eval (.Name n np) X.env := by rfl) : SX X cad a oe cls d (some i) c pn (.Attribute (.Name n np) f pos) (xF f) := by
  refine Lv.PE.imp (pe_xf (C := cad c) T hno hz hf (pv (X := X.suite a ((a, oe) :: pn)) i hN hv hd hcd) hb) fun σ H Q ⟨w, fs, ⟨eH, m, ec, xd, hs⟩, po⟩ => ?_
  subst eH
  refine ⟨.ref a, hs i rfl, rfl, ec, ?_⟩
  unfold xF at po
  cases hl : fs.lookup f with
  | none => rw [hl] at po; exact po.elim
  | some v =>
    rw [hl] at po
    cases d with
    | none =>
      have : fs = [] := xd
      subst this
      cases hl
    | some dd =>
      obtain ⟨ufs, e1, nl, r⟩ := xd
      obtain ⟨u, hu, ru⟩ := (rlf_lookup f r).2 v hl
      exact ⟨dd, ufs, u, rfl, e1, hu, po_here po m ru⟩
theorem sx_repr {p : Pos} (hg : Gl X "repr") (hm : X.mg "repr" = none) (hgd : X.A.guards = some []) (hu : X.A.units + 64 < cLine) (he : SX X cad a oe cls d o c pn e g)
    (hs : starEach [e] X.env = (false, eval e X.env) :: starEach [] X.env := by rfl) (hpl : (backTo pos (starEach [] X.env)).any (·.1) = false := by rfl) : SX X cad a oe cls d o c pn (.Call (.Name "repr" p) [e] [] pos) (xR g) := by
  refine ⟨fun pins s σ H Q I h => ?_⟩
  refine wpAny_Call_Name_kw (ld_blt (X := X.suite a ((a, oe) :: pn)) I hg hm (show bootBuiltins "repr" = some (.builtin "repr") by decide +kernel) ?_ (by decide) (by decide))
  obtain ⟨w, fs, xin, po⟩ := h
  have eH := xin.1
  refine PyProof.Rows.callWith_builtin1 (thn ((pa_cons he pa_nil hs).run pos pins s σ H (fun vs H1 => match vs with | [x] => ∃ w1 l, w1.H = H1 ∧ Emb X.K cad w1 ∧ RL X.K cad w1 l x ∧ Po X.K cad (RL X.K cad) w1 Q E0' (fRepr [l] w1.lh) | _ => False) I ?_) fun us s1 ⟨vs, H1, I1, r1, q⟩ => ?_) hs hpl
  · exact ⟨w, fs, xin, po_bind po fun w1 l u x1 m1 r1 po1 => ⟨w1, l, rfl, m1, r1, po1⟩⟩
  · match vs, r1, q with
    | [x], r1, ⟨w1, l, e1, m1, rl, po1⟩ =>
      subst e1
      exact cl_repr (X := X.suite a ((a, oe) :: pn)) (W := W0) (cad := cad) hgd hu pins s1 σ w1 [l] [x] us Q I1 m1 (RLs.cons rl RLs.nil) r1 po1
theorem sx_nil : SXs X cad a oe cls d o c pn [] [] := Lv.PA.imp pa_nil fun σ H Q ⟨w, fs, ⟨eH, m, _⟩, po⟩ => by subst eH; exact po_here po m RLs.nil
theorem sx_cons (he : SX X cad a oe cls d o c pn e g) (hr : SXs X cad a oe cls d o c pn es gs) (hs : starEach (e :: es) X.env = (false, eval e X.env) :: starEach es X.env := by rfl) : SXs X cad a oe cls d o c pn (e :: es) (g :: gs) := by
  refine Lv.PA.imp (pa_cons he hr hs) fun σ H Q ⟨w, fs, xin, po⟩ => ?_
  refine ⟨w, fs, xin, po_bind po fun w1 l u x1 m1 r1 po1 => ?_⟩
  refine ⟨w1, fs, xin.mono x1 m1, po_bind po1 fun w2 ls us x2 m2 r2 po2 => ?_⟩
  exact po_here po2 m2 (RLs.cons (RL.mono x2 _ _ r1) r2)
theorem sx_tup {j : Nat} (hl : SXs X cad a oe cls d o c pn es gs) : SX X cad a oe cls d o c pn (.Tuple es j pos) (xTup gs) := by
  refine Lv.PE.imp (pe_tup hl) fun σ H Q ⟨w, fs, xin, po⟩ => ?_
  refine ⟨w, fs, xin, po_bind po fun w1 ls us x1 m1 r1 po1 => ?_⟩
  unfold fTup at po1
  by_cases hz : ls.length ≤ LIM
  · rw [if_pos hz] at po1
    exact ⟨by rw [← r1.length]; exact lim_line hz, fun p hp => po_tup po1 m1 r1 p hp⟩
  · rw [if_neg hz] at po1; exact po1.elim
/-- the reading of a suite that returns -/
def tSu (K : PySem.W.Frag) (cad : Cad) (o : Option Nat) (c : Nat) (g : Xv) : Addr → Value → Option Addr → TS := fun a cls d D σ H => tX K cad a cls d o c g σ H D.rt
theorem sx_ret (he : SX X cad a oe cls d o c pn e g) : PSs (X.suite a ((a, oe) :: pn)) [.Return (some e) pos] (tSu X.K cad o c g a cls d) :=
  pss_one (ps_ret he)
end
/-! ### try -/
abbrev Hd := Nat × Option Nat × Xv
def sTry (s : Sv) (HL : List Hd) : Sv := fun env lh => match s env lh with
  | .exn c fs env' lh' => (match HL.lookup c with
    | some (o, g) => (match g fs lh' with
      | .ok v lh2 => .rt v lh2
      | _ => .stuck)
    | none => .stuck)
  | r => r
def cl3 (K : PySem.W.Frag) (cad : Cad) (h : Hd) : Cls3 := (.ref (cad h.1), h.2.1, tSu K cad h.2.1 h.1 h.2.2)
section
variable {X : Cx} {cad : Cad} {W : WX} {body : List Stmt} {h₀ : ExceptHandler} {hds : List ExceptHandler} {HL : List Hd} {pos : Pos} {s : Sv}
theorem many_of {nN : Nat} {K : PySem.W.Frag} {Wout : WX} {D : Ends} {c : Nat} {o : Option Nat} {g : Xv} {fs : List (Str × LV)} {w : Wd} {σ : L2.St} {d : Option Addr} (m : Emb K cad w) (xd : XdOk K cad w fs d) (po : Po K cad (RL K cad) w D.rt E0' (g fs w.lh)) :
    ∀ {HL : List Hd}, (∀ h ∈ HL, PySem.W.exmOne K (.ref (cad c)) (.ref (cad h.1)) = some (decide (c = h.1))) → (∀ h ∈ HL, ∀ i, h.2.1 = some i → i < nN) → HL.lookup c = some (o, g) → wManyA K nN Wout D (HL.map (cl3 K cad)) (.ref (cad c)) d σ w.H
  | [], _, _, hl => by simp at hl
  | (c', o', g') :: HL, he, hi, hl => by
    refine ⟨_, he _ (List.mem_cons_self ..), fun hb a ha hlen => ?_, fun hb => ?_⟩
    · have ec : c = c' := of_decide_eq_true hb
      subst ec
      have : (o', g') = (o, g) := by simpa using hl
      cases this
      cases o with
      | none => exact ⟨w, fs, ⟨rfl, m, rfl, xd, fun i h => nomatch h⟩, po⟩
      | some i =>
        refine ⟨w, fs, ⟨rfl, m, rfl, xd, fun j h => ?_⟩, po⟩
        cases h
        exact List.getElem?_set_self (by rw [hlen]; exact hi _ (List.mem_cons_self ..) i rfl)
    · have ec : c ≠ c' := of_decide_eq_false hb
      rw [List.lookup_cons, show (c == c') = false by simpa using ec] at hl
      exact many_of m xd po (fun h hh => he h (List.mem_cons_of_mem _ hh)) (fun h hh => hi h (List.mem_cons_of_mem _ hh)) hl
theorem s_try (hs : X.stack = X.env :: X.outer) (hf : X.env.frame = some X.env.locals) (hN : X.N.Nodup) (tk : Takes X W)
    (hb : ∀ (W' : WX) (pn : List (Addr × Obj)) (xe : Value → Shared → Prop), Takes (X.tr pn xe) W' → PassesOwn (model X.prog X.w) X.A X.env xe → SSs (X.tr pn xe) cad W' body s)
    (hh : HdsA X (h₀ :: hds) (HL.map (cl3 X.K cad))) (he : ∀ c ∈ HL.map (·.1), ∀ h ∈ HL, PySem.W.exmOne X.K (.ref (cad c)) (.ref (cad h.1)) = some (decide (c = h.1))) (hi : ∀ h ∈ HL, ∀ i, h.2.1 = some i → i < X.N.length) :
    SS X cad W (.Try body (h₀ :: hds) [] [] pos) (sTry s HL) := by
  refine ⟨fun pins st σ H D I h => ?_⟩
  refine (ps_tryA (tb := fun W' => tS X.K cad W' s) (Wout := W) hs hf hN tk hb hh).run pins st σ H D I ?_
  obtain ⟨w, env, eH, m, re, po⟩ := h
  refine ⟨w, env, eH, m, re, ?_⟩
  unfold sTry at po
  cases q : s env w.lh with
  | nx env' lh' => rw [q] at po; exact po
  | bk env' lh' => rw [q] at po; exact po
  | ct env' lh' => rw [q] at po; exact po
  | rt env' lh' => rw [q] at po; exact po
  | stuck => rw [q] at po; exact po
  | exn c fs env' lh' =>
    rw [q] at po
    dsimp only at po
    cases hl : HL.lookup c with
    | none => rw [hl] at po; exact po.elim
    | some og =>
      obtain ⟨o, g⟩ := og
      rw [hl] at po
      dsimp only at po
      intro w' e x m' σ' re' d xd
      have hmem : c ∈ HL.map (·.1) := by
        have : ∀ {L : List Hd}, L.lookup c = some (o, g) → c ∈ L.map (·.1) := by
          intro L
          induction L with
          | nil => intro h; simp at h
          | cons p L ih =>
            intro h
            obtain ⟨a, b⟩ := p
            rw [List.lookup_cons] at h
            by_cases hc : c = a
            · subst hc; exact List.mem_cons_self ..
            · rw [show (c == a) = false by simpa using hc] at h
              exact List.mem_cons_of_mem _ (ih h)
        exact this hl
      refine many_of m' xd ?_ (fun h hh => he c hmem h hh) hi hl
      subst e
      cases qg : g fs w'.lh with
      | ok v lh2 =>
        rw [qg] at po
        exact fun w2 e2 x2 m2 u r => po w2 e2 (x.trans x2) m2 u r
      | exn c' fs' lh2 => rw [qg] at po; exact po.elim
      | stuck => rw [qg] at po; exact po.elim
end
end Lv
end
section
set_option Elab.async false
set_option linter.all false
set_option maxRecDepth 100000
set_option maxHeartbeats 2000000
namespace Lv
open PySem PySem.Spec PyProof.Rows L2
open LamX (Tabs CodeO LamS lamEnv lamCx ExtN)

/-! ### a lambda handed to the def that calls it within a try -/
section
variable {X : Cx} {pins : List (Addr × Obj)} {σ : L2.St} {H HZ : Hp} {s s1 : Shared}
/-- the lambda's making; nothing that was tracked is lost -/
theorem lam_made {T : List (Addr × Str)} {c P : Addr} {params : Arguments} {body : Expr} {scope : Scope} {pos : Pos} {E : Value → Shared → Prop} {Q : Value → Shared → Prop} (I : Inv X pins σ H s) (TB : LamX.TabB X.base X.mg c P) (hcode : X.env.code = .ref c)
    (hm : (P, X.env.qual ++ "<lambda>") ∈ T) (hu : ∀ p ∈ T, p.1 = P → p.2 = X.env.qual ++ "<lambda>") (hT : Tabs T H) (hdef : defaultsOf params X.env = ([], [])) (hfree : ∀ y ∈ scope.names, y.2 = .free → ∃ c, X.env.cells.lookup y.1 = some c)
    (h : ∀ (f c' : Addr) (pm ctv : Value) (H1 : Hp) (s' : Shared), Inv X pins σ H1 s' → ExtN H H1 → (∀ b, H b ≠ none → H1 b ≠ none) → Tabs T H1 →
      s'.heap.get? f = some (PySem.W.kla_obj "<lambda>" (X.env.qual ++ "<lambda>") params body scope (cloFrom X.env.cells scope.names []) pm c' ctv) → H1 f = none → f ∉ frs X.stack → H1 c' = some (CodeO c' (X.env.qual ++ "<lambda>")) → Q (.ref f) s') :
    wpAny (model X.prog X.w) X.A (eval (.Lambda params body scope pos) X.env) Q E s := by
  obtain ⟨ps, hP, ht, ha⟩ := hT _ hm
  have bP : s.heap.BuiltinsAt X.mg P := TB.bm.keeps I.bk
  have hP' : s.heap.get? P = some { cls := .none, data := .fields ps } := I.hok P _ hP
  have away : ∀ f, s.heap.objs.size ≤ f → f ∉ frs X.stack := by
    intro f hf z
    rcases List.mem_cons.mp (I.stkSub _ z) with e | e
    · exact absurd (e ▸ I.lt) (Nat.not_lt_of_le hf)
    · exact I.nofs hf e
  refine PySem.W.kla_eval hdef ?_
  cases hc : codeAmong pos ps.toList with
  | some cv =>
    obtain ⟨c', e, hco⟩ := ha pos cv hc
    subst e
    refine PySem.W.kla_makeFunctionHit (mg := X.mg) (c := c) (P := P) (ps := ps) (closure_ok hfree) I.ok.glob (I.mod.glob.keeps I.bk) hcode (TB.code.keeps I.bk) hP' ht hc bP fun ctv h' tk hx hsz => ?_
    have I1 := I.kept (t' := tk) (h' := h'.push (PySem.W.kla_obj "<lambda>" (X.env.qual ++ "<lambda>") params body scope (cloFrom X.env.cells scope.names []) ((X.mg "__name__").getD .none) c' ctv)) fun b o e => Heap.get?_push_of_some _ (hx b o e)
    exact h h'.objs.size c' _ ctv H _ I1 (ExtN.refl H) (fun _ q => q) hT (Heap.get?_push_size _ rfl) (I.hok.fresh hsz) (away _ hsz) hco
  | none =>
    refine PySem.W.kla_makeFunction (mg := X.mg) (c := c) (P := P) (ps := ps) (closure_ok hfree) I.ok.glob (I.mod.glob.keeps I.bk) hcode (TB.code.keeps I.bk) hP' ht hc TB.gP bP fun c' ctv h' tk hx hge hlt hrec htb => ?_
    obtain ⟨c2, oc, vs, t, e2, hoc, hd, hv⟩ := hrec
    cases e2
    have hsz : s.heap.objs.size ≤ h'.objs.size := Nat.le_trans hge (Nat.le_of_lt hlt)
    have nC : H c' = none := I.hok.fresh hge
    have I1 := LamX.inv_table (t' := tk) (more := #[rawInt pos.line, rawInt pos.col, .ref c']) (h' := h'.push (PySem.W.kla_obj "<lambda>" (X.env.qual ++ "<lambda>") params body scope (cloFrom X.env.cells scope.names []) ((X.mg "__name__").getD .none) c' ctv)) I hP
      (fun b o hb e => Heap.get?_push_of_some _ (hx b o hb e)) (Heap.get?_push_of_some _ htb) hge ⟨oc, vs, t, Heap.get?_push_of_some _ hoc, hd, hv⟩
    generalize hH1 : upd (upd H P (.tbl (ps ++ #[rawInt pos.line, rawInt pos.col, .ref c']))) c' (CodeO c' (X.env.qual ++ "<lambda>")) = H1 at I1
    have atC : H1 c' = some (CodeO c' (X.env.qual ++ "<lambda>")) := by rw [← hH1]; exact upd_same
    have atP : H1 P = some (.tbl (ps ++ #[rawInt pos.line, rawInt pos.col, .ref c'])) := by rw [← hH1, upd_ne (ne_of_none hP nC), upd_same]
    have else_ : ∀ b, b ≠ P → b ≠ c' → H1 b = H b := fun b h1 h2 => by rw [← hH1, upd_ne h2, upd_ne h1]
    have hE : ExtN H H1 := fun b o e n => by
      rw [else_ b (fun z => n ps (Option.some.inj (e.symm.trans (by rw [z]; exact hP)))) (ne_of_none e nC)]
      exact e
    have gr : ∀ b, H b ≠ none → H1 b ≠ none := fun b q => by
      rw [← hH1]
      exact upd_some (upd_some q)
    have eL : (ps ++ #[rawInt pos.line, rawInt pos.col, .ref c']).toList = ps.toList ++ [rawInt pos.line, rawInt pos.col, .ref c'] := by simp
    have hT1 : Tabs T H1 := fun p hp => by
      by_cases hb : p.1 = P
      · rw [hu p hp hb, hb]
        refine ⟨_, atP, by rw [eL]; exact PySem.TriplesOk_snoc _ _ _ _ ht, fun p' cv hcv => ?_⟩
        rw [eL] at hcv
        rcases LamX.among_app _ ht hcv with z | z
        · obtain ⟨c0, e1, e2⟩ := ha p' cv z
          exact ⟨c0, e1, hE _ _ e2 LamX.codeO_ne⟩
        · exact ⟨c', z, atC⟩
      · obtain ⟨ps', a1, a2, a3⟩ := hT p hp
        refine ⟨ps', by rw [else_ _ hb (ne_of_none a1 nC)]; exact a1, a2, fun p' cv hcv => ?_⟩
        obtain ⟨c0, e1, e2⟩ := a3 p' cv hcv
        exact ⟨c0, e1, hE _ _ e2 LamX.codeO_ne⟩
    refine h h'.objs.size c' _ ctv H1 _ I1 hE gr hT1 (Heap.get?_push_size _ rfl) ?_ (away _ hsz) atC
    rw [else_ _ (Nat.ne_of_gt (Nat.lt_of_lt_of_le (Heap.lt_size hP') hsz)) (Nat.ne_of_gt hlt)]
    exact I.hok.fresh hsz
/-- the parameter called, in the def that got the lambda -/
theorem lam_called {CXg : CXT} {Eg : XK} {Ng : List Str} {qg : Str} {sg : Scope} {g f c' : Addr} {cdg pm ctv : Value} {params : Arguments} {body : Expr} {scope : Scope} {k i : Nat} {a : Str} {pn : List (Addr × Obj)} {xe : Value → Shared → Prop} {W : WX} {E : XK} {tb : TE} {p1 p2 : Pos}
    (I : Inv X pins σ H s) (L : LamS X.env.scope scope) (hf : s.heap.get? f = some (PySem.W.kla_obj "<lambda>" (X.env.qual ++ "<lambda>") params body scope (cloFrom X.env.cells scope.names []) pm c' ctv)) (hfn : H f = none) (hfr : f ∉ frs X.stack)
    (hbind : bindArgs (PySem.W.kla_fn "<lambda>" (X.env.qual ++ "<lambda>") params body scope (cloFrom X.env.cells scope.names []) pm (.ref c') ctv) ⟨[], []⟩ = pure [])
    (tk : Takes ((cxOf CXg X.prog X.w X.K X.mg X.base Ng qg sg g cdg X.A X.stack s H Eg).tr pn xe) W) (hW : ∀ cls d σ' H', E cls d H' → W cls d σ' H') (hr : Room (k + 1) (X.A.deeper (envOfC qg sg s.heap.objs.size g cdg)))
    (hbody : ∀ (s : Shared) (H : Hp), Room k ((X.A.deeper (envOfC qg sg s1.heap.objs.size g cdg)).deeper (lamEnv X scope s.heap.objs.size f c')) → PE (lamCx X (X.A.deeper (envOfC qg sg s1.heap.objs.size g cdg)) (envOfC qg sg s1.heap.objs.size g cdg :: X.stack) s H E scope f c') body tb)
    (es1 : s1 = s) (hN : Ng[i]? = some a) (hv : Vis sg a) (hd : (a == ("__debug__" : Str)) = false) (hcd : (a == ("__classdict__" : Str)) = false) :
    PE ((cxOf CXg X.prog X.w X.K X.mg X.base Ng qg sg g cdg X.A X.stack s H Eg).tr pn xe) (.Call (.Name a p1) [] [] p2)
      (fun σZ HZ Q => σZ[i]? = some (some (.ref f)) ∧ HZ c' = some (CodeO c' (X.env.qual ++ "<lambda>")) ∧ tb σ HZ Q) := by
  subst es1
  refine ⟨fun pinsZ sZ σZ HZ Q IZ ⟨hs, hc, ht⟩ => ?_⟩
  refine wpAny_Call_Name_kw (thn ((pe_var (pos := p1) (i := i) hN hv hd hcd).run pinsZ sZ σZ HZ (fun v H1 => v = .ref f ∧ H1 = HZ) IZ ⟨.ref f, hs, rfl, rfl⟩) fun u s2 ⟨v, H1, I1, r1, ev, eH⟩ => ?_)
  subst ev eH
  obtain rfl : u = Value.ref f := r1
  have of1 := I1.base.keep f _ hf hfn hfr (fun z => nomatch (show f ∈ ([] : List Addr) from z))
  have un : Un (frs X.stack) [] H H1 s1.heap s2.heap := I1.base
  obtain ⟨⟨oc, vs, t, hoc, hdc, hvc⟩, _, _⟩ := I1.hok c' _ hc
  have hx : Passes (L2.CX X.prog X.w) ((cxOf CXg X.prog X.w X.K X.mg X.base Ng qg sg g cdg X.A X.stack s1 H Eg).tr pn xe) E := passes_call tk hW
  have rc : codeAny (model X.prog X.w) (X.A.deeper (envOfC qg sg s1.heap.objs.size g cdg)) (.call (.ref f) ⟨[], []⟩) (CR (L2.CX X.prog X.w) (envOfC qg sg s1.heap.objs.size g cdg :: X.stack) X.prog X.w H1 s2 Q E) s2 := by
    refine PySem.W.kla_callFunE hr.depth of1 rfl L.co L.gen rfl ⟨c', oc, vs, t, rfl, hoc, hdc, hvc⟩ ?_
    rw [hbind]
    refine wpAny_pure (wpAny_newFunctionEnv (fun y hy => (L.own y hy).2) (fun y hy => absurd hy (by simp)) (fun h₁ hns hsb => ⟨I1.nolimit.fresh _ hsb, ?_⟩) L.kind)
    have kp : ∀ b o, s2.heap.get? b = some o → h₁.get? b = some o := fun b o e => hsb.extBut b o (Nat.ne_of_lt (Heap.lt_size e)) (Heap.get?_push_of_some _ e)
    have J := LamX.lam_start2 (A := X.A.deeper (envOfC qg sg s1.heap.objs.size g cdg)) (outer := envOfC qg sg s1.heap.objs.size g cdg :: X.stack) (E := E) (f := f) (c' := c') (tk := s2.toks + ([] : List (Str × Value)).length) I L I1.env0 hr.hd un hns kp
    show codeAny _ _ (.expr body (lamEnv X scope s2.heap.objs.size f c')) _ _
    refine PySem.W.kla_codeExpr (wpAny_mono ((hbody s2 H1 (hr.deeper _)).run [] _ _ H1 Q J ht) (fun v s' ⟨w', H', J', rv, q⟩ => ⟨w', H', J'.os, J'.bare, J'.base, J'.hok, rv, q⟩) fun e s' hq => hq)
  refine PySem.W.callWith_F0 ⟨_, _, _, _, of1⟩ (wpAny_call (codeAny_mono rc fun r s' hq => ?_))
  cases r with
  | error e => exact hx pinsZ σZ H1 s2 e s' I1 hq
  | ok fl => cases fl with
    | ret u => exact I1.after hq
    | _ => exact False.elim hq
end
/-! ### caught(lambda: e): try: return (told, call()) / except C as e: return (..) -/
def eLam (told : Str) (b : Ev) (HL : List Hd) : Ev := fun env lh => match b env lh with
  | .ok v lh' => .ok (.tup [.str told, v]) lh'
  | .exn c fs lh' => (match HL.lookup c with
    | some (_, g) => (match g fs lh' with
      | .ok v lh2 => .ok v lh2
      | _ => .stuck)
    | none => .stuck)
  | .stuck => .stuck
/-- the def that catches, as it stands; cad.tab: the tables -/
structure CatchD (X : Cx) (cad : Cad) (x a : Str) (told : Str) (HL : List Hd) : Prop where
  ex : ∃ (g : Addr) (pg : Arguments) (bg : List Stmt) (sg : Scope) (dV kV doc pm cdv ct oc : Value) (an od : Option Addr) (osl : Array (Option Value)) (Ng : List Str) (p1 p2 p3 p8 pt pk : Pos) (j jt : Nat) (h₀ : ExceptHandler) (hds : List ExceptHandler),
    X.mg x = some (.ref g) ∧ PySem.W.keepIn X.K (.ref g) = true ∧ X.K.lookup g = some ⟨oc, od, .func (PySem.W.fnOf x x pg bg sg dV kV doc pm an cdv ct), osl⟩ ∧ PySem.W.codeIn X.K cdv x = true ∧ L2.Binds X.K (PySem.W.fnOf x x pg bg sg dV kV doc pm an cdv ct) [a] [] ∧
    FnScope Ng [a] sg ∧ Ng[0]? = some a ∧ Vis sg a ∧ (∀ h ∈ HL, ∀ i, h.2.1 = some i → i < Ng.length) ∧
    bg = [.Try [.Return (some (.Tuple [.Constant (.str told) j pk, .Call (.Name a p1) [] [] p2] jt pt)) p3] (h₀ :: hds) [] [] p8] ∧
    ∀ (s : Shared) (H : Hp), HdsA (cxOf C8.CX0 X.prog X.w X.K X.mg X.base Ng x sg g cdv X.A X.stack s H C8.E0).nox (h₀ :: hds) (HL.map (cl3 X.K cad))
  exm : ∀ c ∈ HL.map (·.1), ∀ h ∈ HL, PySem.W.exmOne X.K (.ref (cad c)) (.ref (cad h.1)) = some (decide (c = h.1))
section
variable {X : Cx} {cad : Cad} {W : WX}
theorem ext_tabs {w : Wd} {H1 : Hp} (m : Emb X.K cad w) (eN : ExtN w.H H1) (gr : ∀ b, w.H b ≠ none → H1 b ≠ none) (T1 : Tabs cad.tab H1) : Ext w ⟨w.φ, w.lh, H1⟩ ∧ Emb X.K cad ⟨w.φ, w.lh, H1⟩ := by
  have x1 : Ext w ⟨w.φ, w.lh, H1⟩ := ⟨fun _ _ e => e, fun a o e nt _ => eN a o e nt, fun _ l => .inl l, gr, fun _ l => .inl l⟩
  refine ⟨x1, ⟨m.len, m.nd, fun n a e => gr a (m.some_ n a e), fun n a lo h1 h2 => ?_, m.nr, T1⟩⟩
  have c := m.cell n a lo h1 h2
  cases lo with
  | lst xs => obtain ⟨vs, e, r⟩ := c; exact ⟨vs, eN _ _ e (fun _ q => nomatch q), RLs.mono x1 _ _ r⟩
  | dct xs => obtain ⟨vs, e, r⟩ := c; exact ⟨vs, eN _ _ e (fun _ q => nomatch q), RLk.mono x1 r⟩
  | ins c' fs => obtain ⟨dx, vs, e, r⟩ := c; exact ⟨dx, vs, eN _ _ e (fun _ q => nomatch q), RLf.mono x1 _ _ r⟩
  | rls ms => obtain ⟨vs, e, r⟩ := c; exact ⟨vs, eN _ _ e (fun _ q => nomatch q), RLs.mono x1 _ _ r⟩
  | held ms => obtain ⟨vs, e, r⟩ := c; exact ⟨vs, eN _ _ e (fun _ q => nomatch q), RLs.mono x1 _ _ r⟩
  | dead => trivial
/-- the try's body in the catching def: told of the lambda's evaluator -/
def tBody (K : PySem.W.Frag) (cad : Cad) (env : LE) (σ : L2.St) (f c' : Addr) (q told : Str) (b : Ev) (W' : WX) : TS := fun D σZ HZ => ∃ w, w.H = HZ ∧ Emb K cad w ∧ RLe K cad w env σ ∧ σZ[0]? = some (some (.ref f)) ∧ HZ c' = some (CodeO c' q) ∧
  Po K cad (RL K cad) w (fun u H1 => ∀ p, H1 p = none → D.rt (.ref p) (upd H1 p (.tup [.str told, u]))) (fun cls d H1 => ∀ σ', W' cls d σ' H1) (b env w.lh)
theorem se_lam {x a told : Str} {HL : List Hd} {c P : Addr} {k : Nat} {params : Arguments} {body : Expr} {scope : Scope} {b : Ev} {p lpos pos : Pos} (cd : CatchD X cad x a told HL) (hg : Gl X x) (hgd : X.A.guards = some [])
    (TB : LamX.TabB X.base X.mg c P) (hcode : X.env.code = .ref c) (hmT : (P, X.env.qual ++ "<lambda>") ∈ cad.tab) (hu : ∀ p ∈ cad.tab, p.1 = P → p.2 = X.env.qual ++ "<lambda>") (hr : Room (k + 2) X.A) (L : LamS X.env.scope scope) (hdef : defaultsOf params X.env = ([], []))
    (hbind : ∀ (q : Str) (cl : List (Str × Addr)) (pm cv ctv : Value), bindArgs (PySem.W.kla_fn "<lambda>" q params body scope cl pm cv ctv) ⟨[], []⟩ = pure [])
    (hbody : ∀ (A : Around) (outer : List Env) (s : Shared) (H : Hp) (E : XK) (f c' : Addr), Room k (A.deeper (lamEnv X scope s.heap.objs.size f c')) → A.guards = some [] → SE (lamCx X A outer s H E scope f c') cad (WB E) body b)
    (hdb : (x == ("__debug__" : Str)) = false := by decide) (hd : (a == ("__debug__" : Str)) = false := by decide) (hcd : (a == ("__classdict__" : Str)) = false := by decide) :
    SE X cad W (.Call (.Name x p) [.Lambda params body scope lpos] [] pos) (eLam told b HL) := by
  refine ⟨fun pins s σ H Q I ⟨w, env, eH, m, re, po⟩ => ?_⟩
  subst eH
  obtain ⟨g, pg, bg, sg, dV, kV, doc, pm, cdv, ct, oc, an, od, osl, Ng, p1, p2, p3, p8, pt, pk, j, jt, h₀, hds, hm, hk, lk, hcg, hb, Sg, hNg, hva, hiN, ebg, hh⟩ := cd.ex
  refine wpAny_Call_Name_kw (ld_glob I hg hm ?_ hdb)
  refine PySem.W.callWith_K (h₀ := X.base) I.ok.mod.kin hk ?_ (by rfl) (by rfl)
  show wpAny _ _ (spliced ((false, eval (.Lambda params body scope lpos) X.env) :: backTo pos (starEach [] X.env))) _ _ s
  refine Calls.spliced_cons (lam_made I TB hcode hmT hu m.tabs hdef (L.has I.ok) fun f c' pm' ctv H1 s' I1 eN gr T1 hf hfn hfr hco => ?_)
  refine Calls.spliced_nil ⟨I1.kIn, ?_⟩
  obtain ⟨x1, m1⟩ := ext_tabs m eN gr T1
  have rc : codeAny (model X.prog X.w) X.A (.call (.ref g) ⟨[.ref f], []⟩) (CR C8.CX0 X.stack X.prog X.w H1 s' Q C8.E0) s' := by
    refine LamX.run_ofS (N := Ng) (ps := [a]) (us := [.ref f]) (vs := [.ref f]) lk hcg Sg hr I1.env0 (hb s' [.ref f] I1.kIn rfl) (.cons rfl .nil) rfl fun hr' => ?_
    rw [ebg]
    have Z := cxOf C8.CX0 X.prog X.w X.K X.mg X.base Ng x sg g cdv X.A X.stack s' H1 C8.E0
    have tr : PS (cxOf C8.CX0 X.prog X.w X.K X.mg X.base Ng x sg g cdv X.A X.stack s' H1 C8.E0).nox (.Try [.Return (some (.Tuple [.Constant (.str told) j pk, .Call (.Name a p1) [] [] p2] jt pt)) p3] (h₀ :: hds) [] [] p8)
        (fun D σZ HZ => tBody X.K cad env σ f c' (X.env.qual ++ "<lambda>") told b (wManyA X.K Ng.length W0 D (HL.map (cl3 X.K cad))) D σZ HZ) := by
      refine ps_tryA (X := (cxOf C8.CX0 X.prog X.w X.K X.mg X.base Ng x sg g cdv X.A X.stack s' H1 C8.E0).nox) (tb := fun W' => tBody X.K cad env σ f c' (X.env.qual ++ "<lambda>") told b W') rfl rfl Sg.nd LamX.takes0 (fun W' pn xe tk _ => ?_) (hh s' H1)
      have act := fun E (hW : ∀ cls d σ' H', E cls d H' → W' cls d σ' H') => lam_called (CXg := C8.CX0) (Eg := C8.E0) (Ng := Ng) (qg := x) (sg := sg) (g := g) (cdg := cdv) (pn := pn) (xe := xe) (W := W') (E := E) (p1 := p1) (p2 := p2) (i := 0) (a := a) (tb := tE X.K cad (WB E) b) I1 L hf hfn hfr (hbind _ _ _ _ _) tk hW hr'
        (fun s2 H2 hr2 => hbody _ _ s2 H2 E f c' hr2 hgd) rfl hNg hva hd hcd
      refine pss_one ⟨fun pinsZ sZ σZ HZ D IZ ⟨w2, e2, m2, re2, hz, hc2, po2⟩ => ?_⟩
      refine (ps_ret (pe_tup (pa_cons pe_str (pa_cons (act (fun cls d H1 => ∀ σ', W' cls d σ' H1) fun _ _ σ' _ h => h σ') pa_nil)))).run pinsZ sZ σZ HZ D IZ ?_
      refine ⟨hz, hc2, w2, env, e2, m2, re2, ?_⟩
      cases qb : b env w2.lh with
      | stuck => rw [qb] at po2; exact po2
      | exn c fs lh => rw [qb] at po2; exact po2
      | ok v lh => rw [qb] at po2; exact fun w3 e3 x3 m3 u r => ⟨by show 2 ≤ sizeLine; decide, po2 w3 e3 x3 m3 u r⟩
    refine ⟨_, (pss_one tr).nox, ?_⟩
    refine ⟨⟨w.φ, w.lh, H1⟩, rfl, m1, re.mono x1, ?_, hco, ?_⟩
    · unfold L2.start; rfl
    · unfold eLam at po
      have po' := Po.ext x1 po
      cases qb : b env w.lh with
      | stuck => rw [qb] at po'; exact po'
      | ok v lh =>
        rw [qb] at po'
        intro w3 e3 x3 m3 u r p hp
        have xn : Ext w3 { w3 with H := upd w3.H p (.tup [.str told, u]) } := Ext.new hp
        exact po' { w3 with H := upd w3.H p (.tup [.str told, u]) } e3 (x3.trans xn) (m3.new hp) _ (mk_tup (VT.new m3 hp) (RLs.cons (mk_str told) (RLs.cons (RL.mono xn _ _ r) RLs.nil)))
      | exn c2 fs lh =>
        rw [qb] at po'
        dsimp only at po'
        intro w3 e3 x3 m3 d xd σ'
        cases hl : HL.lookup c2 with
        | none => rw [hl] at po'; exact po'.elim
        | some og =>
          obtain ⟨o, gx⟩ := og
          rw [hl] at po'
          dsimp only at po'
          have hmem : c2 ∈ HL.map (·.1) := by
            have : ∀ {L : List Hd}, L.lookup c2 = some (o, gx) → c2 ∈ L.map (·.1) := by
              intro L
              induction L with
              | nil => intro h; simp at h
              | cons p L ih =>
                intro h
                obtain ⟨a, b⟩ := p
                rw [List.lookup_cons] at h
                by_cases hc : c2 = a
                · subst hc; exact List.mem_cons_self ..
                · rw [show (c2 == a) = false by simpa using hc] at h
                  exact List.mem_cons_of_mem _ (ih h)
            exact this hl
          subst e3
          refine many_of m3 xd ?_ (fun h hh => cd.exm c2 hmem h hh) hiN hl
          cases qg : gx fs w3.lh with
          | ok v lh2 =>
            rw [qg] at po'
            exact fun w4 e4 x4 m4 u r => po' w4 e4 (x3.trans x4) m4 u r
          | exn c' fs' lh2 => rw [qg] at po'; exact po'.elim
          | stuck => rw [qg] at po'; exact po'.elim
  refine wpAny_call (codeAny_mono rc fun r s2 hq => ?_)
  cases r with
  | error e => exact (show False from hq).elim
  | ok fl => cases fl with
    | ret u => exact I1.after hq
    | _ => exact False.elim hq
end
end Lv
end
section
set_option Elab.async false
set_option linter.all false
set_option maxRecDepth 100000
set_option maxHeartbeats 2000000
namespace Lv
open PySem PySem.Spec PyProof.Rows L2

/-! ### names of the module -/
section
variable {X : Cx} {cad : Cad} {W : WX} {x : Str} {pos : Pos} {v : V} {u : Value} {l : LV}
/-- a global name as a value -/
theorem se_glob (hg : Gl X x) (hm : X.mg x = some u) (r : RelV v u) (rl : ∀ w, RL X.K cad w l v) (hd : (x == ("__debug__" : Str)) = false := by decide) : SE X cad W (.Name x pos) (eC l) :=
  se_c (pe_glob hg hm r hd) rl
/-- a written tuple of texts, numbers -/
theorem rl_ktup {K : PySem.W.Frag} {cad : Cad} {w : Wd} {xs : List LV} {a : Addr} {o : Obj} {its : List Value} {n : Nat} {vs : List V} (h : K.lookup a = some o) (hc : o.cls = .type "tuple") (hd : o.data = .seq its.toArray n) (hz : its.length ≤ 1000) (rv : Vals vs its) (rs : RLs K cad w xs vs) : RL K cad w (.tup xs) (.ref a) :=
  mk_tup (.inr ⟨o, its.toArray, n, h, hc, hd, Nat.le_trans (by simpa using hz) (by decide), by simpa using rv⟩) rs
end
/-! ### methods of a list that is written -/
def eApp (a e : Ev) : Ev := fun env lh => rb (a env lh) fun x lh1 => match x with
  | .ref n => (match lh1[n]? with
    | some (.lst _) => rb (e env lh1) fun y lh2 => (match lh2[n]? with
      | some (.lst xs) => if xs.length ≤ LIM ∧ noRef y = true then .ok .non (lh2.set n (.lst (xs ++ [y]))) else .stuck
      | _ => .stuck)
    | _ => .stuck)
  | _ => .stuck
def eExt (a e : Ev) : Ev := fun env lh => rb (a env lh) fun x lh1 => match x with
  | .ref n => (match lh1[n]? with
    | some (.lst _) => rb (e env lh1) fun y lh2 => (match lh2[n]?, y with
      | some (.lst xs), .fl ys => if xs.length + ys.length ≤ LIM ∧ noRefs ys = true then .ok .non (lh2.set n (.lst (xs ++ ys))) else .stuck
      | _, _ => .stuck)
    | _ => .stuck)
  | _ => .stuck
def ePop (a : Ev) : Ev := fun env lh => rb (a env lh) fun x lh1 => match x with
  | .ref n => (match lh1[n]? with
    | some (.lst xs) => (match xs[xs.length - 1]? with
      | some y => .ok y (lh1.set n (.lst xs.dropLast))
      | none => .stuck)
    | _ => .stuck)
  | _ => .stuck
theorem noRefs_dropLast : ∀ {xs : List LV}, noRefs xs = true → noRefs xs.dropLast = true
  | [], _ => rfl
  | [x], _ => rfl
  | x :: y :: xs, h => by
    simp only [noRefs, Bool.and_eq_true] at h
    show (noRef x && noRefs ((y :: xs).dropLast)) = true
    rw [h.1, noRefs_dropLast (by simp only [noRefs, Bool.and_eq_true]; exact h.2)]; rfl
theorem noRefs_take : ∀ {xs : List LV} (n : Nat), noRefs xs = true → noRefs (xs.take n) = true
  | _, 0, _ => by rw [List.take_zero]; rfl
  | [], n + 1, _ => rfl
  | x :: xs, n + 1, h => by
    simp only [noRefs, Bool.and_eq_true] at h
    show (noRef x && noRefs (xs.take n)) = true
    rw [h.1, noRefs_take n h.2]; rfl
section
variable {X : Cx} {cad : Cad} {W : WX} {o e : Expr} {ea ec : Ev} {apos cpos : Pos}
theorem rls_dropLast {K : PySem.W.Frag} {w : Wd} {xs : List LV} {vs : List V} (r : RLs K cad w xs vs) : RLs K cad w xs.dropLast vs.dropLast := by
  rw [List.dropLast_eq_take, List.dropLast_eq_take, ← r.length]
  exact r.take _
theorem se_app (ho : SE X cad W o ea) (he : SE X cad W e ec) (hbase : attributeBase o "append" X.env (eval o X.env) = eval o X.env := by rfl)
    (hfew : ((backTo cpos (starEach [e] X.env)).all (fun x => !x.1) && (backToKw cpos (keywordEach [] X.env)).all (fun x => x.1.isSome)
      && decide ([e].length + ([] : List Keyword).length + (if ([] : List Keyword).isEmpty then 0 else 1) < 30)) = true := by rfl)
    (hline : (apos.endLine == cpos.line) = true := by rfl) (hs : starEach [e] X.env = (false, eval e X.env) :: starEach [] X.env := by rfl) (hplain : (backTo cpos (starEach [] X.env)).any (·.1) = false := by rfl) :
    SE X cad W (.Call (.Attribute o "append" apos) [e] [] cpos) (eApp ea ec) := by
  refine Lv.PE.imp (pe_bm PySem.F.plainAttrs_list PySem.F.slot_list_append PySem.F.type_list_append mt_append ho (pa_cons he pa_nil hs) hbase hfew hline hs hplain) fun σ H Q ⟨w, env, eH, m, re, po⟩ => ?_
  refine ⟨w, env, eH, m, re, po_bind po fun w1 l v x1 m1 r1 po1 => ?_⟩
  cases l with
  | ref n =>
    obtain ⟨a, rfl, ha⟩ := rl_ref r1
    dsimp only at po1
    cases hl : w1.lh[n]? with
    | none => rw [hl] at po1; exact po1.elim
    | some lo =>
      rw [hl] at po1
      cases lo with
      | lst xs0 =>
        obtain ⟨vs0, e0, s0⟩ := m1.cell _ _ _ ha hl
        refine ⟨.inl ⟨rfl, vs0, .inl (.inl e0)⟩, w1, env, rfl, m1, re.mono x1, po_bind po1 fun w2 y u x2 m2 r2 po2 => ?_⟩
        have ha2 := x2.pre _ _ ha
        cases hl2 : w2.lh[n]? with
        | none => rw [hl2] at po2; exact po2.elim
        | some lo2 =>
          rw [hl2] at po2
          cases lo2 with
          | lst xs =>
            obtain ⟨vs, e1, s⟩ := m2.cell _ _ _ ha2 hl2
            have nr : noRefs xs = true := m2.nr _ _ hl2
            dsimp only at po2
            by_cases hz : xs.length ≤ LIM ∧ noRef y = true
            · rw [if_pos hz] at po2
              have xs' := Ext.set (o := .lst (vs ++ [u])) (lo' := .lst (xs ++ [y])) ha2 hl2 rfl
              have ms := m2.set (o := .lst (vs ++ [u])) (lo' := .lst (xs ++ [y])) ha2 hl2 rfl (fun q => nomatch q) (noRefs_snoc nr hz.2) ⟨_, upd_same, (RLs.mono xs' _ _ s).append (RLs.cons (RL.mono xs' _ _ r2) RLs.nil)⟩
              exact ⟨a, vs, u, rfl, rfl, e1, by rw [← s.length]; exact lim_lt hz.1, po2 ⟨w2.φ, w2.lh.set n (.lst (xs ++ [y])), upd w2.H a (.lst (vs ++ [u]))⟩ rfl xs' ms _ mk_non⟩
            · rw [if_neg hz] at po2; exact po2.elim
          | _ => exact po2.elim
      | _ => exact po1.elim
  | _ => exact po1.elim
theorem se_ext (ho : SE X cad W o ea) (he : SE X cad W e ec) (hbase : attributeBase o "extend" X.env (eval o X.env) = eval o X.env := by rfl)
    (hfew : ((backTo cpos (starEach [e] X.env)).all (fun x => !x.1) && (backToKw cpos (keywordEach [] X.env)).all (fun x => x.1.isSome)
      && decide ([e].length + ([] : List Keyword).length + (if ([] : List Keyword).isEmpty then 0 else 1) < 30)) = true := by rfl)
    (hline : (apos.endLine == cpos.line) = true := by rfl) (hs : starEach [e] X.env = (false, eval e X.env) :: starEach [] X.env := by rfl) (hplain : (backTo cpos (starEach [] X.env)).any (·.1) = false := by rfl) :
    SE X cad W (.Call (.Attribute o "extend" apos) [e] [] cpos) (eExt ea ec) := by
  refine Lv.PE.imp (pe_bm PySem.F.plainAttrs_list PySem.F.slot_list_extend PySem.F.type_list_extend mt_extend ho (pa_cons he pa_nil hs) hbase hfew hline hs hplain) fun σ H Q ⟨w, env, eH, m, re, po⟩ => ?_
  refine ⟨w, env, eH, m, re, po_bind po fun w1 l v x1 m1 r1 po1 => ?_⟩
  cases l with
  | ref n =>
    obtain ⟨a, rfl, ha⟩ := rl_ref r1
    dsimp only at po1
    cases hl : w1.lh[n]? with
    | none => rw [hl] at po1; exact po1.elim
    | some lo =>
      rw [hl] at po1
      cases lo with
      | lst xs0 =>
        obtain ⟨vs0, e0, s0⟩ := m1.cell _ _ _ ha hl
        refine ⟨.inl ⟨rfl, vs0, .inl (.inl e0)⟩, w1, env, rfl, m1, re.mono x1, po_bind po1 fun w2 y u x2 m2 r2 po2 => ?_⟩
        have ha2 := x2.pre _ _ ha
        cases hl2 : w2.lh[n]? with
        | none => rw [hl2] at po2; exact po2.elim
        | some lo2 =>
          rw [hl2] at po2
          cases lo2 with
          | lst xs =>
            cases y with
            | fl ys =>
              obtain ⟨vs, e1, s⟩ := m2.cell _ _ _ ha2 hl2
              obtain ⟨b, us, rfl, pb, sb⟩ := rl_fl r2
              have nr : noRefs xs = true := m2.nr _ _ hl2
              dsimp only at po2
              by_cases hz : xs.length + ys.length ≤ LIM ∧ noRefs ys = true
              · rw [if_pos hz] at po2
                have xs' := Ext.set (o := .lst (vs ++ us)) (lo' := .lst (xs ++ ys)) ha2 hl2 rfl
                have ms := m2.set (o := .lst (vs ++ us)) (lo' := .lst (xs ++ ys)) ha2 hl2 rfl (fun q => nomatch q) (noRefs_append nr hz.2) ⟨_, upd_same, (RLs.mono xs' _ _ s).append (RLs.mono xs' _ _ sb)⟩
                exact ⟨a, b, vs, us, rfl, rfl, e1, pb.1, by rw [← s.length, ← sb.length]; exact lim_line hz.1, po2 ⟨w2.φ, w2.lh.set n (.lst (xs ++ ys)), upd w2.H a (.lst (vs ++ us))⟩ rfl xs' ms _ mk_non⟩
              · rw [if_neg hz] at po2; exact po2.elim
            | _ => exact po2.elim
          | _ => cases y <;> exact po2.elim
      | _ => exact po1.elim
  | _ => exact po1.elim
theorem noRefs_get : ∀ {xs : List LV} {i : Nat} {y : LV}, noRefs xs = true → xs[i]? = some y → noRef y = true
  | x :: xs, 0, y, h, e => by
    simp only [noRefs, Bool.and_eq_true] at h
    simp at e; subst e; exact h.1
  | x :: xs, i + 1, y, h, e => by
    simp only [noRefs, Bool.and_eq_true] at h
    exact noRefs_get h.2 (by simpa using e)
theorem se_pop (ho : SE X cad W o ea) (hbase : attributeBase o "pop" X.env (eval o X.env) = eval o X.env := by rfl) (hline : (apos.endLine == cpos.line) = true := by rfl) :
    SE X cad W (.Call (.Attribute o "pop" apos) [] [] cpos) (ePop ea) := by
  refine Lv.PE.imp (pe_bm0 PySem.F.plainAttrs_list PySem.F.slot_list_pop PySem.F.type_list_pop mt_pop ho hbase hline) fun σ H Q ⟨w, env, eH, m, re, po⟩ => ?_
  refine ⟨w, env, eH, m, re, po_bind po fun w1 l v x1 m1 r1 po1 => ?_⟩
  cases l with
  | ref n =>
    obtain ⟨a, rfl, ha⟩ := rl_ref r1
    dsimp only at po1
    cases hl : w1.lh[n]? with
    | none => rw [hl] at po1; exact po1.elim
    | some lo =>
      rw [hl] at po1
      cases lo with
      | lst xs =>
        obtain ⟨vs, e0, s⟩ := m1.cell _ _ _ ha hl
        have nr : noRefs xs = true := m1.nr _ _ hl
        refine ⟨.inl ⟨rfl, vs, .inl (.inl e0)⟩, ?_⟩
        dsimp only at po1
        cases hy : xs[xs.length - 1]? with
        | none => rw [hy] at po1; exact po1.elim
        | some y =>
          rw [hy] at po1
          obtain ⟨u, hu, ru⟩ := s.get hy
          have xs' := Ext.set (o := .lst vs.dropLast) (lo' := .lst xs.dropLast) ha hl rfl
          have ms := m1.set (o := .lst vs.dropLast) (lo' := .lst xs.dropLast) ha hl rfl (fun q => nomatch q) (noRefs_dropLast nr) ⟨_, upd_same, rls_dropLast (RLs.mono xs' _ _ s)⟩
          exact ⟨a, vs, u, rfl, rfl, e0, by rw [← s.length]; exact hu, po1 ⟨w1.φ, w1.lh.set n (.lst xs.dropLast), upd w1.H a (.lst vs.dropLast)⟩ rfl xs' ms _ (RL.mono xs' _ _ ru)⟩
      | _ => exact po1.elim
  | _ => exact po1.elim
end
/-! ### stores into targets -/
def sAsg (g : Tg) (a : Ev) : Sv := fun env lh => rS (a env lh) env fun v lh' => match asg g v env with
  | some env' => .nx env' lh'
  | none => .stuck
/-- a, b, c = d, e, f -/
def sPar3 (i j l : Nat) (a b c : Ev) : Sv := fun env lh => rS (a env lh) env fun x lh1 => rS (b env lh1) env fun y lh2 => rS (c env lh2) env fun z lh3 => .nx (((env.set i (some x)).set j (some y)).set l (some z)) lh3
section
variable {X : Cx} {cad : Cad} {W : WX} {pos : Pos} {tg e a b c : Expr} {ea eb ec : Ev} {g : Tg}
theorem s_asg (hg : PG X tg (tG X.K g)) (he : SE X cad W e ea) (hs : swapsWithSole [tg] e pos.line X.env = pure false := by rfl) (hw : swappedStores [tg] e X.env = pure none := by rfl)
    (h1 : (assignEach [tg] X.env).map (·.2) = [assign tg X.env] := by rfl) : SS X cad W (.Assign [tg] e pos) (sAsg g ea) := by
  refine Lv.PS.imp (ps_asg he hg hs hw h1) fun D σ H ⟨w, env, eH, m, re, po⟩ => ?_
  refine ⟨w, env, eH, m, re, poS_bind po re fun w1 l v x1 m1 r1 po1 => ?_⟩
  cases q : asg g l env with
  | none => rw [q] at po1; exact po1.elim
  | some env' =>
    rw [q] at po1
    obtain ⟨σ', re', hQ, _⟩ := asg_ok q r1 (re.mono x1)
    exact hQ _ (poS_nx po1 m1 re')
theorem s_par3 {i j l : Nat} {x y z : Str} {px py pz pt : Pos} {kt k2 pt2} (hc : X.calm = true) (hN : X.N.Nodup) (hi : X.N[i]? = some x) (hj : X.N[j]? = some y) (hl : X.N[l]? = some z) (hij : i ≠ j) (hil : i ≠ l) (hjl : j ≠ l)
    (hx : X.env.scope.names.lookup x = some .local) (hy : X.env.scope.names.lookup y = some .local) (hz : X.env.scope.names.lookup z = some .local) (ha : SE X cad W a ea) (hb : SE X cad W b eb) (hcc : SE X cad W c ec)
    (hw : swappedStores [.Tuple [.Name x px, .Name y py, .Name z pz] kt pt] (.Tuple [a, b, c] k2 pt2) X.env = pure (some [x, y, z]))
    (h1 : starEach [a, b, c] X.env = (false, eval a X.env) :: starEach [b, c] X.env := by rfl) (h2 : starEach [b, c] X.env = (false, eval b X.env) :: starEach [c] X.env := by rfl) (h3 : starEach [c] X.env = (false, eval c X.env) :: starEach [] X.env := by rfl)
    (hs : swapsWithSole [.Tuple [.Name x px, .Name y py, .Name z pz] kt pt] (.Tuple [a, b, c] k2 pt2) pos.line X.env = pure false := by rfl) :
    SS X cad W (.Assign [.Tuple [.Name x px, .Name y py, .Name z pz] kt pt] (.Tuple [a, b, c] k2 pt2) pos) (sPar3 i j l ea eb ec) := by
  refine Lv.PS.imp (ps_par3 hc hN hi hj hl hij hil hjl hx hy hz (pa_cons ha (pa_cons hb (pa_cons hcc pa_nil h3) h2) h1) hw hs) fun D σ H ⟨w, env, eH, m, re, po⟩ => ?_
  refine ⟨w, env, eH, m, re, poS_bind po re fun w1 l1 v1 x1 m1 r1 po1 => ?_⟩
  refine ⟨w1, env, rfl, m1, re.mono x1, poS_bind po1 (re.mono x1) fun w2 l2 v2 x2 m2 r2 po2 => ?_⟩
  refine ⟨w2, env, rfl, m2, (re.mono x1).mono x2, poS_bind po2 ((re.mono x1).mono x2) fun w3 l3 v3 x3 m3 r3 po3 => ?_⟩
  exact ⟨v1, v2, v3, rfl, poS_nx po3 m3 ((((((re.mono x1).mono x2).mono x3).set (RL.mono x3 _ _ (RL.mono x2 _ _ r1))).set (RL.mono x3 _ _ r2)).set r3)⟩
/-- names as targets -/
theorem pg_nm {i : Nat} {x : Str} (hN : X.N.Nodup) (hi : X.N[i]? = some x) (hx : Loc X.env.scope x) (hf : X.fn x = true ∨ X.env.scope.names.lookup x = some .local := by first | exact .inl rfl | exact .inr rfl | assumption) : PG X (.Name x pos) (tG X.K (.nm i)) := pg_name hN hi hx hf
theorem pg_tp {es : List Expr} {k : Nat} {is : List Nat} (hc : X.calm = true) (h : PGs X es (gNms is)) (hn : (assignEach es X.env).length = is.length := by rfl) (hst : (assignEach es X.env).findIdx? (·.1) = none := by rfl) : PG X (.Tuple es k pos) (tG X.K (.tp is)) := pg_tup hc h hn hst
end
end Lv
end
section
set_option Elab.async false
set_option linter.all false
set_option maxRecDepth 100000
set_option maxHeartbeats 2000000
namespace Lv
open PySem PySem.Spec PyProof.Rows L2
open He (ga ma fAd eqO eqO_ok ba frG frG_in)

/-! ### facts that are looked up in the written part -/
section
variable {pf : Str} {K : PySem.W.Frag} {h : Heap} {mg : Str → Option Value}
theorem oex_of {C : Addr} (q : oexB K C = true) (h1 : PySem.W.findIn K (.ref C) "__setattr__" = some (some (.builtin "object.__setattr__"))) (h2 : PySem.W.subIn K (.ref C) (.type "BaseException") = some true) (h3 : PySem.W.typeIn K (.ref C) = some (.type "type")) (h4 : PySem.W.keepIn K (.ref C) = true) : OexC K C := by
  unfold oexB at q
  split at q
  · rename_i dd cd sl ho
    split at q
    · rename_i C' bm k0 k1 k2 k3 n k5 hm hs
      simp only [Bool.and_eq_true, decide_eq_true_eq, Bool.not_eq_true'] at q
      obtain ⟨rfl, rfl, hdel, hd, ht⟩ := q
      obtain ⟨nm, bs, mro, ns, qn, hdc, sn, sub, ab, col, del⟩ := cd
      dsimp only at hm hdel hd
      subst hm hdel hd
      obtain ⟨l⟩ := sl
      dsimp only at hs
      subst hs
      exact ⟨⟨nm, qn, ns, bs, bm, sn, sub, ab, col, dd, k0, k1, k2, k3, k5, ho, ht⟩, h1, h2, h3, h4⟩
    · cases q
  · cases q
theorem opr_ok {x : Str} (c : (Fx.opr x).ok pf K = true) : PySem.W.subIn K (.ref (ga K x)) (.type "int") = some false := of_decide_eq_true c
theorem bfun_ok (X : K.In h) (G : h.Ns mainGlobals mg) {x : Str} {id : String} (c : (Fx.bfun x id).ok pf K = true) : mg x = some (.builtin id) := PySem.W.mg_of X G (eqO_ok c)
theorem ins_ok {x : Str} (c : (Fx.ins x).ok pf K = true) : InsF K (ga K x) := by
  obtain ⟨c1, c⟩ := ba c
  obtain ⟨c2, c⟩ := ba c
  obtain ⟨c3, c⟩ := ba c
  obtain ⟨c4, c⟩ := ba c
  obtain ⟨c5, c⟩ := ba c
  obtain ⟨c6, c⟩ := ba c
  obtain ⟨c7, c8⟩ := ba c
  exact ⟨⟨c1, c2, c3, eqO_ok c4⟩, eqO_ok c5, eqO_ok c6, of_decide_eq_true c7, of_decide_eq_true c8⟩
theorem kit_ok {t : Sum String Str} {cs : List (Sum String Str)} {b : Bool} (c : (Fx.kit t cs b).ok pf K = true) : PySem.W.kitAny K (clV K t) (cs.map (clV K)) = some b := of_decide_eq_true c
theorem opb_ok {x : Str} {op : Operator} (c : (Fx.opb x op).ok pf K = true) : PySem.W.selfFirst K (ga K x) = true ∧ ∃ fo ro rc, PySem.W.findIn K (.ref (ga K x)) (dunderR op.info.2) = some rc ∧ (rc = none ∨ ∃ g : Addr, rc = some (.ref g)) ∧ PySem.W.findIn K (.type "int") (PySem.dunder op.info.2) = some fo ∧
    PySem.W.findIn K (.type "int") (dunderR op.info.2) = some ro ∧ PySem.W.subIn K (.type "int") (.ref (ga K x)) = some false := by
  obtain ⟨c1, c⟩ := ba c
  obtain ⟨c2, c⟩ := ba c
  obtain ⟨c3, c⟩ := ba c
  obtain ⟨c4, c5⟩ := ba c
  obtain ⟨fo, h3⟩ := Option.isSome_iff_exists.mp c3
  obtain ⟨ro, h4⟩ := Option.isSome_iff_exists.mp c4
  refine ⟨c1, fo, ro, ?_⟩
  cases q : PySem.W.findIn K (.ref (ga K x)) (dunderR op.info.2) with
  | none => rw [q] at c2; cases c2
  | some o =>
    rw [q] at c2
    cases o with
    | none => exact ⟨none, rfl, .inl rfl, h3, h4, of_decide_eq_true c5⟩
    | some v =>
      cases v with
      | ref g => exact ⟨some (.ref g), rfl, .inr ⟨g, rfl⟩, h3, h4, of_decide_eq_true c5⟩
      | _ => cases c2
theorem exm_all {xs : List Str} (c : (Fx.exm xs).ok pf K = true) {x y : Str} (hx : x ∈ xs) (hy : y ∈ xs) : PySem.W.exmOne K (.ref (ga K x)) (.ref (ga K y)) = some (decide (x = y)) :=
  of_decide_eq_true (List.all_eq_true.mp (List.all_eq_true.mp c x hx) y hy)
theorem exi_ok {P : Program} {d : XD} (c : (Fx.exi d.cls d.self d.ps).ok P.main.file K = true) (e : fnZ K d.cls = d.val) (nd : (d.self :: d.ps).Nodup) (nodb : ∀ f ∈ d.self :: d.ps, (f == ("__debug__" : Str)) = false) (htop : (P.main.scope.names.lookup ("super" : Str)).isSome = false)
    (sk : d.scope.kind = .function ∧ d.scope.isCoroutine = false ∧ d.scope.isGenerator = false ∧ d.scope.names.lookup ("super" : Str) = some .globalImplicit ∧ d.scope.names.lookup ("__class__" : Str) = some .free ∧
      (∀ y ∈ d.self :: d.ps, d.scope.names.lookup y = some .local) ∧ (∀ y ∈ d.scope.names, y.2 ≠ .cell)) (hB : InitB d.self d.ps d.body)
    (hb : ∀ (name qual : Str) (kV doc pm : Value) (an : Option Addr) (cdv ct : Value) (cc : Addr) (us : List Value), us.length = d.ps.length + 1 → bindArgs (PySem.W.ksFn name qual d.params d.body d.scope .none kV doc pm an cdv ct cc) ⟨us, []⟩ = pure ((d.self :: d.ps).zip us)) : ExI P K (ga K d.cls) (ma K (ga K d.cls) "__init__") d.self d.ps := by
  obtain ⟨c1, c⟩ := ba c
  obtain ⟨c2, c⟩ := ba c
  obtain ⟨c3, c⟩ := ba c
  obtain ⟨c4, c⟩ := ba c
  obtain ⟨c5, c⟩ := ba c
  obtain ⟨c6, c⟩ := ba c
  obtain ⟨c7, c⟩ := ba c
  obtain ⟨c8, c⟩ := ba c
  obtain ⟨c9, c⟩ := ba c
  obtain ⟨c10, c⟩ := ba c
  obtain ⟨c11, c⟩ := ba c
  obtain ⟨c12, c13⟩ := ba c
  refine ⟨oex_of c1 (eqO_ok c2) (of_decide_eq_true c3) (of_decide_eq_true c4) c5, eqO_ok c6, of_decide_eq_true c7, eqO_ok c8, eqO_ok c9, of_decide_eq_true c10, of_decide_eq_true c11, fun f hf => eqO_ok (List.all_eq_true.mp c12 f hf), nd, nodb, htop, ?_⟩
  unfold exFnB at c13
  unfold fnZ at e
  split at c13
  · rename_i oc od fd osl ho
    rw [ho] at e
    split at c13
    · rename_i cda cn cc ar hcode hclo hhd hdf
      obtain ⟨n1, n2, n3, n4, n5, n6, n7, n8, n9, n10, n11, n12, n13, n14, n15⟩ := fd
      dsimp only at hcode hclo hhd c13 hdf
      subst hcode hclo hdf
      have e2 : (some (n1, n2, n3, n4, n5, n6, [cn], n15) : FnZ) = (some (("__init__" : Str), d.qual, d.params, FuncBody.stmts d.body, d.scope, mainGlobals, [("__class__" : Str)], builtinsNs) : FnZ) := e
      simp only [Option.some.injEq, Prod.mk.injEq, List.cons.injEq, and_true] at e2
      obtain ⟨h1, h2, h3, h4, h5, h6, h7, h8⟩ := e2
      subst h1 h2 h3 h4 h5 h6 h7 h8
      obtain ⟨k1, k⟩ := ba c13
      obtain ⟨k2, k⟩ := ba k
      obtain ⟨k3, k⟩ := ba k
      obtain ⟨k4, k5⟩ := ba k
      split at k4
      · rename_i oa ob vs oc' hcda
        split at k4
        · rename_i file tf hvs
          split at k5
          · rename_i o1 o2 D o3 hcc
            have eD : D = ga K d.cls := of_decide_eq_true k5
            subst eD
            exact ⟨oc, od, osl, _, _, _, _, _, _, _, _, _, _, cda, _, cc, ar, vs, file, tf, oa, ob, oc', o1, o2, o3, ho, k2, hcda, hvs, k4, hcc, hhd, of_decide_eq_true k3, sk.1, sk.2.1, sk.2.2.1, sk.2.2.2.1, sk.2.2.2.2.1, sk.2.2.2.2.2.1, sk.2.2.2.2.2.2, hB, fun us hu => hb _ _ _ _ _ _ _ _ _ us hu⟩
          · cases k5
        · cases k4
      · cases k4
    · cases c13
  · cases c13
end
end Lv
end
section
set_option Elab.async false
set_option linter.all false
set_option maxRecDepth 100000
set_option maxHeartbeats 2000000
namespace Lv
open PySem PySem.Spec PyProof.Rows L2
open He (ga ma fAd eqO eqO_ok ba frG frG_in asD)

/-! ### the law is called: the script's list and the tables of code objects are all that is known of the heap -/
section
variable {P : Program} {w : World} {K : PySem.W.Frag} {mg mb : Str → Option Value} {fa a : Addr} {cs : List (Addr × Addr)} {s₁ : Shared} {vs : List Value} {ns : List Int}
/-- what is known at the call -/
def H0 (K : PySem.W.Frag) (T : List Addr) (a : Addr) (vs : List Value) (ns : List Int) : Hp := fun b =>
  if b ∈ T then some (.tbl #[]) else if b = a ∧ (K.lookup a).isNone = true then some (.frz { cls := .type "list", data := .seq vs.toArray } (.lst (ns.map V.int))) else none
theorem h0_cases {T : List Addr} {b : Addr} : (b ∈ T ∧ H0 K T a vs ns b = some (.tbl #[])) ∨ (b ∉ T ∧ b = a ∧ (K.lookup a).isNone = true ∧ H0 K T a vs ns b = some (.frz { cls := .type "list", data := .seq vs.toArray } (.lst (ns.map V.int)))) ∨ (b ∉ T ∧ H0 K T a vs ns b = none) := by
  unfold H0
  by_cases h1 : b ∈ T
  · exact .inl ⟨h1, if_pos h1⟩
  · by_cases h2 : b = a ∧ (K.lookup a).isNone = true
    · exact .inr (.inl ⟨h1, h2.1, h2.2, by rw [if_neg h1, if_pos h2]⟩)
    · exact .inr (.inr ⟨h1, by rw [if_neg h1, if_neg h2]⟩)
theorem law_callG (KX : K.In s₁.heap) (hns : s₁.heap.Ns mainGlobals mg) (hb : s₁.heap.Ns builtinsNs mb) (hbb : ∀ x : Str, x ≠ "__name__" → mb x = bootBuiltins x) (hlim : s₁.heap.NoLimit) (hg : s₁.gens = #[])
    (hT : ∀ p ∈ cs, s₁.heap.get? p.2 = some { cls := .none, data := .fields #[] }) (nT : ∀ p ∈ cs, K.lookup p.2 = none) (C : ∀ p ∈ cs, PySem.W.CodeHd s₁.heap p.1 p.2)
    (hbm : ∃ (bm : Addr) (ob : Obj), mg "__builtins__" = some (.ref bm) ∧ bm ≠ builtinsNs ∧ s₁.heap.get? bm = some ob ∧ ob.cls = .type "module" ∧ ob.dict = some builtinsNs ∧ ob.data = .plain)
    (ha : s₁.heap.get? a = some { cls := .type "list", data := .seq vs.toArray }) (hi : IntsAre vs ns) (hl : ns.length ≤ sizeLine)
    (run : ∀ (base : Heap) (H : Hp), K.In base → base.Ns mainGlobals mg → (∀ p ∈ cs, LamX.TabB base mg p.1 p.2) → Env0 P w K mg base callerA [] s₁ H → (∀ p ∈ cs, H p.2 = some (.tbl #[])) →
      ((∃ o, H a = some (.frz o (.lst (ns.map V.int)))) ∨ ∃ (o : Obj) (its : Array Value) (n : Nat), K.lookup a = some o ∧ o.cls = .type "list" ∧ o.dict = none ∧ o.data = .seq its n ∧ its.size ≤ sizeLine ∧ Vals (ns.map V.int) its.toList) →
      codeAny (model P w) callerA (.call (.ref fa) ⟨[.ref a], []⟩) (CR (L2.CX P w) [] P w H s₁ (fun v _ => v = .bl true) fun _ _ _ => False) s₁) :
    codeAny (model P w) callerA (.call (.ref fa) ⟨[.ref a], []⟩) (fun r s' => r = .ok (.ret (.bool true)) ∧ OldK s₁.heap s'.heap ∧ s'.os = s₁.os ∧ AllBare s'.gens) s₁ := by
  have rv := vals_ints hi
  have lenV := hi.length
  generalize hTs : cs.map (·.2) = T
  have isT : ∀ b ∈ T, s₁.heap.get? b = some { cls := .none, data := .fields #[] } := fun b hb => by
    rw [← hTs] at hb
    obtain ⟨p, hp, rfl⟩ := List.mem_map.mp hb
    exact hT p hp
  have memT : ∀ p ∈ cs, p.2 ∈ T := fun p hp => by rw [← hTs]; exact List.mem_map_of_mem hp
  have aT : a ∉ T := fun z => by
    have q := isT a z
    rw [ha] at q
    exact absurd (congrArg Obj.data (Option.some.inj q)) (by intro h; cases h)
  have H0t : ∀ b ∈ T, H0 K T a vs ns b = some (.tbl #[]) := fun b hb => if_pos hb
  -- plain objects are not known
  have noH : ∀ {b : Addr} {o : Obj}, s₁.heap.get? b = some o → (∀ us n, o.data ≠ .seq us n) → o.data ≠ .fields #[] → H0 K T a vs ns b = none := by
    intro b o e h1 h2
    rcases h0_cases (K := K) (a := a) (vs := vs) (ns := ns) (T := T) (b := b) with ⟨hm, _⟩ | ⟨_, rfl, _, _⟩ | ⟨_, h⟩
    · rw [isT b hm] at e; cases e; exact absurd rfl h2
    · rw [ha] at e; cases e; exact absurd rfl (h1 _ _)
    · exact h
  have up : ∀ {b : Addr} {o : Obj}, s₁.heap.get? b = some o → (∀ us n, o.data ≠ .seq us n) → o.data ≠ .fields #[] → (hidT s₁.heap (H0 K T a vs ns)).get? b = some o := fun e h1 h2 => hidT_get e (noH e h1 h2)
  have nsU : ∀ {b : Addr} {m : Str → Option Value}, s₁.heap.Ns b m → (hidT s₁.heap (H0 K T a vs ns)).Ns b m := fun ⟨o, es, ep, e, d, r⟩ => ⟨o, es, ep, up e (fun us n z => by rw [d] at z; cases z) (fun z => by rw [d] at z; cases z), d, r⟩
  have hKb : K.In (hidT s₁.heap (H0 K T a vs ns)) := fun b o e => hidT_get (KX b o e) (by
    rcases h0_cases (K := K) (a := a) (vs := vs) (ns := ns) (T := T) (b := b) with ⟨hm, _⟩ | ⟨_, eb, hn, _⟩ | ⟨_, h⟩
    · rw [← hTs] at hm
      obtain ⟨p, hp, rfl⟩ := List.mem_map.mp hm
      rw [nT p hp] at e; cases e
    · rw [eb] at e; rw [e] at hn; cases hn
    · exact h)
  have hM : L2.Mod K mg (hidT s₁.heap (H0 K T a vs ns)) := ⟨hKb, nsU hns, ⟨mb, nsU hb, hbb⟩, let ⟨mc, h1, h2⟩ := hlim; ⟨mc, nsU h1, h2⟩⟩
  have hok : HOk P w (H0 K T a vs ns) s₁.heap := fun b u e => by
    rcases h0_cases (K := K) (a := a) (vs := vs) (ns := ns) (T := T) (b := b) with ⟨hm, h⟩ | ⟨_, rfl, _, h⟩ | ⟨_, h⟩
    · rw [h] at e; cases e; exact isT b hm
    · rw [h] at e; cases e; exact ⟨ha, by rw [List.length_map]; exact hl, vs, _, rv, ha⟩
    · rw [h] at e; cases e
  have TB : ∀ p ∈ cs, LamX.TabB (hidT s₁.heap (H0 K T a vs ns)) mg p.1 p.2 := fun p hp => by
    have hTp := hT p hp
    refine ⟨?_, ?_, fun z => ?_⟩
    · obtain ⟨o, us, file, tf, flags, tg, inF, text, tt, e1, r1, r2, r3, r⟩ := C p hp
      refine ⟨o, us, file, tf, flags, tg, inF, text, tt, up e1 (fun us n z => by rw [r2] at z; cases z) (fun z => ?_), r1, r2, r3, r⟩
      rw [r2] at z; cases z; simp at r3
    · obtain ⟨bm, ob, b1, b2, b3, b4, b5, b6⟩ := hbm
      refine ⟨bm, ob, b1, b2, fun q => ?_, fun q => ?_, up b3 (fun us n z => by rw [b6] at z; cases z) (fun z => by rw [b6] at z; cases z), b4, b5, b6⟩
      · obtain ⟨o, es, ep, e, hd, _⟩ := hns
        rw [q, e] at b3; cases b3; rw [hd] at b6; cases b6
      · rw [q, hTp] at b3; cases b3; cases b6
    · obtain ⟨o, es, ep, e, hd, _⟩ := hns
      rw [z, hTp] at e; cases e; cases hd
  have e0 : Env0 P w K mg (hidT s₁.heap (H0 K T a vs ns)) callerA [] s₁ (H0 K T a vs ns) := ⟨rfl, hM, fun b o e => of_hidT e, Nat.le_of_eq (hidT_size _ _), trivial, fun b hb => absurd (show b ∈ ([] : List Addr) from hb) (by simp), hok, .of_eq hg⟩
  have script : (∃ o, H0 K T a vs ns a = some (.frz o (.lst (ns.map V.int)))) ∨ ∃ (o : Obj) (its : Array Value) (n : Nat), K.lookup a = some o ∧ o.cls = .type "list" ∧ o.dict = none ∧ o.data = .seq its n ∧ its.size ≤ sizeLine ∧ Vals (ns.map V.int) its.toList := by
    cases hk : K.lookup a with
    | none => exact .inl ⟨_, by unfold H0; rw [if_neg aT, if_pos ⟨rfl, by rw [hk]; rfl⟩]⟩
    | some o =>
      have e := KX a o hk
      rw [ha] at e
      cases e
      exact .inr ⟨_, vs.toArray, _, rfl, rfl, rfl, rfl, by rw [List.size_toArray, lenV]; exact hl, by simpa using rv⟩
  refine codeAny_mono (run _ _ hKb (nsU hns) TB e0 (fun p hp => H0t _ (memT p hp)) script) fun r s' h => ?_
  cases r with
  | error e =>
    obtain ⟨_, _, _, _, _, _, _, _, _, _, _, _, z⟩ := h
    exact z.elim
  | ok fl => cases fl with
    | ret u =>
      obtain ⟨v, H', os, bare, un, hok', r', q⟩ := h
      have q' : v = .bl true := q
      subst q'
      obtain rfl : u = Value.bool true := r'
      have key : ∀ b o, b ∉ T → s₁.heap.get? b = some o → s'.heap.get? b = some o := fun b o nb e => by
        rcases h0_cases (K := K) (a := a) (vs := vs) (ns := ns) (T := T) (b := b) with ⟨hm, _⟩ | ⟨_, rfl, _, h⟩ | ⟨_, h⟩
        · exact absurd hm nb
        · have z2 := un.frzs b _ _ h
          obtain ⟨e2, _⟩ := hok' b _ z2
          rw [ha] at e; cases e
          exact e2
        · exact un.keep b o e h (by intro z; exact absurd (show b ∈ ([] : List Addr) from z) (by simp)) (by simp)
      have grown : ∀ p ∈ cs, ∃ more : Array Value, s'.heap.get? p.2 = some { cls := .none, data := .fields more } := fun p hp => by
        obtain ⟨more, z⟩ := un.tbls p.2 #[] (H0t _ (memT p hp))
        exact ⟨_, hok' p.2 _ z⟩
      refine ⟨rfl, ⟨fun b o e => ?_, fun b o e => ?_⟩, os, bare⟩
      · by_cases hb : b ∈ T
        · rw [← hTs] at hb
          obtain ⟨p, hp, rfl⟩ := List.mem_map.mp hb
          obtain ⟨more, hm⟩ := grown p hp
          rw [hT p hp] at e
          cases e
          exact .inr (.inl ⟨((C p hp).tab (hT p hp)).isCodeTable, rfl, #[], more, rfl, by rw [Array.empty_append]; exact hm⟩)
        · exact .inl (key b o hb e)
      · by_cases hb : b ∈ T
        · rw [← hTs] at hb
          obtain ⟨p, hp, rfl⟩ := List.mem_map.mp hb
          obtain ⟨more, hm⟩ := grown p hp
          exact ⟨_, hm⟩
        · exact ⟨o, key b o hb e⟩
    | _ => exact False.elim h
end
/-! ### the Hook -/
theorem filter_lookup {p : Addr × Obj → Bool} : ∀ {l : PySem.W.Frag} {b : Addr} {o : Obj}, (∀ o', p (b, o') = true) → (l.filter p).lookup b = l.lookup b
  | [], b, o, _ => rfl
  | (c, u) :: l, b, o, h => by
    by_cases hc : b = c
    · subst hc
      rw [List.filter_cons, if_pos (h u)]
      simp
    · have e : (b == c) = false := by simpa using hc
      rw [List.filter_cons]
      split
      · rw [List.lookup_cons, List.lookup_cons, e]
        exact filter_lookup (o := o) h
      · rw [List.lookup_cons, e]
        exact filter_lookup (o := o) h
theorem filter_none {p : Addr × Obj → Bool} : ∀ {l : PySem.W.Frag} {b : Addr}, (∀ o', p (b, o') = false) → (l.filter p).lookup b = none
  | [], b, _ => rfl
  | (c, u) :: l, b, h => by
    rw [List.filter_cons]
    split
    · rename_i hp
      have hc : b ≠ c := fun e => by subst e; rw [h u] at hp; cases hp
      have e : (b == c) = false := by simpa using hc
      rw [List.lookup_cons, e]
      exact filter_none h
    · exact filter_none h
theorem cut_in {K' : PySem.W.Frag} {ts : List Str} {h : Heap} (X : K'.In h) : (cutT K' ts).In h := fun b o e => by
  by_cases hb : ∃ x ∈ ts, (b == (tabOf K' x).2) = true
  · obtain ⟨x, hx, hb⟩ := hb
    rw [show (cutT K' ts).lookup b = none from filter_none fun o' => by
      show (!(ts.any fun x => b == (tabOf K' x).2)) = false
      rw [List.any_eq_true.mpr ⟨x, hx, hb⟩]; rfl] at e
    cases e
  · rw [show (cutT K' ts).lookup b = K'.lookup b from filter_lookup (o := o) fun o' => by
      show (!(ts.any fun x => b == (tabOf K' x).2)) = true
      have : (ts.any fun x => b == (tabOf K' x).2) = false := by
        cases q : (ts.any fun x => b == (tabOf K' x).2) with
        | false => rfl
        | true => exact absurd (List.any_eq_true.mp q) hb
      rw [this]; rfl] at e
    exact X b o e
theorem cut_none {K' : PySem.W.Frag} {ts : List Str} {x : Str} (hx : x ∈ ts) : (cutT K' ts).lookup (tabOf K' x).2 = none := filter_none fun o' => by
  show (!(ts.any fun y => (tabOf K' x).2 == (tabOf K' y).2)) = false
  rw [List.any_eq_true.mpr ⟨x, hx, by simp⟩]; rfl
theorem tab_ok {K' : PySem.W.Frag} {x : Str} {h : Heap} (X : K'.In h) (c : tabB K' x = true) : h.get? (tabOf K' x).2 = some { cls := .none, data := .fields #[] } ∧ PySem.W.CodeHd h (tabOf K' x).1 (tabOf K' x).2 := by
  unfold tabB at c
  unfold tabOf
  split at c
  · rename_i cc P hcp
    rw [hcp]
    obtain ⟨c1, c2⟩ := ba c
    constructor
    · split at c1
      · rename_i ps sl hP
        obtain ⟨e1, e2⟩ := ba c1
        have h1 : ps = #[] := Array.isEmpty_iff.mp e1
        have h2 : sl = #[] := Array.isEmpty_iff.mp e2
        subst h1 h2
        exact X _ _ hP
      · cases c1
    · split at c2
      · rename_i t od vs sl hc
        obtain ⟨d1, d⟩ := ba c2
        obtain ⟨d2, d⟩ := ba d
        obtain ⟨d3, d⟩ := ba d
        obtain ⟨d4, d⟩ := ba d
        obtain ⟨d5, d⟩ := ba d
        obtain ⟨d6, d7⟩ := ba d
        have ht : t = "code" := of_decide_eq_true d1
        subst ht
        have h11 : (vs[11]? : Option Value) = some (.ref P) := of_decide_eq_true d2
        split at d3
        · rename_i f1 t1 hf
          split at d4
          · rename_i f2 t2 h7
            split at d5
            · rename_i f3 h9
              split at d6
              · rename_i f4 t4 h10
                exact ⟨_, vs, f1, t1, f2, t2, f3, f4, t4, X _ _ hc, rfl, rfl, h11, by rw [Array.getD_eq_getD_getElem?, h11]; rfl, hf, h7, h9, h10, of_decide_eq_true d7⟩
              · cases d6
            · cases d5
          · cases d4
        · cases d3
      · cases c2
  · cases c
section
variable {pf : Str} {ts : List Str} {fx : List Fx} {fn : List He.DefD} {xd : List XD} {K' : PySem.W.Frag}
theorem SaysX.fact (c : SaysX pf ts fx fn xd K') {f : Fx} (h : f ∈ fx) : f.ok pf (cutT K' ts) = true := by
  have c1 := (ba (show ((fx.all fun f => f.ok pf (cutT K' ts)) && ((fn.all fun d => d.ok (cutT K' ts)) && ts.all fun x => tabB K' x)) = true from congrArg (fun z : AlX => z.1) c)).1
  exact List.all_eq_true.mp c1 f h
theorem SaysX.tabs (c : SaysX pf ts fx fn xd K') : ∀ x ∈ ts, tabB K' x = true := by
  have c1 := (ba (ba (show ((fx.all fun f => f.ok pf (cutT K' ts)) && ((fn.all fun d => d.ok (cutT K' ts)) && ts.all fun x => tabB K' x)) = true from congrArg (fun z : AlX => z.1) c)).2).2
  exact fun x hx => List.all_eq_true.mp c1 x hx
theorem SaysX.def_ (c : SaysX pf ts fx fn xd K') (i : Nat) {d : He.DefD} (h : fn[i]? = some d := by rfl) : ∃ fd, FunD (cutT K' ts) d.name d.qual d.params d.body d.scope (d.dvs (cutT K' ts)) (d.kws (cutT K' ts)) (fAd (cutT K' ts) d.at_) fd := by
  have c1 := (ba (ba (show ((fx.all fun f => f.ok pf (cutT K' ts)) && ((fn.all fun d => d.ok (cutT K' ts)) && ts.all fun x => tabB K' x)) = true from congrArg (fun z : AlX => z.1) c)).2).1
  have e : fn.map (fun d => He.fnW (cutT K' ts) d.at_) = fn.map He.DefD.val := congrArg (fun z : AlX => z.2.1) c
  have e2 : (fn.map fun d => He.fnW (cutT K' ts) d.at_)[i]? = (fn.map He.DefD.val)[i]? := by rw [e]
  rw [List.getElem?_map, List.getElem?_map, h] at e2
  exact He.DefD.funD (Option.some.inj e2) (List.all_eq_true.mp c1 d (List.mem_of_getElem? h))
theorem SaysX.exc (c : SaysX pf ts fx fn xd K') (i : Nat) {d : XD} (h : xd[i]? = some d := by rfl) : fnZ (cutT K' ts) d.cls = d.val := by
  have e : xd.map (fun d => fnZ (cutT K' ts) d.cls) = xd.map XD.val := congrArg (fun z : AlX => z.2.2) c
  have e2 : (xd.map fun d => fnZ (cutT K' ts) d.cls)[i]? = (xd.map XD.val)[i]? := by rw [e]
  rw [List.getElem?_map, List.getElem?_map, h] at e2
  exact Option.some.inj e2
end
/-! ### the end of the row -/
theorem walk_ofG {l : PySem.W.OpenLaw} {n : Nat} {q : Program} {loose : List Str} {XP : (Str → Option Value) → Heap → Prop} {pf : Str} {ts : List Str} {fx : List Fx} {fn : List He.DefD} {xd : List XD} {d : DefRec}
    (hn : l.most = some n) (hn2 : n ≤ sizeLine) (hdf : d.params.defaults = [])
    (run : ∀ (w : World) (mg : Str → Option Value) (fa : Addr) (h : Heap) (K' : PySem.W.Frag), K'.In h → SaysX pf ts fx fn xd K' → h.Ns mainGlobals mg → mg d.name = some (.ref fa) →
      ∀ (base : Heap) (H : Hp) (s₁ : Shared) (a : Addr) (ns : List Int), ns.length ≤ n → (∀ z ∈ ns, Builtin.Int.intBits z ≤ 1048576) → (cutT K' ts).In base → base.Ns mainGlobals mg → (∀ p ∈ ts.map (tabOf K'), LamX.TabB base mg p.1 p.2) → Env0 l.prog w (cutT K' ts) mg base callerA [] s₁ H → (∀ p ∈ ts.map (tabOf K'), H p.2 = some (.tbl #[])) →
        ((∃ o, H a = some (.frz o (.lst (ns.map V.int)))) ∨ ∃ (o : Obj) (its : Array Value) (n : Nat), (cutT K' ts).lookup a = some o ∧ o.cls = .type "list" ∧ o.dict = none ∧ o.data = .seq its n ∧ its.size ≤ sizeLine ∧ Vals (ns.map V.int) its.toList) →
        codeAny (model l.prog w) callerA (.call (.ref fa) ⟨[.ref a], []⟩) (CR (L2.CX l.prog w) [] l.prog w H s₁ (fun v _ => v = .bl true) fun _ _ _ => False) s₁) :
    PySem.W.WalkO q loose XP (fun w h => ∃ K' : PySem.W.Frag, K'.In h ∧ SaysX pf ts fx fn xd K') l.row.toRowW d [] (fun f vs => PySem.call f vs) := by
  refine Att.attach_callB hn hdf fun w s₀ s₁ mg mb fa o pm cd doc a vs ns G ⟨K', hK', c⟩ ho hd hcd hmg hobj hints hlen hbits hg => ?_
  refine law_callG (K := cutT K' ts) (cs := ts.map (tabOf K')) (cut_in hK') G.T.g G.T.b G.T.builtins G.T.nolimit hg (fun p hp => ?_) (fun p hp => ?_) (fun p hp => ?_) G.T.bmain hobj hints (Nat.le_trans hlen hn2) fun base H kb nb tb e0 ht hs => run w mg fa _ K' hK' c G.T.g hmg base H s₁ a ns hlen hbits kb nb tb e0 ht hs
  · obtain ⟨x, hx, rfl⟩ := List.mem_map.mp hp
    exact (tab_ok hK' (c.tabs x hx)).1
  · obtain ⟨x, hx, rfl⟩ := List.mem_map.mp hp
    exact cut_none hx
  · obtain ⟨x, hx, rfl⟩ := List.mem_map.mp hp
    exact (tab_ok hK' (c.tabs x hx)).2
end Lv
end
section
set_option Elab.async false
set_option linter.all false
set_option maxRecDepth 100000
set_option maxHeartbeats 2000000
namespace Lv
open PySem PySem.Spec PyProof.Rows L2
open He (ga ma fAd)

theorem rm_depth {k : Nat} {A : Around} (hr : Room k A) : A.depth + 1 < recursionLimit := by have := hr.dp; omega
/-! ### a list is written no more -/
def fFrz : LV → LH → Res LV := fun x lh => match x with
  | .ref n => (match lh[n]? with
    | some (.lst xs) => .ok (.fl xs) (lh.set n .dead)
    | _ => .stuck)
  | y => .ok y lh
section
variable {X : Cx} {cad : Cad} {W : WX} {e : Expr} {ea : Ev}
theorem frz_po {K : PySem.W.Frag} {w : Wd} {l : LV} {v : V} {Q : VK} {E : XK} (m : Emb K cad w) (r : RL K cad w l v) (po : Po K cad (RL K cad) w Q E (fFrz l w.lh)) : Q v w.H := by
  cases l with
  | ref n =>
    obtain ⟨a, rfl, ha⟩ := rl_ref r
    simp only [fFrz] at po
    cases hl : w.lh[n]? with
    | none => rw [hl] at po; exact po.elim
    | some lo =>
      rw [hl] at po
      cases lo with
      | lst xs =>
        obtain ⟨vs, e, s⟩ := m.cell _ _ _ ha hl
        refine po ⟨w.φ, w.lh.set n .dead, w.H⟩ rfl Ext.die m.die _ (mk_fl ⟨e, dead_notLive m ha hl fun q => nomatch q⟩ (RLs.mono Ext.die _ _ s))
      | _ => exact po.elim
  | _ => exact po_here po m r
theorem se_frz (h : SE X cad W e ea) : SE X cad W e (eU fFrz ea) := by
  refine Lv.PE.imp h fun σ H Q ⟨w, env, eH, m, re, po⟩ => ?_
  exact ⟨w, env, eH, m, re, by
    cases q : ea env w.lh with
    | stuck => unfold eU at po; rw [q] at po; exact po
    | exn c fs lh => unfold eU at po; rw [q] at po; exact po
    | ok l lh =>
      unfold eU at po
      rw [q] at po
      intro w1 e1 x1 m1 u ru
      subst e1
      exact frz_po m1 ru (Po.ext x1 po)⟩
end
/-! ### all that is known of the written part -/
structure FcK (fx : List Fx) (fn : List He.DefD) (xd : List XD) (P : Program) (K : PySem.W.Frag) (mg : Str → Option Value) (base : Heap) : Prop where
  c : ∀ (i : Nat) {f : Fx}, fx[i]? = some f → f.ok P.main.file K = true
  d : ∀ (i : Nat) {d : He.DefD}, fn[i]? = some d → ∃ fd, FunD K d.name d.qual d.params d.body d.scope (d.dvs K) (d.kws K) (fAd K d.at_) fd
  x : ∀ (i : Nat) {d : XD}, xd[i]? = some d → fnZ K d.cls = d.val
  kin : K.In base
  gl : base.Ns mainGlobals mg
  sup : (P.main.scope.names.lookup ("super" : Str)).isSome = false
section
variable {fx : List Fx} {fn : List He.DefD} {xd : List XD} {P : Program} {K : PySem.W.Frag} {mg : Str → Option Value} {base : Heap}
theorem FcK.fa (F : FcK fx fn xd P K mg base) (i : Nat) {f : He.Fa} (h : fx[i]? = some (.fa f)) : f.ok K = true := F.c i h
theorem FcK.glo (F : FcK fx fn xd P K mg base) (i : Nat) {y : Str} (h : fx[i]? = some (.fa (.glo y))) : mg y = some (.ref (ga K y)) := He.glo_ok F.kin F.gl (F.fa i h)
theorem FcK.free (F : FcK fx fn xd P K mg base) (i : Nat) {y : Str} (h : fx[i]? = some (.fa (.free y))) : mg y = none := He.free_ok F.kin F.gl (F.fa i h)
theorem FcK.intc (F : FcK fx fn xd P K mg base) (i : Nat) {y : Str} {n : Int} (h : fx[i]? = some (.fa (.int y n))) : ∃ t, mg y = some (.int n t) := He.int_ok F.kin F.gl (F.fa i h)
theorem FcK.bfun (F : FcK fx fn xd P K mg base) (i : Nat) {y : Str} {id : String} (h : fx[i]? = some (.bfun y id)) : mg y = some (.builtin id) := bfun_ok F.kin F.gl (F.c i h)
theorem rls_strs {cad : Cad} {w : Wd} : ∀ xs : List Str, RLs K cad w (xs.map LV.str) ((xs.map He.Dv.str).map (He.Dv.v K))
  | [] => RLs.nil
  | x :: xs => RLs.cons (mk_str x) (rls_strs xs)
theorem FcK.ktup (F : FcK fx fn xd P K mg base) (i : Nat) {y : Str} {xs : List Str} (h : fx[i]? = some (.ktup y (xs.map He.Dv.str))) {cad : Cad} (w : Wd) : RL K cad w (.tup (xs.map LV.str)) (.ref (ga K y)) := by
  have c := F.c i h
  unfold Fx.ok He.tupB at c
  simp only at c
  split at c
  · rename_i cc od its n sl ho
    simp only [Bool.and_eq_true, decide_eq_true_eq] at c
    obtain ⟨rfl, hz, hr⟩ := c
    exact mk_tup (.inr ⟨_, its, n, ho, rfl, rfl, hz, He.relAll_ok hr⟩) (rls_strs xs)
  · cases c
end
/-- a def by its body, its code object known -/
theorem fn_mirrorC {cad : Cad} {P : Program} {wld : World} {K : PySem.W.Frag} {mg : Str → Option Value} {base : Heap} {x qual : Str} {params : Arguments} {body : List Stmt} {scope : Scope} {dvs : List V} {kws : List (Str × V)} {f : Addr} {fd : FuncData} {N ps : List Str} {k : Nat} {sv : Sv}
    (F : FunD K x qual params body scope dvs kws f fd) (S : FnScope N ps scope)
    (hb : ∀ (A : Around) (outer : List Env) (s : Shared) (H : Hp) (E : XK), Room k (A.deeper (envOfC qual scope s.heap.objs.size f fd.code)) → (A.deeper (envOfC qual scope s.heap.objs.size f fd.code)).guards = some [] →
      SSs (cxOf (L2.CX P wld) P wld K mg base N qual scope f fd.code A outer s H E) cad (WB E) body sv) :
    FnG P wld K mg base cad (k + 1) f fd ps ps.length (fnB N.length sv) := by
  refine ⟨rfl, fun A outer s H args us vs Q E hr hg e0 bt r sp => ?_⟩
  obtain ⟨oc, od, dV, kV, doc, pm, an, cdv, ct, osl, rfl, lk, hcd, _⟩ := F.ex
  obtain ⟨w, ls, eH, m, rl, hl, po⟩ := sp
  refine LamX.run_ofS lk hcd S hr e0 bt r (by rw [← rl.length]; exact hl) fun hr' => ⟨_, hb A outer s H E hr' hg, w, startL N.length ls, eH, m, start_ok rl, ?_⟩
  exact trim_po m po fun _ _ _ _ h => h
theorem exm_num {pf : Str} {K : PySem.W.Frag} {xs : List Str} {cN : Nat → Str} {L : List Nat} (c : (Fx.exm xs).ok pf K = true) (h1 : ∀ i ∈ L, cN i ∈ xs) (h2 : ∀ i ∈ L, ∀ j ∈ L, decide (cN i = cN j) = decide (i = j)) {i j : Nat} (hi : i ∈ L) (hj : j ∈ L) :
    PySem.W.exmOne K (.ref (ga K (cN i))) (.ref (ga K (cN j))) = some (decide (i = j)) := by
  rw [exm_all c (h1 i hi) (h1 j hj), h2 i hi j hj]
theorem tab1_mem {P : Addr} {q : Str} : (P, q) ∈ [(P, q)] := List.mem_cons_self ..
theorem tab1_u {P : Addr} {q : Str} : ∀ p ∈ [(P, q)], p.1 = P → p.2 = q := fun p hp _ => by rw [List.mem_singleton.mp hp]
/-- the law's def runs to true, if its mirror tells true -/
theorem law_run {P : Program} {w : World} {K : PySem.W.Frag} {mg : Str → Option Value} {base : Heap} {cad : Cad} {k : Nat} {f a : Addr} {fd : FuncData} {x : Str} {m : Fn} {H : Hp} {s₁ : Shared} {ns : List Int} {lh' : LH} (Fn : FnG P w K mg base cad k f fd [x] 1 m) (hr : Room k callerA)
    (e0 : Env0 P w K mg base callerA [] s₁ H) (hb : BindsTo s₁ fd ⟨[.ref a], []⟩ [(x, .ref a)]) (ht : ∀ p ∈ cad.tab, H p.1 = some (.tbl #[]))
    (hs : (∃ o, H a = some (.frz o (.lst (ns.map V.int)))) ∨ ∃ (o : Obj) (its : Array Value) (n : Nat), K.lookup a = some o ∧ o.cls = .type "list" ∧ o.dict = none ∧ o.data = .seq its n ∧ its.size ≤ sizeLine ∧ Vals (ns.map V.int) its.toList)
    (pl : m [.sl (ns.map LV.int)] [] = .ok (.bl true) lh') :
    codeAny (model P w) callerA (.call (.ref f) ⟨[.ref a], []⟩) (CR (L2.CX P w) [] P w H s₁ (fun v _ => v = .bl true) fun _ _ _ => False) s₁ := by
  have noL : ∀ b, ¬ Live (⟨[], [], H⟩ : Wd) b := fun b ⟨n, lo, h1, _⟩ => by simp at h1
  have em : Emb K cad (⟨[], [], H⟩ : Wd) := ⟨rfl, fun i j b h => by simp at h, fun n b h => by simp at h, fun n b lo h => by simp at h, fun n lo h => by simp at h, fun p hp => LamX.TabS.nil (ht p hp)⟩
  have zsR : ∀ zs : List Int, RLs K cad (⟨[], [], H⟩ : Wd) (zs.map LV.int) (zs.map V.int) := fun zs => by
    induction zs with
    | nil => exact RLs.nil
    | cons z zs ih => exact RLs.cons (mk_int z) ih
  have rs : RL K cad (⟨[], [], H⟩ : Wd) (.sl (ns.map LV.int)) (.ref a) := by
    simp only [RL]
    refine ⟨a, ns.map V.int, rfl, ?_, zsR ns⟩
    rcases hs with h | h
    · exact .inl ⟨h, noL a⟩
    · exact .inr h
  refine Fn.run callerA [] s₁ H ⟨[.ref a], []⟩ [.ref a] [.ref a] _ _ hr rfl e0 hb (.cons rfl .nil) ⟨⟨[], [], H⟩, [.sl (ns.map LV.int)], rfl, em, RLs.cons rs RLs.nil, rfl, ?_⟩
  show Po K cad (RL K cad) _ _ _ (m [.sl (ns.map LV.int)] [])
  rw [pl]
  exact fun w' _ _ _ u r => rl_bl r
/-! ### what is never reached -/
def eStuck : Ev := fun _ _ => .stuck
def sStuck : Sv := fun _ _ => .stuck
theorem se_stuck {X : Cx} {cad : Cad} {W : WX} {e : Expr} : SE X cad W e eStuck := ⟨fun _ _ _ _ _ _ ⟨_, _, _, _, _, po⟩ => po.elim⟩
theorem s_stuck {X : Cx} {cad : Cad} {W : WX} {e : Stmt} : SS X cad W e sStuck := ⟨fun _ _ _ _ _ _ ⟨_, _, _, _, _, po⟩ => po.elim⟩
/-! ### the same, with what every body leans on -/
theorem fn_mirrorT {cad : Cad} {P : Program} {wld : World} {K : PySem.W.Frag} {mg : Str → Option Value} {base : Heap} {x qual : Str} {params : Arguments} {body : List Stmt} {scope : Scope} {dvs : List V} {kws : List (Str × V)} {f : Addr} {fd : FuncData} {N ps : List Str} {k : Nat} {sv : Sv}
    (F : FunD K x qual params body scope dvs kws f fd) (S : FnScope N ps scope)
    (hb : ∀ (A : Around) (outer : List Env) (s : Shared) (H : Hp) (E : XK), Room k (A.deeper (envOfC qual scope s.heap.objs.size f fd.code)) → (A.deeper (envOfC qual scope s.heap.objs.size f fd.code)).guards = some [] →
      Takes (cxOf (L2.CX P wld) P wld K mg base N qual scope f fd.code A outer s H E) (WB E) →
      PassesOwn (model P wld) (A.deeper (envOfC qual scope s.heap.objs.size f fd.code)) (envOfC qual scope s.heap.objs.size f fd.code) (cxOf (L2.CX P wld) P wld K mg base N qual scope f fd.code A outer s H E).xe →
      SSs (cxOf (L2.CX P wld) P wld K mg base N qual scope f fd.code A outer s H E) cad (WB E) body sv) :
    FnG P wld K mg base cad (k + 1) f fd ps ps.length (fnB N.length sv) :=
  fn_mirrorC F S fun A outer s H E hr hg => hb A outer s H E hr hg (takes_of rfl rfl rfl rfl) (passes_of rfl)
theorem se_lamT {X : Cx} {cad : Cad} {W : WX} {x a told : Str} {HL : List Hd} {c P : Addr} {k : Nat} {params : Arguments} {body : Expr} {scope : Scope} {b : Ev} {p lpos pos : Pos} (cd : CatchD X cad x a told HL) (hg : Gl X x) (hgd : X.A.guards = some [])
    (TB : LamX.TabB X.base X.mg c P) (hcode : X.env.code = .ref c) (hmT : (P, X.env.qual ++ "<lambda>") ∈ cad.tab) (hu : ∀ p ∈ cad.tab, p.1 = P → p.2 = X.env.qual ++ "<lambda>") (hr : Room (k + 2) X.A) (L : LamX.LamS X.env.scope scope) (hdef : defaultsOf params X.env = ([], []))
    (hbind : ∀ (q : Str) (cl : List (Str × Addr)) (pm cv ctv : Value), bindArgs (PySem.W.kla_fn "<lambda>" q params body scope cl pm cv ctv) ⟨[], []⟩ = pure [])
    (hbody : ∀ (A : Around) (outer : List Env) (s : Shared) (H : Hp) (E : XK) (f c' : Addr), Room k (A.deeper (LamX.lamEnv X scope s.heap.objs.size f c')) → (A.deeper (LamX.lamEnv X scope s.heap.objs.size f c')).guards = some [] → Takes (LamX.lamCx X A outer s H E scope f c') (WB E) → SE (LamX.lamCx X A outer s H E scope f c') cad (WB E) body b)
    (hdb : (x == ("__debug__" : Str)) = false := by decide) (hd : (a == ("__debug__" : Str)) = false := by decide) (hcd : (a == ("__classdict__" : Str)) = false := by decide) :
    SE X cad W (.Call (.Name x p) [.Lambda params body scope lpos] [] pos) (eLam told b HL) :=
  se_lam cd hg hgd TB hcode hmT hu hr L hdef hbind (fun A outer s H E f c' hr hg => hbody A outer s H E f c' hr hg (takes_of rfl rfl rfl rfl)) hdb hd hcd
/-- the code object that a def's table belongs to is the def's own -/
theorem tab_code {K' K : PySem.W.Frag} {h : Heap} {mg : Str → Option Value} {x : Str} {f : Addr} {fd : FuncData} {oc : Value} {od : Option Addr} {osl : Array (Option Value)} (X' : K'.In h) (G : h.Ns mainGlobals mg) (X : K.In h) (c : tabB K' x = true) (hm : mg x = some (.ref f))
    (lk : K.lookup f = some ⟨oc, od, .func fd, osl⟩) : fd.code = .ref (tabOf K' x).1 := by
  unfold tabOf
  unfold tabB at c
  split at c
  · rename_i cc P ht
    rw [ht]
    unfold PySem.W.tabIn at ht
    split at ht
    · rename_i f' hf
      have e1 := PySem.W.mg_of X' G hf
      rw [hm] at e1
      cases e1
      split at ht
      · rename_i ho
        have e2 := X' _ _ ho
        rw [X _ _ lk] at e2
        cases e2
        split at ht
        · rename_i c2 hc
          rw [hc]
          split at ht
          · split at ht
            · cases ht; rfl
            · cases ht
          · cases ht
        · cases ht
      · cases ht
    · cases ht
  · cases c
end Lv
end
section
set_option Elab.async false
set_option linter.all false
set_option maxRecDepth 100000
set_option maxHeartbeats 2000000
namespace Lv
open PySem PySem.Spec PyProof.Rows L2
open PySem.W (Frag InstAt findIn subIn isFn selfFirst Looks)
/-! ### an int on the left, an own instance on the right: the class's reflected method -/
section
variable {prog : Program} {w : World} {A : Around} {E : Value → Shared → Prop} {s : Shared} {K : Frag} {x C L f f0 : Addr} {h₀ : Heap} {m : Str → Option Value} {ox : Obj} {od : Option Obj}
theorem int_decl (nm : String) (fn : Int → Int → Sem PySem.Fin) {i : Int} {t : Tok} {Q : Value → Shared → Prop} (ho : s.heap.get? x = some ox) (hd : ox.data = .plain) (h : Q .notImplemented s) :
    wpAny (model prog w) A (Builtin.Int.intBinary nm fn false ⟨[.int i t, .ref x], []⟩) (fun fin s' => ∃ v, fin = .done (.ret v) ∧ Q v s') E s := by
  unfold Builtin.Int.intBinary slotArgs
  simp only [List.isEmpty_nil, Bool.not_true, Bool.false_eq_true, if_false, List.length_cons, List.length_nil]
  refine wpAny_bind (wpAny_pure ?_)
  refine wpAny_bind ?_
  unfold Builtin.Int.intOfSelf
  refine wpAny_bind (wpAny_pure (wpAny_pure ?_))
  refine wpAny_bind (wpAny_bind (wpAny_load ho ?_))
  rw [hd]
  refine wpAny_pure ?_
  exact wpAny_bind (wpAny_rule (wpAny_pure ⟨_, rfl, h⟩))
/-- what the int's own method says to such a thing -/
def Decl (prog : Program) (w : World) (id : String) : Prop := ∀ (A : Around) (E : Value → Shared → Prop) (s : Shared) (x : Addr) (ox : Obj) (i : Int) (t : Tok) (Q : Value → Shared → Prop), s.heap.get? x = some ox → ox.data = .plain → Q .notImplemented s →
  wpAny (model prog w) A (call (.builtin id) [.int i t, .ref x]) Q E s
theorem decl_add : Decl prog w "int.__add__" := fun A E s x ox i t Q ho hd h => wpAny_call_entry F.slot_int_add (typeIs_int s i t) F.entry_int_add (int_decl _ _ ho hd h) (F.args_int_add_2 _ _)
theorem decl_sub : Decl prog w "int.__sub__" := fun A E s x ox i t Q ho hd h => wpAny_call_entry F.slot_int_sub (typeIs_int s i t) F.entry_int_sub (int_decl _ _ ho hd h) (F.args_int_sub_2 _ _)
theorem decl_mul : Decl prog w "int.__mul__" := fun A E s x ox i t Q ho hd h => wpAny_call_entry F.slot_int_mul (typeIs_int s i t) F.entry_int_mul (int_decl _ _ ho hd h) (F.args_int_mul_2 _ _)
/-- an operator whose int side is known -/
structure IntOp (prog : Program) (w : World) (op : Operator) : Prop where
  fills : fillsNumberSlot (.type "int") op.info.2 = pure true
  decl : ∃ id, Slot "int" (PySem.dunder op.info.2) id ∧ Decl prog w id
theorem intop_add : IntOp prog w .Add := ⟨F.fills_int_add, _, F.slot_int_add, decl_add⟩
theorem intop_sub : IntOp prog w .Sub := ⟨F.fills_int_sub, _, F.slot_int_sub, decl_sub⟩
theorem intop_mul : IntOp prog w .Mult := ⟨F.fills_int_mul, _, F.slot_int_mul, decl_mul⟩
theorem rop_run {op : Operator} {i : Int} {t : Tok} {Q : Value → Shared → Prop} (io : IntOp prog w op) (F : Fr h₀ L s.heap m) (X₀ : K.In h₀) (I : InstAt s.heap x ox C od) (hdat : ox.data = .plain) (hc : selfFirst K C = true)
    (hs : findIn K (.ref C) (PySem.dunder op.info.2) = some (some (.ref f0))) (hr : findIn K (.ref C) (dunderR op.info.2) = some (some (.ref f))) (hf : isFn K (.ref f) = true) (hsub : subIn K (.ref C) (.type "int") = some false)
    (h : wpAny (model prog w) A (call (.ref f) [.ref x, .int i t]) (PySem.W.CmpBack Q) E s) : wpAny (model prog w) A (binaryOp op (.int i t) (.ref x)) Q E s := by
  obtain ⟨hfill, id, slot, decl⟩ := io
  have X := X₀.keeps F.keep
  obtain ⟨cd, rest, hcd, hm⟩ := PySem.W.ksp_first hc
  rcases hi : op.info with ⟨sym, nm'⟩
  rw [hi] at hs hr hfill slot
  dsimp only at hs hr hfill slot
  have one := PySem.W.ksp_try X I hr hf h
  obtain ⟨hh, g, d, tt, os⟩ := s
  have L1 : Looks (model prog w) hh (typeOf (.ref x)) (.ref C) := I.type
  have L3 : Looks (model prog w) hh (fillsNumberSlot (.ref C) nm') true := PySem.W.fills_K X hcd hm hs
  have L5 : Looks (model prog w) hh (isSubtype (.ref C) (.type "int")) false := PySem.W.looks_subIn X hsub
  have hne : (Value.type "int" == Value.ref C) = false := Bool.eq_false_iff.mpr fun q => by cases beq_iff_eq.mp q
  simp only [binaryOp, hi]
  refine wpAny_holding (wpAny_bind ?_)
  unfold binaryOp1
  refine wpAny_bind (wpAny_typeOf (typeIs_int _ i t) (wpAny_bind (L1.at (wpAny_bind (wpAny_of_eq hfill ?_)))))
  simp only [hne, Bool.false_eq_true, if_false]
  refine wpAny_bind (L3.at ?_)
  simp only [Bool.and_self, if_true]
  refine wpAny_bind (L5.at ?_)
  have hpy : numberSlotInPython (.type "int") nm' = pure false := rfl
  simp only [Bool.false_eq_true, if_false, pure_bind, Bool.not_false, Bool.and_self, if_true, hpy]
  refine wpAny_bind (wpAny_tryMethod_declines (typeIs_int _ i t) slot (decl A E _ x ox i t _ I.at_ hdat ⟨rfl, ?_⟩))
  refine wpAny_bind (wpAny_mono one (fun r s' hr' => ?_) fun _ _ e => e)
  obtain ⟨v, rfl, hq⟩ := hr'
  exact wpAny_bind (wpAny_rule (wpAny_pure (wpAny_pure hq)))
end
end Lv
end
section
set_option Elab.async false
set_option linter.all false
set_option maxRecDepth 100000
set_option maxHeartbeats 2000000
namespace Lv
open PySem PySem.Spec PyProof.Rows L2
open PySem.W (Frag InstAt findIn subIn isFn selfFirst Looks)
/-- an own class's reflected operator; on the left an int -/
structure OwnR (X : Cx) (cad : Cad) (op : Operator) (c : Nat) (m : Fn) : Prop where
  meth : OwnM X cad c (dunderR op.info.2) 2 m []
  left : ∃ f0 : Addr, findIn X.K (.ref (cad c)) (PySem.dunder op.info.2) = some (some (.ref f0))
  first : selfFirst X.K (cad c) = true
  sub : subIn X.K (.ref (cad c)) (.type "int") = some false
def OwnRAll (X : Cx) (cad : Cad) (op : Operator) (rown : List (Nat × Fn)) : Prop := ∀ c m, rown.lookup c = some m → OwnR X cad op c m
def ownRV (rown : List (Nat × Fn)) (c : Nat) (fs : List (Str × LV)) (i : Int) (lh : LH) : Res LV := match rown.lookup c with
  | some m => m [.obj c fs, .int i] lh
  | none => .stuck
/-- an operator with its reflected table -/
def withR (f : LV → LV → LH → Res LV) (rown : List (Nat × Fn)) : LV → LV → LH → Res LV := fun x y h => match x, y with
  | .int i, .obj c fs => ownRV rown c fs i h
  | x, y => f x y h
section
variable {X : Cx} {cad : Cad} {W : WX} {op : Operator} {rown : List (Nat × Fn)}
theorem OwnRAll.nil : OwnRAll X cad op [] := fun c m h => by simp at h
theorem OwnRAll.cons {c : Nat} {m : Fn} {l : List (Nat × Fn)} (h : OwnR X cad op c m) (r : OwnRAll X cad op l) : OwnRAll X cad op ((c, m) :: l) := fun c' m' e => by
  rw [List.lookup_cons] at e
  by_cases hc : c' = c
  · subst hc; simp at e; subst e; exact h
  · have : (c' == c) = false := by simpa using hc
    rw [this] at e; exact r c' m' e
theorem ownR_run (io : IntOp X.prog X.w op) (oa : OwnRAll X cad op rown) (tk : Takes X W) {pins : List (Addr × Obj)} {s : Shared} {σ : L2.St} {w : Wd} {Q : VK} {c : Nat} {fs : List (Str × LV)} {i : Int} {y : V} {v u : Value} (I : Inv X pins σ w.H s) (em : Emb X.K cad w)
    (r2 : RL X.K cad w (.obj c fs) y) (q1 : RelV (.int i) v) (q2 : RelV y u) (po : Po X.K cad (RL X.K cad) w Q (XS W σ) (ownRV rown c fs i w.lh)) :
    wpAny (model X.prog X.w) X.A (binaryOp op v u) (EP X pins σ Q) X.xe s := by
  unfold ownRV at po
  cases hl : rown.lookup c with
  | none => rw [hl] at po; exact po.elim
  | some m =>
    rw [hl] at po
    have ob := oa c m hl
    obtain ⟨a, dx, vs, rfl, _⟩ := rl_obj r2
    cases q2
    obtain ⟨t, rfl⟩ := q1
    obtain ⟨od, ia⟩ := inst_of I r2
    obtain ⟨f, o, hf, hfn, _⟩ := ob.meth.ex
    obtain ⟨f0, h0⟩ := ob.left
    obtain ⟨mm, F⟩ := I.fr
    exact rop_run io F I.mod.kin ia rfl ob.first h0 hf hfn ob.sub (thn (run_own o tk I em (RLs.cons r2 (RLs.cons (mk_int i) RLs.nil)) (.cons rfl (.cons ⟨t, rfl⟩ .nil)) rfl po) fun v' s' h => cmpBack h)
theorem o_withR {f : LV → LV → LH → Res LV} (io : IntOp X.prog X.w op) (oa : OwnRAll X cad op rown) (tk : Takes X W) (ho : Op2 X cad W (binaryOp op) f) : Op2 X cad W (binaryOp op) (withR f rown) := by
  intro pins s σ w l1 l2 x y v u Q I m r1 r2 q1 q2 po
  cases l1 with
  | int i =>
    cases l2 with
    | obj c fs =>
      have e := rl_int r1
      subst e
      exact ownR_run io oa tk I m r2 q1 q2 po
    | _ => exact ho pins s σ w _ _ x y v u Q I m r1 r2 q1 q2 po
  | _ => exact ho pins s σ w _ _ x y v u Q I m r1 r2 q1 q2 po
end

/-! ### sum -/
def sumAcc : LV → Bool
  | .int _ => true
  | .obj _ _ => true
  | _ => false
def sumL (add : LV → LV → LH → Res LV) : List LV → LV → LH → Res LV
  | [], acc, h => .ok acc h
  | x :: xs, acc, h => if sumAcc x = true then rb (calmR (add acc x h)) fun a h1 => if sumAcc a = true then sumL add xs a h1 else .stuck
    else .stuck
def fSum (add : LV → LV → LH → Res LV) : List LV → LH → Res LV
  | [.fl xs], h => sumL add xs (.int 0) h
  | [.sl xs], h => sumL add xs (.int 0) h
  | _, _ => .stuck
theorem po_calmS {K : PySem.W.Frag} {cad : Cad} {α β γ : Type} {R : Wd → α → β → Prop} {w : Wd} {Q : β → Hp → Prop} {E : XK} {r : Res γ} {k : γ → LH → Res α} (h : Po K cad R w Q E (rb (calmR r) k)) : Po K cad R w Q E (rb r k) := by
  cases r with
  | ok a lh => exact h
  | exn c fs lh => exact h.elim
  | stuck => exact h
/-- a list that nobody writes -/
def SV (K : PySem.W.Frag) (w : Wd) (l : Addr) (zs : List V) : Prop := VL w l zs ∨ VS K w l zs
theorem SV.sq {K : PySem.W.Frag} {w : Wd} {l : Addr} {zs : List V} (h : SV K w l zs) : SqL K w.H l zs := h.elim VL.sq VS.sq
theorem SV.mono {K : PySem.W.Frag} {w w' : Wd} {l : Addr} {zs : List V} (x : Ext w w') (h : SV K w l zs) : SV K w' l zs := h.elim (fun h => .inl (h.mono x)) fun h => .inr (h.mono x)
abbrev sObj (v : Value) (c : Nat) : Obj := { cls := .type "list", dict := none, data := .seq #[v] c, slots := #[] }
section
variable {A : Around} {X : Cx} {cad : Cad} {add : LV → LV → LH → Res LV} {pins : List (Addr × Obj)} {σ : L2.St} {Q : VK} {R : Result → Shared → Prop} {I S l : Addr} {zs : List V}
theorem acc_flt {w : Wd} {acc : LV} {av : V} {total : Value} (ha : sumAcc acc = true) (r : RL X.K cad w acc av) (q : RelV av total) : (∃ i t, acc = .int i ∧ av = .int i ∧ total = .int i t) ∨ (∃ c fs a, acc = .obj c fs ∧ av = .ref a ∧ total = .ref a) := by
  cases acc with
  | int i =>
    have e := rl_int r
    subst e
    obtain ⟨t, rfl⟩ := q
    exact .inl ⟨i, t, rfl, rfl, rfl⟩
  | obj c fs =>
    obtain ⟨a, dx, vs, rfl, _⟩ := rl_obj r
    cases q
    exact .inr ⟨c, fs, a, rfl, rfl, rfl⟩
  | _ => cases ha
theorem sum_loop (hA : X.A = A.in1) (hh : A.in1.handled = none) (hx : ∀ e s, X.xe e s → False) (ho : Op2 X cad W0 (binaryOp .Add) add) (hint : ∀ i j h, add (.int i) (.int j) h = .ok (.int (i + j)) h) (hIS : I ≠ S) (hR : ∀ u s', EP X pins σ Q u s' → R (.ok (.ret u)) s') :
    ∀ (xs : List LV) (k : Nat) (acc : LV) (av : V) (total : Value) (st : Int) (c : Nat) (w : Wd) (s : Shared), ((st = 0 ∧ ∃ i, acc = .int i) ∨ st = 2) → sumAcc acc = true → Inv X pins σ w.H s → Emb X.K cad w → RL X.K cad w acc av → RelV av total → SV X.K w l zs → RLs X.K cad w xs (zs.drop k) →
      FpOk X pins w.H I → FpOk X pins w.H S → s.heap.IsListIter I l k → s.heap.get? S = some (sObj total c) → Po X.K cad (RL X.K cad) w Q (XS W0 σ) (sumL add xs acc w.lh) →
      codeAny (model X.prog X.w) A (.builtin "sum.loop" ⟨[.ref I, .ref S, rawInt st, rawInt 0], []⟩) R s := by
  intro xs
  induction xs with
  | nil =>
    intro k acc av total st c w s hst hacc Iv m ra rt sq rls fI fS hit hS po
    obtain ⟨its, rv, pl, hz⟩ := Iv.list sq.sq
    have hnone : its.toArray[k]? = none := by
      have h0 : zs.drop k = [] := by simpa [RLs] using rls
      have h1 : zs.length ≤ k := List.drop_eq_nil_iff.mp h0
      simp
      rw [← rv.length]; exact h1
    refine codeAny_builtin F.entry_sum_loop ?_
    rw [Around.under_plainId F.plain_sum_loop _]
    show wpAny _ A.in1 (seqItems? (.ref S) >>= _) _ _ s
    refine wpAny_bind (wpAny_seqItems hS rfl ?_)
    show wpAny _ A.in1 (tryCatch (pyNext (.ref I)) _ >>= _) _ _ s
    refine wpAny_bind (wpAny_tryCatch (wpAny_pyNext_list_end hh hit pl.isList hnone fun h' hk => ?_))
    have I2 : Inv X pins σ w.H { s with heap := h', toks := s.toks } := Iv.turned hk fI.1 fI.2.1 fI.2.2.2.1 fI.2.2.2.2.1 fI.2.2.2.2.2
    have fin : EP X pins σ Q total { s with heap := h', toks := s.toks } := ⟨av, w.H, I2, rt, po_here po m ra⟩
    rcases acc_flt hacc ra rt with ⟨i, t, rfl, rfl, rfl⟩ | ⟨c', fs, a, rfl, rfl, rfl⟩
    · exact wpAny_pure (hR _ _ fin)
    · exact wpAny_pure (hR _ _ fin)
  | cons x xs ih =>
    intro k acc av total st c w s hst hacc Iv m ra rt sq rls fI fS hit hS po
    obtain ⟨its, rv, pl, hz⟩ := Iv.list sq.sq
    obtain ⟨y, ys, hd, rx, rxs⟩ : ∃ y ys, zs.drop k = y :: ys ∧ RL X.K cad w x y ∧ RLs X.K cad w xs ys := by simpa only [RLs] using rls
    have hk : zs[k]? = some y := by
      have := congrArg List.head? hd
      simpa using this
    have hys : zs.drop (k + 1) = ys := by
      have := congrArg List.tail hd
      simpa using this
    obtain ⟨v, hv, ry⟩ := rv.get hk
    have hv' : its.toArray[k]? = some v := by simpa using hv
    refine codeAny_builtin F.entry_sum_loop ?_
    rw [Around.under_plainId F.plain_sum_loop _]
    show wpAny _ A.in1 (seqItems? (.ref S) >>= _) _ _ s
    refine wpAny_bind (wpAny_seqItems hS rfl ?_)
    show wpAny _ A.in1 (tryCatch (pyNext (.ref I)) _ >>= _) _ _ s
    refine wpAny_bind (wpAny_tryCatch (wpAny_pyNext_list_item hit pl.isList hv' fun h' hit' same => ?_))
    have keepI : ∀ b o, b ≠ I → s.heap.get? b = some o → h'.get? b = some o := fun b o hb e => (same.2 b hb).trans e
    have I2 : Inv X pins σ w.H { s with heap := h', toks := s.toks } := Iv.turned keepI fI.1 fI.2.1 fI.2.2.2.1 fI.2.2.2.2.1 fI.2.2.2.2.2
    have hS2 : h'.get? S = some (sObj total c) := keepI S _ (Ne.symm hIS) hS
    obtain ⟨hxx, po0⟩ : sumAcc x = true ∧ Po X.K cad (RL X.K cad) w Q (XS W0 σ) (rb (calmR (add acc x w.lh)) fun a h1 => if sumAcc a = true then sumL add xs a h1 else .stuck) := by
      have po' : Po X.K cad (RL X.K cad) w Q (XS W0 σ) (if sumAcc x = true then rb (calmR (add acc x w.lh)) fun a h1 => if sumAcc a = true then sumL add xs a h1 else .stuck else .stuck) := po
      by_cases hxx : sumAcc x = true
      · rw [if_pos hxx] at po'; exact ⟨hxx, po'⟩
      · rw [if_neg hxx] at po'; exact po'.elim
    have po2 := po_calmS po0
    -- the end of a turn
    have goOn : ∀ (w' : Wd) (acc' : LV) (av' : V) (r : Value) (s2 : Shared) (st' : Int), ((st' = 0 ∧ ∃ i, acc' = .int i) ∨ st' = 2) → Ext w w' → Emb X.K cad w' → RL X.K cad w' acc' av' → RelV av' r → sumAcc acc' = true → Po X.K cad (RL X.K cad) w' Q (XS W0 σ) (sumL add xs acc' w'.lh) →
        Inv X pins σ w'.H s2 → s2.heap.IsListIter I l (k + 1) → FpOk X pins w'.H I → FpOk X pins w'.H S → (∃ u c', s2.heap.get? S = some (sObj u c')) →
        wpAny (model X.prog X.w) A.in1 (updateSeq S (fun _ => #[r]) >>= fun _ => again (.builtin "sum.loop" ⟨[.ref I, .ref S, rawInt st', rawInt 0], []⟩))
          (fun fin s' => match fin with | .done f => R (.ok f) s' | .again c' => c'.quiet = true ∧ codeAny (model X.prog X.w) A c' R s') (fun e s' => R (.error e) s') s2 := by
      intro w' acc' av' r s2 st' hst' xw m' ra' rt' ha' po' Iv2 hit2 fI2 fS2 ⟨u, c', hS3⟩
      have self := Heap.get?_update_self (Obj.mapSeq fun _ => #[r]) hS3 rfl
      have other : ∀ b o, b ≠ S → s2.heap.get? b = some o → (s2.heap.update S (Obj.mapSeq fun _ => #[r])).get? b = some o := fun b o hb e => (Heap.get?_update_other _ _ (Ne.symm hb)).trans e
      have I3 : Inv X pins σ w'.H { s2 with heap := s2.heap.update S (Obj.mapSeq fun _ => #[r]), toks := s2.toks } := Iv2.turned other fS2.1 fS2.2.1 fS2.2.2.2.1 fS2.2.2.2.2.1 fS2.2.2.2.2.2
      refine wpAny_bind (wpAny_updateSeq hS3 rfl (wpAny_pure ⟨plainId_quiet F.plain_sum_loop _, ?_⟩))
      obtain ⟨oi, hoi, hoc, hod⟩ := hit2
      exact ih (k + 1) acc' av' r st' _ w' _ hst' ha' I3 m' ra' rt' (sq.mono xw) (by rw [hys]; exact RLs.mono xw _ _ rxs) fI2 fS2 ⟨oi, other I oi hIS hoi, hoc, hod⟩ self po'
    -- the operator itself
    have plainRun : ∀ (next : Value → Int) (f : Except Value Value → Sem PySem.Fin), (∀ i t, next (.int i t) = 2) → (∀ a, next (.ref a) = 2) →
        (∀ r, f (.ok r) = (updateSeq S (fun _ => #[r]) >>= fun _ => letGo [total, v] >>= fun _ => updateSeq S (fun _ => #[r]) >>= fun _ => again (.builtin "sum.loop" ⟨[.ref I, .ref S, rawInt (next r), rawInt 0], []⟩))) →
        wpAny (model X.prog X.w) A.in1 ((holding [v] (binaryOp .Add total v)).attempt >>= f)
          (fun fin s' => match fin with | .done f => R (.ok f) s' | .again c' => c'.quiet = true ∧ codeAny (model X.prog X.w) A c' R s') (fun e s' => R (.error e) s') { s with heap := h', toks := s.toks } := by
      intro next f hn1 hn2 hf
      obtain ⟨oi, hoi, hoc, hod⟩ := hit'
      have I3 : Inv X (pins ++ [(I, oi), (S, sObj total c)]) σ w.H { s with heap := h', toks := s.toks } := I2.pins_of fun p hp => by
        rcases List.mem_append.mp hp with hp | hp
        · exact I2.pin p (List.mem_append_right _ hp)
        · rcases List.mem_cons.mp hp with rfl | hp
          · exact ⟨hoi, fI.1, fI.2.1, fI.2.2.1, fun v e => by rw [hod] at e; cases e⟩
          · rw [List.mem_singleton.mp hp]
            exact ⟨hS2, fS.1, fS.2.1, fS.2.2.1, fun v e => by cases e⟩
      rw [← hA]
      refine wpAny_bind (wpAny_attempt (wpAny_holding (wpAny_mono (ho _ _ σ w acc x av y total v (fun u H => ∃ w' a, w'.H = H ∧ Ext w w' ∧ Emb X.K cad w' ∧ RL X.K cad w' a u ∧ Po X.K cad (RL X.K cad) w' Q (XS W0 σ) (if sumAcc a = true then sumL add xs a w'.lh else .stuck)) I3 m ra rx rt ry
        (po_bind po2 fun w' a u xw m' r' po' => ⟨w', a, rfl, xw, m', r', po'⟩)) (fun r s3 h3 => ?_) fun e s3 h3 => (hx _ _ h3).elim)))
      obtain ⟨u, H3, I4, ru, w', a, eH, xw, m', ra', po'⟩ := h3
      subst eH
      by_cases hz : sumAcc a = true
      · rw [if_pos hz] at po'
        have pI := I4.pin (I, oi) (List.mem_append_right _ (List.mem_append_right _ (List.mem_cons_self ..)))
        have pS := I4.pin (S, sObj total c) (List.mem_append_right _ (List.mem_append_right _ (List.mem_cons_of_mem _ (List.mem_cons_self ..))))
        have I5 : Inv X pins σ w'.H s3 := I4.unpinned
        have fI5 : FpOk X pins w'.H I := ⟨pI.2.1, fI.2⟩
        have fS5 : FpOk X pins w'.H S := ⟨pS.2.1, fS.2⟩
        have self := Heap.get?_update_self (Obj.mapSeq fun _ => #[r]) pS.1 rfl
        have other : ∀ b o, b ≠ S → s3.heap.get? b = some o → (s3.heap.update S (Obj.mapSeq fun _ => #[r])).get? b = some o := fun b o hb e => (Heap.get?_update_other _ _ (Ne.symm hb)).trans e
        have I6 : Inv X pins σ w'.H { s3 with heap := s3.heap.update S (Obj.mapSeq fun _ => #[r]), toks := s3.toks } := I5.turned other fS5.1 fS5.2.1 fS5.2.2.2.1 fS5.2.2.2.2.1 fS5.2.2.2.2.2
        rw [hf r, hA]
        refine wpAny_bind (wpAny_updateSeq pS.1 rfl (wpAny_bind (wpAny_letGo ?_)))
        have h2 : next r = 2 := by
          rcases acc_flt hz ra' ru with ⟨i, t, _, _, rfl⟩ | ⟨_, _, b, _, _, rfl⟩
          · exact hn1 _ _
          · exact hn2 _
        rw [h2]
        exact goOn w' a u r _ 2 (.inr rfl) xw m' ra' ru hz po' I6 ⟨oi, other I oi hIS pI.1, hoc, hod⟩ fI5 fS5 ⟨_, _, self⟩
      · rw [if_neg hz] at po'
        exact po'.elim
    rcases acc_flt hacc ra rt with ⟨i, t, rfl, rfl, rfl⟩ | ⟨c', fs, a, rfl, rfl, rfl⟩
    · rcases hst with ⟨rfl, _⟩ | rfl
      · cases x with
        | int b =>
          have e := rl_int rx
          subst e
          obtain ⟨tb, rfl⟩ := ry
          show wpAny _ A.in1 (if (_ : Bool) = true then (mkInt (i + b) >>= _) else _) _ _ _
          split
          · refine wpAny_bind (wpAny_mkInt ?_)
            rw [hint] at po2
            exact goOn w (.int (i + b)) (.int (i + b)) _ { s with heap := h', toks := s.toks + 1 } 0 (.inl ⟨rfl, _, rfl⟩) (Ext.refl w) m (mk_int _) ⟨_, rfl⟩ rfl po2 (I2.tok _) hit' fI fS ⟨_, _, hS2⟩
          · refine wpAny_bind (wpAny_rule ?_)
            exact plainRun (fun _ => 2) _ (fun _ _ => rfl) (fun _ => rfl) fun r => rfl
        | obj c' fs =>
          obtain ⟨a, dx, vs, rfl, _⟩ := rl_obj rx
          cases ry
          refine wpAny_bind (wpAny_rule ?_)
          exact plainRun (fun | .float .. => 1 | _ => 2) _ (fun _ _ => rfl) (fun _ => rfl) fun r => rfl
        | _ => cases hxx
      · exact plainRun (fun _ => 2) _ (fun _ _ => rfl) (fun _ => rfl) fun r => rfl
    · exact plainRun (fun _ => 2) _ (fun _ _ => rfl) (fun _ => rfl) fun r => rfl
end
/-- within a builtin, no exception -/
abbrev inn (X : Cx) : Cx := { X with A := X.A.in1, xe := fun _ _ => False }
theorem inn_ok {X : Cx} (ok : X.Ok) : (inn X).Ok :=
  ⟨ok.mod, ok.kind, ok.glob, ok.blt, ok.above, ok.inj, ok.has, ok.cab, ok.hd, ok.frames, ok.stk, ok.exf, ok.bs, ok.bsz, ok.noex, ok.exfs, ok.funs, ok.frf⟩
theorem inn_no {X : Cx} (ok : (inn X).Ok) (o : X.Ok) : X.Ok := o
section
variable {X : Cx} {cad : Cad} {W : WX} {pins : List (Addr × Obj)} {σ : L2.St} {H : Hp} {s : Shared} {add : LV → LV → LH → Res LV}
theorem inn_inv (I : Inv X pins σ H s) : Inv (inn X) pins σ H s := ⟨inn_ok I.ok, I.os, I.bare, I.base, I.loc, I.cell, I.free, I.freeC, I.pin, I.hok, I.len⟩
theorem inn_out (o : X.Ok) (I : Inv (inn X) pins σ H s) : Inv X pins σ H s := ⟨o, I.os, I.bare, I.base, I.loc, I.cell, I.free, I.freeC, I.pin, I.hok, I.len⟩
theorem sum_call (hh : X.A.handled = none) (ho : Op2 (inn X) cad W0 (binaryOp .Add) add) (hint : ∀ i j h, add (.int i) (.int j) h = .ok (.int (i + j)) h) {w : Wd} {Q : VK} {l : Addr} {zs : List V} {xs : List LV} (I : Inv X pins σ w.H s) (m : Emb X.K cad w) (sq : SV X.K w l zs)
    (rls : RLs X.K cad w xs zs) (po : Po X.K cad (RL X.K cad) w Q (XS W0 σ) (sumL add xs (.int 0) w.lh)) : wpAny (model X.prog X.w) X.A (call (.builtin "sum") [.ref l]) (EP X pins σ Q) X.xe s := by
  obtain ⟨its, rv, pl, hz⟩ := I.list sq.sq
  refine call_function_tree F.kind_sum F.plain_sum F.entry_sum (F.args_sum1 _) ?_
  unfold Builtin.«sum»
  simp only [List.length_cons, List.length_nil]
  rw [if_neg (by decide)]
  refine wpAny_bind (wpAny_of_eq (show Builtin.Builtins.bindParams "sum" ["start"] 0 { } = pure [none] from rfl) ?_)
  refine wpAny_bind (wpAny_pyIter_list pl.isList ?_)
  refine wpAny_bind (wpAny_mkInt ?_)
  refine wpAny_bind (wpAny_pure ?_)
  simp only [List.forIn_cons, List.forIn_nil]
  refine wpAny_bind (wpAny_bind (wpAny_bind (wpAny_isInstance (T := "int") (b := false) (typeIs_int _ _ _) PySem.sub_int_str ?_)))
  simp only [Bool.false_eq_true, if_false]
  refine wpAny_pure (wpAny_bind (wpAny_bind (wpAny_isInstance (T := "int") (b := false) (typeIs_int _ _ _) PySem.sub_int_bytes ?_)))
  simp only [Bool.false_eq_true, if_false]
  refine wpAny_pure (wpAny_bind (wpAny_bind (wpAny_isInstance (T := "int") (b := false) (typeIs_int _ _ _) PySem.sub_int_bytearray ?_)))
  simp only [Bool.false_eq_true, if_false]
  refine wpAny_pure (wpAny_pure ?_)
  refine wpAny_bind (wpAny_newObj_type ?_)
  have k1 : ∀ b u, s.heap.get? b = some u → (s.heap.push { cls := .type "list_iterator", data := .fields #[.ref l, .int 0 0] }).get? b = some u := fun b u e => Heap.get?_push_of_some _ e
  have k2 : ∀ b u, s.heap.get? b = some u → ((s.heap.push { cls := .type "list_iterator", data := .fields #[.ref l, .int 0 0] }).push (sObj (.int 0 s.toks) 0)).get? b = some u := fun b u e => Heap.get?_push_of_some _ (k1 b u e)
  have hsz : (s.heap.push { cls := .type "list_iterator", data := .fields #[.ref l, .int 0 0] }).objs.size = s.heap.objs.size + 1 := Heap.size_push ..
  have Iv : Inv (inn X) pins σ w.H { s with heap := (s.heap.push { cls := .type "list_iterator", data := .fields #[.ref l, .int 0 0] }).push (sObj (.int 0 s.toks) 0), toks := s.toks + 1 } := inn_inv (I.kept k2)
  have n1 : w.H s.heap.objs.size = none := I.hok.fresh (Nat.le_refl _)
  have n2 : w.H (s.heap.objs.size + 1) = none := I.hok.fresh (Nat.le_succ _)
  have f1 : FpOk X pins w.H s.heap.objs.size := I.fpOk (Nat.le_refl _) n1
  have f2 : FpOk X pins w.H (s.heap.objs.size + 1) := I.fpOk (Nat.le_succ _) n2
  have ok := I.ok
  refine wpAny_pure ⟨plainId_quiet F.plain_sum_loop _, ?_⟩
  rw [hsz]
  have e2 : ((s.heap.push { cls := .type "list_iterator", data := .fields #[.ref l, .int 0 0] }).push (sObj (.int 0 s.toks) 0)).get? (s.heap.objs.size + 1) = some (sObj (.int 0 s.toks) 0) := by
    have e := Heap.get?_push_size (o := sObj (.int 0 s.toks) 0) (s.heap.push { cls := .type "list_iterator", data := .fields #[.ref l, .int 0 0] }) rfl
    rw [hsz] at e
    exact e
  refine sum_loop (X := inn X) (A := X.A) (cad := cad) (add := add) (pins := pins) (σ := σ) (Q := Q) (zs := zs) (l := l) rfl hh (fun _ _ h => h) ho hint (Nat.ne_of_lt (Nat.lt_succ_self _)) (fun u s' h => ?_) xs 0 (.int 0) (.int 0) (.int 0 s.toks) 0 _ w _ (.inl ⟨rfl, _, rfl⟩) rfl Iv m (mk_int 0) ⟨_, rfl⟩ sq rls f1 f2
    ⟨_, Heap.get?_push_of_some _ (Heap.get?_push_size _ rfl), rfl, rfl⟩ e2 po
  obtain ⟨v, H', I', r', q'⟩ := h
  exact ⟨v, H', inn_out ok I', r', q'⟩
theorem po_W0 {K : PySem.W.Frag} {w : Wd} {α β : Type} {R' : Wd → α → β → Prop} {Q : β → Hp → Prop} {E E' : XK} {r : Res α} (hr : ∀ c fs h, r ≠ .exn c fs h) (h : Po K cad R' w Q E r) : Po K cad R' w Q E' r := by
  cases r with
  | ok a lh => exact h
  | exn c fs lh => exact absurd rfl (hr c fs lh)
  | stuck => exact h
theorem sumL_noexn : ∀ (xs : List LV) (acc : LV) (h : LH), ∀ c fs h', sumL add xs acc h ≠ .exn c fs h'
  | [], acc, h, c, fs, h' => by simp [sumL]
  | x :: xs, acc, h, c, fs, h' => by
    rw [sumL]
    split
    · cases add acc x h with
      | ok a h1 =>
        show (if sumAcc a = true then sumL add xs a h1 else .stuck) ≠ _
        split
        · exact sumL_noexn xs a h1 c fs h'
        · exact fun e => nomatch e
      | exn c fs h1 => exact fun e => nomatch e
      | stuck => exact fun e => nomatch e
    · exact fun e => nomatch e
theorem cl_sum (hh : X.A.handled = none) (ho : Op2 (inn X) cad W0 (binaryOp .Add) add) (hint : ∀ i j h, add (.int i) (.int j) h = .ok (.int (i + j)) h) : ClL X cad W (fun us => call (.builtin "sum") us) (fSum add) := fun pins s σ w ls xs us Q I m r q po => by
  unfold fSum at po
  split at po
  · rename_i zs
    obtain ⟨v, rfl, r1⟩ := rls1 r
    obtain ⟨u, rfl, rv⟩ := vals1 q
    obtain ⟨a, vs, rfl, p, rs⟩ := rl_fl r1
    cases rv
    exact sum_call hh ho hint I m (.inl p) rs (po_W0 (sumL_noexn _ _ _) po)
  · rename_i zs
    obtain ⟨v, rfl, r1⟩ := rls1 r
    obtain ⟨u, rfl, rv⟩ := vals1 q
    obtain ⟨a, vs, rfl, p, rs⟩ := rl_sl r1
    cases rv
    exact sum_call hh ho hint I m (.inr p) rs (po_W0 (sumL_noexn _ _ _) po)
  · exact po.elim
theorem takes_inn : Takes (inn X) W0 := fun u s' h => by
  obtain ⟨_, _, _, _, _, H, cls, d, _, _, _, _, _, _, _, _, h⟩ := h
  exact h
end
end Lv
end
section
set_option Elab.async false
set_option linter.all false
set_option maxRecDepth 100000
set_option maxHeartbeats 2000000
namespace Lv
open PySem PySem.Spec PyProof.Rows L2
/-! ### sorted of plain data -/
def srtD (x : LV) : PyData := (dOf x).getD .none
def srtB (ds : List PyData) : Bool := (ds.all fun d => ds.all fun e => PySem.W.alike d e) && (((ds.all fun d => match d with | .tuple (_ :: _) => true | _ => false) || (ds.all fun d => match d with | .none => false | .tuple _ => false | _ => true)) && ds.all fun d => decide (d.depth ≤ 40))
def srtL (xs : List LV) : List LV := xs.mergeSort (PySem.W.dataLe false srtD)
def lstOf : LV → LH → Option (List LV)
  | .fl xs, _ => some xs
  | .sl xs, _ => some xs
  | .ref n, lh => (match lh[n]? with
    | some (.lst xs) => some xs
    | _ => none)
  | _, _ => none
def fSorted : List LV → LH → Res LV
  | [x], h => (match lstOf x h with
    | some xs => if xs.length ≤ 1 then .ok (.fl xs) h else (match dOfs xs with
      | some ds => if srtB ds = true then .ok (.fl (srtL xs)) h else .stuck
      | none => .stuck)
    | none => .stuck)
  | _, _ => .stuck
theorem lstOf_ok {K : PySem.W.Frag} {cad : Cad} {w : Wd} {l : LV} {xs : List LV} {v : V} (h : lstOf l w.lh = some xs) (r : RL K cad w l v) (m : Emb K cad w) : ∃ a vs, v = .ref a ∧ RLs K cad w xs vs ∧ SqL K w.H a vs := by
  cases l with
  | fl ys => cases h; obtain ⟨a, vs, rfl, p, s⟩ := rl_fl r; exact ⟨a, vs, rfl, s, p.sq⟩
  | sl ys => cases h; obtain ⟨a, vs, rfl, p, s⟩ := rl_sl r; exact ⟨a, vs, rfl, s, p.sq⟩
  | ref n =>
    obtain ⟨a, rfl, ha⟩ := rl_ref r
    simp only [lstOf] at h
    cases hl : w.lh[n]? with
    | none => rw [hl] at h; cases h
    | some lo =>
      rw [hl] at h
      cases lo with
      | lst ys =>
        cases h
        obtain ⟨vs, e, s⟩ := m.cell _ _ _ ha hl
        exact ⟨a, vs, rfl, s, .inl (.inl e)⟩
      | _ => cases h
  | _ => cases h
theorem srt_each {K : PySem.W.Frag} {cad : Cad} {w : Wd} : ∀ {ys : List LV} {vs : List V} {its : List Value}, RLs K cad w ys vs → Vals vs its → PySem.W.EachIs (fun v b => ∃ y, RelV y v ∧ RL K cad w b y) its ys
  | [], vs, its, r, q => by simp only [RLs] at r; subst r; cases q; exact .nil
  | y :: ys, vs, its, r, q => by
    simp only [RLs] at r
    obtain ⟨v, us, rfl, r1, r2⟩ := r
    cases q with
    | cons q1 q2 => exact .cons ⟨v, q1, r1⟩ (srt_each r2 q2)
theorem srt_back {K : PySem.W.Frag} {cad : Cad} {w : Wd} : ∀ {ys : List LV} {its : List Value}, PySem.W.EachIs (fun v b => ∃ y, RelV y v ∧ RL K cad w b y) its ys → ∃ vs, Vals vs its ∧ RLs K cad w ys vs
  | [], _, .nil => ⟨[], .nil, by simp only [RLs]⟩
  | y :: ys, _, .cons h t => by
    obtain ⟨v, q, r⟩ := h
    obtain ⟨vs, qs, rs⟩ := srt_back t
    exact ⟨v :: vs, .cons q qs, RLs.cons r rs⟩
theorem srt_reads {X : Cx} {cad : Cad} {pins : List (Addr × Obj)} {σ : L2.St} {w : Wd} {s : Shared} (I : Inv X pins σ w.H s) : ∀ {ys : List LV} {ds : List PyData} {vs : List V} {its : List Value}, dOfs ys = some ds → RLs X.K cad w ys vs → Vals vs its → PySem.W.EachIs (fun v b => ∃ as, Reads s.heap v (srtD b) as) its ys
  | [], ds, vs, its, hd, r, q => by simp only [RLs] at r; subst r; cases q; exact .nil
  | y :: ys, ds, vs, its, hd, r, q => by
    simp only [RLs] at r
    obtain ⟨v, us, rfl, r1, r2⟩ := r
    simp only [dOfs] at hd
    cases q with
    | cons q1 q2 =>
      split at hd
      · rename_i d es h1 h2
        refine .cons ?_ (srt_reads I h2 r2 q2)
        have e : srtD y = d := by unfold srtD; rw [h1]; rfl
        rw [e]
        exact Dp.reads I d v _ (dOf_ok y v d h1 r1) q1
      · cases hd
theorem srt_map : ∀ {ys : List LV} {ds : List PyData}, dOfs ys = some ds → ys.map srtD = ds
  | [], ds, h => by simp only [dOfs] at h; cases h; rfl
  | y :: ys, ds, h => by
    simp only [dOfs] at h
    split at h
    · rename_i d es h1 h2
      cases h
      rw [List.map_cons, srt_map h2]
      have e : srtD y = d := by unfold srtD; rw [h1]; rfl
      rw [e]
    · cases h
theorem perm_short {α : Type} {l m : List α} (h : m.length ≤ 1) (p : l.Perm m) : l = m := by
  cases m with
  | nil => exact List.perm_nil.mp p
  | cons b r => cases r with
    | nil => exact List.perm_singleton.mp p
    | cons c t => simp at h
section
variable {X : Cx} {cad : Cad} {W : WX}
theorem cl_sorted (hu : X.A.units + 64 < cLine) : ClL X cad W (fun us => call (.builtin "sorted") us) fSorted := fun pins s σ w ls xs us Q I m r q po => by
  unfold fSorted at po
  split at po
  · rename_i x h
    split at po
    · rename_i ys hq
      obtain ⟨v, rfl, r1⟩ := rls1 r
      obtain ⟨u, rfl, rv⟩ := vals1 q
      obtain ⟨a, vs, rfl, rs, sq⟩ := lstOf_ok hq r1 m
      cases rv
      obtain ⟨its, rvs, pl, hz⟩ := I.list sq
      have hl1 : ys.length = vs.length := rs.length
      have hl2 : vs.length = its.length := rvs.length
      have fin : ∀ (out : List Value) (zs : List LV) (ws : List V), Vals ws out → RLs X.K cad w zs ws → ws.length ≤ sizeLine → Po X.K cad (RL X.K cad) w Q (XS W σ) (.ok (.fl zs) w.lh) → EP X pins σ Q (.ref (s.heap.objs.size + 1)) { s with heap := sortedAll s.heap its out.toArray } := by
        intro out zs ws qv rz hlen po'
        obtain ⟨ep, he'⟩ := PyProof.Rows.sortedAll_at s.heap its out.toArray
        exact ⟨.ref _, upd w.H (s.heap.objs.size + 1) (.lst ws), I.laid (t' := s.toks) (fun _ _ => PyProof.Rows.sortedAll_old) (Nat.le_succ _) ⟨hlen, out, ep, qv, he'⟩, rfl, po_fl po' m rz _ (I.hok.fresh (Nat.le_succ _))⟩
      by_cases h1 : ys.length ≤ 1
      · rw [if_pos h1] at po
        refine SrtO.sorted_ord (ltv := fun _ _ => false) ⟨fun _ _ h => (nomatch h), fun _ _ _ _ _ => rfl⟩ pl.isList (by rw [← hl2]; exact hz) (fun h2 => absurd h2 (by omega)) fun out _ hb => ?_
        have e : out = its := by
          have hp := hb.perm
          have hi : its.length ≤ 1 := by omega
          clear fin pl rvs
          exact perm_short hi hp
        rw [e]
        exact fin its ys vs rvs rs hz po
      · rw [if_neg h1] at po
        split at po
        · rename_i ds hd
          split at po
          · rename_i hb
            simp only [srtB, Bool.and_eq_true, Bool.or_eq_true] at hb
            obtain ⟨b1, b2, b3⟩ := hb
            have em : ys.map srtD = ds := srt_map hd
            have hdm : ∀ b ∈ ys, srtD b ∈ ds := fun b hb => by rw [← em]; exact List.mem_map_of_mem hb
            refine PySem.W.sorted_data (R := fun v b => ∃ y, RelV y v ∧ RL X.K cad w b y) (enc := srtD) pl.isList (srt_each rs rvs) (srt_reads I hd rs rvs) ?_ ?_ (by omega) (fun b hb => ?_) fun out hlen hout => ?_
            · rw [em]
              exact fun d h1 e h2 => List.all_eq_true.mp (List.all_eq_true.mp b1 d h1) e h2
            · rw [em]
              rcases b2 with b2 | b2
              · refine .inl fun d hd' => ?_
                have := List.all_eq_true.mp b2 d hd'
                match d, this with
                | .tuple (x :: r), _ => exact ⟨x, r, rfl⟩
              · refine .inr fun d hd' => ?_
                have := List.all_eq_true.mp b2 d hd'
                refine ⟨fun e => ?_, fun zs e => ?_⟩
                · rw [e] at this; cases this
                · rw [e] at this; cases this
            · have := of_decide_eq_true (List.all_eq_true.mp b3 _ (hdm b hb))
              omega
            · obtain ⟨ws, qw, rw'⟩ := srt_back hout
              refine fin out _ ws qw rw' ?_ po
              rw [qw.length, hlen]; omega
          · exact po.elim
        · exact po.elim
    · exact po.elim
  · exact po.elim
end
end Lv
end
section
set_option Elab.async false
set_option linter.all false
set_option maxRecDepth 100000
set_option maxHeartbeats 2000000
namespace Lv
open PySem PySem.Spec PyProof.Rows L2
/-! ### list comprehensions of two clauses -/
def cLoop2 (g : Tg) (t : EvT) (it1 : EvL) (g1 : Tg) (t1 : EvT) (el : Ev) (vs1 : List Nat) (env : LE) (n : Nat) : List LV → LH → Res Unit
  | [], lh => .ok () lh
  | x :: xs, lh => match asg g x env with
    | none => .stuck
    | some env1 => rb (t env1 lh) fun k lh1 => if k = true then rb (it1 env1 lh1) fun ys lh2 => rb (cLoop g1 t1 el (lwipe env1 vs1) n ys lh2) fun _ lh3 => cLoop2 g t it1 g1 t1 el vs1 env n xs lh3 else cLoop2 g t it1 g1 t1 el vs1 env n xs lh1
def eLc2 (mt : Bool) (it : EvL) (g : Tg) (t : EvT) (it1 : EvL) (g1 : Tg) (t1 : EvT) (el : Ev) (vs vs1 : List Nat) : Ev := fun env lh => rb (it env lh) fun xs lh1 =>
  rb (calmR (cLoop2 g t it1 g1 t1 el vs1 (lwipe env vs) lh1.length xs (lh1 ++ [.lst []]))) fun _ lh2 => lcFin mt lh1.length lh2
theorem rb_assoc {α β γ : Type} (r : Res α) (f : α → LH → Res β) (k : β → LH → Res γ) : rb (rb r f) k = rb r fun a h => rb (f a h) k := by cases r <;> rfl
theorem rb_ite {α β : Type} (b : Bool) (r s : Res α) (k : α → LH → Res β) : rb (if b = true then r else s) k = if b = true then rb r k else rb s k := by cases b <;> rfl
section
variable {X : Cx} {cad : Cad} {W : WX} {pos : Pos} {tg iter tg1 iter1 elt : Expr} {ifs ifs1 : List Expr} {scope : Scope} {own : List (Str × Nat)} {ei ei1 : EvL} {g g1 : Tg} {t t1 : EvT} {el : Ev} {mt : Bool}
theorem lc2_of {σ : L2.St} {H : Hp} {Q : VK} {vs vs1 : List Nat} (hix : ∀ i ∈ g.ix, i ∈ vs) (hix1 : ∀ i ∈ g1.ix, i ∈ vs1) (h : tE X.K cad W (eLc2 mt ei g t ei1 g1 t1 el vs vs1) σ H Q) :
    tLc2 (tI X.K cad W ei) (tG X.K g) (tT X.K cad W0 t) (tI X.K cad W0 ei1) (tG X.K g1) (tT X.K cad W0 t1) (tE X.K cad W0 el) vs vs1 σ H Q := by
  obtain ⟨w, env, eH, m, re, po⟩ := h
  refine ⟨w, env, eH, m, re, po_bind po fun w1 items J x1 m1 src po1 => fun D hD => ?_⟩
  have x0 : Ext w1 ⟨w1.φ ++ [D], w1.lh ++ [.lst []], upd w1.H D (.lst [])⟩ := Ext.cell m1 (.lst []) hD
  have m0 : Emb X.K cad ⟨w1.φ ++ [D], w1.lh ++ [.lst []], upd w1.H D (.lst [])⟩ := m1.cell' (.lst []) hD rfl ⟨[], upd_same, RLs.nil⟩
  have hφ0 : (⟨w1.φ ++ [D], w1.lh ++ [.lst []], upd w1.H D (.lst [])⟩ : Wd).φ[w1.lh.length]? = some D := by
    show (w1.φ ++ [D])[w1.lh.length]? = some D
    rw [← m1.len]; simp
  generalize hw0 : (⟨w1.φ ++ [D], w1.lh ++ [.lst []], upd w1.H D (.lst [])⟩ : Wd) = w0 at x0 m0 hφ0
  have hH0 : w0.H = upd w1.H D (.lst []) := by rw [← hw0]
  have hlh0 : w0.lh = w1.lh ++ [.lst []] := by rw [← hw0]
  refine ⟨fun i k H => ∃ w, w.H = H ∧ Ext w0 w ∧ Emb X.K cad w ∧ k = items.length - i ∧ Po X.K cad (RL X.K cad) w1 Q (XS W σ) (rb (calmR (cLoop2 g t ei1 g1 t1 el vs1 (lwipe env vs) w1.lh.length (items.drop i) w.lh)) fun _ lh2 => lcFin mt w1.lh.length lh2),
    ⟨items.length, w0, hH0, Ext.refl w0, m0, rfl, by rw [hlh0]; exact po1⟩, ?_⟩
  rintro i k H ⟨w2, eH2, x2, m2, ek, po2⟩
  subst eH2
  have hφ : w2.φ[w1.lh.length]? = some D := x2.pre _ _ hφ0
  obtain ⟨h1, h2⟩ := src w2 (x0.trans x2) m2
  by_cases hi : items.length ≤ i
  · refine .inl ⟨h1 i hi, ?_⟩
    rw [List.drop_eq_nil_of_le hi] at po2
    have po3 : Po X.K cad (RL X.K cad) w1 Q (XS W σ) (lcFin mt w1.lh.length w2.lh) := po2
    unfold lcFin at po3
    cases hl : w2.lh[w1.lh.length]? with
    | none => rw [hl] at po3; exact po3.elim
    | some lo =>
      rw [hl] at po3
      cases lo with
      | lst acc =>
        obtain ⟨us, e, r⟩ := m2.cell _ _ _ hφ hl
        have nr : noRefs acc = true := m2.nr _ _ hl
        dsimp only at po3
        cases mt with
        | true =>
          rw [if_pos rfl] at po3
          refine po3 (w2.cut (w1.lh.length + 1)) rfl ((x0.trans x2).cut m1 (Nat.le_succ _)) (m2.cut _) _ (mk_ref ?_)
          show (w2.φ.take (w1.lh.length + 1))[w1.lh.length]? = some D
          rw [List.getElem?_take, if_pos (Nat.lt_succ_self _)]; exact hφ
        | false =>
          rw [if_neg Bool.false_ne_true] at po3
          exact po3 (w2.cut w1.lh.length) rfl ((x0.trans x2).cut m1 (Nat.le_refl _)) (m2.cut _) _ (mk_fl ⟨e, cut_dead m2 hφ hl (fun q => nomatch q)⟩ (RLs.cut _ _ nr r))
      | _ => exact po3.elim
  · have hlt : i < items.length := by omega
    obtain ⟨go, yl⟩ := h2 i items[i] (List.getElem?_eq_getElem hlt)
    rw [List.drop_eq_getElem_cons hlt] at po2
    refine .inr ⟨go, fun H' => ∃ w', w'.H = H' ∧ Ext w0 w' ∧ Emb X.K cad w' ∧ Po X.K cad (RL X.K cad) w1 Q (XS W σ) (rb (calmR (cLoop2 g t ei1 g1 t1 el vs1 (lwipe env vs) w1.lh.length (items.drop (i + 1)) w'.lh)) fun _ lh2 => lcFin mt w1.lh.length lh2),
      fun H' ⟨w', e', x', m', po'⟩ => ⟨items.length - (i + 1), by omega, w', e', x', m', rfl, po'⟩, fun v H' hy => ?_⟩
    obtain ⟨w3, e3, el3, x3, m3, r3⟩ := yl v H' hy
    subst e3
    unfold cLoop2 at po2
    have re3 : RLe X.K cad w3 (lwipe env vs) (L2.wipe σ vs) := ((((re.mono x1).mono x0).mono x2).mono x3).wipe vs
    cases qa : asg g items[i] (lwipe env vs) with
    | none => rw [qa] at po2; exact po2.elim
    | some env1 =>
      rw [qa] at po2
      obtain ⟨σ', re', hQ, us, hs⟩ := asg_ok qa r3 re3
      refine hQ _ ⟨by rw [hs, wipe_sets hix, wipe_wipe], w3, env1, rfl, m3, re', ?_⟩
      rw [el3]
      refine po_cb po2 fun w4 k' k2 x4 m4 r4 po4 => ?_
      subst r4
      cases k' with
      | false =>
        rw [if_neg Bool.false_ne_true] at po4
        exact iteF ⟨w4, rfl, (x2.trans x3).trans x4, m4, po4⟩
      | true =>
        rw [if_pos rfl] at po4
        refine iteT ⟨w4, env1, rfl, m4, re'.mono x4, po_cb po4 fun w5 items1 J1 x5 m5 src1 po5 => ?_⟩
        have x05 : Ext w0 w5 := ((x2.trans x3).trans x4).trans x5
        refine ⟨fun j k H => ∃ w, w.H = H ∧ Ext w5 w ∧ Emb X.K cad w ∧ k = items1.length - j ∧ Po X.K cad (RL X.K cad) w1 Q (XS W σ) (rb (calmR (rb (cLoop g1 t1 el (lwipe env1 vs1) w1.lh.length (items1.drop j) w.lh) fun _ lh3 => cLoop2 g t ei1 g1 t1 el vs1 (lwipe env vs) w1.lh.length (items.drop (i + 1)) lh3)) fun _ lh2 => lcFin mt w1.lh.length lh2),
          ⟨items1.length, w5, rfl, Ext.refl w5, m5, rfl, po5⟩, ?_⟩
        rintro j k H ⟨v2, eV2, y2, n2, ek2, qo2⟩
        subst eV2
        obtain ⟨g1', g2'⟩ := src1 v2 y2 n2
        by_cases hj : items1.length ≤ j
        · refine .inl ⟨g1' j hj, v2, rfl, x05.trans y2, n2, ?_⟩
          rw [List.drop_eq_nil_of_le hj] at qo2
          exact qo2
        · have hltj : j < items1.length := by omega
          obtain ⟨go1, yl1⟩ := g2' j items1[j] (List.getElem?_eq_getElem hltj)
          rw [List.drop_eq_getElem_cons hltj] at qo2
          refine .inr ⟨go1, fun H' => ∃ w', w'.H = H' ∧ Ext w5 w' ∧ Emb X.K cad w' ∧ Po X.K cad (RL X.K cad) w1 Q (XS W σ) (rb (calmR (rb (cLoop g1 t1 el (lwipe env1 vs1) w1.lh.length (items1.drop (j + 1)) w'.lh) fun _ lh3 => cLoop2 g t ei1 g1 t1 el vs1 (lwipe env vs) w1.lh.length (items.drop (i + 1)) lh3)) fun _ lh2 => lcFin mt w1.lh.length lh2),
            fun H' ⟨w', e', x', m', po'⟩ => ⟨items1.length - (j + 1), by omega, w', e', x', m', rfl, po'⟩, fun v H' hy => ?_⟩
          obtain ⟨v3, f3, fl3, y3, n3, s3⟩ := yl1 v H' hy
          subst f3
          unfold cLoop at qo2
          have re5 : RLe X.K cad v3 (lwipe env1 vs1) (L2.wipe σ' vs1) := ((((re'.mono x4).mono x5).mono y2).mono y3).wipe vs1
          cases qb : asg g1 items1[j] (lwipe env1 vs1) with
          | none => rw [qb] at qo2; exact qo2.elim
          | some env2 =>
            rw [qb] at qo2
            obtain ⟨σ'', re'', hQ', us', hs'⟩ := asg_ok qb s3 re5
            refine hQ' _ ⟨by rw [hs', wipe_sets hix1, wipe_wipe], v3, env2, rfl, n3, re'', ?_⟩
            rw [fl3]
            simp only [rb_assoc] at qo2
            refine po_cb qo2 fun v4 k2 k3 y4 n4 s4 qo4 => ?_
            subst s4
            rw [rb_ite] at qo4
            cases k2 with
            | false =>
              rw [if_neg Bool.false_ne_true] at qo4
              exact iteF ⟨v4, rfl, (y2.trans y3).trans y4, n4, qo4⟩
            | true =>
              rw [if_pos rfl, rb_assoc] at qo4
              refine iteT ⟨v4, env2, rfl, n4, re''.mono y4, po_cb qo4 fun v5 yl' y' y5 n5 s5 qo5 => ?_⟩
              have y05 : Ext w5 v5 := ((y2.trans y3).trans y4).trans y5
              have hφ5 : v5.φ[w1.lh.length]? = some D := (x05.trans y05).pre _ _ hφ0
              unfold pushAt at qo5
              cases hl : v5.lh[w1.lh.length]? with
              | none => rw [hl] at qo5; exact qo5.elim
              | some lo =>
                rw [hl] at qo5
                cases lo with
                | lst acc =>
                  dsimp only at qo5
                  by_cases hz : acc.length ≤ LIM ∧ noRef yl' = true
                  · rw [if_pos hz] at qo5
                    obtain ⟨as, ea, ra⟩ := n5.cell _ _ _ hφ5 hl
                    have xs5 : Ext v5 ⟨v5.φ, v5.lh.set w1.lh.length (.lst (acc ++ [yl'])), upd v5.H D (.lst (as ++ [y']))⟩ := Ext.set hφ5 hl rfl
                    refine ⟨as, ea, by rw [← ra.length]; exact lim_lt hz.1, ⟨v5.φ, v5.lh.set w1.lh.length (.lst (acc ++ [yl'])), upd v5.H D (.lst (as ++ [y']))⟩, rfl, y05.trans xs5, ?_, qo5⟩
                    refine n5.set hφ5 hl rfl (fun q => nomatch q) ?_ ⟨_, upd_same, (RLs.mono xs5 _ _ ra).append (RLs.cons (RL.mono xs5 _ _ s5) RLs.nil)⟩
                    have nr : noRefs acc = true := n5.nr _ _ hl
                    show noRefs (acc ++ [yl']) = true
                    exact noRefs_snoc nr hz.2
                  · rw [if_neg hz] at qo5; exact qo5.elim
                | _ => exact qo5.elim
theorem se_lc2 {vs vs1 : List Nat} (hc : X.calm = true) (hN : X.N.Nodup) (hi : SI X cad W tg iter ei) (ok : BlkOk X.N X.env.scope scope own)
    (hg : ∀ (s : Shared) (H : Hp) (C : Addr) (cl : List (Str × Addr)) (fp : List Addr), PG (Blk X s H scope C cl fp) tg (tG X.K g)) (ht : ∀ (s : Shared) (H : Hp) (C : Addr) (cl : List (Str × Addr)) (fp : List Addr), STs (Blk X s H scope C cl fp) cad W0 ifs t)
    (hi1 : ∀ (s : Shared) (H : Hp) (C : Addr) (cl : List (Str × Addr)) (fp : List Addr), SI (Blk X s H scope C cl fp) cad W0 tg1 iter1 ei1) (hg1 : ∀ (s : Shared) (H : Hp) (C : Addr) (cl : List (Str × Addr)) (fp : List Addr), PG (Blk X s H scope C cl fp) tg1 (tG X.K g1))
    (ht1 : ∀ (s : Shared) (H : Hp) (C : Addr) (cl : List (Str × Addr)) (fp : List Addr), STs (Blk X s H scope C cl fp) cad W0 ifs1 t1)
    (he : ∀ (s : Shared) (H : Hp) (C : Addr) (cl : List (Str × Addr)) (fp : List Addr), SE (Blk X s H scope C cl fp) cad W0 elt el) (hv : own.map (·.2) = vs) (hv1 : ∀ i ∈ vs1, i ∈ vs) (hix : ∀ i ∈ g.ix, i ∈ vs) (hix1 : ∀ i ∈ g1.ix, i ∈ vs1)
    (hs : ∀ x, foldedSetIterable iter X.env x = pure x := by intro _; rfl) (hs1 : ∀ env x, foldedSetIterable iter1 env x = pure x := by intro _ _; rfl) :
    SE X cad W (.ListComp elt [⟨tg, iter, ifs, 0⟩, ⟨tg1, iter1, ifs1, 0⟩] scope pos) (eLc2 mt ei g t ei1 g1 t1 el vs vs1) := by
  subst hv
  exact Lv.PE.imp (pe_lc2 hc hN hi ok hv1 hg ht hi1 hg1 ht1 he hs hs1) fun σ H Q h => lc2_of hix hix1 h
theorem s_setLc2 {vs vs1 : List Nat} {i : Nat} {y : Str} {py spos : Pos} (hc : X.calm = true) (hN : X.N.Nodup) (hy : X.N[i]? = some y) (hyl : X.env.scope.names.lookup y = some .local)
    (hsw : swapsWith (.ListComp elt [⟨tg, iter, ifs, 0⟩, ⟨tg1, iter1, ifs1, 0⟩] scope pos) (some (.Name y py)) spos.line X.env = pure true) (hi : SI X cad W tg iter ei) (ok : BlkOk X.N X.env.scope scope own)
    (hg : ∀ (s : Shared) (H : Hp) (C : Addr) (cl : List (Str × Addr)) (fp : List Addr), PG (Blk X s H scope C cl fp) tg (tG X.K g)) (ht : ∀ (s : Shared) (H : Hp) (C : Addr) (cl : List (Str × Addr)) (fp : List Addr), STs (Blk X s H scope C cl fp) cad W0 ifs t)
    (hi1 : ∀ (s : Shared) (H : Hp) (C : Addr) (cl : List (Str × Addr)) (fp : List Addr), SI (Blk X s H scope C cl fp) cad W0 tg1 iter1 ei1) (hg1 : ∀ (s : Shared) (H : Hp) (C : Addr) (cl : List (Str × Addr)) (fp : List Addr), PG (Blk X s H scope C cl fp) tg1 (tG X.K g1))
    (ht1 : ∀ (s : Shared) (H : Hp) (C : Addr) (cl : List (Str × Addr)) (fp : List Addr), STs (Blk X s H scope C cl fp) cad W0 ifs1 t1)
    (he : ∀ (s : Shared) (H : Hp) (C : Addr) (cl : List (Str × Addr)) (fp : List Addr), SE (Blk X s H scope C cl fp) cad W0 elt el) (hv : own.map (·.2) = vs) (hv1 : ∀ i ∈ vs1, i ∈ vs) (hix : ∀ i ∈ g.ix, i ∈ vs) (hix1 : ∀ i ∈ g1.ix, i ∈ vs1)
    (hs : ∀ x, foldedSetIterable iter X.env x = pure x := by intro _; rfl) (hs1 : ∀ env x, foldedSetIterable iter1 env x = pure x := by intro _ _; rfl) :
    SS X cad W (.Assign [.Name y py] (.ListComp elt [⟨tg, iter, ifs, 0⟩, ⟨tg1, iter1, ifs1, 0⟩] scope pos) spos) (sSet i (eLc2 mt ei g t ei1 g1 t1 el vs vs1)) := by
  subst hv
  refine Lv.PS.imp (ps_setLc2 (tt := tT X.K cad W0 t) (tt1 := tT X.K cad W0 t1) (wi1 := tI X.K cad W0 ei1) (te := tE X.K cad W0 el) hc hN hy hyl hsw hi ok hv1 hg ht hi1 hg1 ht1 he hs hs1) fun D σ H h => ?_
  obtain ⟨w, env, eH, m, re, po⟩ := h
  exact lc2_of hix hix1 ⟨w, env, eH, m, re, poS_bind po re fun w' l v x m' r po' => poS_nx po' m' ((re.mono x).set r)⟩
end
end Lv
end
section
set_option Elab.async false
set_option linter.all false
set_option maxRecDepth 100000
set_option maxHeartbeats 2000000
namespace Lv
open PySem PySem.Spec PyProof.Rows L2
/-! ### a list repeated; in by data -/
theorem units200 {k : Nat} {A : Around} (hr : Room k A) : A.units + 200 < cLine := by have := hr.un; omega
def repV (mt : Bool) : LV → LV → LH → Res LV
  | .fl xs, .int k, lh => if -(2 ^ 62) ≤ k ∧ k < 2 ^ 62 ∧ xs.length * k.toNat ≤ LIM then
      (if mt = true then (if noRefs xs = true then .ok (.ref lh.length) (lh ++ [.lst (List.replicate k.toNat xs).flatten]) else .stuck) else .ok (.fl (List.replicate k.toNat xs).flatten) lh) else .stuck
  | _, _, _ => .stuck
def inD (neg : Bool) (x y : LV) (lh : LH) : Res LV := match dTop x lh, dTop y lh with
  | some d, some (.list ds) => if SeqAt.shaped d = true ∧ SeqAt.shaped (.list ds) = true then .ok (.bl (if neg then !(ds.any fun z => PyData.eqv z d) else ds.any fun z => PyData.eqv z d)) lh else .stuck
  | _, _ => .stuck
theorem rls_flat {K : PySem.W.Frag} {cad : Cad} {w : Wd} {xs : List LV} {vs : List V} (r : RLs K cad w xs vs) : ∀ n : Nat, RLs K cad w (List.replicate n xs).flatten (List.replicate n vs).flatten
  | 0 => RLs.nil
  | n + 1 => by
    rw [List.replicate_succ, List.replicate_succ, List.flatten_cons, List.flatten_cons]
    exact r.append (rls_flat r n)
theorem noRefs_flat {xs : List LV} (h : noRefs xs = true) : ∀ n : Nat, noRefs (List.replicate n xs).flatten = true
  | 0 => rfl
  | n + 1 => by
    rw [List.replicate_succ, List.flatten_cons]
    exact noRefs_append h (noRefs_flat h n)
section
variable {X : Cx} {cad : Cad} {W : WX}
theorem o_rep (mt : Bool) : Op2 X cad W (binaryOp .Mult) (repV mt) := op2_of op_rep fun w l1 l2 x y Q E m r1 r2 po => by
  unfold repV at po
  split at po
  · rename_i xs k
    split at po
    · rename_i hz
      obtain ⟨a, vs, rfl, p, rs⟩ := rl_fl r1
      refine ⟨a, k, vs, rfl, rl_int r2, p.1, by omega, by omega, ?_, fun q hq => ?_⟩
      · rw [← rs.length]; exact lim_line hz.2.2
      · cases mt with
        | true =>
          rw [if_pos rfl] at po
          split at po
          · rename_i hn
            exact po_lst (noRefs_flat hn _) po m (rls_flat rs _) q hq
          · exact po.elim
        | false =>
          rw [if_neg Bool.false_ne_true] at po
          exact po_fl po m (rls_flat rs _) q hq
    · exact po.elim
  · exact po.elim
theorem o_inD (hu : X.A.units + 65 < cLine) : Op2 X cad W (compareOp .In) (inD false) := op2_of (op_inD hu) fun w l1 l2 x y Q E m r1 r2 po => by
  unfold inD at po
  split at po
  · rename_i d ds h1 h2
    split at po
    · rename_i hz; exact ⟨d, ds, dTop_ok m h1 r1, dTop_ok m h2 r2, hz.1, hz.2, po_bl po m⟩
    · exact po.elim
  · exact po.elim
theorem o_notinD (hu : X.A.units + 65 < cLine) : Op2 X cad W (compareOp .NotIn) (inD true) := op2_of (op_notInD hu) fun w l1 l2 x y Q E m r1 r2 po => by
  unfold inD at po
  split at po
  · rename_i d ds h1 h2
    split at po
    · rename_i hz; exact ⟨d, ds, dTop_ok m h1 r1, dTop_ok m h2 r2, hz.1, hz.2, po_bl po m⟩
    · exact po.elim
  · exact po.elim
end
end Lv
end
section
set_option Elab.async false
set_option linter.all false
set_option maxRecDepth 100000
set_option maxHeartbeats 4000000
namespace LvG
open PySem PySem.SeqAt
open AutoSeq1 (wpAny_loadPart')
open MeetsSeq MeetsSeq2 MeetsSeq3 SeqRoads2 GQ
section
variable {prog : Program} {w : World} {A : Around} {R : Result → Shared → Prop}
/-! ### list != list, item by item the same -/
theorem ne_loopG (l b : Addr) (N : Nat) (I : Nat → Shared → Prop) (hl : ListI prog w A (fun e s' => R (.error e) s') l b N I)
    (fin : ∀ s, I N s → R (.ok (.ret (.bool false))) s) (k : Nat) :
    ∀ i : Nat, N - i = k → i ≤ N → ∀ s, I i s →
      wpAny (model prog w) A.in1 (Builtin.«list.__eq__.loop» ⟨[.ref l, .ref b, rawInt i, rawInt 3], []⟩) (FinOf prog w A R) (fun e s' => R (.error e) s') s := by
  induction k with
  | zero =>
    intro i hk hi s h
    obtain ⟨items, items2, n, n2, hl1, hb1, hs1, hs2, _⟩ := hl _ _ h
    have hi' : i = N := by omega
    have hR : R (.ok (.ret (.bool false))) s := fin s (hi' ▸ h)
    obtain ⟨hp, g, d, tk, os⟩ := s
    wp_walk using wpAny_loadPart' hl1, wpAny_loadPart' hb1
    have hi1 : items[((i : Nat) : Int).toNat]? = none := by simp; omega
    have hi2 : items2[((i : Nat) : Int).toNat]? = none := by simp; omega
    rw [hi1, hi2]
    wp_walk using wpAny_loadPart' hl1, wpAny_loadPart' hb1
    show R (.ok (.ret (.bool (items.size != items2.size)))) _
    rw [hs1, hs2]
    simpa using hR
  | succ k ih =>
    intro i hk hi s h
    obtain ⟨items, items2, n, n2, hl1, hb1, hs1, hs2, turn⟩ := hl _ _ h
    have hlt : i < items.size := by omega
    have hlt2 : i < items2.size := by omega
    have ht := turn hlt hlt2
    obtain ⟨hp, g, d, tk, os⟩ := s
    wp_walk using wpAny_loadPart' hl1, wpAny_loadPart' hb1
    have hi1 : items[((i : Nat) : Int).toNat]? = some items[i] := by simp [hlt]
    have hi2 : items2[((i : Nat) : Int).toNat]? = some items2[i] := by simp [hlt2]
    have hc : ((i : Int) + 1) = ((i + 1 : Nat) : Int) := by omega
    rw [hi1, hi2]
    refine wpAny_bind (wpAny_mono ht (fun r s2 h2 => ?_) fun _ _ x => x)
    obtain ⟨hr, h2⟩ := h2
    subst hr
    have hrec := ih (i + 1) (by omega) (by omega) s2 h2
    obtain ⟨hp2, g2, d2, tk2, os2⟩ := s2
    wp_walk
    rw [hc]
    exact ⟨plainId_quiet plain_eq_loop _, codeAny_builtin entry_eq_loop (by
      rw [Around.under_plainId plain_eq_loop _]
      exact hrec)⟩
theorem list_neG (l b : Addr) (N : Nat) (I : Nat → Shared → Prop) (hl : ListI prog w A (fun e s' => R (.error e) s') l b N I)
    (fin : ∀ s, I N s → R (.ok (.ret (.bool false))) s) {s : Shared} (h : I 0 s) :
    wpAny (model prog w) A.in1 (Builtin.«list.__ne__» ⟨[.ref l, .ref b], []⟩) (FinOf prog w A R) (fun e s' => R (.error e) s') s := by
  obtain ⟨items, items2, n, n2, hl1, hb1, hs1, hs2, _⟩ := hl _ _ h
  have hrec := ne_loopG (A := A) (R := R) l b N I hl fin _ 0 rfl (Nat.zero_le _) s h
  obtain ⟨hp, g, d, tk, os⟩ := s
  have f3 := AutoSeq1.sub_list_list
  have hne : ¬ (items.size != items2.size) = true := by simp [hs1, hs2]
  wp_walk using wpAny_loadPart' hl1, wpAny_loadPart' hb1
  exact ⟨plainId_quiet plain_eq_loop _, codeAny_builtin entry_eq_loop (by
    rw [Around.under_plainId plain_eq_loop _]
    exact hrec)⟩
end
section
variable {prog : Program} {w : World} {A : Around} {E : Value → Shared → Prop} {s : Shared}
theorem rc_neG {l b : Addr} {N : Nat} {Q : Value → Shared → Prop} (hu : A.units < cLine) (I : Nat → Shared → Prop) (hl : ListI prog w A E l b N I)
    (fin : ∀ s, I N s → Q (.bool false) s) (h : I 0 s) : wpAny (model prog w) A (richCompare .NotEq (.ref l) (.ref b)) Q E s := by
  obtain ⟨items, items2, n, n2, hl1, hb1, _, _, _⟩ := hl _ _ h
  refine wpAny_richCompare_same_room (op := .NotEq) ⟨_, hl1, rfl⟩ ⟨_, hb1, rfl⟩ F.slot_list_ne (call_here F.slot_list_ne ⟨_, hl1, rfl⟩ F.entry_list_ne (F.args_list_ne_2 _ _) ?_) hu
  exact list_neG (R := wants (fun v s' => v ≠ .notImplemented ∧ Q v s') E) l b N I hl (fun s' q => ⟨(fun x => nomatch x), fin s' q⟩) h
end
end LvG
namespace Lv
open PySem PySem.Spec PyProof.Rows L2
/-! ### == of values that are written alike, own instances among them -/
/-- by an own __eq__, too -/
def eqGood (T : List (Nat × Fn)) (lh : LH) : Nat → LV → Prop
  | _, .non => True
  | _, .bl _ => True
  | _, .int _ => True
  | _, .str _ => True
  | _, .obj c fs => ∃ m, T.lookup c = some m ∧ m [.obj c fs, .obj c fs] lh = .ok (.bl true) lh
  | n + 1, .tup xs => ∀ x ∈ xs, eqGood T lh n x
  | n + 1, .fl xs => ∀ x ∈ xs, eqGood T lh n x
  | _, _ => False
structure OwnE (X : Cx) (cad : Cad) (k : Nat) (c : Nat) (m : Fn) : Prop where
  ex : ∃ f fd ps, FnG X.prog X.w X.K X.mg X.base cad k f fd ps 2 m ∧ Binds X.K fd ps [] ∧ PySem.W.findIn X.K (.ref (cad c)) "__eq__" = some (some (.ref f)) ∧ PySem.W.isFn X.K (.ref f) = true
def OwnEAll (X : Cx) (cad : Cad) (k : Nat) (T : List (Nat × Fn)) : Prop := ∀ c m, T.lookup c = some m → OwnE X cad k c m
/-- behind it -/
def Aft (X : Cx) (cad : Cad) (pins : List (Addr × Obj)) (σ : L2.St) (w : Wd) (s' : Shared) : Prop := ∃ w', Inv X pins σ w'.H s' ∧ Ext w w' ∧ w'.lh = w.lh ∧ Emb X.K cad w'
section
variable {X : Cx} {cad : Cad} {W : WX} {T : List (Nat × Fn)} {k : Nat} {lh : LH}
theorem OwnEAll.nil : OwnEAll X cad k [] := fun c m h => by simp at h
theorem OwnEAll.cons {c : Nat} {m : Fn} {l : List (Nat × Fn)} (h : OwnE X cad k c m) (r : OwnEAll X cad k l) : OwnEAll X cad k ((c, m) :: l) := fun c' m' e => by
  rw [List.lookup_cons] at e
  by_cases hc : c' = c
  · subst hc; simp at e; subst e; exact h
  · have : (c' == c) = false := by simpa using hc
    rw [this] at e; exact r c' m' e
theorem aft_refl {pins : List (Addr × Obj)} {σ : L2.St} {w : Wd} {s : Shared} (I : Inv X pins σ w.H s) (m : Emb X.K cad w) : Aft X cad pins σ w s := ⟨w, I, Ext.refl w, rfl, m⟩
/-- what one level says -/
def EqW (X : Cx) (cad : Cad) (lh : LH) (n : Nat) (z : LV) : Prop :=
  ∀ (A : Around) (pins : List (Addr × Obj)) (s : Shared) (σ : L2.St) (w : Wd) (x y : V) (u v : Value), Sub X n A → A.guards = some [] → Inv X pins σ w.H s → Emb X.K cad w → w.lh = lh → RL X.K cad w z x → RL X.K cad w z y → RelV x u → RelV y v →
    wpAny (model X.prog X.w) A (eqBool u v) (fun r s' => r = true ∧ Aft X cad pins σ w s') X.xe s
def RcW (X : Cx) (cad : Cad) (lh : LH) (n : Nat) (z : LV) : Prop :=
  ∀ (A : Around) (pins : List (Addr × Obj)) (s : Shared) (σ : L2.St) (w : Wd) (a b : Addr), Sub X n A → A.guards = some [] → Inv X pins σ w.H s → Emb X.K cad w → w.lh = lh → RL X.K cad w z (.ref a) → RL X.K cad w z (.ref b) →
    wpAny (model X.prog X.w) A (richCompare .Eq (.ref a) (.ref b)) (fun r s' => r = .bool true ∧ Aft X cad pins σ w s') X.xe s
theorem eqw_of {n : Nat} {z : LV} (h : RcW X cad lh n z) (hr : ∀ (w : Wd) x, RL X.K cad w z x → ∃ a, x = .ref a) : EqW X cad lh n z := by
  intro A pins s σ w x y u v sb hg I m hl rx ry qx qy
  obtain ⟨a, rfl⟩ := hr w x rx
  obtain ⟨b, rfl⟩ := hr w y ry
  cases qx
  cases qy
  by_cases hab : a = b
  · subst hab
    exact SeqAt.EqAt.same (A := A) (s := s) (.ref a) X.prog X.w X.xe _ ⟨rfl, aft_refl I m⟩
  · refine GQ.eqBool_refG hab (wpAny_mono (h A pins s σ w a b sb hg I m hl rx ry) (fun r s' q => ?_) fun _ _ x => x)
    obtain ⟨hr', q⟩ := q
    exact ⟨true, hr', rfl, q⟩
theorem eqw_flat {z : LV} {n : Nat} (hz : flatL z = true) : EqW X cad lh n z := by
  intro A pins s σ w x y u v sb hg I m hl rx ry qx qy
  have fx := flat_rl hz rx
  have fy := flat_rl hz ry
  have e : eqV x y = true := by
    rw [eqL_rl hz hz rx ry]
    cases z with
    | non => rfl
    | bl b => simp [eqL]
    | int i => simp [eqL]
    | str i => simp [eqL]
    | _ => cases hz
  have q := eqAt_V (A := A) (s := s) qx qy fx fy
  rw [e] at q
  exact q X.prog X.w X.xe _ ⟨rfl, aft_refl I m⟩
theorem eqw_turn {n : Nat} {zs : List LV} (h : ∀ z ∈ zs, EqW X cad lh n z) {A : Around} (sb : Sub X (n + 1) A) (hg : A.guards = some []) {pins : List (Addr × Obj)} {σ : L2.St} {w : Wd} (hl : w.lh = lh) {vs ws : List V} {its its2 : List Value} (rv : RLs X.K cad w zs vs) (rw' : RLs X.K cad w zs ws)
    {w1 : Wd} (x1 : Ext w w1) (hl1 : w1.lh = w.lh) (m1 : Emb X.K cad w1) {s' : Shared} (I1 : Inv X pins σ w1.H s') (r : Vals vs its) (r2 : Vals ws its2) (i : Nat) (h1 : i < its.toArray.size) (h2 : i < its2.toArray.size) :
    wpAny (model X.prog X.w) A.in1 (eqBool its.toArray[i] its2.toArray[i]) (fun r s2 => r = true ∧ Aft X cad pins σ w s2) X.xe s' := by
  have g1 : its[i]? = some its.toArray[i] := by
    have h1' : i < its.length := by simpa using h1
    rw [List.getElem?_eq_getElem h1'] <;> simp
  have g2 : its2[i]? = some its2.toArray[i] := by
    have h2' : i < its2.length := by simpa using h2
    rw [List.getElem?_eq_getElem h2'] <;> simp
  have k1 : i < vs.length := by rw [r.length]; simpa using h1
  have k2 : i < ws.length := by rw [r2.length]; simpa using h2
  have k0 : i < zs.length := by rw [rv.length]; exact k1
  obtain ⟨u, hu, ru⟩ := r.get (List.getElem?_eq_getElem k1)
  obtain ⟨v, hv, rv'⟩ := r2.get (List.getElem?_eq_getElem k2)
  rw [g1] at hu
  rw [g2] at hv
  rw [Option.some.inj hu, Option.some.inj hv]
  obtain ⟨a, ha, ra⟩ := rv.get (List.getElem?_eq_getElem k0)
  obtain ⟨b, hb, rb'⟩ := rw'.get (List.getElem?_eq_getElem k0)
  rw [List.getElem?_eq_getElem k1] at ha
  rw [List.getElem?_eq_getElem k2] at hb
  obtain rfl := Option.some.inj ha
  obtain rfl := Option.some.inj hb
  refine wpAny_mono (h zs[i] (List.getElem_mem k0) A.in1 pins s' σ w1 _ _ u v sb.in1 hg I1 m1 (hl1.trans hl) (RL.mono x1 _ _ ra) (RL.mono x1 _ _ rb') ru rv') (fun r s2 q => ?_) fun _ _ x => x
  obtain ⟨hr, w2, I2, x2, l2, m2⟩ := q
  exact ⟨hr, w2, I2, x1.trans x2, l2.trans hl1, m2⟩
theorem rcw_list {n : Nat} {zs : List LV} (h : ∀ z ∈ zs, EqW X cad lh n z) : RcW X cad lh (n + 1) (.fl zs) := by
  intro A pins s σ w a b sb hg I m hl ra rb'
  obtain ⟨a', vs, ea, pa, rv⟩ := rl_fl ra
  obtain ⟨b', ws, eb, pb, rw'⟩ := rl_fl rb'
  cases ea
  cases eb
  refine GQ.rc_listG (N := vs.length) sb.room.units0 (fun _ s' => Aft X cad pins σ w s') (fun i s' q => ?_) (fun s' q => ⟨rfl, q⟩) (aft_refl I m)
  obtain ⟨w1, I1, x1, l1, m1⟩ := id q
  obtain ⟨z, its, k, r, e⟩ := I1.hok a _ (pa.mono x1).1
  obtain ⟨z2, its2, k2, r2, e2⟩ := I1.hok b _ (pb.mono x1).1
  refine ⟨its.toArray, its2.toArray, k, k2, e, e2, by rw [List.size_toArray, ← r.length], by rw [List.size_toArray, ← r2.length, ← rw'.length, rv.length], fun h1 h2 => ?_⟩
  exact eqw_turn h sb hg hl rv rw' x1 l1 m1 I1 r r2 i h1 h2
theorem rcw_tup {n : Nat} {zs : List LV} (h : ∀ z ∈ zs, EqW X cad lh n z) : RcW X cad lh (n + 1) (.tup zs) := by
  intro A pins s σ w a b sb hg I m hl ra rb'
  obtain ⟨a', vs, ea, pa, rv⟩ := rl_tup ra
  obtain ⟨b', ws, eb, pb, rw'⟩ := rl_tup rb'
  cases ea
  cases eb
  obtain ⟨its, r, e, z⟩ := I.tuple pa.sq
  obtain ⟨its2, r2, e2, z2⟩ := I.tuple pb.sq
  have hsz : its.toArray.size = its2.toArray.size := by rw [List.size_toArray, List.size_toArray, ← r.length, ← r2.length, ← rv.length, rw'.length]
  exact GQ.rc_tupG hsz sb.room.units0 (fun _ s' => Aft X cad pins σ w s') e e2 (fun i h1 h2 s' ⟨w1, I1, x1, l1, m1⟩ => eqw_turn h sb hg hl rv rw' x1 l1 m1 I1 r r2 i h1 h2) (fun s' q => ⟨rfl, q⟩) (aft_refl I m)
theorem rcw_obj {c : Nat} {fs : List (Str × LV)} {m : Fn} (o : OwnE X cad k c m) (hm : m [.obj c fs, .obj c fs] lh = .ok (.bl true) lh) : RcW X cad lh k (.obj c fs) := by
  intro A pins s σ w a b sb hg I em hl ra rb'
  obtain ⟨f, fd, ps, F, hb, hs, hf⟩ := o.ex
  obtain ⟨od, ia⟩ := inst_of I ra
  obtain ⟨od2, ia2⟩ := inst_of I rb'
  obtain ⟨mm, hF⟩ := I.fr
  refine PySem.W.cmp_K (op := .Eq) (tb := .ref (cad c)) sb.room.units0 hF I.mod.kin ia ia2.type (by simp [PySem.W.notFirst]) hs hf ?_
  have e0 : Env0 X.prog X.w X.K X.mg X.base A X.stack s w.H := by
    have e := I.env0
    exact ⟨by rw [sb.fr]; exact e.frames, e.mod, e.bs, e.bsz, e.funs, e.frf, e.hok, e.bare⟩
  have sp : spOf X.K cad 2 m [V.ref a, V.ref b] w.H (fun v H' => v = .bl true ∧ ∃ w', w'.H = H' ∧ Ext w w' ∧ w'.lh = w.lh ∧ Emb X.K cad w') (XS W0 σ) := ⟨w, [.obj c fs, .obj c fs], rfl, em, RLs.cons ra (RLs.cons rb' RLs.nil), rfl, by
    rw [hl, hm]
    intro w' el x m' u ru
    exact ⟨rl_bl ru, w', rfl, x, el, m'⟩⟩
  have r2 : Vals [V.ref a, V.ref b] [Value.ref a, Value.ref b] := .cons rfl (.cons rfl .nil)
  refine wpAny_call (codeAny_mono (F.run A X.stack s w.H ⟨[.ref a, .ref b], []⟩ [.ref a, .ref b] [.ref a, .ref b] _ _ sb.room hg e0 (by
    have := hb s [.ref a, .ref b] I.kIn (by simpa using F.len.symm)
    simpa using this) r2 sp) fun r s' hq => ?_)
  cases r with
  | error e =>
    have hx : XE X W0 e s' := XE.of_call I (fun _ _ _ h => h) hq
    obtain ⟨_, _, _, _, _, H, cls, d, _, _, _, _, _, _, _, _, hx⟩ := hx
    exact hx.elim
  | ok fl =>
    cases fl with
    | ret u =>
      obtain ⟨z, H', I', rz, ez, w', eH, x, l', m'⟩ := I.after hq
      subst ez
      cases rz
      subst eH
      exact ⟨rfl, w', I', x, l', m'⟩
    | next => exact False.elim hq
    | brk => exact False.elim hq
    | cont => exact False.elim hq
theorem sub_k {n : Nat} {A : Around} (sb : Sub X (n + k) A) : Sub X k A := sb.mono (Nat.le_add_left _ _)
theorem EqW.mono {n j : Nat} {z : LV} (h : EqW X cad lh n z) (hj : n ≤ j) : EqW X cad lh j z := fun A pins s σ w x y u v sb => h A pins s σ w x y u v (sb.mono hj)
theorem RcW.mono {n j : Nat} {z : LV} (h : RcW X cad lh n z) (hj : n ≤ j) : RcW X cad lh j z := fun A pins s σ w x y sb => h A pins s σ w x y (sb.mono hj)
theorem eqw (hT : OwnEAll X cad k T) : ∀ (n : Nat) (z : LV), eqGood T lh n z → EqW X cad lh (n + k) z
  | 0, z, h => by
    cases z with
    | obj c fs =>
      obtain ⟨m, h1, h2⟩ := h
      exact (eqw_of (rcw_obj (hT c m h1) h2) fun w x r => let ⟨a, _, _, e, _⟩ := rl_obj r; ⟨a, e⟩).mono (Nat.le_add_left _ _)
    | non => exact eqw_flat rfl
    | bl b => exact eqw_flat rfl
    | int b => exact eqw_flat rfl
    | str b => exact eqw_flat rfl
    | _ => exact h.elim
  | n + 1, z, h => by
    cases z with
    | obj c fs =>
      obtain ⟨m, h1, h2⟩ := h
      exact (eqw_of (rcw_obj (hT c m h1) h2) fun w x r => let ⟨a, _, _, e, _⟩ := rl_obj r; ⟨a, e⟩).mono (Nat.le_add_left _ _)
    | non => exact eqw_flat rfl
    | bl b => exact eqw_flat rfl
    | int b => exact eqw_flat rfl
    | str b => exact eqw_flat rfl
    | tup xs => exact (eqw_of (rcw_tup (n := n + k) fun z hz => eqw hT n z (h z hz)) fun w x r => let ⟨a, _, e, _⟩ := rl_tup r; ⟨a, e⟩).mono (by omega)
    | fl xs => exact (eqw_of (rcw_list (n := n + k) fun z hz => eqw hT n z (h z hz)) fun w x r => let ⟨a, _, e, _⟩ := rl_fl r; ⟨a, e⟩).mono (by omega)
    | _ => exact h.elim
open Classical in
/-- the two are written alike -/
noncomputable def eqO (T : List (Nat × Fn)) (x y : LV) (lh : LH) : Res LV := match x with
  | .tup _ => if x = y ∧ eqGood T lh 4 x then .ok (.bl true) lh else .stuck
  | .fl _ => if x = y ∧ eqGood T lh 4 x then .ok (.bl true) lh else .stuck
  | .obj _ _ => if x = y ∧ eqGood T lh 4 x then .ok (.bl true) lh else .stuck
  | _ => .stuck
open Classical in
noncomputable def neO (T : List (Nat × Fn)) (x y : LV) (lh : LH) : Res LV := match x with
  | .fl _ => if x = y ∧ eqGood T lh 4 x then .ok (.bl false) lh else .stuck
  | _ => .stuck
open Classical in
theorem eqO_cases (z y : LV) (h : LH) : eqO T z y h = .stuck ∨ ((z = y ∧ eqGood T h 4 z) ∧ eqO T z y h = .ok (.bl true) h) := by
  have key : ∀ (p : Prop) [Decidable p], (if p then Res.ok (LV.bl true) h else Res.stuck) = Res.stuck ∨ (p ∧ (if p then Res.ok (LV.bl true) h else Res.stuck) = Res.ok (LV.bl true) h) := fun p _ => by
    by_cases hp : p
    · exact .inr ⟨hp, if_pos hp⟩
    · exact .inl (if_neg hp)
  cases z with
  | tup xs => exact key _
  | fl xs => exact key _
  | obj c fs => exact key _
  | _ => exact .inl rfl
open Classical in
theorem neO_cases (zs : List LV) (y : LV) (h : LH) : neO T (.fl zs) y h = .stuck ∨ ((.fl zs = y ∧ eqGood T h 4 (.fl zs)) ∧ neO T (.fl zs) y h = .ok (.bl false) h) := by
  have key : ∀ (p : Prop) [Decidable p], (if p then Res.ok (LV.bl false) h else Res.stuck) = Res.stuck ∨ (p ∧ (if p then Res.ok (LV.bl false) h else Res.stuck) = Res.ok (LV.bl false) h) := fun p _ => by
    by_cases hp : p
    · exact .inr ⟨hp, if_pos hp⟩
    · exact .inl (if_neg hp)
  exact key _
theorem o_eqO (hT : OwnEAll X cad k T) (hr : Room (4 + k) X.A) (hgd : X.A.guards = some []) : Op2 X cad W (compareOp .Eq) (eqO T) := by
  intro pins s σ w l1 l2 x y v u Q I m r1 r2 q1 q2 po
  show wpAny (model X.prog X.w) X.A (richCompare .Eq v u) (EP X pins σ Q) X.xe s
  have go : ∀ (a b : Addr), RcW X cad w.lh (4 + k) l1 → x = .ref a → l1 = l2 → y = .ref b → Po X.K cad (RL X.K cad) w Q (XS W σ) (.ok (.bl true) w.lh) → wpAny (model X.prog X.w) X.A (richCompare .Eq v u) (EP X pins σ Q) X.xe s := by
    intro a b rc ex el ey po'
    subst ex ey el
    cases q1
    cases q2
    refine wpAny_mono (rc X.A pins s σ w a b ⟨hr, rfl⟩ hgd I m rfl r1 r2) (fun r s' q => ?_) fun _ _ x => x
    obtain ⟨rfl, w', I', x', l', m'⟩ := q
    exact ⟨.bl true, w'.H, I', rfl, po' w' l' x' m' _ (mk_bl true)⟩
  rcases eqO_cases (T := T) l1 l2 w.lh with e | ⟨hz, e⟩
  · rw [e] at po; exact po.elim
  · rw [e] at po
    cases l1 with
    | tup xs =>
      obtain ⟨a, _, ea, _⟩ := rl_tup r1
      obtain ⟨b, _, eb, _⟩ := rl_tup (hz.1 ▸ r2)
      exact go a b ((rcw_tup (n := 3 + k) fun z h => eqw hT 3 z (hz.2 z h)).mono (by omega)) ea hz.1 eb po
    | fl xs =>
      obtain ⟨a, _, ea, _⟩ := rl_fl r1
      obtain ⟨b, _, eb, _⟩ := rl_fl (hz.1 ▸ r2)
      exact go a b ((rcw_list (n := 3 + k) fun z h => eqw hT 3 z (hz.2 z h)).mono (by omega)) ea hz.1 eb po
    | obj c fs =>
      obtain ⟨a, _, _, ea, _⟩ := rl_obj r1
      obtain ⟨b, _, _, eb, _⟩ := rl_obj (hz.1 ▸ r2)
      obtain ⟨mm, h1, h2⟩ := hz.2
      exact go a b ((rcw_obj (hT c mm h1) h2).mono (by omega)) ea hz.1 eb po
    | _ => exact nomatch e
theorem o_neO (hT : OwnEAll X cad k T) (hr : Room (4 + k) X.A) (hgd : X.A.guards = some []) : Op2 X cad W (compareOp .NotEq) (neO T) := by
  intro pins s σ w l1 l2 x y v u Q I m r1 r2 q1 q2 po
  show wpAny (model X.prog X.w) X.A (richCompare .NotEq v u) (EP X pins σ Q) X.xe s
  cases l1 with
  | fl zs =>
    rcases neO_cases (T := T) zs l2 w.lh with e | ⟨hz, e⟩
    · rw [e] at po; exact po.elim
    · rw [e] at po
      obtain ⟨a, vs, ea, pa, rv⟩ := rl_fl r1
      obtain ⟨b, ws, eb, pb, rw'⟩ := rl_fl (hz.1 ▸ r2)
      subst ea eb
      cases q1
      cases q2
      have sb : Sub X (3 + k + 1) X.A := ⟨hr.mono (by omega), rfl⟩
      refine wpAny_mono (LvG.rc_neG (Q := fun r s' => r = .bool false ∧ Aft X cad pins σ w s') (N := vs.length) sb.room.units0 (fun _ s' => Aft X cad pins σ w s') (fun i s' q => ?_) (fun s' q => ⟨rfl, q⟩) (aft_refl I m)) (fun r s' q => ?_) fun _ _ x => x
      · obtain ⟨w1, I1, x1, l1, m1⟩ := id q
        obtain ⟨z, its, k', r, e⟩ := I1.hok a _ (pa.mono x1).1
        obtain ⟨z2, its2, k2, r2', e2⟩ := I1.hok b _ (pb.mono x1).1
        refine ⟨its.toArray, its2.toArray, k', k2, e, e2, by rw [List.size_toArray, ← r.length], by rw [List.size_toArray, ← r2'.length, ← rw'.length, rv.length], fun h1 h2 => ?_⟩
        exact eqw_turn (n := 3 + k) (fun z h => eqw hT 3 z (hz.2 z h)) sb hgd rfl rv rw' x1 l1 m1 I1 r r2' i h1 h2
      · obtain ⟨rfl, w', I', x', l', m'⟩ := q
        exact ⟨.bl false, w'.H, I', rfl, po w' l' x' m' _ (mk_bl false)⟩
  | _ => exact po.elim
end
end Lv
end
section

end
section
set_option Elab.async false
set_option linter.all false
set_option maxRecDepth 100000
set_option maxHeartbeats 2000000
namespace Lv
open PySem PySem.Spec PyProof.Rows L2

/-! ### two worlds that differ in how a cell is told -/
structure Sm (w w' : Wd) : Prop where
  φ : w'.φ = w.φ
  H : w'.H = w.H
  live : ∀ a, Live w' a → Live w a
section
variable {K : PySem.W.Frag} {cad : Cad} {w w' : Wd}
theorem VT.sm (x : Sm w w') {a : Addr} {xs : List V} (h : VT K w a xs) : VT K w' a xs := by
  rcases h with ⟨h, nl⟩ | h
  · exact .inl ⟨by rw [x.H]; exact h, fun l => nl (x.live _ l)⟩
  · exact .inr h
theorem VS.sm (x : Sm w w') {a : Addr} {xs : List V} (h : VS K w a xs) : VS K w' a xs := by
  rcases h with ⟨⟨o, h⟩, nl⟩ | h
  · exact .inl ⟨⟨o, by rw [x.H]; exact h⟩, fun l => nl (x.live _ l)⟩
  · exact .inr h
mutual
theorem RL.sm (x : Sm w w') : ∀ (l : LV) (v : V), RL K cad w l v → RL K cad w' l v
  | .non, _, h => by simp only [RL] at h ⊢; exact h
  | .bl _, _, h => by simp only [RL] at h ⊢; exact h
  | .int _, _, h => by simp only [RL] at h ⊢; exact h
  | .str _, _, h => by simp only [RL] at h ⊢; exact h
  | .con _, _, h => by simp only [RL] at h ⊢; exact h
  | .tup xs, _, h => by
    simp only [RL] at h ⊢
    obtain ⟨a, vs, rfl, p, r⟩ := h
    exact ⟨a, vs, rfl, p.sm x, RLs.sm x xs vs r⟩
  | .fl xs, _, h => by
    simp only [RL] at h ⊢
    obtain ⟨a, vs, rfl, p, r⟩ := h
    exact ⟨a, vs, rfl, ⟨by rw [x.H]; exact p.1, fun l => p.2 (x.live _ l)⟩, RLs.sm x xs vs r⟩
  | .sl xs, _, h => by
    simp only [RL] at h ⊢
    obtain ⟨a, vs, rfl, p, r⟩ := h
    exact ⟨a, vs, rfl, p.sm x, RLs.sm x xs vs r⟩
  | .obj c fs, _, h => by
    simp only [RL] at h ⊢
    obtain ⟨a, dx, vs, rfl, e, nl, r⟩ := h
    exact ⟨a, dx, vs, rfl, by rw [x.H]; exact e, fun l => nl (x.live _ l), RLf.sm x fs vs r⟩
  | .ref n, _, h => by
    simp only [RL] at h ⊢
    obtain ⟨a, rfl, e⟩ := h
    exact ⟨a, rfl, by rw [x.φ]; exact e⟩
theorem RLs.sm (x : Sm w w') : ∀ (l : List LV) (v : List V), RLs K cad w l v → RLs K cad w' l v
  | [], _, h => by simp only [RLs] at h ⊢; exact h
  | y :: ys, _, h => by
    simp only [RLs] at h ⊢
    obtain ⟨v, vs, rfl, a, b⟩ := h
    exact ⟨v, vs, rfl, RL.sm x y v a, RLs.sm x ys vs b⟩
theorem RLf.sm (x : Sm w w') : ∀ (l : List (Str × LV)) (v : List (Str × V)), RLf K cad w l v → RLf K cad w' l v
  | [], _, h => by simp only [RLf] at h ⊢; exact h
  | (k, y) :: ys, _, h => by
    simp only [RLf] at h ⊢
    obtain ⟨v, vs, rfl, a, b⟩ := h
    exact ⟨v, vs, rfl, RL.sm x y v a, RLf.sm x ys vs b⟩
end
theorem RLk.sm (x : Sm w w') : ∀ {l : List (Key × LV)} {v : List (Key × V)}, RLk K cad w l v → RLk K cad w' l v
  | [], _, h => h
  | (k, y) :: ys, _, h => by
    obtain ⟨v, vs, rfl, a, b⟩ := h
    exact ⟨v, vs, rfl, RL.sm x y v a, RLk.sm x b⟩
theorem RLe.sm {env : LE} {σ : L2.St} (x : Sm w w') (h : RLe K cad w env σ) : RLe K cad w' env σ :=
  ⟨h.1, fun i l e => let ⟨v, e2, r⟩ := h.2 i l e; ⟨v, e2, RL.sm x l v r⟩⟩
theorem CellOk.sm (x : Sm w w') {a : Addr} {lo : LO} (h : CellOk K cad w a lo) : CellOk K cad w' a lo := by
  cases lo with
  | lst xs => obtain ⟨vs, e, r⟩ := h; exact ⟨vs, by rw [x.H]; exact e, RLs.sm x _ _ r⟩
  | dct xs => obtain ⟨vs, e, r⟩ := h; exact ⟨vs, by rw [x.H]; exact e, RLk.sm x r⟩
  | ins c fs => obtain ⟨dx, vs, e, r⟩ := h; exact ⟨dx, vs, by rw [x.H]; exact e, RLf.sm x _ _ r⟩
  | rls xs => obtain ⟨vs, e, r⟩ := h; exact ⟨vs, by rw [x.H]; exact e, RLs.sm x _ _ r⟩
  | held xs => obtain ⟨vs, e, r⟩ := h; exact ⟨vs, by rw [x.H]; exact e, RLs.sm x _ _ r⟩
  | dead => trivial
/-- a cell told otherwise -/
abbrev Wd.put (w : Wd) (k : Nat) (lo : LO) : Wd := ⟨w.φ, w.lh.set k lo, w.H⟩
theorem put_sm {k : Nat} {lo lo' : LO} (hl : w.lh[k]? = some lo) (h : lo ≠ .dead) (h' : lo' ≠ .dead) : Sm w (w.put k lo') where
  φ := rfl
  H := rfl
  live := fun a ⟨n, lo2, h1, h2, h3⟩ => by
    have h1' : (w.lh.set k lo')[n]? = some lo2 := h1
    by_cases hk : n = k
    · subst hk; exact ⟨n, lo, hl, h, h3⟩
    · rw [List.getElem?_set_ne (Ne.symm hk)] at h1'
      exact ⟨n, lo2, h1', h2, h3⟩
theorem put_smR {k : Nat} {lo lo' : LO} (hl : w.lh[k]? = some lo) (h : lo ≠ .dead) (h' : lo' ≠ .dead) : Sm (w.put k lo') w where
  φ := rfl
  H := rfl
  live := fun a ⟨n, lo2, h1, h2, h3⟩ => by
    by_cases hk : n = k
    · subst hk
      exact ⟨n, lo', by show (w.lh.set n lo')[n]? = _; rw [List.getElem?_set_self (List.getElem?_eq_some_iff.mp hl).1], h', h3⟩
    · exact ⟨n, lo2, by show (w.lh.set k lo')[n]? = _; rw [List.getElem?_set_ne (Ne.symm hk)]; exact h1, h2, h3⟩
theorem Emb.put {k : Nat} {lo lo' : LO} (m : Emb K cad w) (hl : w.lh[k]? = some lo) (h : lo ≠ .dead) (h' : lo' ≠ .dead) (hf : lo'.fit k = true) (hc : ∀ a, w.φ[k]? = some a → CellOk K cad w a lo') : Emb K cad (w.put k lo') where
  len := by simp [m.len]
  nd := fun i j a h1 h2 l1 l2 => by
    have back : ∀ n : Nat, (∃ z, (w.lh.set k lo')[n]? = some z ∧ z ≠ LO.dead) → ∃ z, w.lh[n]? = some z ∧ z ≠ LO.dead := by
      intro n hh
      obtain ⟨z, q, r⟩ := hh
      by_cases hk : n = k
      · subst hk; exact ⟨lo, hl, h⟩
      · rw [List.getElem?_set_ne (Ne.symm hk)] at q; exact ⟨z, q, r⟩
    exact m.nd i j a h1 h2 (back i l1) (back j l2)
  some_ := m.some_
  cell := fun n a lo2 h1 h2 => by
    have h2' : (w.lh.set k lo')[n]? = some lo2 := h2
    by_cases hk : n = k
    · subst hk
      rw [List.getElem?_set_self (List.getElem?_eq_some_iff.mp hl).1] at h2'
      cases h2'
      exact (hc a h1).sm (put_sm hl h h')
    · rw [List.getElem?_set_ne (Ne.symm hk)] at h2'
      exact (m.cell n a lo2 h1 h2').sm (put_sm hl h h')
  nr := fun n lo2 h2 => by
    have h2' : (w.lh.set k lo')[n]? = some lo2 := h2
    by_cases hk : n = k
    · subst hk
      rw [List.getElem?_set_self (List.getElem?_eq_some_iff.mp hl).1] at h2'
      cases h2'; exact hf
    · rw [List.getElem?_set_ne (Ne.symm hk)] at h2'; exact m.nr n lo2 h2'
  tabs := m.tabs
end

/-! ### a list of lists is held while an expression is evaluated -/
def relH (k : Nat) (ms : List Nat) : Res LV → Res LV
  | .ok v lh => (match lh[k]? with
    | some (.held ms') => if ms' = ms then .ok v (lh.set k (.rls ms)) else .stuck
    | _ => .stuck)
  | _ => .stuck
def eHold (i : Nat) (ev : Ev) : Ev := fun env lh => match env[i]? with
  | some (some (.ref k)) => (match lh[k]? with
    | some (.rls ms) => relH k ms (ev env (lh.set k (.held ms)))
    | _ => .stuck)
  | _ => .stuck
section
variable {X : Cx} {cad : Cad} {W : WX} {e : Expr} {ea ev : Ev}
theorem hold_po {K : PySem.W.Frag} {w : Wd} {env : LE} {i : Nat} {Q : VK} {E : XK} {σ : L2.St} (m : Emb K cad w) (re : RLe K cad w env σ) (po : Po K cad (RL K cad) w Q E (eHold i ev env w.lh)) :
    ∃ w0 : Wd, w0.H = w.H ∧ Emb K cad w0 ∧ RLe K cad w0 env σ ∧ Po K cad (RL K cad) w0 Q E (ev env w0.lh) := by
  unfold eHold at po
  split at po
  · rename_i k hk
    split at po
    · rename_i ms hl
      obtain ⟨v, hv, rv⟩ := re.2 i _ hk
      obtain ⟨a, rfl, ha⟩ := rl_ref rv
      have fit : (LO.rls ms).fit k = true := m.nr _ _ hl
      have m0 : Emb K cad (w.put k (.held ms)) := m.put hl (fun q => nomatch q) (fun q => nomatch q) fit fun b hb => (m.cell k b (.rls ms) hb hl : CellOk K cad w b (.rls ms))
      have s0 : Sm w (w.put k (.held ms)) := put_sm hl (fun q => nomatch q) (fun q => nomatch q)
      refine ⟨w.put k (.held ms), rfl, m0, re.sm s0, ?_⟩
      show Po K cad (RL K cad) (w.put k (.held ms)) Q E (ev env (w.lh.set k (.held ms)))
      have hlt : k < w.lh.length := (List.getElem?_eq_some_iff.mp hl).1
      cases hr : ev env (w.lh.set k (.held ms)) with
      | stuck => rw [hr] at po; exact po.elim
      | exn c fs lh => rw [hr] at po; exact po.elim
      | ok u lh1 =>
        rw [hr] at po
        intro w' e x m' y ry
        subst e
        unfold relH at po
        dsimp only at po
        split at po
        · rename_i ms' hl'
          split at po
          · rename_i hms
            subst hms
            have fit' : (LO.held ms').fit k = true := m'.nr _ _ hl'
            have ha' : w'.φ[k]? = some a := x.pre k a ha
            have m3 : Emb K cad (w'.put k (.rls ms')) := m'.put hl' (fun q => nomatch q) (fun q => nomatch q) fit' fun b hb => (m'.cell k b (.held ms') hb hl' : CellOk K cad w' b (.held ms'))
            have s3 : Sm w' (w'.put k (.rls ms')) := put_sm hl' (fun q => nomatch q) (fun q => nomatch q)
            have wr0 : ∀ b, Wr (w.put k (.held ms')) b → Wr w b := fun b ⟨n, lo2, h1, h2, h3⟩ => by
              have h1' : (w.lh.set k (.held ms'))[n]? = some lo2 := h1
              by_cases hk' : n = k
              · subst hk'; rw [List.getElem?_set_self hlt] at h1'; cases h1'; cases h2
              · rw [List.getElem?_set_ne (Ne.symm hk')] at h1'; exact ⟨n, lo2, h1', h2, h3⟩
            have x3 : Ext w (w'.put k (.rls ms')) := {
              pre := fun n b h => x.pre n b h
              keep := fun b o h nt nw => x.keep b o h nt fun q => nw (wr0 b q)
              live := fun b l => (x.live b (s3.live b l)).elim (fun l => .inl ((put_sm (lo' := .held ms') hl (fun q => nomatch q) (fun q => nomatch q)).live b l)) .inr
              grow := fun b h => x.grow b h
              wr := fun b ⟨n, lo2, h1, h2, h3⟩ => by
                have h1' : (w'.lh.set k (.rls ms'))[n]? = some lo2 := h1
                by_cases hk' : n = k
                · subst hk'
                  have h3' : w'.φ[n]? = some b := h3
                  rw [ha'] at h3'; cases h3'
                  exact .inl ⟨n, _, hl, rfl, ha⟩
                · rw [List.getElem?_set_ne (Ne.symm hk')] at h1'
                  exact (x.wr b ⟨n, lo2, h1', h2, h3⟩).elim (fun q => .inl (wr0 b q)) .inr }
            exact po (w'.put k (.rls ms')) rfl x3 m3 y (RL.sm s3 _ _ ry)
          · exact po.elim
        · exact po.elim
    · exact po.elim
  · exact po.elim
theorem hold_of {i : Nat} {σ : L2.St} {H : Hp} {Q : VK} (h : tE X.K cad W (eHold i ev) σ H Q) : tE X.K cad W ev σ H Q := by
  obtain ⟨w, env, eH, m, re, po⟩ := h
  obtain ⟨w0, e0, m0, re0, po0⟩ := hold_po m re po
  exact ⟨w0, env, by rw [e0]; exact eH, m0, re0, po0⟩
theorem se_hold (i : Nat) (h : SE X cad W e ev) : SE X cad W e (eHold i ev) := Lv.PE.imp h fun _ _ _ q => hold_of q
end

/-! ### a held list is walked -/
def HL (w : Wd) (a : Addr) (xs : List V) : Prop := w.H a = some (.lst xs) ∧ ¬ Wr w a
theorem HL.mono {w w' : Wd} {a : Addr} {xs : List V} (x : Ext w w') (h : HL w a xs) : HL w' a xs := ⟨x.keep _ _ h.1 (fun _ q => nomatch q) h.2, fun l => (x.wr a l).elim h.2 fun q => by rw [h.1] at q; cases q⟩
def heldOf : LV → LH → Res (List LV)
  | .ref n, lh => (match lh[n]? with
    | some (.held ms) => .ok (ms.map .ref) lh
    | _ => .stuck)
  | _, _ => .stuck
def eItH (a : Ev) : EvL := fun env lh => rb (a env lh) heldOf
def eEnumH (a : Ev) : EvL := fun env lh => rb (a env lh) fun x lh1 => rb (heldOf x lh1) fun xs lh2 => .ok (enumL 0 xs) lh2
section
variable {K : PySem.W.Frag} {cad : Cad} {w : Wd}
theorem heldOf_ok {l : LV} {xs : List LV} {lh' : LH} {v : V} (m : Emb K cad w) (h : heldOf l w.lh = .ok xs lh') (r : RL K cad w l v) : lh' = w.lh ∧ ∃ a vs, v = .ref a ∧ HL w a vs ∧ RLs K cad w xs vs := by
  cases l with
  | ref n =>
    obtain ⟨a, rfl, ha⟩ := rl_ref r
    simp only [heldOf] at h
    cases hl : w.lh[n]? with
    | none => rw [hl] at h; cases h
    | some lo =>
      rw [hl] at h
      cases lo with
      | held ms =>
        cases h
        obtain ⟨vs, e, s⟩ := m.cell _ _ _ ha hl
        refine ⟨rfl, a, vs, rfl, ⟨e, fun ⟨k, lo2, h1, h2, h3⟩ => ?_⟩, s⟩
        have hk : k = n := m.nd k n a h3 ha ⟨lo2, h1, LO.wr_live h2⟩ ⟨_, hl, fun q => nomatch q⟩
        subst hk
        rw [hl] at h1; cases h1; cases h2
      | _ => cases h
  | _ => cases h
theorem heldOf_exn {l : LV} {lh lh' : LH} {c : Nat} {fs : List (Str × LV)} (h : heldOf l lh = .exn c fs lh') : False := by
  unfold heldOf at h
  split at h
  · split at h <;> cases h
  · cases h
theorem src_held {xs : List LV} {vs : List V} {ad : Addr} (p : HL w ad vs) (r : RLs K cad w xs vs) : Src K cad w xs (Itl K ad) := fun w' x m => by
  have p' : SqL K w'.H ad vs := .inl (.inl (p.mono x).1)
  have r' := RLs.mono x _ _ r
  refine ⟨fun i hi => ⟨vs, p', by rw [← r.length]; exact hi⟩, fun i l hl => ?_⟩
  obtain ⟨v, hv, rv⟩ := r'.get hl
  refine ⟨⟨vs, v, p', hv⟩, fun y H' hy => ?_⟩
  obtain ⟨rfl, hy⟩ := hy
  have e := hy vs p'
  rw [hv] at e
  cases e
  exact ⟨w', rfl, rfl, Ext.refl w', m, rv⟩
theorem src_enumH {xs : List LV} {vs : List V} {ad : Addr} (p : HL w ad vs) (r : RLs K cad w xs vs) : Src K cad w (enumL 0 xs) (Ite K ad) := fun w' x m => by
  have p' : SqL K w'.H ad vs := .inl (.inl (p.mono x).1)
  have r' := RLs.mono x _ _ r
  refine ⟨fun i hi => ⟨vs, p', by rw [← r.length]; rw [enumL_length] at hi; exact hi⟩, fun i l hl => ?_⟩
  rw [enumL_get] at hl
  cases q : xs[i]? with
  | none => rw [q] at hl; cases hl
  | some y =>
    rw [q] at hl
    have el : LV.tup [.int ((0 + i : Nat) : Int), y] = l := by simpa using hl
    subst el
    obtain ⟨v, hv, rv⟩ := r'.get q
    refine ⟨⟨vs, v, p', hv⟩, fun z H' hz => ?_⟩
    obtain ⟨T, u, rfl, hT, rfl, hy⟩ := hz
    have e := hy vs p'
    rw [hv] at e
    cases e
    have xn : Ext w' { w' with H := upd w'.H T (.tup [.int (i : Nat), v]) } := Ext.new hT
    refine ⟨{ w' with H := upd w'.H T (.tup [.int (i : Nat), v]) }, rfl, rfl, xn, m.new hT, mk_tup (VT.new m hT) (RLs.cons ?_ (RLs.cons (RL.mono xn _ _ rv) RLs.nil))⟩
    rw [Nat.zero_add]
    exact mk_int _
end
section
variable {X : Cx} {cad : Cad} {W : WX} {pos : Pos} {tg e a : Expr} {ea ec : Ev} {es : List Expr} {el : EvL}
theorem si_seqH (ha : SE X cad W a ea) : SI X cad W tg a (eItH ea) := by
  refine Lv.PI.imp (pi_seq ha) fun σ H R ⟨w, env, eH, m, re, po⟩ => ?_
  refine ⟨w, env, eH, m, re, po_bind po fun w1 l v x1 m1 r1 po1 => ?_⟩
  cases q : heldOf l w1.lh with
  | stuck => rw [q] at po1; exact po1.elim
  | exn c fs lh => exact (heldOf_exn q).elim
  | ok xs lh =>
    rw [q] at po1
    obtain ⟨e, ad, vs, rfl, p, r⟩ := heldOf_ok m1 q r1
    subst e
    exact ⟨ad, rfl, .inl ⟨⟨vs, .inl (.inl p.1)⟩, po_here po1 m1 (src_held p r)⟩⟩
theorem si_enumH {p pos tpos : Pos} {elts : List Expr} {kk : Nat} (hg : Gl X "enumerate") (hm : X.mg "enumerate" = none) (he : SE X cad W e ea) (hs : starEach [e] X.env = [(false, eval e X.env)] := by rfl) :
    SI X cad W (.Tuple elts kk tpos) (.Call (.Name "enumerate" p) [e] [] pos) (eEnumH ea) := by
  refine Lv.PI.imp (pi_enum2 hg hm he hs) fun σ H R ⟨w, env, eH, m, re, po⟩ => ?_
  refine ⟨w, env, eH, m, re, po_bind po fun w1 l v x1 m1 r1 po1 => ?_⟩
  cases q : heldOf l w1.lh with
  | stuck => rw [q] at po1; exact po1.elim
  | exn c fs lh => exact (heldOf_exn q).elim
  | ok xs lh =>
    rw [q] at po1
    obtain ⟨e, ad, vs, rfl, p, r⟩ := heldOf_ok m1 q r1
    subst e
    exact ⟨ad, rfl, .inl ⟨⟨vs, .inl (.inl p.1)⟩, po_here po1 m1 (src_enumH p r)⟩⟩

/-! ### a new list of lists, one of its lists, one list more -/
def eRls0 : Ev := fun _ lh => .ok (.ref lh.length) (lh ++ [.rls []])
theorem se_rls0 : SE X cad W (.List [] pos) eRls0 := by
  refine Lv.PE.imp (pe_lst (sa_nil (cad := cad) (W := W))) fun σ H Q ⟨w, env, eH, m, re, po⟩ => ?_
  refine ⟨w, env, eH, m, re, ?_⟩
  intro w1 e x1 m1 us r
  simp only [RLs] at r
  subst r
  refine ⟨Nat.zero_le _, fun p hp => ?_⟩
  have x : Ext w1 ⟨w1.φ ++ [p], w1.lh ++ [.rls []], upd w1.H p (.lst [])⟩ := Ext.cell m1 (.rls []) hp
  have po1 := po ⟨w1.φ ++ [p], w1.lh ++ [.rls []], upd w1.H p (.lst [])⟩ (by rw [e]) (x1.trans x) (m1.cell' (.rls []) hp rfl ⟨[], upd_same, RLs.nil⟩)
  refine po1 (.ref p) (mk_ref ?_)
  show (w1.φ ++ [p])[w.lh.length]? = some p
  rw [← e, ← m1.len]; simp
def fIxN : LV → LV → LH → Res LV := fun x y lh => match x with
  | .ref n => (match lh[n]? with
    | some (.rls ms) => ixSeq (ms.map .ref) y lh
    | _ => .stuck)
  | _ => .stuck
theorem se_ixN {c : Expr} (ha : SE X cad W a ea) (hc : SE X cad W c ec) (hs : ∀ o i, subscripted c false o i = operate [o, i] (getItem o i) := by intro _ _; rfl) : SE X cad W (.Subscript a c pos) (eB fIxN ea ec) := by
  refine ⟨fun pins s σ H Q I h => ?_⟩
  refine Subscript_ (binT ha hc I (two h) fun v u s2 x y H2 I2 rx ry q => ?_)
  obtain ⟨w, l1, l2, eH, m, r1, r2, po⟩ := q
  subst eH
  cases l1 with
  | ref n =>
    obtain ⟨p, ex, hp⟩ := rl_ref r1
    simp only [fIxN] at po
    cases hl : w.lh[n]? with
    | none => rw [hl] at po; exact po.elim
    | some lo =>
      rw [hl] at po
      cases lo with
      | rls ms =>
        obtain ⟨vs, e1, rs⟩ := m.cell _ _ _ hp hl
        cases l2 with
        | int i =>
          dsimp only [ixSeq] at po
          cases hi : L2.atI (ms.map LV.ref) i with
          | none => rw [hi] at po; exact po.elim
          | some l =>
            rw [hi] at po
            obtain ⟨z, hz, rz⟩ := rs.atI hi
            exact ix_list a c pins s2 σ w.H x y v u Q I2 rx ry ⟨p, vs, i, z, ex, rl_int r2, .inl (.inl e1), hz, po_here po m rz⟩ (hs _ _)
        | _ => exact po.elim
      | _ => exact po.elim
  | _ => exact po.elim
theorem fit_up {ms : List Nat} {k n : Nat} (h : (ms.all fun m => decide (m < k)) = true) (hk : k ≤ n) : (ms.all fun m => decide (m < n)) = true := by
  rw [List.all_eq_true] at h ⊢
  intro m hm
  have := of_decide_eq_true (h m hm)
  exact decide_eq_true (Nat.lt_of_lt_of_le this hk)
/-- a list of lists moves to a new number, with one list more -/
theorem move_ok {K : PySem.W.Frag} {w : Wd} {k i : Nat} {a : Addr} {ms : List Nat} {vs : List V} {u : V} (m : Emb K cad w) (ha : w.φ[k]? = some a) (hl : w.lh[k]? = some (.rls ms)) (hv : w.H a = some (.lst vs)) (rs : RLs K cad w (ms.map .ref) vs) (ru : RL K cad w (.ref i) u) :
    Ext w ⟨w.φ ++ [a], (w.lh.set k .dead) ++ [.rls (ms ++ [i])], upd w.H a (.lst (vs ++ [u]))⟩ ∧ Emb K cad ⟨w.φ ++ [a], (w.lh.set k .dead) ++ [.rls (ms ++ [i])], upd w.H a (.lst (vs ++ [u]))⟩ := by
  have hlt : k < w.lh.length := (List.getElem?_eq_some_iff.mp hl).1
  have hi : i < w.lh.length := by
    obtain ⟨b, _, hb⟩ := rl_ref ru
    rw [← m.len]; exact (List.getElem?_eq_some_iff.mp hb).1
  have old : ∀ {n : Nat} {lo2 : LO} {b : Addr}, ((w.lh.set k .dead) ++ [LO.rls (ms ++ [i])])[n]? = some lo2 → (w.φ ++ [a])[n]? = some b → (n ≠ k ∧ w.lh[n]? = some lo2 ∧ w.φ[n]? = some b) ∨ (n = k ∧ lo2 = .dead ∧ b = a) ∨ (n = w.lh.length ∧ lo2 = .rls (ms ++ [i]) ∧ b = a) := by
    intro n lo2 b h1 h3
    rcases getElem?_snoc h1 with ⟨q1, q2⟩ | ⟨q1, q2⟩
    · have q1' : n < w.lh.length := by simpa using q1
      rcases getElem?_snoc h3 with ⟨p1, p2⟩ | ⟨p1, p2⟩
      · by_cases hk : n = k
        · subst hk
          rw [List.getElem?_set_self hlt] at q2
          rw [ha] at p2
          exact .inr (.inl ⟨rfl, (Option.some.inj q2).symm, (Option.some.inj p2).symm⟩)
        · rw [List.getElem?_set_ne (Ne.symm hk)] at q2
          exact .inl ⟨hk, q2, p2⟩
      · rw [p1, m.len] at q1'; omega
    · have q1' : n = w.lh.length := by simpa using q1
      rcases getElem?_snoc h3 with ⟨p1, p2⟩ | ⟨p1, p2⟩
      · rw [m.len] at p1; omega
      · exact .inr (.inr ⟨q1', q2, p2⟩)
  have x : Ext w ⟨w.φ ++ [a], (w.lh.set k .dead) ++ [.rls (ms ++ [i])], upd w.H a (.lst (vs ++ [u]))⟩ := {
    pre := fun n b h => by
      show (w.φ ++ [a])[n]? = some b
      rw [List.getElem?_append_left (List.getElem?_eq_some_iff.mp h).1]; exact h
    keep := fun b o h _ nw => by
      have : b ≠ a := fun z => by subst z; exact nw ⟨k, _, hl, rfl, ha⟩
      show upd w.H a _ b = some o
      rw [upd_ne this]; exact h
    live := fun b ⟨n, lo2, h1, h2, h3⟩ => by
      rcases old h1 h3 with ⟨_, q1, q2⟩ | ⟨_, q1, _⟩ | ⟨_, _, rfl⟩
      · exact .inl ⟨n, lo2, q1, h2, q2⟩
      · exact absurd q1 h2
      · exact .inl ⟨k, _, hl, (fun q => nomatch q), ha⟩
    grow := fun b h => upd_some h
    wr := fun b ⟨n, lo2, h1, h2, h3⟩ => by
      rcases old h1 h3 with ⟨_, q1, q2⟩ | ⟨_, q1, _⟩ | ⟨_, _, rfl⟩
      · exact .inl ⟨n, lo2, q1, h2, q2⟩
      · exact absurd q1 (LO.wr_live h2)
      · exact .inl ⟨k, _, hl, rfl, ha⟩ }
  refine ⟨x, ?_⟩
  exact {
    len := by simp [m.len]
    nd := fun n j b h1 h2 l1 l2 => by
      obtain ⟨lo1, g1, z1⟩ := l1
      obtain ⟨lo2, g2, z2⟩ := l2
      rcases old g1 h1 with ⟨k1, q1, q2⟩ | ⟨_, q1, _⟩ | ⟨e1, _, c1⟩
      · rcases old g2 h2 with ⟨k2, p1, p2⟩ | ⟨_, p1, _⟩ | ⟨e2, _, c2⟩
        · exact m.nd n j b q2 p2 ⟨lo1, q1, z1⟩ ⟨lo2, p1, z2⟩
        · exact absurd p1 z2
        · subst c2; exact absurd (m.nd n k b q2 ha ⟨lo1, q1, z1⟩ ⟨_, hl, fun q => nomatch q⟩) k1
      · exact absurd q1 z1
      · rcases old g2 h2 with ⟨k2, p1, p2⟩ | ⟨_, p1, _⟩ | ⟨e2, _, c2⟩
        · subst c1; exact absurd (m.nd j k b p2 ha ⟨lo2, p1, z2⟩ ⟨_, hl, fun q => nomatch q⟩) k2
        · exact absurd p1 z2
        · omega
    some_ := fun n b h => by
      rcases getElem?_snoc h with ⟨_, q⟩ | ⟨_, q⟩
      · exact upd_some (m.some_ n b q)
      · subst q; show upd w.H b _ b ≠ none; rw [upd_same]; simp
    cell := fun n b lo2 h1 h2 => by
      rcases old h2 h1 with ⟨k1, q1, q2⟩ | ⟨_, q1, _⟩ | ⟨e1, rfl, rfl⟩
      · by_cases hd : lo2 = .dead
        · subst hd; trivial
        · have hb : b ≠ a := fun z => by subst z; exact k1 (m.nd n k b q2 ha ⟨lo2, q1, hd⟩ ⟨_, hl, fun q => nomatch q⟩)
          exact (m.cell n b lo2 q2 q1).mono x fun o h => by
            show upd w.H a _ b = some o
            rw [upd_ne hb]; exact h
      · subst q1; trivial
      · refine ⟨vs ++ [u], upd_same, ?_⟩
        rw [List.map_append]
        exact (RLs.mono x _ _ rs).append (RLs.cons (RL.mono x _ _ ru) RLs.nil)
    nr := fun n lo2 h => by
      rcases getElem?_snoc h with ⟨q1, q2⟩ | ⟨q1, q2⟩
      · by_cases hk : n = k
        · subst hk; rw [List.getElem?_set_self hlt] at q2; cases q2; rfl
        · rw [List.getElem?_set_ne (Ne.symm hk)] at q2; exact m.nr n lo2 q2
      · subst q2
        have q1' : n = w.lh.length := by simpa using q1
        subst q1'
        have f0 : (ms.all fun m => decide (m < k)) = true := m.nr _ _ hl
        show ((ms ++ [i]).all fun m => decide (m < w.lh.length)) = true
        rw [List.all_append, fit_up f0 (Nat.le_of_lt hlt)]
        simp [hi]
    tabs := tabs_upd m.tabs (.inr (cell_noTab (m.cell k a _ ha hl) (fun q => nomatch q))) }
/-- x.append([..]) -/
def sAppN (i : Nat) (el : EvL) : Sv := fun env lh => match env[i]? with
  | some (some (.ref k)) => (match lh[k]? with
    | some (.rls _) => rS (eL fLst el env lh) env fun y lh2 => (match y, lh2[k]? with
      | .ref m, some (.rls ms) => if ms.length ≤ LIM then .nx (env.set i (some (.ref lh2.length))) ((lh2.set k .dead) ++ [.rls (ms ++ [m])]) else .stuck
      | _, _ => .stuck)
    | _ => .stuck)
  | _ => .stuck
theorem s_appN {i : Nat} {x : Str} {p lpos apos cpos : Pos} (hN : X.N[i]? = some x) (hv : Vis X.env.scope x) (hel : SA X cad W es el) (hd : (x == ("__debug__" : Str)) = false := by decide) (hcd : (x == ("__classdict__" : Str)) = false := by decide)
    (hbase : attributeBase (.Name x p) "append" X.env (eval (.Name x p) X.env) = eval (.Name x p) X.env := by rfl)
    (hfew : ((backTo cpos (starEach [.List es lpos] X.env)).all (fun x => !x.1) && (backToKw cpos (keywordEach [] X.env)).all (fun x => x.1.isSome)
      && decide ([Expr.List es lpos].length + ([] : List Keyword).length + (if ([] : List Keyword).isEmpty then 0 else 1) < 30)) = true := by rfl)
    (hline : (apos.endLine == cpos.line) = true := by rfl) (hs : starEach [.List es lpos] X.env = (false, eval (.List es lpos) X.env) :: starEach [] X.env := by rfl) (hplain : (backTo cpos (starEach [] X.env)).any (·.1) = false := by rfl)
    (hsw : swapsWith (.Call (.Attribute (.Name x p) "append" apos) [.List es lpos] [] cpos) none pos.line X.env = pure false := by rfl) :
    SS X cad W (.Expr (.Call (.Attribute (.Name x p) "append" apos) [.List es lpos] [] cpos) pos) (sAppN i el) := by
  refine Lv.PS.imp (ps_expr (pe_bm PySem.F.plainAttrs_list PySem.F.slot_list_append PySem.F.type_list_append mt_append (se_var (cad := cad) (W := W) i hN hv hd hcd) (pa_cons (se_lst hel) pa_nil hs) hbase hfew hline hs hplain) hsw) fun D σ H ⟨w, env, eH, m, re, po⟩ => ?_
  unfold sAppN at po
  split at po
  · rename_i k hk
    split at po
    · rename_i ms0 hl0
      refine ⟨w, env, eH, m, re, ?_⟩
      have ev : eVar i env w.lh = .ok (.ref k) w.lh := by unfold eVar; rw [hk]
      rw [ev]
      intro w1 e1 x1 m1 v rv
      obtain ⟨a, rfl, ha⟩ := rl_ref rv
      have hl1 : w1.lh[k]? = some (.rls ms0) := by rw [e1]; exact hl0
      obtain ⟨vs0, e0, _⟩ := m1.cell _ _ _ ha hl1
      rw [← e1] at po
      refine ⟨.inl ⟨rfl, vs0, .inl (.inl e0)⟩, w1, env, rfl, m1, re.mono x1, poS_bind (PoS.ext x1 po) (re.mono x1) fun w2 y u x2 m2 r2 po2 => ?_⟩
      have ha2 := x2.pre _ _ ha
      split at po2
      · rename_i m0 ms hl2
        split at po2
        · rename_i hz
          obtain ⟨vs, e2, rs⟩ := m2.cell _ _ _ ha2 hl2
          obtain ⟨xm, mm⟩ := move_ok m2 ha2 hl2 e2 rs r2
          refine ⟨a, vs, u, rfl, rfl, e2, by rw [← rs.length, List.length_map]; exact lim_lt hz, ?_⟩
          refine po2 ⟨w2.φ ++ [a], (w2.lh.set k .dead) ++ [.rls (ms ++ [m0])], upd w2.H a (.lst (vs ++ [u]))⟩ rfl xm mm σ ?_
          have re2 := ((re.mono x1).mono x2).mono xm
          obtain ⟨v', hv', _⟩ := re2.2 i _ hk
          refine ⟨by simpa using re2.1, fun j l hj => ?_⟩
          by_cases hji : j = i
          · subst hji
            rw [List.getElem?_set_self (List.getElem?_eq_some_iff.mp hk).1] at hj
            have hj' : LV.ref w2.lh.length = l := by simpa using hj
            subst hj'
            obtain ⟨vk, hvk, rk⟩ := re2.2 j _ hk
            refine ⟨vk, hvk, ?_⟩
            obtain ⟨b, rfl, hb⟩ := rl_ref rk
            have hb' : (w2.φ ++ [a])[k]? = some b := hb
            rw [List.getElem?_append_left (List.getElem?_eq_some_iff.mp ha2).1, ha2] at hb'
            cases hb'
            refine mk_ref ?_
            show (w2.φ ++ [a])[w2.lh.length]? = some a
            rw [← m2.len]; simp
          · rw [List.getElem?_set_ne (Ne.symm hji)] at hj
            exact re2.2 j l hj
        · exact po2.elim
      · exact po2.elim
    · exact po.elim
  · exact po.elim
/-- name = [..] on one line, a list of lists held -/
theorem s_setLcH {iter elt : Expr} {ifs : List Expr} {scope : Scope} {own : List (Str × Nat)} {ei : EvL} {g : Tg} {t : EvT} {el : Ev} {mt : Bool} {vs : List Nat} {i j : Nat} {y : Str} {py spos : Pos} (hc : X.calm = true) (hN : X.N.Nodup) (hy : X.N[i]? = some y) (hyl : X.env.scope.names.lookup y = some .local)
    (hsw : swapsWith (.ListComp elt [⟨tg, iter, ifs, 0⟩] scope pos) (some (.Name y py)) spos.line X.env = pure true) (hi : SI X cad W tg iter ei) (ok : BlkOk X.N X.env.scope scope own)
    (hg : ∀ (s : Shared) (H : Hp) (C : Addr) (cl : List (Str × Addr)) (fp : List Addr), PG (Blk X s H scope C cl fp) tg (tG X.K g)) (ht : ∀ (s : Shared) (H : Hp) (C : Addr) (cl : List (Str × Addr)) (fp : List Addr), STs (Blk X s H scope C cl fp) cad W0 ifs t)
    (he : ∀ (s : Shared) (H : Hp) (C : Addr) (cl : List (Str × Addr)) (fp : List Addr), SE (Blk X s H scope C cl fp) cad W0 elt el) (hv : own.map (·.2) = vs) (hix : ∀ i ∈ g.ix, i ∈ vs) (hs : ∀ x, foldedSetIterable iter X.env x = pure x := by intro _; rfl) :
    SS X cad W (.Assign [.Name y py] (.ListComp elt [⟨tg, iter, ifs, 0⟩] scope pos) spos) (sSet i (eHold j (eLc mt ei g t el vs))) := by
  subst hv
  refine Lv.PS.imp (ps_setLc (tt := tT X.K cad W0 t) (te := tE X.K cad W0 el) hc hN hy hyl hsw hi ok hg ht he hs) fun D σ H h => ?_
  obtain ⟨w, env, eH, m, re, po⟩ := h
  exact lc_of hix (hold_of ⟨w, env, eH, m, re, poS_bind po re fun w' l v x m' r po' => poS_nx po' m' ((re.mono x).set r)⟩)
end
end Lv
end
section
set_option Elab.async false
set_option linter.all false
set_option maxRecDepth 100000
set_option maxHeartbeats 2000000
namespace Lv
open PySem PySem.Spec PyProof.Rows L2

/-! ### a range as a list, as a tuple -/
def rgK (f : List LV → LH → Res LV) (i j : Int) (lh : LH) : Res LV := if (-(2 ^ 62) ≤ i ∧ i < 2 ^ 62) ∧ (-(2 ^ 62) ≤ j ∧ j < 2 ^ 62) ∧ (j - i).toNat ≤ LIM then f (rangeL i j) lh else .stuck
def mkSq (mt : Bool) (xs : List LV) (lh : LH) : Res LV := if mt = true then (if noRefs xs = true then .ok (.ref lh.length) (lh ++ [.lst xs]) else .stuck) else .ok (.fl xs) lh
def eListR1 (mt : Bool) (a : Ev) : Ev := fun env lh => rb (a env lh) fun x lh1 => match x with
  | .int j => rgK (mkSq mt) 0 j lh1
  | _ => .stuck
def eListR2 (mt : Bool) (a c : Ev) : Ev := fun env lh => rb (a env lh) fun x lh1 => rb (c env lh1) fun y lh2 => match x, y with
  | .int i, .int j => rgK (mkSq mt) i j lh2
  | _, _ => .stuck
def eTupR1 (a : Ev) : Ev := fun env lh => rb (a env lh) fun x lh1 => match x with
  | .int j => rgK (fun xs lh => .ok (.tup xs) lh) 0 j lh1
  | _ => .stuck
section
variable {K : PySem.W.Frag} {cad : Cad} {w : Wd}
theorem rls_rg {a b : Int} : RLs K cad w (rangeL a b) (rgV a b) := by
  unfold rangeL rgV
  induction (List.range (b - a).toNat) with
  | nil => exact RLs.nil
  | cons x xs ih => exact RLs.cons (mk_int _) ih
theorem po_mkSq {mt : Bool} {xs : List LV} {vs : List V} {Q : VK} {E : XK} (po : Po K cad (RL K cad) w Q E (mkSq mt xs w.lh)) (m : Emb K cad w) (r : RLs K cad w xs vs) (q : Addr) (hq : w.H q = none) : Q (.ref q) (upd w.H q (.lst vs)) := by
  unfold mkSq at po
  split at po
  · split at po
    · rename_i hz; exact po_lst hz po m r q hq
    · exact po.elim
  · exact po_fl po m r q hq
end
section
variable {X : Cx} {cad : Cad} {W : WX} {pos p p2 pos2 : Pos} {e a c : Expr} {ea ec : Ev} {mt : Bool}
theorem rgok {i j : Int} (h : (-(2 ^ 62) ≤ i ∧ i < 2 ^ 62) ∧ (-(2 ^ 62) ≤ j ∧ j < 2 ^ 62) ∧ (j - i).toNat ≤ LIM) : RgOk i j := ⟨h.1.1, h.1.2, h.2.1.1, h.2.1.2, Nat.le_trans h.2.2 (by decide)⟩
theorem se_listR1 (hg : Gl X "list") (hm : X.mg "list" = none) (hg2 : Gl X "range") (hm2 : X.mg "range" = none) (ha : SE X cad W a ea) (hc : X.calm = true := by rfl) (hs : starEach [a] X.env = (false, eval a X.env) :: starEach [] X.env := by rfl)
    (hs2 : starEach [.Call (.Name "range" p2) [a] [] pos2] X.env = (false, eval (.Call (.Name "range" p2) [a] [] pos2) X.env) :: starEach [] X.env := by rfl) :
    SE X cad W (.Call (.Name "list" p) [.Call (.Name "range" p2) [a] [] pos2] [] pos) (eListR1 mt ea) := by
  refine Lv.PE.imp (pe_listRg hc hg hm (prg_1 hg2 hm2 ha hs) hs2) fun σ H Q ⟨w, env, eH, m, re, po⟩ => ?_
  refine ⟨w, env, eH, m, re, po_bind po fun w1 l v x1 m1 r1 po1 => ?_⟩
  cases l with
  | int j =>
    refine ⟨j, rl_int r1, ?_⟩
    unfold rgK at po1
    dsimp only at po1
    split at po1
    · rename_i hz; exact ⟨rgok hz, fun q hq => po_mkSq po1 m1 rls_rg q hq⟩
    · exact po1.elim
  | _ => exact po1.elim
theorem se_tupR1 (hg : Gl X "tuple") (hm : X.mg "tuple" = none) (hg2 : Gl X "range") (hm2 : X.mg "range" = none) (ha : SE X cad W a ea) (hc : X.calm = true := by rfl) (hs : starEach [a] X.env = (false, eval a X.env) :: starEach [] X.env := by rfl)
    (hs2 : starEach [.Call (.Name "range" p2) [a] [] pos2] X.env = (false, eval (.Call (.Name "range" p2) [a] [] pos2) X.env) :: starEach [] X.env := by rfl) :
    SE X cad W (.Call (.Name "tuple" p) [.Call (.Name "range" p2) [a] [] pos2] [] pos) (eTupR1 ea) := by
  refine Lv.PE.imp (pe_tupRg hc hg hm (prg_1 hg2 hm2 ha hs) hs2) fun σ H Q ⟨w, env, eH, m, re, po⟩ => ?_
  refine ⟨w, env, eH, m, re, po_bind po fun w1 l v x1 m1 r1 po1 => ?_⟩
  cases l with
  | int j =>
    refine ⟨j, rl_int r1, ?_⟩
    unfold rgK at po1
    dsimp only at po1
    split at po1
    · rename_i hz; exact ⟨rgok hz, fun q hq => po_tup po1 m1 rls_rg q hq⟩
    · exact po1.elim
  | _ => exact po1.elim
theorem se_listR2 (hg : Gl X "list") (hm : X.mg "list" = none) (hg2 : Gl X "range") (hm2 : X.mg "range" = none) (ha : SE X cad W a ea) (hb : SE X cad W c ec) (hc : X.calm = true := by rfl) (hs : starEach [a, c] X.env = (false, eval a X.env) :: starEach [c] X.env := by rfl) (hs3 : starEach [c] X.env = (false, eval c X.env) :: starEach [] X.env := by rfl)
    (hp : (backTo pos2 (starEach [c] X.env)).any (·.1) = false := by rfl)
    (hs2 : starEach [.Call (.Name "range" p2) [a, c] [] pos2] X.env = (false, eval (.Call (.Name "range" p2) [a, c] [] pos2) X.env) :: starEach [] X.env := by rfl) :
    SE X cad W (.Call (.Name "list" p) [.Call (.Name "range" p2) [a, c] [] pos2] [] pos) (eListR2 mt ea ec) := by
  refine Lv.PE.imp (pe_listRg hc hg hm (prg_2 hg2 hm2 ha hb hs hs3 hp) hs2) fun σ H Q ⟨w, env, eH, m, re, po⟩ => ?_
  refine ⟨w, env, eH, m, re, po_bind po fun w1 l v x1 m1 r1 po1 => ?_⟩
  refine ⟨w1, env, rfl, m1, re.mono x1, po_bind po1 fun w2 l2 v2 x2 m2 r2 po2 => ?_⟩
  cases l with
  | int i =>
    cases l2 with
    | int j =>
      refine ⟨i, j, rl_int r1, rl_int r2, ?_⟩
      unfold rgK at po2
      dsimp only at po2
      split at po2
      · rename_i hz; exact ⟨rgok hz, fun q hq => po_mkSq po2 m2 rls_rg q hq⟩
      · exact po2.elim
    | _ => exact po2.elim
  | _ => cases l2 <;> exact po2.elim

/-! ### an empty dict -/
def eDict0 : Ev := fun _ lh => .ok (.ref lh.length) (lh ++ [.dct []])
theorem se_dict0 : SE X cad W (.Dict [] [] pos) eDict0 := by
  refine Lv.PE.imp pe_dnewK fun σ H Q ⟨w, env, eH, m, re, po⟩ => fun q hq => ?_
  subst eH
  have x : Ext w ⟨w.φ ++ [q], w.lh ++ [.dct []], upd w.H q (.dK [])⟩ := Ext.cell m (.dct []) hq
  refine po ⟨w.φ ++ [q], w.lh ++ [.dct []], upd w.H q (.dK [])⟩ rfl x (m.cell' (.dct []) hq rfl ⟨[], upd_same, rfl⟩) (.ref q) (mk_ref ?_)
  show (w.φ ++ [q])[w.lh.length]? = some q
  rw [← m.len]; simp

/-! ### a bit, a half -/
def andV : LV → LV → LH → Res LV
  | .int i, .int j, h => if 0 ≤ i ∧ j = 1 then .ok (.int (i % 2)) h else .stuck
  | _, _, _ => .stuck
def shrV : LV → LV → LH → Res LV
  | .int i, .int j, h => if 0 ≤ i ∧ j = 1 then .ok (.int (i / 2)) h else .stuck
  | _, _, _ => .stuck
theorem o_and : Op2 X cad W (binaryOp .BitAnd) andV := op2_of op_odd fun w l1 l2 x y Q E m r1 r2 po => by
  unfold andV at po
  split at po
  · rename_i i j
    split at po
    · rename_i hz
      obtain ⟨h0, rfl⟩ := hz
      refine ⟨i.toNat, by rw [rl_int r1, Int.toNat_of_nonneg h0], rl_int r2, ?_⟩
      have e : ((i.toNat % 2 : Nat) : Int) = i % 2 := by omega
      rw [e]
      exact po_int po m
    · exact po.elim
  · exact po.elim
theorem o_shr : Op2 X cad W (binaryOp .RShift) shrV := op2_of op_halfN fun w l1 l2 x y Q E m r1 r2 po => by
  unfold shrV at po
  split at po
  · rename_i i j
    split at po
    · rename_i hz
      obtain ⟨h0, rfl⟩ := hz
      refine ⟨i.toNat, by rw [rl_int r1, Int.toNat_of_nonneg h0], rl_int r2, ?_⟩
      have e : ((i.toNat / 2 : Nat) : Int) = i / 2 := by omega
      rw [e]
      exact po_int po m
    · exact po.elim
  · exact po.elim

/-! ### x += e, of ints -/
def sAugI (i : Nat) (a : Ev) : Sv := fun env lh => match env[i]? with
  | some (some (.int x)) => rS (a env lh) env fun y lh1 => (match y with
    | .int z => .nx (env.set i (some (.int (x + z)))) lh1
    | _ => .stuck)
  | _ => .stuck
theorem s_augI {i : Nat} {x : Str} {pos' : Pos} (hN : X.N.Nodup) (hi : X.N[i]? = some x) (hx : Loc X.env.scope x) (he : SE X cad W e ea)
    (hf : X.fn x = true ∨ X.env.scope.names.lookup x = some .local := by first | exact .inl rfl | exact .inr rfl | assumption) : SS X cad W (.AugAssign (.Name x pos') .Add e pos) (sAugI i ea) := by
  refine Lv.PS.imp (ps_aug hN hi hx he ip_add hf) fun D σ H ⟨w, env, eH, m, re, po⟩ => ?_
  unfold sAugI at po
  split at po
  · rename_i z hz
    obtain ⟨v, hv, rv⟩ := re.2 i _ hz
    refine ⟨v, hv, w, env, eH, m, re, poS_bind po re fun w1 l y x1 m1 r1 po1 => ?_⟩
    cases l with
    | int j =>
      refine ⟨z, j, rl_int rv, rl_int r1, ?_⟩
      exact poS_nx po1 m1 ((re.mono x1).set (mk_int _))
    | _ => exact po1.elim
  · exact po.elim
end
end Lv
end
section
set_option Elab.async false
set_option linter.all false
set_option maxRecDepth 100000
set_option maxHeartbeats 2000000
namespace Lv
open PySem PySem.Spec PyProof.Rows L2

/-! ### a list of lists is held while a statement runs -/
def relS (k : Nat) (ms : List Nat) : SR → SR
  | .nx env lh => (match lh[k]? with
    | some (.held ms') => if ms' = ms then .nx env (lh.set k (.rls ms)) else .stuck
    | _ => .stuck)
  | .rt v lh => (match lh[k]? with
    | some (.held ms') => if ms' = ms then .rt v (lh.set k (.rls ms)) else .stuck
    | _ => .stuck)
  | _ => .stuck
def sHold (i : Nat) (sv : Sv) : Sv := fun env lh => match env[i]? with
  | some (some (.ref k)) => (match lh[k]? with
    | some (.rls ms) => relS k ms (sv env (lh.set k (.held ms)))
    | _ => .stuck)
  | _ => .stuck
theorem hold_core {K : PySem.W.Frag} {cad : Cad} {w : Wd} {k : Nat} {ms : List Nat} {a : Addr} (m : Emb K cad w) (hl : w.lh[k]? = some (.rls ms)) (ha : w.φ[k]? = some a) :
    Emb K cad (w.put k (.held ms)) ∧ Sm w (w.put k (.held ms)) ∧ ∀ w', Ext (w.put k (.held ms)) w' → Emb K cad w' → w'.lh[k]? = some (.held ms) → Ext w (w'.put k (.rls ms)) ∧ Emb K cad (w'.put k (.rls ms)) ∧ Sm w' (w'.put k (.rls ms)) := by
  have fit : (LO.rls ms).fit k = true := m.nr _ _ hl
  have hlt : k < w.lh.length := (List.getElem?_eq_some_iff.mp hl).1
  refine ⟨m.put hl (fun q => nomatch q) (fun q => nomatch q) fit fun b hb => (m.cell k b (.rls ms) hb hl : CellOk K cad w b (.rls ms)), put_sm hl (fun q => nomatch q) (fun q => nomatch q), fun w' x m' hl' => ?_⟩
  have fit' : (LO.held ms).fit k = true := m'.nr _ _ hl'
  have ha' : w'.φ[k]? = some a := x.pre k a ha
  have s3 : Sm w' (w'.put k (.rls ms)) := put_sm hl' (fun q => nomatch q) (fun q => nomatch q)
  have wr0 : ∀ b, Wr (w.put k (.held ms)) b → Wr w b := fun b ⟨n, lo2, h1, h2, h3⟩ => by
    have h1' : (w.lh.set k (.held ms))[n]? = some lo2 := h1
    by_cases hk' : n = k
    · subst hk'; rw [List.getElem?_set_self hlt] at h1'; cases h1'; cases h2
    · rw [List.getElem?_set_ne (Ne.symm hk')] at h1'; exact ⟨n, lo2, h1', h2, h3⟩
  refine ⟨{
    pre := fun n b h => x.pre n b h
    keep := fun b o h nt nw => x.keep b o h nt fun q => nw (wr0 b q)
    live := fun b l => (x.live b (by
      obtain ⟨n, lo2, h1, h2, h3⟩ := l
      have h1' : (w'.lh.set k (.rls ms))[n]? = some lo2 := h1
      by_cases hk' : n = k
      · subst hk'; exact ⟨n, _, hl', (fun q => nomatch q), h3⟩
      · rw [List.getElem?_set_ne (Ne.symm hk')] at h1'; exact ⟨n, lo2, h1', h2, h3⟩)).elim (fun l => .inl (by
      obtain ⟨n, lo2, h1, h2, h3⟩ := l
      have h1' : (w.lh.set k (.held ms))[n]? = some lo2 := h1
      by_cases hk' : n = k
      · subst hk'; exact ⟨n, _, hl, (fun q => nomatch q), h3⟩
      · rw [List.getElem?_set_ne (Ne.symm hk')] at h1'; exact ⟨n, lo2, h1', h2, h3⟩)) .inr
    grow := fun b h => x.grow b h
    wr := fun b ⟨n, lo2, h1, h2, h3⟩ => by
      have h1' : (w'.lh.set k (.rls ms))[n]? = some lo2 := h1
      by_cases hk' : n = k
      · subst hk'
        have h3' : w'.φ[n]? = some b := h3
        rw [ha'] at h3'; cases h3'
        exact .inl ⟨n, _, hl, rfl, ha⟩
      · rw [List.getElem?_set_ne (Ne.symm hk')] at h1'
        exact (x.wr b ⟨n, lo2, h1', h2, h3⟩).elim (fun q => .inl (wr0 b q)) .inr }, m'.put hl' (fun q => nomatch q) (fun q => nomatch q) fit' fun b hb => (m'.cell k b (.held ms) hb hl' : CellOk K cad w' b (.held ms)), s3⟩
section
variable {X : Cx} {cad : Cad} {W : WX} {st : Stmt} {sv : Sv}
theorem s_hold (i : Nat) (h : SS X cad W st sv) : SS X cad W st (sHold i sv) := by
  refine Lv.PS.imp h fun D σ H ⟨w, env, eH, m, re, po⟩ => ?_
  unfold sHold at po
  split at po
  · rename_i k hk
    split at po
    · rename_i ms hl
      obtain ⟨v, hv, rv⟩ := re.2 i _ hk
      obtain ⟨a, rfl, ha⟩ := rl_ref rv
      obtain ⟨m0, s0, back⟩ := hold_core m hl ha
      refine ⟨w.put k (.held ms), env, eH, m0, re.sm s0, ?_⟩
      show PoS X.K cad (w.put k (.held ms)) D W (sv env (w.lh.set k (.held ms)))
      cases hr : sv env (w.lh.set k (.held ms)) with
      | stuck => rw [hr] at po; exact po.elim
      | exn c fs env' lh => rw [hr] at po; exact po.elim
      | bk env' lh => rw [hr] at po; exact po.elim
      | ct env' lh => rw [hr] at po; exact po.elim
      | nx env' lh1 =>
        rw [hr] at po
        intro w' e x m' σ' re'
        subst e
        unfold relS at po
        dsimp only at po
        split at po
        · rename_i ms' hl'
          split at po
          · rename_i hms
            subst hms
            obtain ⟨x3, m3, s3⟩ := back w' x m' hl'
            exact po (w'.put k (.rls ms')) rfl x3 m3 σ' (re'.sm s3)
          · exact po.elim
        · exact po.elim
      | rt v lh1 =>
        rw [hr] at po
        intro w' e x m' u ru
        subst e
        unfold relS at po
        dsimp only at po
        split at po
        · rename_i ms' hl'
          split at po
          · rename_i hms
            subst hms
            obtain ⟨x3, m3, s3⟩ := back w' x m' hl'
            exact po (w'.put k (.rls ms')) rfl x3 m3 u (RL.sm s3 _ _ ru)
          · exact po.elim
        · exact po.elim
    · exact po.elim
  · exact po.elim
end
end Lv
end
section
set_option Elab.async false
set_option linter.all false
set_option maxRecDepth 100000
set_option maxHeartbeats 2000000
namespace Lv
open PySem PySem.Spec PyProof.Rows L2 PySem.W PySem.Calls

/-! ### sorted of a tuple -/
section
variable {prog : Program} {w : World} {A : Around} {E : Value → Shared → Prop} {s : Shared}
theorem collect_t {l : Addr} {vs : List Value} {Q : List Value → Shared → Prop} {o : Obj} {n : Nat} (ho : s.heap.get? l = some o) (hc : o.cls = .type "tuple") (hd : o.data = .seq vs.toArray n)
    (h : Q vs { s with heap := (s.heap.push (seqObj "list" #[] 0)).update s.heap.objs.size (Obj.mapSeq (· ++ vs.toArray)) }) (hsz : vs.length ≤ sizeLine) : wpAny (model prog w) A (collect (.ref l)) Q E s := by
  unfold collect
  refine wpAny_bind (wpAny_runValue (codeAny_builtin entry_proto_collect' ?_)); show wpAny _ _ (do again (.builtin "list.__iadd__" ⟨[← newList [], .ref l], []⟩)) _ _ s
  refine wpAny_bind (wpAny_newList (wpAny_pure ⟨Code.quiet_builtin _ (by decide +kernel), codeAny_builtin entry_list_iadd' ?_⟩)); show wpAny _ _ (Builtin.List.listExtendWith (.ref s.heap.objs.size) (.ref l) (.ref s.heap.objs.size)) _ _ { s with heap := s.heap.push (seqObj "list" #[] 0) }
  unfold Builtin.List.listExtendWith
  have hp : (s.heap.push (seqObj "list" #[] 0)).get? l = some o := Heap.get?_push_of_some _ ho
  refine wpAny_bind (wpAny_typeOf (T := "tuple") ⟨o, hp, hc⟩ ?_); rw [if_pos (by rw [show (Value.type "tuple" == Value.type "tuple") = true by rfl]; simp)]
  refine wpAny_bind (listItems_at hp hd ?_); refine wpAny_bind (listItems_at (xs := #[]) (n := 0) (Heap.get?_push_size _ rfl) rfl ?_); rw [if_neg (by simp)]
  refine wpAny_bind (listUpdate_at (xs := #[]) (n := 0) (Heap.get?_push_size _ rfl) rfl ?_ (Nat.zero_le _) (by show (#[] ++ vs.toArray).size ≤ sizeLine + 1; simp only [Array.size_append, List.size_toArray, List.length_nil]; omega)); refine wpAny_pure ?_
  show wpAny (model prog w) A (do let o ← load s.heap.objs.size; match o.data with | .seq xs _ => pure xs.toList | _ => unsupported "internal:collect") Q E { s with heap := (s.heap.push (seqObj "list" #[] 0)).update s.heap.objs.size (Obj.mapSeq (· ++ vs.toArray)) }
  refine wpAny_bind (wpAny_load (get?_update_seq (Heap.get?_push_size _ rfl) _) ?_); show wpAny _ _ (pure ((#[] : Array Value) ++ vs.toArray).toList) Q E _
  rw [show ((#[] : Array Value) ++ vs.toArray).toList = vs by simp]; exact wpAny_pure h
theorem sortT_calls {κ : KeyKind} {l : Addr} {vs : List Value} {Q : Value → Shared → Prop} {o : Obj} {n : Nat} (ho : s.heap.get? l = some o) (hc : o.cls = .type "tuple") (hd : o.data = .seq vs.toArray n)
    (S : SortsAt prog w A.in1.in1 { s with heap := sortingHeap (copyHeap s.heap vs) (s.heap.objs.size + 1) vs } κ vs) (hL : vs.length ≤ sizeLine) (h : Q (.ref (s.heap.objs.size + 1)) { s with heap := sortedAll s.heap vs (sortVals κ false vs vs).toArray }) :
    wpAny (model prog w) A (call (.builtin "sorted") [.ref l]) Q E s := by
  refine call_function_entry_kw kind_sorted plain_sorted entry_sorted (args_sorted1 _) ?_; unfold Builtin.«sorted»
  refine wpAny_bind (m := checkCount "sorted" 1 1 _) (wpAny_pure ?_); refine wpAny_bind (collect_t ho hc hd ?_ hL); refine wpAny_bind (wpAny_newList ?_ hL)
  have hsz : ((s.heap.push (seqObj "list" #[] 0)).update s.heap.objs.size (Obj.mapSeq (· ++ vs.toArray))).objs.size = s.heap.objs.size + 1 := by rw [Heap.size_update, size_push']
  show wpAny _ _ _ _ _ { s with heap := copyHeap s.heap vs }; rw [hsz]
  refine wpAny_bind (wpAny_holding (wpAny_call_entry_kw slot_list_sort ⟨_, copyHeap_at s.heap vs, rfl⟩ entry_list_sort ?body (args_list_sort _)))
  case body =>
    show wpAny (model prog w) A.in1.in1 (Builtin.«list.sort» ⟨[.ref (s.heap.objs.size + 1)], []⟩) _ _ _
    refine wpAny_mono (list_sort_vals (s := { s with heap := copyHeap s.heap vs }) (P := fun f s' => f = .done (.ret .none) ∧ Q (.ref (s.heap.objs.size + 1)) s') (copyHeap_at s.heap vs) S hL ⟨rfl, h⟩) (fun f s' hf => ?_) fun _ _ e => e
    obtain ⟨rfl, hq⟩ := hf; exact ⟨_, rfl, wpAny_pure ⟨_, rfl, hq⟩⟩
end
/-- sorted of a list, of a tuple -/
def fSortedT : List LV → LH → Res LV
  | [.tup xs], h => if xs.length ≤ 1 then .stuck else (match dOfs xs with
      | some ds => if srtB ds = true then .ok (.fl (srtL xs)) h else .stuck
      | none => .stuck)
  | xs, h => fSorted xs h
section
variable {X : Cx} {cad : Cad} {W : WX}
theorem cl_sortedT (hu : X.A.units + 64 < cLine) : ClL X cad W (fun us => call (.builtin "sorted") us) fSortedT := fun pins s σ w ls xs us Q I m r q po => by
  match ls with
  | [.tup ys] =>
    obtain ⟨v, rfl, r1⟩ := rls1 r
    obtain ⟨u, rfl, rv⟩ := vals1 q
    obtain ⟨a, vs, rfl, p, rs⟩ := rl_tup r1
    cases rv
    unfold fSortedT at po
    dsimp only at po
    obtain ⟨its, rvs, pl, hz⟩ := I.tuple p.sq
    have pl' : s.heap.IsTuple a its.toArray := pl
    obtain ⟨o, ho, n, hc, hd'⟩ : ∃ o, s.heap.get? a = some o ∧ ∃ n, o.cls = .type "tuple" ∧ o.data = .seq its.toArray n := by
      obtain ⟨o, h1, h2, n, h3⟩ := pl'
      exact ⟨o, h1, n, h2, h3⟩
    have hl1 : ys.length = vs.length := rs.length
    have hl2 : vs.length = its.length := rvs.length
    by_cases h1 : ys.length ≤ 1
    · rw [if_pos h1] at po; exact po.elim
    · rw [if_neg h1] at po
      split at po
      · rename_i ds hd
        split at po
        · rename_i hb
          simp only [srtB, Bool.and_eq_true, Bool.or_eq_true] at hb
          obtain ⟨b1, b2, b3⟩ := hb
          have em : ys.map srtD = ds := srt_map hd
          have hdm : ∀ b ∈ ys, srtD b ∈ ds := fun b hb => by rw [← em]; exact List.mem_map_of_mem hb
          have er : PySem.W.EachIs (fun v b => ∃ y, RelV y v ∧ RL X.K cad w b y) its ys := srt_each rs rvs
          have er' : PySem.W.EachIs (fun v b => ∃ as, Reads (sortingHeap (copyHeap s.heap its) (s.heap.objs.size + 1) its) v (srtD b) as) its ys := (srt_reads I hd rs rvs).mono fun _ _ ⟨as, r⟩ => ⟨as, PyProof.Rows.Reads.keeps (fun _ _ => sorting_copy_old) r⟩
          have hal : AllAlike (ys.map srtD) := by
            rw [em]; exact fun d h1 e h2 => List.all_eq_true.mp (List.all_eq_true.mp b1 d h1) e h2
          have hk : Sortable (ys.map srtD) := by
            rw [em]
            rcases b2 with b2 | b2
            · refine .inl fun d hd' => ?_
              have := List.all_eq_true.mp b2 d hd'
              match d, this with
              | .tuple (x :: r), _ => exact ⟨x, r, rfl⟩
            · refine .inr fun d hd' => ?_
              have := List.all_eq_true.mp b2 d hd'
              refine ⟨fun e => ?_, fun zs e => ?_⟩
              · rw [e] at this; cases this
              · rw [e] at this; cases this
          have hu' : ∀ b, b ∈ ys → X.A.units + 2 + (srtD b).depth < cLine := fun b hb => by
            have := of_decide_eq_true (List.all_eq_true.mp b3 _ (hdm b hb))
            omega
          refine sortT_calls (κ := dataKind (sortingHeap (copyHeap s.heap its) (s.heap.objs.size + 1) its) (ys.map srtD)) ho hc hd' (SortsAt.data (s := { s with heap := sortingHeap (copyHeap s.heap its) (s.heap.objs.size + 1) its }) (each_map (R := fun v d => ∃ as, Reads (sortingHeap (copyHeap s.heap its) (s.heap.objs.size + 1) its) v d as) srtD er') hal hk ?_) (by rw [← hl2]; exact hz) ?_
          · intro d hd2
            obtain ⟨b, hb, rfl⟩ := List.mem_map.mp hd2
            exact hu' b hb
          · have hout := sortVals_data false er er' hal
            obtain ⟨ws, qw, rw'⟩ := srt_back hout
            have hlen : (sortVals (dataKind (sortingHeap (copyHeap s.heap its) (s.heap.objs.size + 1) its) (ys.map srtD)) false its its).length = ys.length := by rw [sortVals_length false rfl]; exact er.length
            have hws : ws.length ≤ sizeLine := by rw [qw.length, hlen]; omega
            obtain ⟨ep, he'⟩ := PyProof.Rows.sortedAll_at s.heap its (sortVals (dataKind (sortingHeap (copyHeap s.heap its) (s.heap.objs.size + 1) its) (ys.map srtD)) false its its).toArray
            exact ⟨.ref _, upd w.H (s.heap.objs.size + 1) (.lst ws), I.laid (t' := s.toks) (fun _ _ => PyProof.Rows.sortedAll_old) (Nat.le_succ _) ⟨hws, _, ep, qw, he'⟩, rfl, po_fl po m rw' _ (I.hok.fresh (Nat.le_succ _))⟩
        · exact po.elim
      · exact po.elim
  | [] => exact cl_sorted hu pins s σ w [] xs us Q I m r q po
  | [.non] => exact cl_sorted hu pins s σ w _ xs us Q I m r q po
  | [.bl _] => exact cl_sorted hu pins s σ w _ xs us Q I m r q po
  | [.int _] => exact cl_sorted hu pins s σ w _ xs us Q I m r q po
  | [.str _] => exact cl_sorted hu pins s σ w _ xs us Q I m r q po
  | [.fl _] => exact cl_sorted hu pins s σ w _ xs us Q I m r q po
  | [.sl _] => exact cl_sorted hu pins s σ w _ xs us Q I m r q po
  | [.obj _ _] => exact cl_sorted hu pins s σ w _ xs us Q I m r q po
  | [.ref _] => exact cl_sorted hu pins s σ w _ xs us Q I m r q po
  | [.con _] => exact cl_sorted hu pins s σ w _ xs us Q I m r q po
  | a :: b :: c => exact cl_sorted hu pins s σ w _ xs us Q I m r q (by cases a <;> exact po)
end
end Lv
end
section
set_option Elab.async false
set_option linter.all false
set_option maxRecDepth 100000
set_option maxHeartbeats 2000000
namespace Lv
open PySem PySem.Spec PyProof.Rows L2
/-! ### the head in pieces: the written part as a literal, its facts looked up by themselves -/
def addT (K : PySem.W.Frag) (T : Addr) : PySem.W.Frag := K ++ [(T, PySem.W.tabObj #[])]
theorem addT_in {K : PySem.W.Frag} {T : Addr} {h : Heap} (X : K.In h) (t : h.get? T = some (PySem.W.tabObj #[])) : (addT K T).In h := fun b o e => by
  unfold addT at e
  rw [List.lookup_append] at e
  cases q : K.lookup b with
  | some o' => rw [q] at e; cases e; exact X b o q
  | none =>
    rw [q] at e
    have e' : List.lookup b [(T, PySem.W.tabObj #[])] = some o := e
    rw [List.lookup_cons] at e'
    split at e'
    · rename_i hb
      have hb' : b = T := by simpa using hb
      subst hb'; cases e'; exact t
    · cases e'
theorem all_split {α : Type} {l : List α} {p : α → Bool} (n : Nat) (h : (l.take n).all p = true) (r : (l.drop n).all p = true) : l.all p = true := by
  rw [← List.take_append_drop n l, List.all_append, h, r]; rfl
theorem map_split {α β : Type} {l : List α} {f g : α → β} (n : Nat) (h : (l.take n).map f = (l.take n).map g) (r : (l.drop n).map f = (l.drop n).map g) : l.map f = l.map g := by
  rw [← List.take_append_drop n l, List.map_append, List.map_append, h, r]
theorem says_of {pf : Str} {ts : List Str} {fx : List Fx} {fn : List He.DefD} {xd : List XD} {K' K : PySem.W.Frag} (hc : cutT K' ts = K) (h1 : (fx.all fun f => f.ok pf K) = true) (h2 : (fn.all fun d => d.ok K) = true) (h3 : (ts.all fun x => tabB K' x) = true)
    (h4 : fn.map (fun d => He.fnW K d.at_) = fn.map He.DefD.val) (h5 : (xd.map fun d => fnZ K d.cls) = xd.map XD.val) : SaysX pf ts fx fn xd K' := by
  unfold SaysX obsK valX
  rw [hc, h1, h2, h3, h4, h5]; rfl
theorem walk_km {l : PySem.W.OpenLaw} {q : Program} {loose : List Str} {XP : (Str → Option Value) → Heap → Prop} {pf : Str} {fx : List Fx} {fn : List He.DefD} {xd : List XD} {d : DefRec} {K : Params → PySem.W.Frag} {as : List Addr} {e : ∀ P, as = (K P).map (·.1)} {T : Addr} {kwd : List (Str × PySem.Expr)} {f : Value → List Value → Sem Value}
    (sx : ∀ P, SaysX pf ["law"] fx fn xd (addT (K P) T)) (hW : PySem.W.WalkO q loose XP (fun w h => ∃ K' : PySem.W.Frag, K'.In h ∧ SaysX pf ["law"] fx fn xd K') l.row.toRowW d kwd f) :
    PySem.W.WalkO q loose XP (PySem.W.kmHook K as e [T]).says l.row.toRowW d kwd f :=
  fun w s₀ s₁ mg mb G Y => hW w s₀ s₁ mg mb G ⟨addT (K w.params) T, addT_in Y.1 (Y.2 T (List.mem_cons_self ..)), sx _⟩
end Lv
namespace Lv
open PySem PySem.Spec PyProof.Rows L2
theorem says_km {pf : Str} {fx : List Fx} {fn : List He.DefD} {xd : List XD} {K : PySem.W.Frag} {T : Addr} (hc : cutT (addT K T) ["law"] = K) (h1 : (fx.all fun f => f.ok pf K) = true) (h2 : (fn.all fun d => d.ok K) = true) (h3 : tabB (addT K T) "law" = true)
    (h4 : fn.map (fun d => He.fnW K d.at_) = fn.map He.DefD.val) (h5 : (xd.map fun d => fnZ K d.cls) = xd.map XD.val) : SaysX pf ["law"] fx fn xd (addT K T) :=
  says_of hc h1 h2 (by show (tabB (addT K T) "law" && true) = true; rw [h3]; rfl) h4 h5
end Lv
end
section
set_option Elab.async false
set_option linter.all false
set_option maxRecDepth 100000
set_option maxHeartbeats 4000000
namespace K71
open PySem PySem.Spec PyProof.Rows L2 Lv
open He (ga ma fAd)
noncomputable section
abbrev FK (P : Program) (K : PySem.W.Frag) (mg : Str → Option Value) (base : Heap) : Prop := FcK fx fn xd P K mg base
abbrev FX (X : Cx) : Prop := FcK fx fn xd X.prog X.K X.mg X.base
abbrev cadK (tb : List (Addr × Str)) (K : PySem.W.Frag) : Cad := ⟨fun n => ga K (clsN n), tb⟩
variable {tb : List (Addr × Str)}
def tb_is_int : List (Tag × Bool) := [(.b "NoneType", false), (.b "bool", true), (.b "int", true), (.b "str", false), (.b "tuple", false), (.b "list", false), (.b "dict", false)]
theorem is_int {X : Cx} (F : FX X) : IsiOk X (cadK tb X.K) [.type "int"] tb_is_int := (.blt (kit_ok (F.c 102 rfl)) (.blt (kit_ok (F.c 103 rfl)) (.blt (kit_ok (F.c 104 rfl)) (.blt (kit_ok (F.c 105 rfl)) (.blt (kit_ok (F.c 106 rfl)) (.blt (kit_ok (F.c 107 rfl)) (.blt (kit_ok (F.c 108 rfl)) .nil)))))))
def tb_is_bool : List (Tag × Bool) := [(.b "NoneType", false), (.b "bool", true), (.b "int", false), (.b "str", false), (.b "tuple", false), (.b "list", false), (.b "dict", false)]
theorem is_bool {X : Cx} (F : FX X) : IsiOk X (cadK tb X.K) [.type "bool"] tb_is_bool := (.blt (kit_ok (F.c 109 rfl)) (.blt (kit_ok (F.c 110 rfl)) (.blt (kit_ok (F.c 111 rfl)) (.blt (kit_ok (F.c 112 rfl)) (.blt (kit_ok (F.c 113 rfl)) (.blt (kit_ok (F.c 114 rfl)) (.blt (kit_ok (F.c 115 rfl)) .nil)))))))
def tb_is_tuple : List (Tag × Bool) := [(.b "NoneType", false), (.b "bool", false), (.b "int", false), (.b "str", false), (.b "tuple", true), (.b "list", false), (.b "dict", false)]
theorem is_tuple {X : Cx} (F : FX X) : IsiOk X (cadK tb X.K) [.type "tuple"] tb_is_tuple := (.blt (kit_ok (F.c 116 rfl)) (.blt (kit_ok (F.c 117 rfl)) (.blt (kit_ok (F.c 118 rfl)) (.blt (kit_ok (F.c 119 rfl)) (.blt (kit_ok (F.c 120 rfl)) (.blt (kit_ok (F.c 121 rfl)) (.blt (kit_ok (F.c 122 rfl)) .nil)))))))
def tb_is_str : List (Tag × Bool) := [(.b "NoneType", false), (.b "bool", false), (.b "int", false), (.b "str", true), (.b "tuple", false), (.b "list", false), (.b "dict", false)]
theorem is_str {X : Cx} (F : FX X) : IsiOk X (cadK tb X.K) [.type "str"] tb_is_str := (.blt (kit_ok (F.c 123 rfl)) (.blt (kit_ok (F.c 124 rfl)) (.blt (kit_ok (F.c 125 rfl)) (.blt (kit_ok (F.c 126 rfl)) (.blt (kit_ok (F.c 127 rfl)) (.blt (kit_ok (F.c 128 rfl)) (.blt (kit_ok (F.c 129 rfl)) .nil)))))))
theorem ex_BadNumber {X : Cx} (F : FX X) : ExI X.prog X.K ((cadK tb X.K) 0) (ma X.K (ga X.K "BadNumber") "__init__") "self" ["what", "value"] :=
  exi_ok (d := x_BadNumber) (F.c 1 rfl) (F.x 0 rfl) (by decide) (by decide) F.sup ⟨rfl, rfl, rfl, rfl, rfl, by decide +kernel, by decide +kernel⟩ (.mk (.cons (.cons .nil)) (.cons (.cons .nil)) _ (fun _ => rfl) (fun _ => rfl) (fun _ => rfl)) (fun _ _ _ _ _ _ _ _ _ us hu => match us, hu with | [_, _, _], _ => rfl)
theorem ex_BadRow {X : Cx} (F : FX X) : ExI X.prog X.K ((cadK tb X.K) 1) (ma X.K (ga X.K "BadRow") "__init__") "self" ["value"] :=
  exi_ok (d := x_BadRow) (F.c 2 rfl) (F.x 1 rfl) (by decide) (by decide) F.sup ⟨rfl, rfl, rfl, rfl, rfl, by decide +kernel, by decide +kernel⟩ (.mk (.cons .nil) (.cons .nil) _ (fun _ => rfl) (fun _ => rfl) (fun _ => rfl)) (fun _ _ _ _ _ _ _ _ _ us hu => match us, hu with | [_, _], _ => rfl)
theorem ex_BadItem {X : Cx} (F : FX X) : ExI X.prog X.K ((cadK tb X.K) 2) (ma X.K (ga X.K "BadItem") "__init__") "self" ["value"] :=
  exi_ok (d := x_BadItem) (F.c 3 rfl) (F.x 2 rfl) (by decide) (by decide) F.sup ⟨rfl, rfl, rfl, rfl, rfl, by decide +kernel, by decide +kernel⟩ (.mk (.cons .nil) (.cons .nil) _ (fun _ => rfl) (fun _ => rfl) (fun _ => rfl)) (fun _ _ _ _ _ _ _ _ _ us hu => match us, hu with | [_, _], _ => rfl)
theorem ex_BadRule {X : Cx} (F : FX X) : ExI X.prog X.K ((cadK tb X.K) 3) (ma X.K (ga X.K "BadRule") "__init__") "self" ["why"] :=
  exi_ok (d := x_BadRule) (F.c 4 rfl) (F.x 3 rfl) (by decide) (by decide) F.sup ⟨rfl, rfl, rfl, rfl, rfl, by decide +kernel, by decide +kernel⟩ (.mk (.cons .nil) (.cons .nil) _ (fun _ => rfl) (fun _ => rfl) (fun _ => rfl)) (fun _ _ _ _ _ _ _ _ _ us hu => match us, hu with | [_, _], _ => rfl)
theorem ex_NotAbove {X : Cx} (F : FX X) : ExI X.prog X.K ((cadK tb X.K) 5) (ma X.K (ga X.K "NotAbove") "__init__") "self" ["index"] :=
  exi_ok (d := x_NotAbove) (F.c 5 rfl) (F.x 4 rfl) (by decide) (by decide) F.sup ⟨rfl, rfl, rfl, rfl, rfl, by decide +kernel, by decide +kernel⟩ (.mk (.cons .nil) (.cons .nil) _ (fun _ => rfl) (fun _ => rfl) (fun _ => rfl)) (fun _ _ _ _ _ _ _ _ _ us hu => match us, hu with | [_, _], _ => rfl)
theorem ex_BadParting {X : Cx} (F : FX X) : ExI X.prog X.K ((cadK tb X.K) 6) (ma X.K (ga X.K "BadParting") "__init__") "self" ["value"] :=
  exi_ok (d := x_BadParting) (F.c 6 rfl) (F.x 5 rfl) (by decide) (by decide) F.sup ⟨rfl, rfl, rfl, rfl, rfl, by decide +kernel, by decide +kernel⟩ (.mk (.cons .nil) (.cons .nil) _ (fun _ => rfl) (fun _ => rfl) (fun _ => rfl)) (fun _ _ _ _ _ _ _ _ _ us hu => match us, hu with | [_, _], _ => rfl)
theorem ex_BadSort {X : Cx} (F : FX X) : ExI X.prog X.K ((cadK tb X.K) 7) (ma X.K (ga X.K "BadSort") "__init__") "self" ["value"] :=
  exi_ok (d := x_BadSort) (F.c 7 rfl) (F.x 6 rfl) (by decide) (by decide) F.sup ⟨rfl, rfl, rfl, rfl, rfl, by decide +kernel, by decide +kernel⟩ (.mk (.cons .nil) (.cons .nil) _ (fun _ => rfl) (fun _ => rfl) (fun _ => rfl)) (fun _ _ _ _ _ _ _ _ _ us hu => match us, hu with | [_, _], _ => rfl)
theorem ex_Crossed {X : Cx} (F : FX X) : ExI X.prog X.K ((cadK tb X.K) 8) (ma X.K (ga X.K "Crossed") "__init__") "self" ["a", "b", "c", "d"] :=
  exi_ok (d := x_Crossed) (F.c 8 rfl) (F.x 7 rfl) (by decide) (by decide) F.sup ⟨rfl, rfl, rfl, rfl, rfl, by decide +kernel, by decide +kernel⟩ (.mk (.cons (.cons (.cons (.cons .nil)))) (.cons (.cons (.cons (.cons .nil)))) _ (fun _ => rfl) (fun _ => rfl) (fun _ => rfl)) (fun _ _ _ _ _ _ _ _ _ us hu => match us, hu with | [_, _, _, _, _], _ => rfl)
theorem ex_NotOne {X : Cx} (F : FX X) : ExI X.prog X.K ((cadK tb X.K) 9) (ma X.K (ga X.K "NotOne") "__init__") "self" ["value"] :=
  exi_ok (d := x_NotOne) (F.c 9 rfl) (F.x 8 rfl) (by decide) (by decide) F.sup ⟨rfl, rfl, rfl, rfl, rfl, by decide +kernel, by decide +kernel⟩ (.mk (.cons .nil) (.cons .nil) _ (fun _ => rfl) (fun _ => rfl) (fun _ => rfl)) (fun _ _ _ _ _ _ _ _ _ us hu => match us, hu with | [_, _], _ => rfl)
theorem ex_BadWord {X : Cx} (F : FX X) : ExI X.prog X.K ((cadK tb X.K) 10) (ma X.K (ga X.K "BadWord") "__init__") "self" ["value"] :=
  exi_ok (d := x_BadWord) (F.c 10 rfl) (F.x 9 rfl) (by decide) (by decide) F.sup ⟨rfl, rfl, rfl, rfl, rfl, by decide +kernel, by decide +kernel⟩ (.mk (.cons .nil) (.cons .nil) _ (fun _ => rfl) (fun _ => rfl) (fun _ => rfl)) (fun _ _ _ _ _ _ _ _ _ us hu => match us, hu with | [_, _], _ => rfl)
theorem ex_BadStep {X : Cx} (F : FX X) : ExI X.prog X.K ((cadK tb X.K) 11) (ma X.K (ga X.K "BadStep") "__init__") "self" ["index"] :=
  exi_ok (d := x_BadStep) (F.c 11 rfl) (F.x 10 rfl) (by decide) (by decide) F.sup ⟨rfl, rfl, rfl, rfl, rfl, by decide +kernel, by decide +kernel⟩ (.mk (.cons .nil) (.cons .nil) _ (fun _ => rfl) (fun _ => rfl) (fun _ => rfl)) (fun _ _ _ _ _ _ _ _ _ us hu => match us, hu with | [_, _], _ => rfl)
theorem ex_TooHigh {X : Cx} (F : FX X) : ExI X.prog X.K ((cadK tb X.K) 12) (ma X.K (ga X.K "TooHigh") "__init__") "self" ["height"] :=
  exi_ok (d := x_TooHigh) (F.c 12 rfl) (F.x 11 rfl) (by decide) (by decide) F.sup ⟨rfl, rfl, rfl, rfl, rfl, by decide +kernel, by decide +kernel⟩ (.mk (.cons .nil) (.cons .nil) _ (fun _ => rfl) (fun _ => rfl) (fun _ => rfl)) (fun _ _ _ _ _ _ _ _ _ us hu => match us, hu with | [_, _], _ => rfl)
def m_law_pen : Sv := (sSeq (sSet 1 (eC (.int 0)))
  (sSeq (sFor (eIt (eVar 0)) (.nm 2) (sSet 1 (eB modV (eL fInt (lCons (eB (addV []) (eB (mulV []) (eVar 1) (eC (.int 47))) (eVar 2)) lNil)) (eC (.int 1000000007)))))
  (sRet (eDict [("cells", (eL (fList false) (lCons (eVar 0) lNil))), ("at", (eC (.int 0))), ("digits", (eC (.int 0))), ("count", (eC (.int 0))), ("fold", (eVar 1))]))))
abbrev M_law_pen : Fn := fnB 3 m_law_pen
theorem sc_law_pen : FnScope ["script", "fold", "cell"] ["script"] (defScope s_law_pen) := ⟨rfl, rfl, rfl, by decide +kernel, rfl, by decide +kernel, by decide +kernel⟩
theorem ok_law_pen {P : Program} {w : World} {K : PySem.W.Frag} {mg : Str → Option Value} {base : Heap} {fd : FuncData} (F : FK P K mg base) (D : FunD K "_law_pen" "_law_pen" (defArgs s_law_pen) (defBody s_law_pen) (defScope s_law_pen) (d_law_pen.dvs K) [] (fAd K d_law_pen.at_) fd) :
    FnG P w K mg base (cadK tb K) 1 (fAd K d_law_pen.at_) fd ["script"] 1 M_law_pen :=
  fn_mirrorT (k := 0) D sc_law_pen fun A outer s H E hr hgd tk hp =>
  (ss_cons (s_set (i := 1) sc_law_pen.nd rfl (Or.inl rfl) se_int)
  (ss_cons (s_for hp rfl (si_seq (se_var 0)) (pg_nm sc_law_pen.nd rfl (Or.inl rfl)) (ss_one (s_set (i := 1) sc_law_pen.nd rfl (Or.inl rfl) (se_bin o_mod (se_ty cl_int rfl (F.free 13 rfl) boot_int (sa_cons (se_bin (o_add .nil tk) (se_bin (o_mul .nil tk) (se_var 1) se_int) (se_var 2)) sa_nil)) se_int))))
  (ss_one (s_ret (se_dict (sd_cons (se_ty (cl_list false) rfl (F.free 14 rfl) boot_list (sa_cons (se_var 0) sa_nil)) (sd_cons se_int (sd_cons se_int (sd_cons se_int (sd_cons (se_var 1) sd_nil))))) rfl rfl (by simp) (by decide))))))
theorem kp_law_pen {X : Cx} (F : FX X) : PySem.W.keepIn X.K (.ref (fAd X.K d_law_pen.at_)) = true := (F.d 0 rfl).elim fun _ D => D.kp
theorem ow_law_pen {X : Cx} (F : FX X) (hr : Room 2 X.A) (hgd : X.A.guards = some []) : Own X (cadK tb X.K) (fAd X.K d_law_pen.at_) 1 M_law_pen [] := ⟨(F.d 0 rfl).elim fun fd D => ⟨fd, _, 1, [], [], ok_law_pen F D, hr, hgd, D.bindsN fun _ _ _ _ _ _ us hl => match us, hl with | [_], _ => rfl, .nil, fun _ => RLs.nil⟩⟩
def m_law_draw : Sv := (sSeq (sSub (eVar 0) (eC (.str "count")) (eB (addV []) (eB fIx (eVar 0) (eC (.str "count"))) (eC (.int 1))))
  (sSeq (sIf (tAnd' (eTest (eB eqV' (eB fIx (eVar 0) (eC (.str "digits"))) (eC (.int 0)))) (eTest (eB ltV (eB fIx (eVar 0) (eC (.str "at"))) (eL fLen (lCons (eB fIx (eVar 0) (eC (.str "cells"))) lNil))))) (sSeq (sSet 2 (eB fIx (eB fIx (eVar 0) (eC (.str "cells"))) (eB fIx (eVar 0) (eC (.str "at")))))
  (sSeq (sSub (eVar 0) (eC (.str "at")) (eB (addV []) (eB fIx (eVar 0) (eC (.str "at"))) (eC (.int 1))))
  (sIf (eTest (eB geV (eVar 2) (eB powV (eC (.int 10)) (eC (.int 18))))) (sSub (eVar 0) (eC (.str "digits")) (eB (subV []) (eVar 2) (eB powV (eC (.int 10)) (eC (.int 18))))) (sSub (eVar 0) (eC (.str "fold")) (eB modV (eL fInt (lCons (eB (addV []) (eB (mulV []) (eB fIx (eVar 0) (eC (.str "fold"))) (eC (.int 69069))) (eVar 2)) lNil)) (eC (.int 2147483587))))))) sNil)
  (sSeq (sIf (eTest (eB gtV (eB fIx (eVar 0) (eC (.str "digits"))) (eC (.int 0)))) (sSeq (sSet 3 (eB modV (eL fInt (lCons (eB fIx (eVar 0) (eC (.str "digits"))) lNil)) (eVar 1)))
  (sSeq (sSub (eVar 0) (eC (.str "digits")) (eB fdivV (eB fIx (eVar 0) (eC (.str "digits"))) (eVar 1)))
  (sRet (eVar 3)))) sNil)
  (sSeq (sSet 4 (eB (addV []) (eB (addV []) (eB fIx (eVar 0) (eC (.str "fold"))) (eB (mulV []) (eB fIx (eVar 0) (eC (.str "count"))) (eC (.int 7907)))) (eC (.int 37))))
  (sRet (eB modV (eB fdivV (eL fInt (lCons (eB modV (eB powV (eVar 4) (eC (.int 17))) (eC (.int 2305843009213693951))) lNil)) (eC (.int 128))) (eVar 1)))))))
abbrev M_law_draw : Fn := fnB 5 m_law_draw
theorem sc_law_draw : FnScope ["pen", "many", "cell", "digit", "mixed"] ["pen", "many"] (defScope s_law_draw) := ⟨rfl, rfl, rfl, by decide +kernel, rfl, by decide +kernel, by decide +kernel⟩
theorem ok_law_draw {P : Program} {w : World} {K : PySem.W.Frag} {mg : Str → Option Value} {base : Heap} {fd : FuncData} (F : FK P K mg base) (D : FunD K "_law_draw" "_law_draw" (defArgs s_law_draw) (defBody s_law_draw) (defScope s_law_draw) (d_law_draw.dvs K) [] (fAd K d_law_draw.at_) fd) :
    FnG P w K mg base (cadK tb K) 1 (fAd K d_law_draw.at_) fd ["pen", "many"] 2 M_law_draw :=
  fn_mirrorT (k := 0) D sc_law_draw fun A outer s H E hr hgd tk hp =>
  (ss_cons (s_sub (Nat.lt_of_le_of_lt (Nat.add_le_add_left (by decide : 1 ≤ 64) _) hr.units) (se_var 0) se_str (se_bin (o_add .nil tk) (se_ix (Nat.lt_of_le_of_lt (Nat.add_le_add_left (by decide : 1 ≤ 64) _) hr.units) (se_var 0) se_str) se_int))
  (ss_cons (s_if (L2.PW.pt (sw_and (st_cmp (o_eq hr.units) (se_ix (Nat.lt_of_le_of_lt (Nat.add_le_add_left (by decide : 1 ≤ 64) _) hr.units) (se_var 0) se_str) se_int) (sw_and1 (st_cmp o_lt (se_ix (Nat.lt_of_le_of_lt (Nat.add_le_add_left (by decide : 1 ≤ 64) _) hr.units) (se_var 0) se_str) (se_blt cl_len rfl (F.free 15 rfl) boot_len (sa_cons (se_ix (Nat.lt_of_le_of_lt (Nat.add_le_add_left (by decide : 1 ≤ 64) _) hr.units) (se_var 0) se_str) sa_nil)))))) (ss_cons (s_set (i := 2) sc_law_draw.nd rfl (Or.inl rfl) (se_ix (Nat.lt_of_le_of_lt (Nat.add_le_add_left (by decide : 1 ≤ 64) _) hr.units) (se_ix (Nat.lt_of_le_of_lt (Nat.add_le_add_left (by decide : 1 ≤ 64) _) hr.units) (se_var 0) se_str) (se_ix (Nat.lt_of_le_of_lt (Nat.add_le_add_left (by decide : 1 ≤ 64) _) hr.units) (se_var 0) se_str)))
  (ss_cons (s_sub (Nat.lt_of_le_of_lt (Nat.add_le_add_left (by decide : 1 ≤ 64) _) hr.units) (se_var 0) se_str (se_bin (o_add .nil tk) (se_ix (Nat.lt_of_le_of_lt (Nat.add_le_add_left (by decide : 1 ≤ 64) _) hr.units) (se_var 0) se_str) se_int))
  (ss_one (s_if (st_cmp o_ge (se_var 2) (se_bin o_pow se_int se_int)) (ss_one (s_sub (Nat.lt_of_le_of_lt (Nat.add_le_add_left (by decide : 1 ≤ 64) _) hr.units) (se_var 0) se_str (se_bin (o_sub .nil tk) (se_var 2) (se_bin o_pow se_int se_int)))) (ss_one (s_sub (Nat.lt_of_le_of_lt (Nat.add_le_add_left (by decide : 1 ≤ 64) _) hr.units) (se_var 0) se_str (se_bin o_mod (se_ty cl_int rfl (F.free 13 rfl) boot_int (sa_cons (se_bin (o_add .nil tk) (se_bin (o_mul .nil tk) (se_ix (Nat.lt_of_le_of_lt (Nat.add_le_add_left (by decide : 1 ≤ 64) _) hr.units) (se_var 0) se_str) se_int) (se_var 2)) sa_nil)) se_int))))))) ss_nil)
  (ss_cons (s_if (st_cmp o_gt (se_ix (Nat.lt_of_le_of_lt (Nat.add_le_add_left (by decide : 1 ≤ 64) _) hr.units) (se_var 0) se_str) se_int) (ss_cons (s_set (i := 3) sc_law_draw.nd rfl (Or.inl rfl) (se_bin o_mod (se_ty cl_int rfl (F.free 13 rfl) boot_int (sa_cons (se_ix (Nat.lt_of_le_of_lt (Nat.add_le_add_left (by decide : 1 ≤ 64) _) hr.units) (se_var 0) se_str) sa_nil)) (se_var 1)))
  (ss_cons (s_sub (Nat.lt_of_le_of_lt (Nat.add_le_add_left (by decide : 1 ≤ 64) _) hr.units) (se_var 0) se_str (se_bin o_fdiv (se_ix (Nat.lt_of_le_of_lt (Nat.add_le_add_left (by decide : 1 ≤ 64) _) hr.units) (se_var 0) se_str) (se_var 1)))
  (ss_one (s_ret (se_var 3))))) ss_nil)
  (ss_cons (s_set (i := 4) sc_law_draw.nd rfl (Or.inl rfl) (se_bin (o_add .nil tk) (se_bin (o_add .nil tk) (se_ix (Nat.lt_of_le_of_lt (Nat.add_le_add_left (by decide : 1 ≤ 64) _) hr.units) (se_var 0) se_str) (se_bin (o_mul .nil tk) (se_ix (Nat.lt_of_le_of_lt (Nat.add_le_add_left (by decide : 1 ≤ 64) _) hr.units) (se_var 0) se_str) se_int)) se_int))
  (ss_one (s_ret (se_bin o_mod (se_bin o_fdiv (se_ty cl_int rfl (F.free 13 rfl) boot_int (sa_cons (se_bin o_mod (se_bin o_pow (se_var 4) se_int) se_int) sa_nil)) se_int) (se_var 1))))))))
theorem kp_law_draw {X : Cx} (F : FX X) : PySem.W.keepIn X.K (.ref (fAd X.K d_law_draw.at_)) = true := (F.d 1 rfl).elim fun _ D => D.kp
theorem ow_law_draw {X : Cx} (F : FX X) (hr : Room 2 X.A) (hgd : X.A.guards = some []) : Own X (cadK tb X.K) (fAd X.K d_law_draw.at_) 2 M_law_draw [] := ⟨(F.d 1 rfl).elim fun fd D => ⟨fd, _, 1, [], [], ok_law_draw F D, hr, hgd, D.bindsN fun _ _ _ _ _ _ us hl => match us, hl with | [_, _], _ => rfl, .nil, fun _ => RLs.nil⟩⟩
def m_law_pick : Sv := (sRet (eB fIx (eVar 1) (eL (fCall 2 M_law_draw []) (lCons (eVar 0) (lCons (eL fLen (lCons (eVar 1) lNil)) lNil)))))
abbrev M_law_pick : Fn := fnB 2 m_law_pick
theorem sc_law_pick : FnScope ["pen", "some"] ["pen", "some"] (defScope s_law_pick) := ⟨rfl, rfl, rfl, by decide +kernel, rfl, by decide +kernel, by decide +kernel⟩
theorem ok_law_pick {P : Program} {w : World} {K : PySem.W.Frag} {mg : Str → Option Value} {base : Heap} {fd : FuncData} (F : FK P K mg base) (D : FunD K "_law_pick" "_law_pick" (defArgs s_law_pick) (defBody s_law_pick) (defScope s_law_pick) (d_law_pick.dvs K) [] (fAd K d_law_pick.at_) fd) :
    FnG P w K mg base (cadK tb K) 3 (fAd K d_law_pick.at_) fd ["pen", "some"] 2 M_law_pick :=
  fn_mirrorT (k := 2) D sc_law_pick fun A outer s H E hr hgd tk hp =>
  (ss_one (s_ret (se_ix (Nat.lt_of_le_of_lt (Nat.add_le_add_left (by decide : 1 ≤ 64) _) hr.units) (se_var 1) (se_call (ow_law_draw F (hr.mono (by decide)) hgd) tk rfl (F.glo 16 rfl) (kp_law_draw F) (sa_cons (se_var 0) (sa_cons (se_blt cl_len rfl (F.free 15 rfl) boot_len (sa_cons (se_var 1) sa_nil)) sa_nil))))))
theorem kp_law_pick {X : Cx} (F : FX X) : PySem.W.keepIn X.K (.ref (fAd X.K d_law_pick.at_)) = true := (F.d 2 rfl).elim fun _ D => D.kp
theorem ow_law_pick {X : Cx} (F : FX X) (hr : Room 4 X.A) (hgd : X.A.guards = some []) : Own X (cadK tb X.K) (fAd X.K d_law_pick.at_) 2 M_law_pick [] := ⟨(F.d 2 rfl).elim fun fd D => ⟨fd, _, 3, [], [], ok_law_pick F D, hr, hgd, D.bindsN fun _ _ _ _ _ _ us hl => match us, hl with | [_, _], _ => rfl, .nil, fun _ => RLs.nil⟩⟩
def m_law_m_cross : Sv := (sSeq (sFor (eIt (eVar 0)) (.nm 2) (sFor (eIt (eVar 0)) (.nm 3) (sIf (tAnd' (eTest (eB ltV (eVar 2) (eVar 3))) (tAnd' (eTest (eB neV' (eLc false (eIt (eVar 1)) (.nm 4) (eTest (eChain ltV ltV (eVar 2) (eVar 4) (eVar 3))) (eVar 4) [4]) (eL fFl lNil))) (eTest (eB neV' (eLc false (eIt (eVar 1)) (.nm 5) (tOr' (eTest (eB ltV (eVar 5) (eVar 2))) (eTest (eB gtV (eVar 5) (eVar 3)))) (eVar 5) [5]) (eL fFl lNil))))) (sRet (eC (.bl true))) sNil)))
  (sRet (eC (.bl false))))
abbrev M_law_m_cross : Fn := fnB 6 m_law_m_cross
theorem sc_law_m_cross : FnScope ["one", "other", "a", "c", "b", "d"] ["one", "other"] (defScope s_law_m_cross) := ⟨rfl, rfl, rfl, by decide +kernel, rfl, by decide +kernel, by decide +kernel⟩
theorem ok_law_m_cross {P : Program} {w : World} {K : PySem.W.Frag} {mg : Str → Option Value} {base : Heap} {fd : FuncData} (F : FK P K mg base) (D : FunD K "_law_m_cross" "_law_m_cross" (defArgs s_law_m_cross) (defBody s_law_m_cross) (defScope s_law_m_cross) (d_law_m_cross.dvs K) [] (fAd K d_law_m_cross.at_) fd) :
    FnG P w K mg base (cadK tb K) 1 (fAd K d_law_m_cross.at_) fd ["one", "other"] 2 M_law_m_cross :=
  fn_mirrorT (k := 0) D sc_law_m_cross fun A outer s H E hr hgd tk hp =>
  (ss_cons (s_for hp rfl (si_seq (se_var 0)) (pg_nm sc_law_m_cross.nd rfl (Or.inr rfl)) (ss_one (s_for hp rfl (si_seq (se_var 0)) (pg_nm sc_law_m_cross.nd rfl (Or.inr rfl)) (ss_one (s_if (L2.PW.pt (sw_and (st_cmp o_lt (se_var 2) (se_var 3)) (sw_and (st_cmp (o_ne hr.units) (se_lc rfl sc_law_m_cross.nd (si_seq (se_var 1)) (blkOk_by (own := [("b", 4)]) (by show blkC ["one", "other", "a", "c", "b", "d"] (defScope s_law_m_cross) _ _ = true; decide +kernel)) (fun _ _ _ _ _ => (pg_nm sc_law_m_cross.nd rfl (Or.inl rfl))) (fun _ _ _ _ _ => (sts_one (st_chain o_lt o_lt (se_var 2) (se_var 4) (se_var 3)))) (fun _ _ _ _ _ => (se_var 4)) rfl (by decide)) (se_fl sa_nil)) (sw_and1 (st_cmp (o_ne hr.units) (se_lc rfl sc_law_m_cross.nd (si_seq (se_var 1)) (blkOk_by (own := [("d", 5)]) (by show blkC ["one", "other", "a", "c", "b", "d"] (defScope s_law_m_cross) _ _ = true; decide +kernel)) (fun _ _ _ _ _ => (pg_nm sc_law_m_cross.nd rfl (Or.inl rfl))) (fun _ _ _ _ _ => (sts_one (L2.PW.pt (sw_or (st_cmp o_lt (se_var 5) (se_var 2)) (sw_or1 (st_cmp o_gt (se_var 5) (se_var 3))))))) (fun _ _ _ _ _ => (se_var 5)) rfl (by decide)) (se_fl sa_nil)))))) (ss_one (s_ret se_bl)) ss_nil)))))
  (ss_one (s_ret se_bl)))
theorem kp_law_m_cross {X : Cx} (F : FX X) : PySem.W.keepIn X.K (.ref (fAd X.K d_law_m_cross.at_)) = true := (F.d 3 rfl).elim fun _ D => D.kp
theorem ow_law_m_cross {X : Cx} (F : FX X) (hr : Room 2 X.A) (hgd : X.A.guards = some []) : Own X (cadK tb X.K) (fAd X.K d_law_m_cross.at_) 2 M_law_m_cross [] := ⟨(F.d 3 rfl).elim fun fd D => ⟨fd, _, 1, [], [], ok_law_m_cross F D, hr, hgd, D.bindsN fun _ _ _ _ _ _ us hl => match us, hl with | [_, _], _ => rfl, .nil, fun _ => RLs.nil⟩⟩
def m_law_m_is_crossed : Sv := (sSeq (sFor (eEnum (eVar 0)) (.tp [1, 2]) (sFor (eIt (eSlice (eVar 0) none (some (eVar 1)))) (.nm 3) (sIf (eTest (eL (fCall 2 M_law_m_cross []) (lCons (eVar 2) (lCons (eVar 3) lNil)))) (sRet (eC (.bl true))) sNil)))
  (sRet (eC (.bl false))))
abbrev M_law_m_is_crossed : Fn := fnB 4 m_law_m_is_crossed
theorem sc_law_m_is_crossed : FnScope ["parting", "k", "one", "other"] ["parting"] (defScope s_law_m_is_crossed) := ⟨rfl, rfl, rfl, by decide +kernel, rfl, by decide +kernel, by decide +kernel⟩
theorem ok_law_m_is_crossed {P : Program} {w : World} {K : PySem.W.Frag} {mg : Str → Option Value} {base : Heap} {fd : FuncData} (F : FK P K mg base) (D : FunD K "_law_m_is_crossed" "_law_m_is_crossed" (defArgs s_law_m_is_crossed) (defBody s_law_m_is_crossed) (defScope s_law_m_is_crossed) (d_law_m_is_crossed.dvs K) [] (fAd K d_law_m_is_crossed.at_) fd) :
    FnG P w K mg base (cadK tb K) 3 (fAd K d_law_m_is_crossed.at_) fd ["parting"] 1 M_law_m_is_crossed :=
  fn_mirrorT (k := 2) D sc_law_m_is_crossed fun A outer s H E hr hgd tk hp =>
  (ss_cons (s_for hp rfl (si_enum rfl (F.free 17 rfl) (se_var 0)) (pg_tp rfl (pgs_cons (pg_nm sc_law_m_is_crossed.nd rfl (Or.inl rfl)) (pgs_cons (pg_nm sc_law_m_is_crossed.nd rfl (Or.inl rfl)) pgs_nil))) (ss_one (s_for hp rfl (si_seq (se_slice (se_var 0) sp_none (sp_some (se_var 1)))) (pg_nm sc_law_m_is_crossed.nd rfl (Or.inl rfl)) (ss_one (s_if (st_val (se_call (ow_law_m_cross F (hr.mono (by decide)) hgd) tk rfl (F.glo 18 rfl) (kp_law_m_cross F) (sa_cons (se_var 2) (sa_cons (se_var 3) sa_nil)))) (ss_one (s_ret se_bl)) ss_nil)))))
  (ss_one (s_ret se_bl)))
theorem kp_law_m_is_crossed {X : Cx} (F : FX X) : PySem.W.keepIn X.K (.ref (fAd X.K d_law_m_is_crossed.at_)) = true := (F.d 4 rfl).elim fun _ D => D.kp
theorem ow_law_m_is_crossed {X : Cx} (F : FX X) (hr : Room 4 X.A) (hgd : X.A.guards = some []) : Own X (cadK tb X.K) (fAd X.K d_law_m_is_crossed.at_) 1 M_law_m_is_crossed [] := ⟨(F.d 4 rfl).elim fun fd D => ⟨fd, _, 3, [], [], ok_law_m_is_crossed F D, hr, hgd, D.bindsN fun _ _ _ _ _ _ us hl => match us, hl with | [_], _ => rfl, .nil, fun _ => RLs.nil⟩⟩
def m_law_some_uncrossed : Sv := (sSeq (sSet 2 eRls0)
  (sSeq (sFor (eRng1 (eVar 1)) (.nm 3) (sSeq (sSet 4 (eL fLst lNil))
  (sSeq (sHold 2 (sFor (eEnumH (eVar 2)) (.tp [5, 6]) (sSeq (sSet 7 (eLc true (eItH (eVar 2)) (.nm 8) tYes' (eL (fList false) (lCons (eVar 8) lNil)) [8]))
  (sSeq (sSub (eVar 7) (eVar 5) (eB (addV []) (eB fIx (eVar 7) (eVar 5)) (eL fFl (lCons (eVar 3) lNil))))
  (sIf (tNot' (eTest (eL (fCall 1 M_law_m_is_crossed []) (lCons (eU fFrz (eVar 7)) lNil)))) (sExpr (eApp (eVar 4) (eVar 5))) sNil)))))
  (sIf (tOr' (eTest (eB eqV' (eVar 4) (eL fFl lNil))) (eTest (eB eqV' (eL (fCall 2 M_law_draw []) (lCons (eVar 0) (lCons (eC (.int 3)) lNil))) (eC (.int 0))))) (sAppN 2 (lCons (eVar 3) lNil)) (sExpr (eApp (eB fIxN (eVar 2) (eL (fCall 2 M_law_pick []) (lCons (eVar 0) (lCons (eVar 4) lNil)))) (eVar 3)))))))
  (sRet (eHold 2 (eL fTuple (lCons (eLc false (eItH (eVar 2)) (.nm 6) tYes' (eL fTuple (lCons (eVar 6) lNil)) [6]) lNil))))))
abbrev M_law_some_uncrossed : Fn := fnB 9 m_law_some_uncrossed
theorem sc_law_some_uncrossed : FnScope ["pen", "n", "blocks", "item", "fit", "k", "block", "more", "one"] ["pen", "n"] (defScope s_law_some_uncrossed) := ⟨rfl, rfl, rfl, by decide +kernel, rfl, by decide +kernel, by decide +kernel⟩
theorem ok_law_some_uncrossed {P : Program} {w : World} {K : PySem.W.Frag} {mg : Str → Option Value} {base : Heap} {fd : FuncData} (F : FK P K mg base) (D : FunD K "_law_some_uncrossed" "_law_some_uncrossed" (defArgs s_law_some_uncrossed) (defBody s_law_some_uncrossed) (defScope s_law_some_uncrossed) (d_law_some_uncrossed.dvs K) [] (fAd K d_law_some_uncrossed.at_) fd) :
    FnG P w K mg base (cadK tb K) 5 (fAd K d_law_some_uncrossed.at_) fd ["pen", "n"] 2 M_law_some_uncrossed :=
  fn_mirrorT (k := 4) D sc_law_some_uncrossed fun A outer s H E hr hgd tk hp =>
  (ss_cons (s_set (i := 2) sc_law_some_uncrossed.nd rfl (Or.inl rfl) se_rls0)
  (ss_cons (s_for hp rfl (si_rng1 rfl (F.free 19 rfl) (se_var 1)) (pg_nm sc_law_some_uncrossed.nd rfl (Or.inl rfl)) (ss_cons (s_set (i := 4) sc_law_some_uncrossed.nd rfl (Or.inl rfl) (se_lst sa_nil))
  (ss_cons (s_hold 2 (s_for hp rfl (si_enumH rfl (F.free 17 rfl) (se_var 2)) (pg_tp rfl (pgs_cons (pg_nm sc_law_some_uncrossed.nd rfl (Or.inl rfl)) (pgs_cons (pg_nm sc_law_some_uncrossed.nd rfl (Or.inl rfl)) pgs_nil))) (ss_cons (s_setLc rfl sc_law_some_uncrossed.nd rfl rfl rfl (si_seqH (se_var 2)) (blkOk_by (own := [("one", 8)]) (by show blkC ["pen", "n", "blocks", "item", "fit", "k", "block", "more", "one"] (defScope s_law_some_uncrossed) _ _ = true; decide +kernel)) (fun _ _ _ _ _ => (pg_nm sc_law_some_uncrossed.nd rfl (Or.inl rfl))) (fun _ _ _ _ _ => sts_nil) (fun _ _ _ _ _ => (se_ty (cl_list false) rfl (F.free 14 rfl) boot_list (sa_cons (se_var 8) sa_nil))) rfl (by decide))
  (ss_cons (s_sub (Nat.lt_of_le_of_lt (Nat.add_le_add_left (by decide : 1 ≤ 64) _) hr.units) (se_var 7) (se_var 5) (se_bin (o_add .nil tk) (se_ix (Nat.lt_of_le_of_lt (Nat.add_le_add_left (by decide : 1 ≤ 64) _) hr.units) (se_var 7) (se_var 5)) (se_fl (sa_cons (se_var 3) sa_nil))))
  (ss_one (s_if (st_not (st_val (se_call (ow_law_m_is_crossed F (hr.mono (by decide)) hgd) tk rfl (F.glo 20 rfl) (kp_law_m_is_crossed F) (sa_cons (se_frz (se_var 7)) sa_nil)))) (ss_one (s_expr (se_app (se_var 4) (se_var 5)))) ss_nil))))))
  (ss_one (s_if (L2.PW.pt (sw_or (st_cmp (o_eq hr.units) (se_var 4) (se_fl sa_nil)) (sw_or1 (st_cmp (o_eq hr.units) (se_call (ow_law_draw F (hr.mono (by decide)) hgd) tk rfl (F.glo 16 rfl) (kp_law_draw F) (sa_cons (se_var 0) (sa_cons se_int sa_nil))) se_int)))) (ss_one (s_appN (i := 2) rfl (Or.inl rfl) (sa_cons (se_var 3) sa_nil))) (ss_one (s_expr (se_app (se_ixN (se_var 2) (se_call (ow_law_pick F (hr.mono (by decide)) hgd) tk rfl (F.glo 21 rfl) (kp_law_pick F) (sa_cons (se_var 0) (sa_cons (se_var 4) sa_nil)))) (se_var 3)))))))))
  (ss_one (s_ret (se_hold 2 (se_ty cl_tuple rfl (F.free 22 rfl) boot_tuple (sa_cons (se_lc rfl sc_law_some_uncrossed.nd (si_seqH (se_var 2)) (blkOk_by (own := [("block", 6)]) (by show blkC ["pen", "n", "blocks", "item", "fit", "k", "block", "more", "one"] (defScope s_law_some_uncrossed) _ _ = true; decide +kernel)) (fun _ _ _ _ _ => (pg_nm sc_law_some_uncrossed.nd rfl (Or.inl rfl))) (fun _ _ _ _ _ => sts_nil) (fun _ _ _ _ _ => (se_ty cl_tuple rfl (F.free 22 rfl) boot_tuple (sa_cons (se_var 6) sa_nil))) rfl (by decide)) sa_nil)))))))
theorem kp_law_some_uncrossed {X : Cx} (F : FX X) : PySem.W.keepIn X.K (.ref (fAd X.K d_law_some_uncrossed.at_)) = true := (F.d 5 rfl).elim fun _ D => D.kp
theorem ow_law_some_uncrossed {X : Cx} (F : FX X) (hr : Room 6 X.A) (hgd : X.A.guards = some []) : Own X (cadK tb X.K) (fAd X.K d_law_some_uncrossed.at_) 2 M_law_some_uncrossed [] := ⟨(F.d 5 rfl).elim fun fd D => ⟨fd, _, 5, [], [], ok_law_some_uncrossed F D, hr, hgd, D.bindsN fun _ _ _ _ _ _ us hl => match us, hl with | [_, _], _ => rfl, .nil, fun _ => RLs.nil⟩⟩
def m_is_integer : Sv := (sRet (eAnd (eU (fIsi tb_is_int) (eVar 0)) (eNot (eU (fIsi tb_is_bool) (eVar 0)))))
abbrev M_is_integer : Fn := fnB 1 m_is_integer
theorem sc_is_integer : FnScope ["value"] ["value"] (defScope s_is_integer) := ⟨rfl, rfl, rfl, by decide +kernel, rfl, by decide +kernel, by decide +kernel⟩
theorem ok_is_integer {P : Program} {w : World} {K : PySem.W.Frag} {mg : Str → Option Value} {base : Heap} {fd : FuncData} (F : FK P K mg base) (D : FunD K "is_integer" "is_integer" (defArgs s_is_integer) (defBody s_is_integer) (defScope s_is_integer) (d_is_integer.dvs K) [] (fAd K d_is_integer.at_) fd) :
    FnG P w K mg base (cadK tb K) 1 (fAd K d_is_integer.at_) fd ["value"] 1 M_is_integer :=
  fn_mirrorT (k := 0) D sc_is_integer fun A outer s H E hr hgd tk hp =>
  (ss_one (s_ret (se_and (se_isi (is_int F) (.ty _) rfl (F.free 23 rfl) boot_isinstance (se_var 0) (pe_bltn (v := .ty "int") rfl (F.free 13 rfl) boot_int rfl)) (se_one (se_not (se_isi (is_bool F) (.ty _) rfl (F.free 23 rfl) boot_isinstance (se_var 0) (pe_bltn (v := .ty "bool") rfl (F.free 24 rfl) boot_bool rfl)))))))
theorem kp_is_integer {X : Cx} (F : FX X) : PySem.W.keepIn X.K (.ref (fAd X.K d_is_integer.at_)) = true := (F.d 6 rfl).elim fun _ D => D.kp
theorem ow_is_integer {X : Cx} (F : FX X) (hr : Room 2 X.A) (hgd : X.A.guards = some []) : Own X (cadK tb X.K) (fAd X.K d_is_integer.at_) 1 M_is_integer [] := ⟨(F.d 6 rfl).elim fun fd D => ⟨fd, _, 1, [], [], ok_is_integer F D, hr, hgd, D.bindsN fun _ _ _ _ _ _ us hl => match us, hl with | [_], _ => rfl, .nil, fun _ => RLs.nil⟩⟩
def m_is_block : Sv := (sSeq (sIf (tOr' (tNot' (eTest (eU (fIsi tb_is_tuple) (eVar 0)))) (tOr' (eTest (eB eqV' (eL fLen (lCons (eVar 0) lNil)) (eC (.int 0)))) (tNot' (eTest (eL fAll (lCons (eLc false (eIt (eVar 0)) (.nm 1) tYes' (eL (fCall 1 M_is_integer []) (lCons (eVar 1) lNil)) [1]) lNil)))))) (sRet (eC (.bl false))) sNil)
  (sRet (eL fAll (lCons (eLc false (eZip2 (eVar 0) (eSlice (eVar 0) (some (eC (.int 1))) none)) (.tp [2, 3]) tYes' (eB ltV (eVar 2) (eVar 3)) [2, 3]) lNil))))
abbrev M_is_block : Fn := fnB 4 m_is_block
theorem sc_is_block : FnScope ["value", "item", "one", "other"] ["value"] (defScope s_is_block) := ⟨rfl, rfl, rfl, by decide +kernel, rfl, by decide +kernel, by decide +kernel⟩
theorem ok_is_block {P : Program} {w : World} {K : PySem.W.Frag} {mg : Str → Option Value} {base : Heap} {fd : FuncData} (F : FK P K mg base) (D : FunD K "is_block" "is_block" (defArgs s_is_block) (defBody s_is_block) (defScope s_is_block) (d_is_block.dvs K) [] (fAd K d_is_block.at_) fd) :
    FnG P w K mg base (cadK tb K) 3 (fAd K d_is_block.at_) fd ["value"] 1 M_is_block :=
  fn_mirrorT (k := 2) D sc_is_block fun A outer s H E hr hgd tk hp =>
  (ss_cons (s_if (L2.PW.pt (sw_or (st_not (st_val (se_isi (is_tuple F) (.ty _) rfl (F.free 23 rfl) boot_isinstance (se_var 0) (pe_bltn (v := .ty "tuple") rfl (F.free 22 rfl) boot_tuple rfl)))) (sw_or (st_cmp (o_eq hr.units) (se_blt cl_len rfl (F.free 15 rfl) boot_len (sa_cons (se_var 0) sa_nil)) se_int) (sw_or1 (st_not (st_val (se_blt (cl_all rfl) rfl (F.free 26 rfl) boot_all (sa_cons (se_lc rfl sc_is_block.nd (si_seq (se_var 0)) (blkOk_by (own := [("item", 1)]) (by show blkC ["value", "item", "one", "other"] (defScope s_is_block) _ _ = true; decide +kernel)) (fun _ _ _ _ _ => (pg_nm sc_is_block.nd rfl (Or.inl rfl))) (fun _ _ _ _ _ => sts_nil) (fun _ _ _ _ _ => (se_call (ow_is_integer F (hr.mono (by decide)) hgd) LamX.takes0 rfl (F.glo 25 rfl) (kp_is_integer F) (sa_cons (se_var 1) sa_nil))) rfl (by decide)) sa_nil)))))))) (ss_one (s_ret se_bl)) ss_nil)
  (ss_one (s_ret (se_blt (cl_all rfl) rfl (F.free 26 rfl) boot_all (sa_cons (se_lc rfl sc_is_block.nd (si_zip rfl (F.free 27 rfl) (se_var 0) (se_slice (se_var 0) (sp_some se_int) sp_none)) (blkOk_by (own := [("one", 2), ("other", 3)]) (by show blkC ["value", "item", "one", "other"] (defScope s_is_block) _ _ = true; decide +kernel)) (fun _ _ _ _ _ => (pg_tp rfl (pgs_cons (pg_nm sc_is_block.nd rfl (Or.inl rfl)) (pgs_cons (pg_nm sc_is_block.nd rfl (Or.inl rfl)) pgs_nil)))) (fun _ _ _ _ _ => sts_nil) (fun _ _ _ _ _ => (se_cmp o_lt (se_var 2) (se_var 3))) rfl (by decide)) sa_nil)))))
theorem kp_is_block {X : Cx} (F : FX X) : PySem.W.keepIn X.K (.ref (fAd X.K d_is_block.at_)) = true := (F.d 7 rfl).elim fun _ D => D.kp
theorem ow_is_block {X : Cx} (F : FX X) (hr : Room 4 X.A) (hgd : X.A.guards = some []) : Own X (cadK tb X.K) (fAd X.K d_is_block.at_) 1 M_is_block [] := ⟨(F.d 7 rfl).elim fun fd D => ⟨fd, _, 3, [], [], ok_is_block F D, hr, hgd, D.bindsN fun _ _ _ _ _ _ us hl => match us, hl with | [_], _ => rfl, .nil, fun _ => RLs.nil⟩⟩
def m_is_parting : Sv := (sSeq (sIf (tOr' (tNot' (eTest (eU (fIsi tb_is_tuple) (eVar 0)))) (tNot' (eTest (eL fAll (lCons (eLc false (eIt (eVar 0)) (.nm 3) tYes' (eL (fCall 1 M_is_block []) (lCons (eVar 3) lNil)) [3]) lNil))))) (sRet (eC (.bl false))) sNil)
  (sSeq (sSet 1 (eLc2 false (eIt (eVar 0)) (.nm 3) tYes' (eIt (eVar 3)) (.nm 4) tYes' (eVar 4) [3, 4] [4]))
  (sSeq (sSet 2 (eLc false (eIt (eVar 0)) (.nm 3) tYes' (eB fIx (eVar 3) (eC (.int 0))) [3]))
  (sRet (eAnd (eB leV (eL fLen (lCons (eVar 1) lNil)) (eC (.int 8))) (eAnd (eB eqV' (eL fSorted (lCons (eVar 1) lNil)) (eListR1 false (eL fLen (lCons (eVar 1) lNil)))) (eB eqV' (eVar 2) (eL fSorted (lCons (eVar 2) lNil)))))))))
abbrev M_is_parting : Fn := fnB 5 m_is_parting
theorem sc_is_parting : FnScope ["value", "items", "firsts", "block", "item"] ["value"] (defScope s_is_parting) := ⟨rfl, rfl, rfl, by decide +kernel, rfl, by decide +kernel, by decide +kernel⟩
theorem ok_is_parting {P : Program} {w : World} {K : PySem.W.Frag} {mg : Str → Option Value} {base : Heap} {fd : FuncData} (F : FK P K mg base) (D : FunD K "is_parting" "is_parting" (defArgs s_is_parting) (defBody s_is_parting) (defScope s_is_parting) (d_is_parting.dvs K) [] (fAd K d_is_parting.at_) fd) :
    FnG P w K mg base (cadK tb K) 5 (fAd K d_is_parting.at_) fd ["value"] 1 M_is_parting :=
  fn_mirrorT (k := 4) D sc_is_parting fun A outer s H E hr hgd tk hp =>
  (ss_cons (s_if (L2.PW.pt (sw_or (st_not (st_val (se_isi (is_tuple F) (.ty _) rfl (F.free 23 rfl) boot_isinstance (se_var 0) (pe_bltn (v := .ty "tuple") rfl (F.free 22 rfl) boot_tuple rfl)))) (sw_or1 (st_not (st_val (se_blt (cl_all rfl) rfl (F.free 26 rfl) boot_all (sa_cons (se_lc rfl sc_is_parting.nd (si_seq (se_var 0)) (blkOk_by (own := [("block", 3)]) (by show blkC ["value", "items", "firsts", "block", "item"] (defScope s_is_parting) _ _ = true; decide +kernel)) (fun _ _ _ _ _ => (pg_nm sc_is_parting.nd rfl (Or.inl rfl))) (fun _ _ _ _ _ => sts_nil) (fun _ _ _ _ _ => (se_call (ow_is_block F (hr.mono (by decide)) hgd) LamX.takes0 rfl (F.glo 28 rfl) (kp_is_block F) (sa_cons (se_var 3) sa_nil))) rfl (by decide)) sa_nil))))))) (ss_one (s_ret se_bl)) ss_nil)
  (ss_cons (s_setLc2 rfl sc_is_parting.nd rfl rfl rfl (si_seq (se_var 0)) (blkOk_by (own := [("block", 3), ("item", 4)]) (by show blkC ["value", "items", "firsts", "block", "item"] (defScope s_is_parting) _ _ = true; decide +kernel)) (fun _ _ _ _ _ => (pg_nm sc_is_parting.nd rfl (Or.inl rfl))) (fun _ _ _ _ _ => sts_nil) (fun _ _ _ _ _ => (si_seq (se_var 3))) (fun _ _ _ _ _ => (pg_nm sc_is_parting.nd rfl (Or.inl rfl))) (fun _ _ _ _ _ => sts_nil) (fun _ _ _ _ _ => (se_var 4)) rfl (by decide) (by decide) (by decide))
  (ss_cons (s_setLc rfl sc_is_parting.nd rfl rfl rfl (si_seq (se_var 0)) (blkOk_by (own := [("block", 3)]) (by show blkC ["value", "items", "firsts", "block", "item"] (defScope s_is_parting) _ _ = true; decide +kernel)) (fun _ _ _ _ _ => (pg_nm sc_is_parting.nd rfl (Or.inl rfl))) (fun _ _ _ _ _ => sts_nil) (fun _ _ _ _ _ => (se_ix (Nat.lt_of_le_of_lt (Nat.add_le_add_left (by decide : 1 ≤ 64) _) hr.units) (se_var 3) se_int)) rfl (by decide))
  (ss_one (s_ret (se_and (se_cmp o_le (se_blt cl_len rfl (F.free 15 rfl) boot_len (sa_cons (se_var 1) sa_nil)) ((F.intc 29 rfl).elim fun t h => se_glob (v := .int 8) rfl h ⟨t, rfl⟩ fun _ => mk_int _)) (se_and (se_cmp (o_eq hr.units) (se_blt (cl_sorted hr.units) rfl (F.free 30 rfl) boot_sorted (sa_cons (se_var 1) sa_nil)) (se_listR1 rfl (F.free 14 rfl) rfl (F.free 19 rfl) (se_blt cl_len rfl (F.free 15 rfl) boot_len (sa_cons (se_var 1) sa_nil)))) (se_one (se_cmp (o_eq hr.units) (se_var 2) (se_blt (cl_sorted hr.units) rfl (F.free 30 rfl) boot_sorted (sa_cons (se_var 2) sa_nil)))))))))))
theorem kp_is_parting {X : Cx} (F : FX X) : PySem.W.keepIn X.K (.ref (fAd X.K d_is_parting.at_)) = true := (F.d 8 rfl).elim fun _ D => D.kp
theorem ow_is_parting {X : Cx} (F : FX X) (hr : Room 6 X.A) (hgd : X.A.guards = some []) : Own X (cadK tb X.K) (fAd X.K d_is_parting.at_) 1 M_is_parting [] := ⟨(F.d 8 rfl).elim fun fd D => ⟨fd, _, 5, [], [], ok_is_parting F D, hr, hgd, D.bindsN fun _ _ _ _ _ _ us hl => match us, hl with | [_], _ => rfl, .nil, fun _ => RLs.nil⟩⟩
def m_need_parting : Sv := (sIf (tNot' (eTest (eL (fCall 1 M_is_parting []) (lCons (eVar 0) lNil)))) (sRaise 6 ["value"] (lCons (eVar 0) lNil)) sNil)
abbrev M_need_parting : Fn := fnB 1 m_need_parting
theorem sc_need_parting : FnScope ["parting"] ["parting"] (defScope s_need_parting) := ⟨rfl, rfl, rfl, by decide +kernel, rfl, by decide +kernel, by decide +kernel⟩
theorem ok_need_parting {P : Program} {w : World} {K : PySem.W.Frag} {mg : Str → Option Value} {base : Heap} {fd : FuncData} (F : FK P K mg base) (D : FunD K "need_parting" "need_parting" (defArgs s_need_parting) (defBody s_need_parting) (defScope s_need_parting) (d_need_parting.dvs K) [] (fAd K d_need_parting.at_) fd) :
    FnG P w K mg base (cadK tb K) 7 (fAd K d_need_parting.at_) fd ["parting"] 1 M_need_parting :=
  fn_mirrorT (k := 6) D sc_need_parting fun A outer s H E hr hgd tk hp =>
  (ss_one (s_if (st_not (st_val (se_call (ow_is_parting F (hr.mono (by decide)) hgd) tk rfl (F.glo 31 rfl) (kp_is_parting F) (sa_cons (se_var 0) sa_nil)))) (ss_one (s_raise (ex_BadParting F) (by decide) (by decide) (rm_depth hr) rfl tk rfl (F.glo 32 rfl) (F.free 33 rfl) (sa_cons (se_var 0) sa_nil))) ss_nil))
theorem kp_need_parting {X : Cx} (F : FX X) : PySem.W.keepIn X.K (.ref (fAd X.K d_need_parting.at_)) = true := (F.d 9 rfl).elim fun _ D => D.kp
theorem ow_need_parting {X : Cx} (F : FX X) (hr : Room 8 X.A) (hgd : X.A.guards = some []) : Own X (cadK tb X.K) (fAd X.K d_need_parting.at_) 1 M_need_parting [] := ⟨(F.d 9 rfl).elim fun fd D => ⟨fd, _, 7, [], [], ok_need_parting F D, hr, hgd, D.bindsN fun _ _ _ _ _ _ us hl => match us, hl with | [_], _ => rfl, .nil, fun _ => RLs.nil⟩⟩
def m_block_of_each : Sv := (sSeq (sSet 1 (eB (repV true) (eL fFl (lCons (eC (.int 0)) lNil)) (eL (fSum (withR (addV []) [])) (lCons (eLc false (eIt (eVar 0)) (.nm 3) tYes' (eL fLen (lCons (eVar 3) lNil)) [3]) lNil))))
  (sSeq (sFor (eEnum (eVar 0)) (.tp [2, 3]) (sFor (eIt (eVar 3)) (.nm 4) (sSub (eVar 1) (eVar 4) (eVar 2))))
  (sRet (eU fFrz (eVar 1)))))
abbrev M_block_of_each : Fn := fnB 5 m_block_of_each
theorem sc_block_of_each : FnScope ["parting", "found", "index", "block", "item"] ["parting"] (defScope s_block_of_each) := ⟨rfl, rfl, rfl, by decide +kernel, rfl, by decide +kernel, by decide +kernel⟩
theorem ok_block_of_each {P : Program} {w : World} {K : PySem.W.Frag} {mg : Str → Option Value} {base : Heap} {fd : FuncData} (F : FK P K mg base) (D : FunD K "block_of_each" "block_of_each" (defArgs s_block_of_each) (defBody s_block_of_each) (defScope s_block_of_each) (d_block_of_each.dvs K) [] (fAd K d_block_of_each.at_) fd) :
    FnG P w K mg base (cadK tb K) 1 (fAd K d_block_of_each.at_) fd ["parting"] 1 M_block_of_each :=
  fn_mirrorT (k := 0) D sc_block_of_each fun A outer s H E hr hgd tk hp =>
  (ss_cons (s_set (i := 1) sc_block_of_each.nd rfl (Or.inl rfl) (se_bin (o_rep true) (se_fl (sa_cons se_int sa_nil)) (se_blt (cl_sum hr.hd (o_withR intop_add .nil takes_inn (o_add .nil takes_inn)) (fun _ _ _ => rfl)) rfl (F.free 34 rfl) boot_sum (sa_cons (se_lc rfl sc_block_of_each.nd (si_seq (se_var 0)) (blkOk_by (own := [("block", 3)]) (by show blkC ["parting", "found", "index", "block", "item"] (defScope s_block_of_each) _ _ = true; decide +kernel)) (fun _ _ _ _ _ => (pg_nm sc_block_of_each.nd rfl (Or.inl rfl))) (fun _ _ _ _ _ => sts_nil) (fun _ _ _ _ _ => (se_blt cl_len rfl (F.free 15 rfl) boot_len (sa_cons (se_var 3) sa_nil))) rfl (by decide)) sa_nil))))
  (ss_cons (s_for hp rfl (si_enum rfl (F.free 17 rfl) (se_var 0)) (pg_tp rfl (pgs_cons (pg_nm sc_block_of_each.nd rfl (Or.inl rfl)) (pgs_cons (pg_nm sc_block_of_each.nd rfl (Or.inl rfl)) pgs_nil))) (ss_one (s_for hp rfl (si_seq (se_var 3)) (pg_nm sc_block_of_each.nd rfl (Or.inl rfl)) (ss_one (s_sub (Nat.lt_of_le_of_lt (Nat.add_le_add_left (by decide : 1 ≤ 64) _) hr.units) (se_var 1) (se_var 4) (se_var 2))))))
  (ss_one (s_ret (se_frz (se_var 1))))))
theorem kp_block_of_each {X : Cx} (F : FX X) : PySem.W.keepIn X.K (.ref (fAd X.K d_block_of_each.at_)) = true := (F.d 10 rfl).elim fun _ D => D.kp
theorem ow_block_of_each {X : Cx} (F : FX X) (hr : Room 2 X.A) (hgd : X.A.guards = some []) : Own X (cadK tb X.K) (fAd X.K d_block_of_each.at_) 1 M_block_of_each [] := ⟨(F.d 10 rfl).elim fun fd D => ⟨fd, _, 1, [], [], ok_block_of_each F D, hr, hgd, D.bindsN fun _ _ _ _ _ _ us hl => match us, hl with | [_], _ => rfl, .nil, fun _ => RLs.nil⟩⟩
def m_first_crossing : Sv := (sSeq (sSet 1 (eL (fCall 1 M_block_of_each []) (lCons (eVar 0) lNil)))
  (sSeq (sSet 2 (eL fLen (lCons (eVar 1) lNil)))
  (sSeq (sFor (eRng1 (eVar 2)) (.nm 3) (sFor (eIt (eLc false (eRng2 (eB (addV []) (eVar 3) (eC (.int 1))) (eVar 2)) (.nm 4) (eTest (eB neV' (eB fIx (eVar 1) (eVar 4)) (eB fIx (eVar 1) (eVar 3)))) (eVar 4) [4])) (.nm 4) (sFor (eIt (eLc false (eRng2 (eB (addV []) (eVar 4) (eC (.int 1))) (eVar 2)) (.nm 5) (eTest (eB eqV' (eB fIx (eVar 1) (eVar 5)) (eB fIx (eVar 1) (eVar 3)))) (eVar 5) [5])) (.nm 5) (sFor (eIt (eLc false (eRng2 (eB (addV []) (eVar 5) (eC (.int 1))) (eVar 2)) (.nm 6) (eTest (eB eqV' (eB fIx (eVar 1) (eVar 6)) (eB fIx (eVar 1) (eVar 4)))) (eVar 6) [6])) (.nm 6) (sRet (eL fTup (lCons (eVar 3) (lCons (eVar 4) (lCons (eVar 5) (lCons (eVar 6) lNil))))))))))
  (sRet (eC .non)))))
abbrev M_first_crossing : Fn := fnB 7 m_first_crossing
theorem sc_first_crossing : FnScope ["parting", "at", "many", "a", "b", "c", "d"] ["parting"] (defScope s_first_crossing) := ⟨rfl, rfl, rfl, by decide +kernel, rfl, by decide +kernel, by decide +kernel⟩
theorem ok_first_crossing {P : Program} {w : World} {K : PySem.W.Frag} {mg : Str → Option Value} {base : Heap} {fd : FuncData} (F : FK P K mg base) (D : FunD K "first_crossing" "first_crossing" (defArgs s_first_crossing) (defBody s_first_crossing) (defScope s_first_crossing) (d_first_crossing.dvs K) [] (fAd K d_first_crossing.at_) fd) :
    FnG P w K mg base (cadK tb K) 3 (fAd K d_first_crossing.at_) fd ["parting"] 1 M_first_crossing :=
  fn_mirrorT (k := 2) D sc_first_crossing fun A outer s H E hr hgd tk hp =>
  (ss_cons (s_set (i := 1) sc_first_crossing.nd rfl (Or.inr rfl) (se_call (ow_block_of_each F (hr.mono (by decide)) hgd) tk rfl (F.glo 35 rfl) (kp_block_of_each F) (sa_cons (se_var 0) sa_nil)))
  (ss_cons (s_set (i := 2) sc_first_crossing.nd rfl (Or.inl rfl) (se_blt cl_len rfl (F.free 15 rfl) boot_len (sa_cons (se_var 1) sa_nil)))
  (ss_cons (s_for hp rfl (si_rng1 rfl (F.free 19 rfl) (se_var 2)) (pg_nm sc_first_crossing.nd rfl (Or.inr rfl)) (ss_one (s_for hp rfl (si_seq (se_lc rfl sc_first_crossing.nd (si_rng2 rfl (F.free 19 rfl) (se_bin (o_add .nil tk) (se_var 3) se_int) (se_var 2)) (blkOk_by (own := [("b", 4)]) (by show blkC ["parting", "at", "many", "a", "b", "c", "d"] (defScope s_first_crossing) _ _ = true; decide +kernel)) (fun _ _ _ _ _ => (pg_nm sc_first_crossing.nd rfl (Or.inl rfl))) (fun _ _ _ _ _ => (sts_one (st_cmp (o_ne hr.units) (se_ix (Nat.lt_of_le_of_lt (Nat.add_le_add_left (by decide : 1 ≤ 64) _) hr.units) (se_var 1) (se_var 4)) (se_ix (Nat.lt_of_le_of_lt (Nat.add_le_add_left (by decide : 1 ≤ 64) _) hr.units) (se_var 1) (se_var 3))))) (fun _ _ _ _ _ => (se_var 4)) rfl (by decide))) (pg_nm sc_first_crossing.nd rfl (Or.inr rfl)) (ss_one (s_for hp rfl (si_seq (se_lc rfl sc_first_crossing.nd (si_rng2 rfl (F.free 19 rfl) (se_bin (o_add .nil tk) (se_var 4) se_int) (se_var 2)) (blkOk_by (own := [("c", 5)]) (by show blkC ["parting", "at", "many", "a", "b", "c", "d"] (defScope s_first_crossing) _ _ = true; decide +kernel)) (fun _ _ _ _ _ => (pg_nm sc_first_crossing.nd rfl (Or.inl rfl))) (fun _ _ _ _ _ => (sts_one (st_cmp (o_eq hr.units) (se_ix (Nat.lt_of_le_of_lt (Nat.add_le_add_left (by decide : 1 ≤ 64) _) hr.units) (se_var 1) (se_var 5)) (se_ix (Nat.lt_of_le_of_lt (Nat.add_le_add_left (by decide : 1 ≤ 64) _) hr.units) (se_var 1) (se_var 3))))) (fun _ _ _ _ _ => (se_var 5)) rfl (by decide))) (pg_nm sc_first_crossing.nd rfl (Or.inl rfl)) (ss_one (s_for hp rfl (si_seq (se_lc rfl sc_first_crossing.nd (si_rng2 rfl (F.free 19 rfl) (se_bin (o_add .nil tk) (se_var 5) se_int) (se_var 2)) (blkOk_by (own := [("d", 6)]) (by show blkC ["parting", "at", "many", "a", "b", "c", "d"] (defScope s_first_crossing) _ _ = true; decide +kernel)) (fun _ _ _ _ _ => (pg_nm sc_first_crossing.nd rfl (Or.inl rfl))) (fun _ _ _ _ _ => (sts_one (st_cmp (o_eq hr.units) (se_ix (Nat.lt_of_le_of_lt (Nat.add_le_add_left (by decide : 1 ≤ 64) _) hr.units) (se_var 1) (se_var 6)) (se_ix (Nat.lt_of_le_of_lt (Nat.add_le_add_left (by decide : 1 ≤ 64) _) hr.units) (se_var 1) (se_var 4))))) (fun _ _ _ _ _ => (se_var 6)) rfl (by decide))) (pg_nm sc_first_crossing.nd rfl (Or.inl rfl)) (ss_one (s_ret (se_tup (sa_cons (se_var 3) (sa_cons (se_var 4) (sa_cons (se_var 5) (sa_cons (se_var 6) sa_nil))))))))))))))
  (ss_one (s_ret se_non)))))
theorem kp_first_crossing {X : Cx} (F : FX X) : PySem.W.keepIn X.K (.ref (fAd X.K d_first_crossing.at_)) = true := (F.d 11 rfl).elim fun _ D => D.kp
theorem ow_first_crossing {X : Cx} (F : FX X) (hr : Room 4 X.A) (hgd : X.A.guards = some []) : Own X (cadK tb X.K) (fAd X.K d_first_crossing.at_) 1 M_first_crossing [] := ⟨(F.d 11 rfl).elim fun fd D => ⟨fd, _, 3, [], [], ok_first_crossing F D, hr, hgd, D.bindsN fun _ _ _ _ _ _ us hl => match us, hl with | [_], _ => rfl, .nil, fun _ => RLs.nil⟩⟩
def m_can_join : Sv := (sSeq (sFor (eIt (eVar 0)) (.nm 3) (sSeq (sSet 4 (eL fLen (lCons (eLc false (eIt (eVar 3)) (.nm 5) (eTest (eChain ltV leV (eVar 1) (eVar 5) (eVar 2))) (eVar 5) [5]) lNil)))
  (sIf (eTest (eChain ltV ltV (eC (.int 0)) (eVar 4) (eL fLen (lCons (eVar 3) lNil)))) (sRet (eC (.bl false))) sNil)))
  (sRet (eC (.bl true))))
abbrev M_can_join : Fn := fnB 6 m_can_join
theorem sc_can_join : FnScope ["parting", "i", "j", "block", "inside", "item"] ["parting", "i", "j"] (defScope s_can_join) := ⟨rfl, rfl, rfl, by decide +kernel, rfl, by decide +kernel, by decide +kernel⟩
theorem ok_can_join {P : Program} {w : World} {K : PySem.W.Frag} {mg : Str → Option Value} {base : Heap} {fd : FuncData} (F : FK P K mg base) (D : FunD K "can_join" "can_join" (defArgs s_can_join) (defBody s_can_join) (defScope s_can_join) (d_can_join.dvs K) [] (fAd K d_can_join.at_) fd) :
    FnG P w K mg base (cadK tb K) 1 (fAd K d_can_join.at_) fd ["parting", "i", "j"] 3 M_can_join :=
  fn_mirrorT (k := 0) D sc_can_join fun A outer s H E hr hgd tk hp =>
  (ss_cons (s_for hp rfl (si_seq (se_var 0)) (pg_nm sc_can_join.nd rfl (Or.inl rfl)) (ss_cons (s_set (i := 4) sc_can_join.nd rfl (Or.inl rfl) (se_blt cl_len rfl (F.free 15 rfl) boot_len (sa_cons (se_lc rfl sc_can_join.nd (si_seq (se_var 3)) (blkOk_by (own := [("item", 5)]) (by show blkC ["parting", "i", "j", "block", "inside", "item"] (defScope s_can_join) _ _ = true; decide +kernel)) (fun _ _ _ _ _ => (pg_nm sc_can_join.nd rfl (Or.inl rfl))) (fun _ _ _ _ _ => (sts_one (st_chain o_lt o_le (se_var 1) (se_var 5) (se_var 2)))) (fun _ _ _ _ _ => (se_var 5)) rfl (by decide)) sa_nil)))
  (ss_one (s_if (st_chain o_lt o_lt se_int (se_var 4) (se_blt cl_len rfl (F.free 15 rfl) boot_len (sa_cons (se_var 3) sa_nil))) (ss_one (s_ret se_bl)) ss_nil))))
  (ss_one (s_ret se_bl)))
theorem kp_can_join {X : Cx} (F : FX X) : PySem.W.keepIn X.K (.ref (fAd X.K d_can_join.at_)) = true := (F.d 12 rfl).elim fun _ D => D.kp
theorem ow_can_join {X : Cx} (F : FX X) (hr : Room 2 X.A) (hgd : X.A.guards = some []) : Own X (cadK tb X.K) (fAd X.K d_can_join.at_) 3 M_can_join [] := ⟨(F.d 12 rfl).elim fun fd D => ⟨fd, _, 1, [], [], ok_can_join F D, hr, hgd, D.bindsN fun _ _ _ _ _ _ us hl => match us, hl with | [_, _, _], _ => rfl, .nil, fun _ => RLs.nil⟩⟩
def m_complement : Sv := (sSeq (sExpr (eL (fCall 1 M_need_parting []) (lCons (eVar 0) lNil)))
  (sSeq (sSet 1 (eL (fCall 1 M_first_crossing []) (lCons (eVar 0) lNil)))
  (sSeq (sIf (eTest (eB notNon (eVar 1) (eC .non))) (sRaise 8 ["a", "b", "c", "d"] (lCons (eB fIx (eVar 1) (eC (.int 0))) (lCons (eB fIx (eVar 1) (eC (.int 1))) (lCons (eB fIx (eVar 1) (eC (.int 2))) (lCons (eB fIx (eVar 1) (eC (.int 3))) lNil))))) sNil)
  (sSeq (sSet 2 eRls0)
  (sSeq (sFor (eRng1 (eL (fSum (withR (addV []) [])) (lCons (eLc false (eIt (eVar 0)) (.nm 5) tYes' (eL fLen (lCons (eVar 5) lNil)) [5]) lNil))) (.nm 3) (sSeq (sSet 4 (eHold 2 (eLc false (eEnumH (eVar 2)) (.tp [6, 5]) (eTest (eL (fCall 3 M_can_join []) (lCons (eVar 0) (lCons (eB fIx (eVar 5) (eC (.int 0))) (lCons (eVar 3) lNil))))) (eVar 6) [6, 5])))
  (sIf (eTest (eB gtV (eL fLen (lCons (eVar 4) lNil)) (eC (.int 0)))) (sExpr (eApp (eB fIxN (eVar 2) (eB fIx (eVar 4) (eC (.int 0)))) (eVar 3))) (sAppN 2 (lCons (eVar 3) lNil)))))
  (sRet (eHold 2 (eL fTuple (lCons (eLc false (eItH (eVar 2)) (.nm 5) tYes' (eL fTuple (lCons (eVar 5) lNil)) [5]) lNil)))))))))
abbrev M_complement : Fn := fnB 7 m_complement
theorem sc_complement : FnScope ["parting", "four", "blocks", "j", "fit", "block", "k"] ["parting"] (defScope s_complement) := ⟨rfl, rfl, rfl, by decide +kernel, rfl, by decide +kernel, by decide +kernel⟩
theorem ok_complement {P : Program} {w : World} {K : PySem.W.Frag} {mg : Str → Option Value} {base : Heap} {fd : FuncData} (F : FK P K mg base) (D : FunD K "complement" "complement" (defArgs s_complement) (defBody s_complement) (defScope s_complement) (d_complement.dvs K) [] (fAd K d_complement.at_) fd) :
    FnG P w K mg base (cadK tb K) 9 (fAd K d_complement.at_) fd ["parting"] 1 M_complement :=
  fn_mirrorT (k := 8) D sc_complement fun A outer s H E hr hgd tk hp =>
  (ss_cons (s_expr (se_call (ow_need_parting F (hr.mono (by decide)) hgd) tk rfl (F.glo 36 rfl) (kp_need_parting F) (sa_cons (se_var 0) sa_nil)))
  (ss_cons (s_set (i := 1) sc_complement.nd rfl (Or.inl rfl) (se_call (ow_first_crossing F (hr.mono (by decide)) hgd) tk rfl (F.glo 37 rfl) (kp_first_crossing F) (sa_cons (se_var 0) sa_nil)))
  (ss_cons (s_if (st_cmp o_notN (se_var 1) se_non) (ss_one (s_raise (ex_Crossed F) (by decide) (by decide) (rm_depth hr) rfl tk rfl (F.glo 38 rfl) (F.free 33 rfl) (sa_cons (se_ix (Nat.lt_of_le_of_lt (Nat.add_le_add_left (by decide : 1 ≤ 64) _) hr.units) (se_var 1) se_int) (sa_cons (se_ix (Nat.lt_of_le_of_lt (Nat.add_le_add_left (by decide : 1 ≤ 64) _) hr.units) (se_var 1) se_int) (sa_cons (se_ix (Nat.lt_of_le_of_lt (Nat.add_le_add_left (by decide : 1 ≤ 64) _) hr.units) (se_var 1) se_int) (sa_cons (se_ix (Nat.lt_of_le_of_lt (Nat.add_le_add_left (by decide : 1 ≤ 64) _) hr.units) (se_var 1) se_int) sa_nil)))))) ss_nil)
  (ss_cons (s_set (i := 2) sc_complement.nd rfl (Or.inl rfl) se_rls0)
  (ss_cons (s_for hp rfl (si_rng1 rfl (F.free 19 rfl) (se_blt (cl_sum hr.hd (o_withR intop_add .nil takes_inn (o_add .nil takes_inn)) (fun _ _ _ => rfl)) rfl (F.free 34 rfl) boot_sum (sa_cons (se_lc rfl sc_complement.nd (si_seq (se_var 0)) (blkOk_by (own := [("block", 5)]) (by show blkC ["parting", "four", "blocks", "j", "fit", "block", "k"] (defScope s_complement) _ _ = true; decide +kernel)) (fun _ _ _ _ _ => (pg_nm sc_complement.nd rfl (Or.inl rfl))) (fun _ _ _ _ _ => sts_nil) (fun _ _ _ _ _ => (se_blt cl_len rfl (F.free 15 rfl) boot_len (sa_cons (se_var 5) sa_nil))) rfl (by decide)) sa_nil))) (pg_nm sc_complement.nd rfl (Or.inr rfl)) (ss_cons (s_setLcH rfl sc_complement.nd rfl rfl rfl (si_enumH rfl (F.free 17 rfl) (se_var 2)) (blkOk_by (own := [("k", 6), ("block", 5)]) (by show blkC ["parting", "four", "blocks", "j", "fit", "block", "k"] (defScope s_complement) _ _ = true; decide +kernel)) (fun _ _ _ _ _ => (pg_tp rfl (pgs_cons (pg_nm sc_complement.nd rfl (Or.inl rfl)) (pgs_cons (pg_nm sc_complement.nd rfl (Or.inl rfl)) pgs_nil)))) (fun _ _ _ _ _ => (sts_one (st_val (se_call (ow_can_join F (hr.mono (by decide)) hgd) LamX.takes0 rfl (F.glo 39 rfl) (kp_can_join F) (sa_cons (se_var 0) (sa_cons (se_ix (Nat.lt_of_le_of_lt (Nat.add_le_add_left (by decide : 1 ≤ 64) _) hr.units) (se_var 5) se_int) (sa_cons (se_var 3) sa_nil))))))) (fun _ _ _ _ _ => (se_var 6)) rfl (by decide))
  (ss_one (s_if (st_cmp o_gt (se_blt cl_len rfl (F.free 15 rfl) boot_len (sa_cons (se_var 4) sa_nil)) se_int) (ss_one (s_expr (se_app (se_ixN (se_var 2) (se_ix (Nat.lt_of_le_of_lt (Nat.add_le_add_left (by decide : 1 ≤ 64) _) hr.units) (se_var 4) se_int)) (se_var 3)))) (ss_one (s_appN (i := 2) rfl (Or.inl rfl) (sa_cons (se_var 3) sa_nil)))))))
  (ss_one (s_ret (se_hold 2 (se_ty cl_tuple rfl (F.free 22 rfl) boot_tuple (sa_cons (se_lc rfl sc_complement.nd (si_seqH (se_var 2)) (blkOk_by (own := [("block", 5)]) (by show blkC ["parting", "four", "blocks", "j", "fit", "block", "k"] (defScope s_complement) _ _ = true; decide +kernel)) (fun _ _ _ _ _ => (pg_nm sc_complement.nd rfl (Or.inl rfl))) (fun _ _ _ _ _ => sts_nil) (fun _ _ _ _ _ => (se_ty cl_tuple rfl (F.free 22 rfl) boot_tuple (sa_cons (se_var 5) sa_nil))) rfl (by decide)) sa_nil))))))))))
theorem kp_complement {X : Cx} (F : FX X) : PySem.W.keepIn X.K (.ref (fAd X.K d_complement.at_)) = true := (F.d 13 rfl).elim fun _ D => D.kp
theorem ow_complement {X : Cx} (F : FX X) (hr : Room 10 X.A) (hgd : X.A.guards = some []) : Own X (cadK tb X.K) (fAd X.K d_complement.at_) 1 M_complement [] := ⟨(F.d 13 rfl).elim fun fd D => ⟨fd, _, 9, [], [], ok_complement F D, hr, hgd, D.bindsN fun _ _ _ _ _ _ us hl => match us, hl with | [_], _ => rfl, .nil, fun _ => RLs.nil⟩⟩
def HL_law_m_caught : List Hd := [(0, some 1, xTup [xC (.str "number"), xF "what", xR (xF "value")]),
  (1, some 1, xTup [xC (.str "row"), xR (xF "value")]),
  (2, some 1, xTup [xC (.str "item"), xR (xF "value")]),
  (3, some 1, xTup [xC (.str "rule"), xF "why"]),
  (4, none, xTup [xC (.str "table")]),
  (5, some 1, xTup [xC (.str "above"), xF "index"]),
  (6, some 1, xTup [xC (.str "parting"), xR (xF "value")]),
  (7, some 1, xTup [xC (.str "sort"), xR (xF "value")]),
  (8, some 1, xTup [xC (.str "crossed"), xF "a", xF "b", xF "c", xF "d"]),
  (9, some 1, xTup [xC (.str "one"), xR (xF "value")]),
  (10, some 1, xTup [xC (.str "word"), xR (xF "value")]),
  (11, some 1, xTup [xC (.str "step"), xF "index"]),
  (12, some 1, xTup [xC (.str "high"), xF "height"])]
theorem sc_law_m_caught : FnScope ["call", "e"] ["call"] (defScope s_law_m_caught) := ⟨rfl, rfl, rfl, by decide +kernel, rfl, by decide +kernel, by decide +kernel⟩
theorem catch_law_m_caught {X : Cx} (F : FX X) (hr : Room 1 X.A) (hgd : X.A.guards = some []) : CatchD X (cadK tb X.K) "_law_m_caught" "call" "told" HL_law_m_caught := by
  obtain ⟨fd, D⟩ := F.d 14 rfl
  have kp := D.kp
  have hb : ∀ kV doc pm an cdv ct, L2.Binds X.K (PySem.W.fnOf "_law_m_caught" "_law_m_caught" (defArgs s_law_m_caught) (defBody s_law_m_caught) (defScope s_law_m_caught) .none kV doc pm an cdv ct) ["call"] [] := fun kV doc pm an cdv ct => Binds.all fun us hl => match us, hl with | [_], _ => rfl
  obtain ⟨oc, od, dV, kV, doc, pm, an, cdv, ct, osl, rfl, lk, hcd, hdv, _⟩ := D.ex
  have hdV : dV = .none := hdv.elim (fun h => h.2) fun h => absurd rfl h.1
  subst hdV
  refine ⟨⟨fAd X.K d_law_m_caught.at_, defArgs s_law_m_caught, defBody s_law_m_caught, defScope s_law_m_caught, .none, kV, doc, pm, cdv, ct, oc, an, od, osl, ["call", "e"], _, _, _, _, _, _, _, _, _, _, (F.glo 81 rfl), kp, lk, hcd, hb _ _ _ _ _ _, sc_law_m_caught, rfl, Or.inl rfl, by decide, rfl, fun s H => ?_⟩, fun c hc h hh => ?_⟩
  · exact (.as_ rfl rfl ⟨rfl, by decide, .inl (F.glo 79 rfl)⟩ (fun _ _ _ _ _ hz hf => sx_ret (sx_tup (sx_cons sx_str (sx_cons (sx_fld (i := 1) (xfB_ok (F.c 41 rfl)) (He.noat_ok (F.fa 40 rfl)) hz hf rfl (Or.inl rfl)) (sx_cons (sx_repr rfl (F.free 43 rfl) hgd (hr.deeper _).units (sx_fld (i := 1) (xfB_ok (F.c 41 rfl)) (He.noat_ok (F.fa 42 rfl)) hz hf rfl (Or.inl rfl))) sx_nil)))))
    (.as_ rfl rfl ⟨rfl, by decide, .inl (F.glo 78 rfl)⟩ (fun _ _ _ _ _ hz hf => sx_ret (sx_tup (sx_cons sx_str (sx_cons (sx_repr rfl (F.free 43 rfl) hgd (hr.deeper _).units (sx_fld (i := 1) (xfB_ok (F.c 45 rfl)) (He.noat_ok (F.fa 44 rfl)) hz hf rfl (Or.inl rfl))) sx_nil))))
    (.as_ rfl rfl ⟨rfl, by decide, .inl (F.glo 77 rfl)⟩ (fun _ _ _ _ _ hz hf => sx_ret (sx_tup (sx_cons sx_str (sx_cons (sx_repr rfl (F.free 43 rfl) hgd (hr.deeper _).units (sx_fld (i := 1) (xfB_ok (F.c 47 rfl)) (He.noat_ok (F.fa 46 rfl)) hz hf rfl (Or.inl rfl))) sx_nil))))
    (.as_ rfl rfl ⟨rfl, by decide, .inl (F.glo 76 rfl)⟩ (fun _ _ _ _ _ hz hf => sx_ret (sx_tup (sx_cons sx_str (sx_cons (sx_fld (i := 1) (xfB_ok (F.c 49 rfl)) (He.noat_ok (F.fa 48 rfl)) hz hf rfl (Or.inl rfl)) sx_nil))))
    (.bare ⟨rfl, by decide, .inl (F.glo 75 rfl)⟩ (fun _ _ _ _ _ hz hf => sx_ret (sx_tup (sx_cons sx_str sx_nil)))
    (.as_ rfl rfl ⟨rfl, by decide, .inl (F.glo 74 rfl)⟩ (fun _ _ _ _ _ hz hf => sx_ret (sx_tup (sx_cons sx_str (sx_cons (sx_fld (i := 1) (xfB_ok (F.c 51 rfl)) (He.noat_ok (F.fa 50 rfl)) hz hf rfl (Or.inl rfl)) sx_nil))))
    (.as_ rfl rfl ⟨rfl, by decide, .inl (F.glo 32 rfl)⟩ (fun _ _ _ _ _ hz hf => sx_ret (sx_tup (sx_cons sx_str (sx_cons (sx_repr rfl (F.free 43 rfl) hgd (hr.deeper _).units (sx_fld (i := 1) (xfB_ok (F.c 53 rfl)) (He.noat_ok (F.fa 52 rfl)) hz hf rfl (Or.inl rfl))) sx_nil))))
    (.as_ rfl rfl ⟨rfl, by decide, .inl (F.glo 73 rfl)⟩ (fun _ _ _ _ _ hz hf => sx_ret (sx_tup (sx_cons sx_str (sx_cons (sx_repr rfl (F.free 43 rfl) hgd (hr.deeper _).units (sx_fld (i := 1) (xfB_ok (F.c 55 rfl)) (He.noat_ok (F.fa 54 rfl)) hz hf rfl (Or.inl rfl))) sx_nil))))
    (.as_ rfl rfl ⟨rfl, by decide, .inl (F.glo 38 rfl)⟩ (fun _ _ _ _ _ hz hf => sx_ret (sx_tup (sx_cons sx_str (sx_cons (sx_fld (i := 1) (xfB_ok (F.c 57 rfl)) (He.noat_ok (F.fa 56 rfl)) hz hf rfl (Or.inl rfl)) (sx_cons (sx_fld (i := 1) (xfB_ok (F.c 57 rfl)) (He.noat_ok (F.fa 58 rfl)) hz hf rfl (Or.inl rfl)) (sx_cons (sx_fld (i := 1) (xfB_ok (F.c 57 rfl)) (He.noat_ok (F.fa 59 rfl)) hz hf rfl (Or.inl rfl)) (sx_cons (sx_fld (i := 1) (xfB_ok (F.c 57 rfl)) (He.noat_ok (F.fa 60 rfl)) hz hf rfl (Or.inl rfl)) sx_nil)))))))
    (.as_ rfl rfl ⟨rfl, by decide, .inl (F.glo 72 rfl)⟩ (fun _ _ _ _ _ hz hf => sx_ret (sx_tup (sx_cons sx_str (sx_cons (sx_repr rfl (F.free 43 rfl) hgd (hr.deeper _).units (sx_fld (i := 1) (xfB_ok (F.c 62 rfl)) (He.noat_ok (F.fa 61 rfl)) hz hf rfl (Or.inl rfl))) sx_nil))))
    (.as_ rfl rfl ⟨rfl, by decide, .inl (F.glo 71 rfl)⟩ (fun _ _ _ _ _ hz hf => sx_ret (sx_tup (sx_cons sx_str (sx_cons (sx_repr rfl (F.free 43 rfl) hgd (hr.deeper _).units (sx_fld (i := 1) (xfB_ok (F.c 64 rfl)) (He.noat_ok (F.fa 63 rfl)) hz hf rfl (Or.inl rfl))) sx_nil))))
    (.as_ rfl rfl ⟨rfl, by decide, .inl (F.glo 70 rfl)⟩ (fun _ _ _ _ _ hz hf => sx_ret (sx_tup (sx_cons sx_str (sx_cons (sx_fld (i := 1) (xfB_ok (F.c 66 rfl)) (He.noat_ok (F.fa 65 rfl)) hz hf rfl (Or.inl rfl)) sx_nil))))
    (.as_ rfl rfl ⟨rfl, by decide, .inl (F.glo 69 rfl)⟩ (fun _ _ _ _ _ hz hf => sx_ret (sx_tup (sx_cons sx_str (sx_cons (sx_fld (i := 1) (xfB_ok (F.c 68 rfl)) (He.noat_ok (F.fa 67 rfl)) hz hf rfl (Or.inl rfl)) sx_nil))))
    .nil)))))))))))))
  · exact exm_num (cN := clsN) (L := HL_law_m_caught.map (·.1)) (F.c 80 rfl) (by decide) (by decide +kernel) hc (List.mem_map_of_mem hh)
def m_law_together : Sv := (sSeq (sSet 2 (eLc false (eIt (eVar 0)) (.nm 3) tYes' (eL fTuple (lCons (eLc false (eIt (eVar 3)) (.nm 4) tYes' (eB (mulV []) (eC (.int 2)) (eVar 4)) [4]) lNil)) [3]))
  (sRet (eB (addV []) (eVar 2) (eLc false (eIt (eVar 1)) (.nm 3) tYes' (eL fTuple (lCons (eLc false (eIt (eVar 3)) (.nm 4) tYes' (eB (addV []) (eB (mulV []) (eC (.int 2)) (eVar 4)) (eC (.int 1))) [4]) lNil)) [3]))))
abbrev M_law_together : Fn := fnB 5 m_law_together
theorem sc_law_together : FnScope ["parting", "other", "found", "block", "item"] ["parting", "other"] (defScope s_law_together) := ⟨rfl, rfl, rfl, by decide +kernel, rfl, by decide +kernel, by decide +kernel⟩
theorem ok_law_together {P : Program} {w : World} {K : PySem.W.Frag} {mg : Str → Option Value} {base : Heap} {fd : FuncData} (F : FK P K mg base) (D : FunD K "_law_together" "_law_together" (defArgs s_law_together) (defBody s_law_together) (defScope s_law_together) (d_law_together.dvs K) [] (fAd K d_law_together.at_) fd) :
    FnG P w K mg base (cadK tb K) 1 (fAd K d_law_together.at_) fd ["parting", "other"] 2 M_law_together :=
  fn_mirrorT (k := 0) D sc_law_together fun A outer s H E hr hgd tk hp =>
  (ss_cons (s_setLc rfl sc_law_together.nd rfl rfl rfl (si_seq (se_var 0)) (blkOk_by (own := [("block", 3)]) (by show blkC ["parting", "other", "found", "block", "item"] (defScope s_law_together) _ _ = true; decide +kernel)) (fun _ _ _ _ _ => (pg_nm sc_law_together.nd rfl (Or.inl rfl))) (fun _ _ _ _ _ => sts_nil) (fun _ _ _ _ _ => (se_ty cl_tuple rfl (F.free 22 rfl) boot_tuple (sa_cons (se_lc rfl sc_law_together.nd (si_seq (se_var 3)) (blkOk_by (own := [("item", 4)]) (by kernel_rfl)) (fun _ _ _ _ _ => (pg_nm sc_law_together.nd rfl (Or.inl rfl))) (fun _ _ _ _ _ => sts_nil) (fun _ _ _ _ _ => (se_bin (o_mul .nil LamX.takes0) se_int (se_var 4))) rfl (by decide)) sa_nil))) rfl (by decide))
  (ss_one (s_ret (se_bin (o_add .nil tk) (se_var 2) (se_lc rfl sc_law_together.nd (si_seq (se_var 1)) (blkOk_by (own := [("block", 3)]) (by show blkC ["parting", "other", "found", "block", "item"] (defScope s_law_together) _ _ = true; decide +kernel)) (fun _ _ _ _ _ => (pg_nm sc_law_together.nd rfl (Or.inl rfl))) (fun _ _ _ _ _ => sts_nil) (fun _ _ _ _ _ => (se_ty cl_tuple rfl (F.free 22 rfl) boot_tuple (sa_cons (se_lc rfl sc_law_together.nd (si_seq (se_var 3)) (blkOk_by (own := [("item", 4)]) (by kernel_rfl)) (fun _ _ _ _ _ => (pg_nm sc_law_together.nd rfl (Or.inl rfl))) (fun _ _ _ _ _ => sts_nil) (fun _ _ _ _ _ => (se_bin (o_add .nil LamX.takes0) (se_bin (o_mul .nil LamX.takes0) se_int (se_var 4)) se_int)) rfl (by decide)) sa_nil))) rfl (by decide))))))
theorem kp_law_together {X : Cx} (F : FX X) : PySem.W.keepIn X.K (.ref (fAd X.K d_law_together.at_)) = true := (F.d 15 rfl).elim fun _ D => D.kp
theorem ow_law_together {X : Cx} (F : FX X) (hr : Room 2 X.A) (hgd : X.A.guards = some []) : Own X (cadK tb X.K) (fAd X.K d_law_together.at_) 2 M_law_together [] := ⟨(F.d 15 rfl).elim fun fd D => ⟨fd, _, 1, [], [], ok_law_together F D, hr, hgd, D.bindsN fun _ _ _ _ _ _ us hl => match us, hl with | [_, _], _ => rfl, .nil, fun _ => RLs.nil⟩⟩
def m_law_is_right : Sv := (sSeq (sSet 2 (eL (fSum (withR (addV []) [])) (lCons (eLc false (eIt (eVar 0)) (.nm 9) tYes' (eL fLen (lCons (eVar 9) lNil)) [9]) lNil)))
  (sSeq (sIf (tOr' (tNot' (eTest (eL (fCall 1 M_is_parting []) (lCons (eVar 1) lNil)))) (eTest (eB neV' (eL (fSum (withR (addV []) [])) (lCons (eLc false (eIt (eVar 1)) (.nm 9) tYes' (eL fLen (lCons (eVar 9) lNil)) [9]) lNil)) (eVar 2)))) (sRet (eC (.bl false))) sNil)
  (sSeq (sIf (tOr' (eTest (eL (fCall 1 M_law_m_is_crossed []) (lCons (eL (fCall 2 M_law_together []) (lCons (eVar 0) (lCons (eVar 1) lNil))) lNil))) (tAnd' (eTest (eB gtV (eVar 2) (eC (.int 0)))) (eTest (eB neV' (eB (addV []) (eL fLen (lCons (eVar 0) lNil)) (eL fLen (lCons (eVar 1) lNil))) (eB (addV []) (eVar 2) (eC (.int 1))))))) (sRet (eC (.bl false))) sNil)
  (sSeq (sFor (eRng1 (eL fLen (lCons (eVar 1) lNil))) (.nm 3) (sFor (eRng1 (eVar 3)) (.nm 4) (sSeq (sSet 5 (eL fTuple (lCons (eL fSortedT (lCons (eB (addV []) (eB fIx (eVar 1) (eVar 3)) (eB fIx (eVar 1) (eVar 4))) lNil)) lNil)))
  (sSeq (sSet 6 (eLc false (eEnum (eVar 1)) (.tp [10, 9]) (eTest (eB (inL true) (eVar 10) (eL fFl (lCons (eVar 3) (lCons (eVar 4) lNil))))) (eVar 9) [10, 9]))
  (sIf (tNot' (eTest (eL (fCall 1 M_law_m_is_crossed []) (lCons (eL (fCall 2 M_law_together []) (lCons (eVar 0) (lCons (eB (addV []) (eVar 6) (eL fFl (lCons (eVar 5) lNil))) lNil))) lNil)))) (sRet (eC (.bl false))) sNil)))))
  (sSeq (sSet 7 (eL (fCall 1 M_complement []) (lCons (eVar 1) lNil)))
  (sSeq (sSet 8 (eL fSortedT (lCons (eLc false (eIt (eVar 0)) (.nm 9) tYes' (eL fTuple (lCons (eL fSortedT (lCons (eLc false (eIt (eVar 9)) (.nm 11) tYes' (eIf (eTest (eB gtV (eVar 11) (eC (.int 0)))) (eB (subV []) (eVar 11) (eC (.int 1))) (eB (subV []) (eVar 2) (eC (.int 1)))) [11]) lNil)) lNil)) [9]) lNil)))
  (sRet (eB eqV' (eVar 7) (eL fTuple (lCons (eVar 8) lNil))))))))))
abbrev M_law_is_right : Fn := fnB 12 m_law_is_right
theorem sc_law_is_right : FnScope ["parting", "told", "n", "i", "j", "one", "rest", "again", "turned", "block", "k", "item"] ["parting", "told"] (defScope s_law_is_right) := ⟨rfl, rfl, rfl, by decide +kernel, rfl, by decide +kernel, by decide +kernel⟩
theorem ok_law_is_right {P : Program} {w : World} {K : PySem.W.Frag} {mg : Str → Option Value} {base : Heap} {fd : FuncData} (F : FK P K mg base) (D : FunD K "_law_is_right" "_law_is_right" (defArgs s_law_is_right) (defBody s_law_is_right) (defScope s_law_is_right) (d_law_is_right.dvs K) [] (fAd K d_law_is_right.at_) fd) :
    FnG P w K mg base (cadK tb K) 11 (fAd K d_law_is_right.at_) fd ["parting", "told"] 2 M_law_is_right :=
  fn_mirrorT (k := 10) D sc_law_is_right fun A outer s H E hr hgd tk hp =>
  (ss_cons (s_set (i := 2) sc_law_is_right.nd rfl (Or.inr rfl) (se_blt (cl_sum hr.hd (o_withR intop_add .nil takes_inn (o_add .nil takes_inn)) (fun _ _ _ => rfl)) rfl (F.free 34 rfl) boot_sum (sa_cons (se_lc rfl sc_law_is_right.nd (si_seq (se_var 0)) (blkOk_by (own := [("block", 9)]) (by show blkC ["parting", "told", "n", "i", "j", "one", "rest", "again", "turned", "block", "k", "item"] (defScope s_law_is_right) _ _ = true; decide +kernel)) (fun _ _ _ _ _ => (pg_nm sc_law_is_right.nd rfl (Or.inl rfl))) (fun _ _ _ _ _ => sts_nil) (fun _ _ _ _ _ => (se_blt cl_len rfl (F.free 15 rfl) boot_len (sa_cons (se_var 9) sa_nil))) rfl (by decide)) sa_nil)))
  (ss_cons (s_if (L2.PW.pt (sw_or (st_not (st_val (se_call (ow_is_parting F (hr.mono (by decide)) hgd) tk rfl (F.glo 31 rfl) (kp_is_parting F) (sa_cons (se_var 1) sa_nil)))) (sw_or1 (st_cmp (o_ne hr.units) (se_blt (cl_sum hr.hd (o_withR intop_add .nil takes_inn (o_add .nil takes_inn)) (fun _ _ _ => rfl)) rfl (F.free 34 rfl) boot_sum (sa_cons (se_lc rfl sc_law_is_right.nd (si_seq (se_var 1)) (blkOk_by (own := [("block", 9)]) (by show blkC ["parting", "told", "n", "i", "j", "one", "rest", "again", "turned", "block", "k", "item"] (defScope s_law_is_right) _ _ = true; decide +kernel)) (fun _ _ _ _ _ => (pg_nm sc_law_is_right.nd rfl (Or.inl rfl))) (fun _ _ _ _ _ => sts_nil) (fun _ _ _ _ _ => (se_blt cl_len rfl (F.free 15 rfl) boot_len (sa_cons (se_var 9) sa_nil))) rfl (by decide)) sa_nil)) (se_var 2))))) (ss_one (s_ret se_bl)) ss_nil)
  (ss_cons (s_if (L2.PW.pt (sw_or (st_val (se_call (ow_law_m_is_crossed F (hr.mono (by decide)) hgd) tk rfl (F.glo 20 rfl) (kp_law_m_is_crossed F) (sa_cons (se_call (ow_law_together F (hr.mono (by decide)) hgd) tk rfl (F.glo 82 rfl) (kp_law_together F) (sa_cons (se_var 0) (sa_cons (se_var 1) sa_nil))) sa_nil))) (sw_or1 (L2.PW.pt (sw_and (st_cmp o_gt (se_var 2) se_int) (sw_and1 (st_cmp (o_ne hr.units) (se_bin (o_add .nil tk) (se_blt cl_len rfl (F.free 15 rfl) boot_len (sa_cons (se_var 0) sa_nil)) (se_blt cl_len rfl (F.free 15 rfl) boot_len (sa_cons (se_var 1) sa_nil))) (se_bin (o_add .nil tk) (se_var 2) se_int)))))))) (ss_one (s_ret se_bl)) ss_nil)
  (ss_cons (s_for hp rfl (si_rng1 rfl (F.free 19 rfl) (se_blt cl_len rfl (F.free 15 rfl) boot_len (sa_cons (se_var 1) sa_nil))) (pg_nm sc_law_is_right.nd rfl (Or.inr rfl)) (ss_one (s_for hp rfl (si_rng1 rfl (F.free 19 rfl) (se_var 3)) (pg_nm sc_law_is_right.nd rfl (Or.inr rfl)) (ss_cons (s_set (i := 5) sc_law_is_right.nd rfl (Or.inl rfl) (se_ty cl_tuple rfl (F.free 22 rfl) boot_tuple (sa_cons (se_blt (cl_sortedT hr.units) rfl (F.free 30 rfl) boot_sorted (sa_cons (se_bin (o_add .nil tk) (se_ix (Nat.lt_of_le_of_lt (Nat.add_le_add_left (by decide : 1 ≤ 64) _) hr.units) (se_var 1) (se_var 3)) (se_ix (Nat.lt_of_le_of_lt (Nat.add_le_add_left (by decide : 1 ≤ 64) _) hr.units) (se_var 1) (se_var 4))) sa_nil)) sa_nil)))
  (ss_cons (s_setLc rfl sc_law_is_right.nd rfl rfl rfl (si_enum rfl (F.free 17 rfl) (se_var 1)) (blkOk_by (own := [("k", 10), ("block", 9)]) (by show blkC ["parting", "told", "n", "i", "j", "one", "rest", "again", "turned", "block", "k", "item"] (defScope s_law_is_right) _ _ = true; decide +kernel)) (fun _ _ _ _ _ => (pg_tp rfl (pgs_cons (pg_nm sc_law_is_right.nd rfl (Or.inl rfl)) (pgs_cons (pg_nm sc_law_is_right.nd rfl (Or.inl rfl)) pgs_nil)))) (fun _ _ _ _ _ => (sts_one (st_cmp o_notin (se_var 10) (se_fl (sa_cons (se_var 3) (sa_cons (se_var 4) sa_nil)))))) (fun _ _ _ _ _ => (se_var 9)) rfl (by decide))
  (ss_one (s_if (st_not (st_val (se_call (ow_law_m_is_crossed F (hr.mono (by decide)) hgd) tk rfl (F.glo 20 rfl) (kp_law_m_is_crossed F) (sa_cons (se_call (ow_law_together F (hr.mono (by decide)) hgd) tk rfl (F.glo 82 rfl) (kp_law_together F) (sa_cons (se_var 0) (sa_cons (se_bin (o_add .nil tk) (se_var 6) (se_fl (sa_cons (se_var 5) sa_nil))) sa_nil))) sa_nil)))) (ss_one (s_ret se_bl)) ss_nil)))))))
  (ss_cons (s_set (i := 7) sc_law_is_right.nd rfl (Or.inl rfl) (se_call (ow_complement F (hr.mono (by decide)) hgd) tk rfl (F.glo 83 rfl) (kp_complement F) (sa_cons (se_var 1) sa_nil)))
  (ss_cons (s_set (i := 8) sc_law_is_right.nd rfl (Or.inl rfl) (se_blt (cl_sortedT hr.units) rfl (F.free 30 rfl) boot_sorted (sa_cons (se_lc rfl sc_law_is_right.nd (si_seq (se_var 0)) (blkOk_by (own := [("block", 9)]) (by show blkC ["parting", "told", "n", "i", "j", "one", "rest", "again", "turned", "block", "k", "item"] (defScope s_law_is_right) _ _ = true; decide +kernel)) (fun _ _ _ _ _ => (pg_nm sc_law_is_right.nd rfl (Or.inl rfl))) (fun _ _ _ _ _ => sts_nil) (fun _ _ _ _ _ => (se_ty cl_tuple rfl (F.free 22 rfl) boot_tuple (sa_cons (se_blt (cl_sortedT hr.units) rfl (F.free 30 rfl) boot_sorted (sa_cons (se_lc rfl sc_law_is_right.nd (si_seq (se_var 9)) (blkOk_by (own := [("item", 11)]) (by kernel_rfl)) (fun _ _ _ _ _ => (pg_nm sc_law_is_right.nd rfl (Or.inl rfl))) (fun _ _ _ _ _ => sts_nil) (fun _ _ _ _ _ => (se_if (st_cmp o_gt (se_var 11) se_int) (se_bin (o_sub .nil LamX.takes0) (se_var 11) se_int) (se_bin (o_sub .nil LamX.takes0) (se_var 2) se_int))) rfl (by decide)) sa_nil)) sa_nil))) rfl (by decide)) sa_nil)))
  (ss_one (s_ret (se_cmp (o_eq hr.units) (se_var 7) (se_ty cl_tuple rfl (F.free 22 rfl) boot_tuple (sa_cons (se_var 8) sa_nil)))))))))))
theorem kp_law_is_right {X : Cx} (F : FX X) : PySem.W.keepIn X.K (.ref (fAd X.K d_law_is_right.at_)) = true := (F.d 16 rfl).elim fun _ D => D.kp
theorem ow_law_is_right {X : Cx} (F : FX X) (hr : Room 12 X.A) (hgd : X.A.guards = some []) : Own X (cadK tb X.K) (fAd X.K d_law_is_right.at_) 2 M_law_is_right [] := ⟨(F.d 16 rfl).elim fun fd D => ⟨fd, _, 11, [], [], ok_law_is_right F D, hr, hgd, D.bindsN fun _ _ _ _ _ _ us hl => match us, hl with | [_, _], _ => rfl, .nil, fun _ => RLs.nil⟩⟩
def m_need_sort : Sv := (sIf (tOr' (tNot' (eTest (eU (fIsi tb_is_str) (eVar 0)))) (eTest (eB (inL true) (eVar 0) (eVar 1)))) (sRaise 7 ["value"] (lCons (eVar 0) lNil)) sNil)
abbrev M_need_sort : Fn := fnB 2 m_need_sort
theorem sc_need_sort : FnScope ["sort", "sorts"] ["sort", "sorts"] (defScope s_need_sort) := ⟨rfl, rfl, rfl, by decide +kernel, rfl, by decide +kernel, by decide +kernel⟩
theorem ok_need_sort {P : Program} {w : World} {K : PySem.W.Frag} {mg : Str → Option Value} {base : Heap} {fd : FuncData} (F : FK P K mg base) (D : FunD K "need_sort" "need_sort" (defArgs s_need_sort) (defBody s_need_sort) (defScope s_need_sort) (d_need_sort.dvs K) [] (fAd K d_need_sort.at_) fd) :
    FnG P w K mg base (cadK tb K) 1 (fAd K d_need_sort.at_) fd ["sort", "sorts"] 2 M_need_sort :=
  fn_mirrorT (k := 0) D sc_need_sort fun A outer s H E hr hgd tk hp =>
  (ss_one (s_if (L2.PW.pt (sw_or (st_not (st_val (se_isi (is_str F) (.ty _) rfl (F.free 23 rfl) boot_isinstance (se_var 0) (pe_bltn (v := .ty "str") rfl (F.free 84 rfl) boot_str rfl)))) (sw_or1 (st_cmp o_notin (se_var 0) (se_var 1))))) (ss_one (s_raise (ex_BadSort F) (by decide) (by decide) (rm_depth hr) rfl tk rfl (F.glo 73 rfl) (F.free 33 rfl) (sa_cons (se_var 0) sa_nil))) ss_nil))
theorem kp_need_sort {X : Cx} (F : FX X) : PySem.W.keepIn X.K (.ref (fAd X.K d_need_sort.at_)) = true := (F.d 17 rfl).elim fun _ D => D.kp
theorem ow_need_sort {X : Cx} (F : FX X) (hr : Room 2 X.A) (hgd : X.A.guards = some []) : Own X (cadK tb X.K) (fAd X.K d_need_sort.at_) 2 M_need_sort [] := ⟨(F.d 17 rfl).elim fun fd D => ⟨fd, _, 1, [], [], ok_need_sort F D, hr, hgd, D.bindsN fun _ _ _ _ _ _ us hl => match us, hl with | [_, _], _ => rfl, .nil, fun _ => RLs.nil⟩⟩
def m_with_item : Sv := (sSeq (sSet 2 (eL fLst (lCons (eB (addV []) (eVar 0) (eL fTup (lCons (eL fTup (lCons (eVar 1) lNil)) lNil))) lNil)))
  (sSeq (sFor (eEnum (eVar 0)) (.tp [3, 4]) (sExpr (eApp (eVar 2) (eB (addV []) (eB (addV []) (eSlice (eVar 0) none (some (eVar 3))) (eL fTup (lCons (eB (addV []) (eVar 4) (eL fTup (lCons (eVar 1) lNil))) lNil))) (eSlice (eVar 0) (some (eB (addV []) (eVar 3) (eC (.int 1)))) none)))))
  (sRet (eU fFrz (eVar 2)))))
abbrev M_with_item : Fn := fnB 5 m_with_item
theorem sc_with_item : FnScope ["parting", "item", "found", "k", "block"] ["parting", "item"] (defScope s_with_item) := ⟨rfl, rfl, rfl, by decide +kernel, rfl, by decide +kernel, by decide +kernel⟩
theorem ok_with_item {P : Program} {w : World} {K : PySem.W.Frag} {mg : Str → Option Value} {base : Heap} {fd : FuncData} (F : FK P K mg base) (D : FunD K "with_item" "with_item" (defArgs s_with_item) (defBody s_with_item) (defScope s_with_item) (d_with_item.dvs K) [] (fAd K d_with_item.at_) fd) :
    FnG P w K mg base (cadK tb K) 1 (fAd K d_with_item.at_) fd ["parting", "item"] 2 M_with_item :=
  fn_mirrorT (k := 0) D sc_with_item fun A outer s H E hr hgd tk hp =>
  (ss_cons (s_set (i := 2) sc_with_item.nd rfl (Or.inl rfl) (se_lst (sa_cons (se_bin (o_add .nil tk) (se_var 0) (se_tup (sa_cons (se_tup (sa_cons (se_var 1) sa_nil)) sa_nil))) sa_nil)))
  (ss_cons (s_for hp rfl (si_enum rfl (F.free 17 rfl) (se_var 0)) (pg_tp rfl (pgs_cons (pg_nm sc_with_item.nd rfl (Or.inl rfl)) (pgs_cons (pg_nm sc_with_item.nd rfl (Or.inl rfl)) pgs_nil))) (ss_one (s_expr (se_app (se_var 2) (se_bin (o_add .nil tk) (se_bin (o_add .nil tk) (se_slice (se_var 0) sp_none (sp_some (se_var 3))) (se_tup (sa_cons (se_bin (o_add .nil tk) (se_var 4) (se_tup (sa_cons (se_var 1) sa_nil))) sa_nil))) (se_slice (se_var 0) (sp_some (se_bin (o_add .nil tk) (se_var 3) se_int)) sp_none))))))
  (ss_one (s_ret (se_frz (se_var 2))))))
theorem kp_with_item {X : Cx} (F : FX X) : PySem.W.keepIn X.K (.ref (fAd X.K d_with_item.at_)) = true := (F.d 18 rfl).elim fun _ D => D.kp
theorem ow_with_item {X : Cx} (F : FX X) (hr : Room 2 X.A) (hgd : X.A.guards = some []) : Own X (cadK tb X.K) (fAd X.K d_with_item.at_) 2 M_with_item [] := ⟨(F.d 18 rfl).elim fun fd D => ⟨fd, _, 1, [], [], ok_with_item F D, hr, hgd, D.bindsN fun _ _ _ _ _ _ us hl => match us, hl with | [_, _], _ => rfl, .nil, fun _ => RLs.nil⟩⟩
def m_is_in_rows : Sv := (sRet (eL fAll (lCons (eLc false (eIt (eVar 0)) (.nm 1) tYes' (eB eqV' (eB (addV []) (eB (subV []) (eB fIx (eVar 1) (eU negV (eC (.int 1)))) (eB fIx (eVar 1) (eC (.int 0)))) (eC (.int 1))) (eL fLen (lCons (eVar 1) lNil))) [1]) lNil)))
abbrev M_is_in_rows : Fn := fnB 2 m_is_in_rows
theorem sc_is_in_rows : FnScope ["parting", "block"] ["parting"] (defScope s_is_in_rows) := ⟨rfl, rfl, rfl, by decide +kernel, rfl, by decide +kernel, by decide +kernel⟩
theorem ok_is_in_rows {P : Program} {w : World} {K : PySem.W.Frag} {mg : Str → Option Value} {base : Heap} {fd : FuncData} (F : FK P K mg base) (D : FunD K "is_in_rows" "is_in_rows" (defArgs s_is_in_rows) (defBody s_is_in_rows) (defScope s_is_in_rows) (d_is_in_rows.dvs K) [] (fAd K d_is_in_rows.at_) fd) :
    FnG P w K mg base (cadK tb K) 1 (fAd K d_is_in_rows.at_) fd ["parting"] 1 M_is_in_rows :=
  fn_mirrorT (k := 0) D sc_is_in_rows fun A outer s H E hr hgd tk hp =>
  (ss_one (s_ret (se_blt (cl_all rfl) rfl (F.free 26 rfl) boot_all (sa_cons (se_lc rfl sc_is_in_rows.nd (si_seq (se_var 0)) (blkOk_by (own := [("block", 1)]) (by show blkC ["parting", "block"] (defScope s_is_in_rows) _ _ = true; decide +kernel)) (fun _ _ _ _ _ => (pg_nm sc_is_in_rows.nd rfl (Or.inl rfl))) (fun _ _ _ _ _ => sts_nil) (fun _ _ _ _ _ => (se_cmp (o_eq hr.units) (se_bin (o_add .nil LamX.takes0) (se_bin (o_sub .nil LamX.takes0) (se_ix (Nat.lt_of_le_of_lt (Nat.add_le_add_left (by decide : 1 ≤ 64) _) hr.units) (se_var 1) (se_un o_neg se_int)) (se_ix (Nat.lt_of_le_of_lt (Nat.add_le_add_left (by decide : 1 ≤ 64) _) hr.units) (se_var 1) se_int)) se_int) (se_blt cl_len rfl (F.free 15 rfl) boot_len (sa_cons (se_var 1) sa_nil)))) rfl (by decide)) sa_nil))))
theorem kp_is_in_rows {X : Cx} (F : FX X) : PySem.W.keepIn X.K (.ref (fAd X.K d_is_in_rows.at_)) = true := (F.d 19 rfl).elim fun _ D => D.kp
theorem ow_is_in_rows {X : Cx} (F : FX X) (hr : Room 2 X.A) (hgd : X.A.guards = some []) : Own X (cadK tb X.K) (fAd X.K d_is_in_rows.at_) 1 M_is_in_rows [] := ⟨(F.d 19 rfl).elim fun fd D => ⟨fd, _, 1, [], [], ok_is_in_rows F D, hr, hgd, D.bindsN fun _ _ _ _ _ _ us hl => match us, hl with | [_], _ => rfl, .nil, fun _ => RLs.nil⟩⟩
def m_are_crossed : Sv := (sSeq (sFor (eZip2 (eVar 0) (eSlice (eVar 0) (some (eC (.int 1))) none)) (.tp [2, 3]) (sSeq (sSet 4 (eL fLen (lCons (eLc false (eIt (eVar 1)) (.nm 5) (eTest (eChain ltV ltV (eVar 2) (eVar 5) (eVar 3))) (eVar 5) [5]) lNil)))
  (sIf (eTest (eChain ltV ltV (eC (.int 0)) (eVar 4) (eL fLen (lCons (eVar 1) lNil)))) (sRet (eC (.bl true))) sNil)))
  (sRet (eC (.bl false))))
abbrev M_are_crossed : Fn := fnB 6 m_are_crossed
theorem sc_are_crossed : FnScope ["one", "other", "low", "high", "inside", "item"] ["one", "other"] (defScope s_are_crossed) := ⟨rfl, rfl, rfl, by decide +kernel, rfl, by decide +kernel, by decide +kernel⟩
theorem ok_are_crossed {P : Program} {w : World} {K : PySem.W.Frag} {mg : Str → Option Value} {base : Heap} {fd : FuncData} (F : FK P K mg base) (D : FunD K "are_crossed" "are_crossed" (defArgs s_are_crossed) (defBody s_are_crossed) (defScope s_are_crossed) (d_are_crossed.dvs K) [] (fAd K d_are_crossed.at_) fd) :
    FnG P w K mg base (cadK tb K) 1 (fAd K d_are_crossed.at_) fd ["one", "other"] 2 M_are_crossed :=
  fn_mirrorT (k := 0) D sc_are_crossed fun A outer s H E hr hgd tk hp =>
  (ss_cons (s_for hp rfl (si_zip rfl (F.free 27 rfl) (se_var 0) (se_slice (se_var 0) (sp_some se_int) sp_none)) (pg_tp rfl (pgs_cons (pg_nm sc_are_crossed.nd rfl (Or.inr rfl)) (pgs_cons (pg_nm sc_are_crossed.nd rfl (Or.inr rfl)) pgs_nil))) (ss_cons (s_set (i := 4) sc_are_crossed.nd rfl (Or.inl rfl) (se_blt cl_len rfl (F.free 15 rfl) boot_len (sa_cons (se_lc rfl sc_are_crossed.nd (si_seq (se_var 1)) (blkOk_by (own := [("item", 5)]) (by show blkC ["one", "other", "low", "high", "inside", "item"] (defScope s_are_crossed) _ _ = true; decide +kernel)) (fun _ _ _ _ _ => (pg_nm sc_are_crossed.nd rfl (Or.inl rfl))) (fun _ _ _ _ _ => (sts_one (st_chain o_lt o_lt (se_var 2) (se_var 5) (se_var 3)))) (fun _ _ _ _ _ => (se_var 5)) rfl (by decide)) sa_nil)))
  (ss_one (s_if (st_chain o_lt o_lt se_int (se_var 4) (se_blt cl_len rfl (F.free 15 rfl) boot_len (sa_cons (se_var 1) sa_nil))) (ss_one (s_ret se_bl)) ss_nil))))
  (ss_one (s_ret se_bl)))
theorem kp_are_crossed {X : Cx} (F : FX X) : PySem.W.keepIn X.K (.ref (fAd X.K d_are_crossed.at_)) = true := (F.d 20 rfl).elim fun _ D => D.kp
theorem ow_are_crossed {X : Cx} (F : FX X) (hr : Room 2 X.A) (hgd : X.A.guards = some []) : Own X (cadK tb X.K) (fAd X.K d_are_crossed.at_) 2 M_are_crossed [] := ⟨(F.d 20 rfl).elim fun fd D => ⟨fd, _, 1, [], [], ok_are_crossed F D, hr, hgd, D.bindsN fun _ _ _ _ _ _ us hl => match us, hl with | [_, _], _ => rfl, .nil, fun _ => RLs.nil⟩⟩
def m_is_joined : Sv := (sSeq (sPar 1 2 (eL fLst (lCons (eC (.int 0)) lNil)) (eL fLst (lCons (eC (.int 0)) lNil)))
  (sSeq (sWhile (fun _ => 100) (tAnd' (eTest (eB gtV (eL fLen (lCons (eVar 2) lNil)) (eC (.int 0)))) (eTest (eB gtV (eL fLen (lCons (eVar 0) lNil)) (eC (.int 0))))) (sSeq (sSet 3 (ePop (eVar 2)))
  (sFor (eRng1 (eL fLen (lCons (eVar 0) lNil))) (.nm 4) (sIf (tAnd' (eTest (eB (inL true) (eVar 4) (eVar 1))) (eTest (eL (fCall 2 M_are_crossed []) (lCons (eB fIx (eVar 0) (eVar 3)) (lCons (eB fIx (eVar 0) (eVar 4)) lNil))))) (sSeq (sExpr (eApp (eVar 1) (eVar 4)))
  (sExpr (eApp (eVar 2) (eVar 4)))) sNil))))
  (sRet (eB geV (eL fLen (lCons (eVar 1) lNil)) (eL fLen (lCons (eVar 0) lNil))))))
abbrev M_is_joined : Fn := fnB 5 m_is_joined
theorem sc_is_joined : FnScope ["parting", "met", "waiting", "here", "k"] ["parting"] (defScope s_is_joined) := ⟨rfl, rfl, rfl, by decide +kernel, rfl, by decide +kernel, by decide +kernel⟩
theorem ok_is_joined {P : Program} {w : World} {K : PySem.W.Frag} {mg : Str → Option Value} {base : Heap} {fd : FuncData} (F : FK P K mg base) (D : FunD K "is_joined" "is_joined" (defArgs s_is_joined) (defBody s_is_joined) (defScope s_is_joined) (d_is_joined.dvs K) [] (fAd K d_is_joined.at_) fd) :
    FnG P w K mg base (cadK tb K) 3 (fAd K d_is_joined.at_) fd ["parting"] 1 M_is_joined :=
  fn_mirrorT (k := 2) D sc_is_joined fun A outer s H E hr hgd tk hp =>
  (ss_cons (s_par (i := 1) (j := 2) rfl sc_is_joined.nd rfl rfl (by decide) rfl rfl (se_lst (sa_cons se_int sa_nil)) (se_lst (sa_cons se_int sa_nil)) rfl)
  (ss_cons (s_while (fun _ => 100) hp (L2.PW.pt (sw_and (st_cmp o_gt (se_blt cl_len rfl (F.free 15 rfl) boot_len (sa_cons (se_var 2) sa_nil)) se_int) (sw_and1 (st_cmp o_gt (se_blt cl_len rfl (F.free 15 rfl) boot_len (sa_cons (se_var 0) sa_nil)) se_int)))) (ss_cons (s_set (i := 3) sc_is_joined.nd rfl (Or.inl rfl) (se_pop (se_var 2)))
  (ss_one (s_for hp rfl (si_rng1 rfl (F.free 19 rfl) (se_blt cl_len rfl (F.free 15 rfl) boot_len (sa_cons (se_var 0) sa_nil))) (pg_nm sc_is_joined.nd rfl (Or.inl rfl)) (ss_one (s_if (L2.PW.pt (sw_and (st_cmp o_notin (se_var 4) (se_var 1)) (sw_and1 (st_val (se_call (ow_are_crossed F (hr.mono (by decide)) hgd) tk rfl (F.glo 85 rfl) (kp_are_crossed F) (sa_cons (se_ix (Nat.lt_of_le_of_lt (Nat.add_le_add_left (by decide : 1 ≤ 64) _) hr.units) (se_var 0) (se_var 3)) (sa_cons (se_ix (Nat.lt_of_le_of_lt (Nat.add_le_add_left (by decide : 1 ≤ 64) _) hr.units) (se_var 0) (se_var 4)) sa_nil))))))) (ss_cons (s_expr (se_app (se_var 1) (se_var 4)))
  (ss_one (s_expr (se_app (se_var 2) (se_var 4))))) ss_nil))))))
  (ss_one (s_ret (se_cmp o_ge (se_blt cl_len rfl (F.free 15 rfl) boot_len (sa_cons (se_var 1) sa_nil)) (se_blt cl_len rfl (F.free 15 rfl) boot_len (sa_cons (se_var 0) sa_nil)))))))
theorem kp_is_joined {X : Cx} (F : FX X) : PySem.W.keepIn X.K (.ref (fAd X.K d_is_joined.at_)) = true := (F.d 21 rfl).elim fun _ D => D.kp
theorem ow_is_joined {X : Cx} (F : FX X) (hr : Room 4 X.A) (hgd : X.A.guards = some []) : Own X (cadK tb X.K) (fAd X.K d_is_joined.at_) 1 M_is_joined [] := ⟨(F.d 21 rfl).elim fun fd D => ⟨fd, _, 3, [], [], ok_is_joined F D, hr, hgd, D.bindsN fun _ _ _ _ _ _ us hl => match us, hl with | [_], _ => rfl, .nil, fun _ => RLs.nil⟩⟩
def m_is_whole : Sv := (sSeq (sSet 1 (eL (fSum (withR (addV []) [])) (lCons (eLc false (eIt (eVar 0)) (.nm 3) tYes' (eL fLen (lCons (eVar 3) lNil)) [3]) lNil)))
  (sSeq (sFor (eRng2 (eC (.int 1)) (eVar 1)) (.nm 2) (sIf (eTest (eL fAll (lCons (eLc false (eIt (eVar 0)) (.nm 3) tYes' (eOr (eB ltV (eB fIx (eVar 3) (eU negV (eC (.int 1)))) (eVar 2)) (eB geV (eB fIx (eVar 3) (eC (.int 0))) (eVar 2))) [3]) lNil))) (sRet (eC (.bl false))) sNil))
  (sRet (eC (.bl true)))))
abbrev M_is_whole : Fn := fnB 4 m_is_whole
theorem sc_is_whole : FnScope ["parting", "many", "k", "block"] ["parting"] (defScope s_is_whole) := ⟨rfl, rfl, rfl, by decide +kernel, rfl, by decide +kernel, by decide +kernel⟩
theorem ok_is_whole {P : Program} {w : World} {K : PySem.W.Frag} {mg : Str → Option Value} {base : Heap} {fd : FuncData} (F : FK P K mg base) (D : FunD K "is_whole" "is_whole" (defArgs s_is_whole) (defBody s_is_whole) (defScope s_is_whole) (d_is_whole.dvs K) [] (fAd K d_is_whole.at_) fd) :
    FnG P w K mg base (cadK tb K) 1 (fAd K d_is_whole.at_) fd ["parting"] 1 M_is_whole :=
  fn_mirrorT (k := 0) D sc_is_whole fun A outer s H E hr hgd tk hp =>
  (ss_cons (s_set (i := 1) sc_is_whole.nd rfl (Or.inl rfl) (se_blt (cl_sum hr.hd (o_withR intop_add .nil takes_inn (o_add .nil takes_inn)) (fun _ _ _ => rfl)) rfl (F.free 34 rfl) boot_sum (sa_cons (se_lc rfl sc_is_whole.nd (si_seq (se_var 0)) (blkOk_by (own := [("block", 3)]) (by show blkC ["parting", "many", "k", "block"] (defScope s_is_whole) _ _ = true; decide +kernel)) (fun _ _ _ _ _ => (pg_nm sc_is_whole.nd rfl (Or.inl rfl))) (fun _ _ _ _ _ => sts_nil) (fun _ _ _ _ _ => (se_blt cl_len rfl (F.free 15 rfl) boot_len (sa_cons (se_var 3) sa_nil))) rfl (by decide)) sa_nil)))
  (ss_cons (s_for hp rfl (si_rng2 rfl (F.free 19 rfl) se_int (se_var 1)) (pg_nm sc_is_whole.nd rfl (Or.inr rfl)) (ss_one (s_if (st_val (se_blt (cl_all rfl) rfl (F.free 26 rfl) boot_all (sa_cons (se_lc rfl sc_is_whole.nd (si_seq (se_var 0)) (blkOk_by (own := [("block", 3)]) (by show blkC ["parting", "many", "k", "block"] (defScope s_is_whole) _ _ = true; decide +kernel)) (fun _ _ _ _ _ => (pg_nm sc_is_whole.nd rfl (Or.inl rfl))) (fun _ _ _ _ _ => sts_nil) (fun _ _ _ _ _ => (se_or (se_cmp o_lt (se_ix (Nat.lt_of_le_of_lt (Nat.add_le_add_left (by decide : 1 ≤ 64) _) hr.units) (se_var 3) (se_un o_neg se_int)) (se_var 2)) (se_one (se_cmp o_ge (se_ix (Nat.lt_of_le_of_lt (Nat.add_le_add_left (by decide : 1 ≤ 64) _) hr.units) (se_var 3) se_int) (se_var 2))))) rfl (by decide)) sa_nil))) (ss_one (s_ret se_bl)) ss_nil)))
  (ss_one (s_ret se_bl))))
theorem kp_is_whole {X : Cx} (F : FX X) : PySem.W.keepIn X.K (.ref (fAd X.K d_is_whole.at_)) = true := (F.d 22 rfl).elim fun _ D => D.kp
theorem ow_is_whole {X : Cx} (F : FX X) (hr : Room 2 X.A) (hgd : X.A.guards = some []) : Own X (cadK tb X.K) (fAd X.K d_is_whole.at_) 1 M_is_whole [] := ⟨(F.d 22 rfl).elim fun fd D => ⟨fd, _, 1, [], [], ok_is_whole F D, hr, hgd, D.bindsN fun _ _ _ _ _ _ us hl => match us, hl with | [_], _ => rfl, .nil, fun _ => RLs.nil⟩⟩
def m_is_of : Sv := (sSeq (sIf (eTest (eB eqV' (eVar 1) (eC (.str "rows")))) (sRet (eL (fCall 1 M_is_in_rows []) (lCons (eVar 0) lNil))) sNil)
  (sSeq (sIf (eTest (eB eqV' (eVar 1) (eC (.str "joined")))) (sRet (eL (fCall 1 M_is_joined []) (lCons (eVar 0) lNil))) sNil)
  (sSeq (sIf (eTest (eB eqV' (eVar 1) (eC (.str "whole")))) (sRet (eL (fCall 1 M_is_whole []) (lCons (eVar 0) lNil))) sNil)
  (sSeq (sIf (eTest (eB eqV' (eVar 1) (eC (.str "all")))) (sRet (eC (.bl true))) sNil)
  (sRet (eAnd (eB isNon (eL (fCall 1 M_first_crossing []) (lCons (eVar 0) lNil)) (eC .non)) (eOr (eB eqV' (eVar 1) (eC (.str "uncrossed"))) (eL (fCall 1 M_is_whole []) (lCons (eVar 0) lNil)))))))))
abbrev M_is_of : Fn := fnB 2 m_is_of
theorem sc_is_of : FnScope ["parting", "sort"] ["parting", "sort"] (defScope s_is_of) := ⟨rfl, rfl, rfl, by decide +kernel, rfl, by decide +kernel, by decide +kernel⟩
theorem ok_is_of {P : Program} {w : World} {K : PySem.W.Frag} {mg : Str → Option Value} {base : Heap} {fd : FuncData} (F : FK P K mg base) (D : FunD K "is_of" "is_of" (defArgs s_is_of) (defBody s_is_of) (defScope s_is_of) (d_is_of.dvs K) [] (fAd K d_is_of.at_) fd) :
    FnG P w K mg base (cadK tb K) 5 (fAd K d_is_of.at_) fd ["parting", "sort"] 2 M_is_of :=
  fn_mirrorT (k := 4) D sc_is_of fun A outer s H E hr hgd tk hp =>
  (ss_cons (s_if (st_cmp (o_eq hr.units) (se_var 1) se_str) (ss_one (s_ret (se_call (ow_is_in_rows F (hr.mono (by decide)) hgd) tk rfl (F.glo 86 rfl) (kp_is_in_rows F) (sa_cons (se_var 0) sa_nil)))) ss_nil)
  (ss_cons (s_if (st_cmp (o_eq hr.units) (se_var 1) se_str) (ss_one (s_ret (se_call (ow_is_joined F (hr.mono (by decide)) hgd) tk rfl (F.glo 87 rfl) (kp_is_joined F) (sa_cons (se_var 0) sa_nil)))) ss_nil)
  (ss_cons (s_if (st_cmp (o_eq hr.units) (se_var 1) se_str) (ss_one (s_ret (se_call (ow_is_whole F (hr.mono (by decide)) hgd) tk rfl (F.glo 88 rfl) (kp_is_whole F) (sa_cons (se_var 0) sa_nil)))) ss_nil)
  (ss_cons (s_if (st_cmp (o_eq hr.units) (se_var 1) se_str) (ss_one (s_ret se_bl)) ss_nil)
  (ss_one (s_ret (se_and (se_cmp o_isN (se_call (ow_first_crossing F (hr.mono (by decide)) hgd) tk rfl (F.glo 37 rfl) (kp_first_crossing F) (sa_cons (se_var 0) sa_nil)) se_non) (se_one (se_or (se_cmp (o_eq hr.units) (se_var 1) se_str) (se_one (se_call (ow_is_whole F (hr.mono (by decide)) hgd) tk rfl (F.glo 88 rfl) (kp_is_whole F) (sa_cons (se_var 0) sa_nil))))))))))))
theorem kp_is_of {X : Cx} (F : FX X) : PySem.W.keepIn X.K (.ref (fAd X.K d_is_of.at_)) = true := (F.d 23 rfl).elim fun _ D => D.kp
theorem ow_is_of {X : Cx} (F : FX X) (hr : Room 6 X.A) (hgd : X.A.guards = some []) : Own X (cadK tb X.K) (fAd X.K d_is_of.at_) 2 M_is_of [] := ⟨(F.d 23 rfl).elim fun fd D => ⟨fd, _, 5, [], [], ok_is_of F D, hr, hgd, D.bindsN fun _ _ _ _ _ _ us hl => match us, hl with | [_, _], _ => rfl, .nil, fun _ => RLs.nil⟩⟩
def m_partings_of : Sv := (sSeq (sSet 2 (eL fFl (lCons (eL fTup lNil) lNil)))
  (sSeq (sFor (eRng1 (eVar 0)) (.nm 3) (sSet 2 (eLc2 false (eIt (eVar 2)) (.nm 4) tYes' (eIt (eL (fCall 2 M_with_item []) (lCons (eVar 4) (lCons (eVar 3) lNil)))) (.nm 5) tYes' (eVar 5) [4, 5] [5])))
  (sRet (eL fTuple (lCons (eL fSorted (lCons (eLc false (eIt (eVar 2)) (.nm 4) (eTest (eL (fCall 2 M_is_of []) (lCons (eVar 4) (lCons (eVar 1) lNil)))) (eVar 4) [4]) lNil)) lNil)))))
abbrev M_partings_of : Fn := fnB 6 m_partings_of
theorem sc_partings_of : FnScope ["n", "sort", "found", "item", "parting", "new"] ["n", "sort"] (defScope s_partings_of) := ⟨rfl, rfl, rfl, by decide +kernel, rfl, by decide +kernel, by decide +kernel⟩
theorem ok_partings_of {P : Program} {w : World} {K : PySem.W.Frag} {mg : Str → Option Value} {base : Heap} {fd : FuncData} (F : FK P K mg base) (D : FunD K "partings_of" "partings_of" (defArgs s_partings_of) (defBody s_partings_of) (defScope s_partings_of) (d_partings_of.dvs K) [] (fAd K d_partings_of.at_) fd) :
    FnG P w K mg base (cadK tb K) 7 (fAd K d_partings_of.at_) fd ["n", "sort"] 2 M_partings_of :=
  fn_mirrorT (k := 6) D sc_partings_of fun A outer s H E hr hgd tk hp =>
  (ss_cons (s_set (i := 2) sc_partings_of.nd rfl (Or.inl rfl) (se_fl (sa_cons (se_tup sa_nil) sa_nil)))
  (ss_cons (s_for hp rfl (si_rng1 rfl (F.free 19 rfl) (se_var 0)) (pg_nm sc_partings_of.nd rfl (Or.inr rfl)) (ss_one (s_setLc2 rfl sc_partings_of.nd rfl rfl rfl (si_seq (se_var 2)) (blkOk_by (own := [("parting", 4), ("new", 5)]) (by show blkC ["n", "sort", "found", "item", "parting", "new"] (defScope s_partings_of) _ _ = true; decide +kernel)) (fun _ _ _ _ _ => (pg_nm sc_partings_of.nd rfl (Or.inl rfl))) (fun _ _ _ _ _ => sts_nil) (fun _ _ _ _ _ => (si_seq (se_call (ow_with_item F (hr.mono (by decide)) hgd) LamX.takes0 rfl (F.glo 89 rfl) (kp_with_item F) (sa_cons (se_var 4) (sa_cons (se_var 3) sa_nil))))) (fun _ _ _ _ _ => (pg_nm sc_partings_of.nd rfl (Or.inl rfl))) (fun _ _ _ _ _ => sts_nil) (fun _ _ _ _ _ => (se_var 5)) rfl (by decide) (by decide) (by decide))))
  (ss_one (s_ret (se_ty cl_tuple rfl (F.free 22 rfl) boot_tuple (sa_cons (se_blt (cl_sorted hr.units) rfl (F.free 30 rfl) boot_sorted (sa_cons (se_lc rfl sc_partings_of.nd (si_seq (se_var 2)) (blkOk_by (own := [("parting", 4)]) (by show blkC ["n", "sort", "found", "item", "parting", "new"] (defScope s_partings_of) _ _ = true; decide +kernel)) (fun _ _ _ _ _ => (pg_nm sc_partings_of.nd rfl (Or.inl rfl))) (fun _ _ _ _ _ => (sts_one (st_val (se_call (ow_is_of F (hr.mono (by decide)) hgd) LamX.takes0 rfl (F.glo 90 rfl) (kp_is_of F) (sa_cons (se_var 4) (sa_cons (se_var 1) sa_nil)))))) (fun _ _ _ _ _ => (se_var 4)) rfl (by decide)) sa_nil)) sa_nil))))))
theorem kp_partings_of {X : Cx} (F : FX X) : PySem.W.keepIn X.K (.ref (fAd X.K d_partings_of.at_)) = true := (F.d 24 rfl).elim fun _ D => D.kp
theorem ow_partings_of {X : Cx} (F : FX X) (hr : Room 8 X.A) (hgd : X.A.guards = some []) : Own X (cadK tb X.K) (fAd X.K d_partings_of.at_) 2 M_partings_of [] := ⟨(F.d 24 rfl).elim fun fd D => ⟨fd, _, 7, [], [], ok_partings_of F D, hr, hgd, D.bindsN fun _ _ _ _ _ _ us hl => match us, hl with | [_, _], _ => rfl, .nil, fun _ => RLs.nil⟩⟩
def m_is_count : Sv := (sRet (eAnd (eL (fCall 1 M_is_integer []) (lCons (eVar 0) lNil)) (eAnd (eB geV (eVar 0) (eC (.int 0))) (eOr (eB isNon (eVar 1) (eC .non)) (eB leV (eVar 0) (eVar 1))))))
abbrev M_is_count : Fn := fnB 2 m_is_count
theorem sc_is_count : FnScope ["value", "most"] ["value", "most"] (defScope s_is_count) := ⟨rfl, rfl, rfl, by decide +kernel, rfl, by decide +kernel, by decide +kernel⟩
theorem ok_is_count {P : Program} {w : World} {K : PySem.W.Frag} {mg : Str → Option Value} {base : Heap} {fd : FuncData} (F : FK P K mg base) (D : FunD K "is_count" "is_count" (defArgs s_is_count) (defBody s_is_count) (defScope s_is_count) (d_is_count.dvs K) [] (fAd K d_is_count.at_) fd) :
    FnG P w K mg base (cadK tb K) 3 (fAd K d_is_count.at_) fd ["value", "most"] 2 M_is_count :=
  fn_mirrorT (k := 2) D sc_is_count fun A outer s H E hr hgd tk hp =>
  (ss_one (s_ret (se_and (se_call (ow_is_integer F (hr.mono (by decide)) hgd) tk rfl (F.glo 25 rfl) (kp_is_integer F) (sa_cons (se_var 0) sa_nil)) (se_and (se_cmp o_ge (se_var 0) se_int) (se_one (se_or (se_cmp o_isN (se_var 1) se_non) (se_one (se_cmp o_le (se_var 0) (se_var 1)))))))))
theorem kp_is_count {X : Cx} (F : FX X) : PySem.W.keepIn X.K (.ref (fAd X.K d_is_count.at_)) = true := (F.d 25 rfl).elim fun _ D => D.kp
theorem ow_is_count {X : Cx} (F : FX X) (hr : Room 4 X.A) (hgd : X.A.guards = some []) : Own X (cadK tb X.K) (fAd X.K d_is_count.at_) 2 M_is_count [] := ⟨(F.d 25 rfl).elim fun fd D => (D.binds1 (ps := ["value", "most"]) 2 1 (by simp [He.DefD.dvs, d_is_count]) rfl fun _ _ _ _ _ _ _ us its h1 h2 => match us, its, h1, h2 with | [_, _], [_], _, _ => ⟨_, rfl, rfl⟩).elim fun dsv hb => ⟨fd, _, 3, dsv, _, ok_is_count F D, hr, hgd, hb.2, hb.1, fun _ => RLs.nil⟩⟩
def m_partings : Sv := (sSeq (sIf (tNot' (eTest (eL (fCall 2 M_is_count []) (lCons (eVar 0) (lCons (eC (.int 8)) lNil))))) (sRaise 0 ["what", "value"] (lCons (eC (.str "n")) (lCons (eVar 0) lNil))) sNil)
  (sSeq (sExpr (eL (fCall 2 M_need_sort []) (lCons (eVar 1) (lCons (eC (.tup [.str "all", .str "uncrossed", .str "rows", .str "joined", .str "whole", .str "uncrossed whole"])) lNil))))
  (sRet (eL (fCall 2 M_partings_of []) (lCons (eVar 0) (lCons (eVar 1) lNil))))))
abbrev M_partings : Fn := fnB 2 m_partings
theorem sc_partings : FnScope ["n", "sort"] ["n", "sort"] (defScope s_partings) := ⟨rfl, rfl, rfl, by decide +kernel, rfl, by decide +kernel, by decide +kernel⟩
theorem ok_partings {P : Program} {w : World} {K : PySem.W.Frag} {mg : Str → Option Value} {base : Heap} {fd : FuncData} (F : FK P K mg base) (D : FunD K "partings" "partings" (defArgs s_partings) (defBody s_partings) (defScope s_partings) (d_partings.dvs K) [] (fAd K d_partings.at_) fd) :
    FnG P w K mg base (cadK tb K) 9 (fAd K d_partings.at_) fd ["n", "sort"] 2 M_partings :=
  fn_mirrorT (k := 8) D sc_partings fun A outer s H E hr hgd tk hp =>
  (ss_cons (s_if (st_not (st_val (se_call (ow_is_count F (hr.mono (by decide)) hgd) tk rfl (F.glo 91 rfl) (kp_is_count F) (sa_cons (se_var 0) (sa_cons ((F.intc 29 rfl).elim fun t h => se_glob (v := .int 8) rfl h ⟨t, rfl⟩ fun _ => mk_int _) sa_nil))))) (ss_one (s_raise (ex_BadNumber F) (by decide) (by decide) (rm_depth hr) rfl tk rfl (F.glo 79 rfl) (F.free 33 rfl) (sa_cons se_str (sa_cons (se_var 0) sa_nil)))) ss_nil)
  (ss_cons (s_expr (se_call (ow_need_sort F (hr.mono (by decide)) hgd) tk rfl (F.glo 94 rfl) (kp_need_sort F) (sa_cons (se_var 1) (sa_cons (se_glob (v := .ref (ga _ "SORTS")) rfl (F.glo 93 rfl) rfl fun w => F.ktup (xs := ["all", "uncrossed", "rows", "joined", "whole", "uncrossed whole"]) 92 rfl w) sa_nil))))
  (ss_one (s_ret (se_call (ow_partings_of F (hr.mono (by decide)) hgd) tk rfl (F.glo 95 rfl) (kp_partings_of F) (sa_cons (se_var 0) (sa_cons (se_var 1) sa_nil)))))))
theorem kp_partings {X : Cx} (F : FX X) : PySem.W.keepIn X.K (.ref (fAd X.K d_partings.at_)) = true := (F.d 26 rfl).elim fun _ D => D.kp
theorem ow_partings {X : Cx} (F : FX X) (hr : Room 10 X.A) (hgd : X.A.guards = some []) : Own X (cadK tb X.K) (fAd X.K d_partings.at_) 2 M_partings [] := ⟨(F.d 26 rfl).elim fun fd D => ⟨fd, _, 9, [], [], ok_partings F D, hr, hgd, D.bindsN fun _ _ _ _ _ _ us hl => match us, hl with | [_, _], _ => rfl, .nil, fun _ => RLs.nil⟩⟩
def m_law_m_partings : Sv := (sSeq (sSet 1 (eL fFl (lCons (eL fTup lNil) lNil)))
  (sSeq (sFor (eRng1 (eVar 0)) (.nm 2) (sSeq (sSet 3 (eL fLst lNil))
  (sSeq (sFor (eIt (eVar 1)) (.nm 4) (sSeq (sExpr (eApp (eVar 3) (eB (addV []) (eVar 4) (eL fTup (lCons (eL fTup (lCons (eVar 2) lNil)) lNil)))))
  (sFor (eEnum (eVar 4)) (.tp [5, 6]) (sExpr (eApp (eVar 3) (eB (addV []) (eB (addV []) (eSlice (eVar 4) none (some (eVar 5))) (eL fTup (lCons (eB (addV []) (eVar 6) (eL fTup (lCons (eVar 2) lNil))) lNil))) (eSlice (eVar 4) (some (eB (addV []) (eVar 5) (eC (.int 1)))) none)))))))
  (sSet 1 (eU fFrz (eVar 3))))))
  (sRet (eVar 1))))
abbrev M_law_m_partings : Fn := fnB 7 m_law_m_partings
theorem sc_law_m_partings : FnScope ["n", "found", "item", "longer", "parting", "k", "block"] ["n"] (defScope s_law_m_partings) := ⟨rfl, rfl, rfl, by decide +kernel, rfl, by decide +kernel, by decide +kernel⟩
theorem ok_law_m_partings {P : Program} {w : World} {K : PySem.W.Frag} {mg : Str → Option Value} {base : Heap} {fd : FuncData} (F : FK P K mg base) (D : FunD K "_law_m_partings" "_law_m_partings" (defArgs s_law_m_partings) (defBody s_law_m_partings) (defScope s_law_m_partings) (d_law_m_partings.dvs K) [] (fAd K d_law_m_partings.at_) fd) :
    FnG P w K mg base (cadK tb K) 1 (fAd K d_law_m_partings.at_) fd ["n"] 1 M_law_m_partings :=
  fn_mirrorT (k := 0) D sc_law_m_partings fun A outer s H E hr hgd tk hp =>
  (ss_cons (s_set (i := 1) sc_law_m_partings.nd rfl (Or.inl rfl) (se_fl (sa_cons (se_tup sa_nil) sa_nil)))
  (ss_cons (s_for hp rfl (si_rng1 rfl (F.free 19 rfl) (se_var 0)) (pg_nm sc_law_m_partings.nd rfl (Or.inl rfl)) (ss_cons (s_set (i := 3) sc_law_m_partings.nd rfl (Or.inl rfl) (se_lst sa_nil))
  (ss_cons (s_for hp rfl (si_seq (se_var 1)) (pg_nm sc_law_m_partings.nd rfl (Or.inl rfl)) (ss_cons (s_expr (se_app (se_var 3) (se_bin (o_add .nil tk) (se_var 4) (se_tup (sa_cons (se_tup (sa_cons (se_var 2) sa_nil)) sa_nil)))))
  (ss_one (s_for hp rfl (si_enum rfl (F.free 17 rfl) (se_var 4)) (pg_tp rfl (pgs_cons (pg_nm sc_law_m_partings.nd rfl (Or.inl rfl)) (pgs_cons (pg_nm sc_law_m_partings.nd rfl (Or.inl rfl)) pgs_nil))) (ss_one (s_expr (se_app (se_var 3) (se_bin (o_add .nil tk) (se_bin (o_add .nil tk) (se_slice (se_var 4) sp_none (sp_some (se_var 5))) (se_tup (sa_cons (se_bin (o_add .nil tk) (se_var 6) (se_tup (sa_cons (se_var 2) sa_nil))) sa_nil))) (se_slice (se_var 4) (sp_some (se_bin (o_add .nil tk) (se_var 5) se_int)) sp_none)))))))))
  (ss_one (s_set (i := 1) sc_law_m_partings.nd rfl (Or.inl rfl) (se_frz (se_var 3)))))))
  (ss_one (s_ret (se_var 1)))))
theorem kp_law_m_partings {X : Cx} (F : FX X) : PySem.W.keepIn X.K (.ref (fAd X.K d_law_m_partings.at_)) = true := (F.d 27 rfl).elim fun _ D => D.kp
theorem ow_law_m_partings {X : Cx} (F : FX X) (hr : Room 2 X.A) (hgd : X.A.guards = some []) : Own X (cadK tb X.K) (fAd X.K d_law_m_partings.at_) 1 M_law_m_partings [] := ⟨(F.d 27 rfl).elim fun fd D => ⟨fd, _, 1, [], [], ok_law_m_partings F D, hr, hgd, D.bindsN fun _ _ _ _ _ _ us hl => match us, hl with | [_], _ => rfl, .nil, fun _ => RLs.nil⟩⟩
def m_law_first : Sv := (sSeq (sSet 1 eDict0)
  (sSeq (sFor (eEnum (eVar 0)) (.tp [2, 3]) (sFor (eIt (eVar 3)) (.nm 4) (sSub (eVar 1) (eVar 4) (eVar 2))))
  (sSeq (sSet 5 (eL fLen (lCons (eVar 1) lNil)))
  (sSeq (sFor (eRng1 (eVar 5)) (.nm 6) (sFor (eRng2 (eB (addV []) (eVar 6) (eC (.int 1))) (eVar 5)) (.nm 7) (sFor (eRng2 (eB (addV []) (eVar 7) (eC (.int 1))) (eVar 5)) (.nm 8) (sFor (eRng2 (eB (addV []) (eVar 8) (eC (.int 1))) (eVar 5)) (.nm 9) (sIf (tAnd' (eTest (eB eqV' (eB fIx (eVar 1) (eVar 6)) (eB fIx (eVar 1) (eVar 8)))) (tAnd' (eTest (eB eqV' (eB fIx (eVar 1) (eVar 7)) (eB fIx (eVar 1) (eVar 9)))) (eTest (eB neV' (eB fIx (eVar 1) (eVar 6)) (eB fIx (eVar 1) (eVar 7)))))) (sRet (eL fTup (lCons (eVar 6) (lCons (eVar 7) (lCons (eVar 8) (lCons (eVar 9) lNil)))))) sNil)))))
  (sRet (eC .non))))))
abbrev M_law_first : Fn := fnB 10 m_law_first
theorem sc_law_first : FnScope ["parting", "at", "k", "block", "item", "many", "a", "b", "c", "d"] ["parting"] (defScope s_law_first) := ⟨rfl, rfl, rfl, by decide +kernel, rfl, by decide +kernel, by decide +kernel⟩
theorem ok_law_first {P : Program} {w : World} {K : PySem.W.Frag} {mg : Str → Option Value} {base : Heap} {fd : FuncData} (F : FK P K mg base) (D : FunD K "_law_first" "_law_first" (defArgs s_law_first) (defBody s_law_first) (defScope s_law_first) (d_law_first.dvs K) [] (fAd K d_law_first.at_) fd) :
    FnG P w K mg base (cadK tb K) 1 (fAd K d_law_first.at_) fd ["parting"] 1 M_law_first :=
  fn_mirrorT (k := 0) D sc_law_first fun A outer s H E hr hgd tk hp =>
  (ss_cons (s_set (i := 1) sc_law_first.nd rfl (Or.inl rfl) se_dict0)
  (ss_cons (s_for hp rfl (si_enum rfl (F.free 17 rfl) (se_var 0)) (pg_tp rfl (pgs_cons (pg_nm sc_law_first.nd rfl (Or.inl rfl)) (pgs_cons (pg_nm sc_law_first.nd rfl (Or.inl rfl)) pgs_nil))) (ss_one (s_for hp rfl (si_seq (se_var 3)) (pg_nm sc_law_first.nd rfl (Or.inl rfl)) (ss_one (s_sub (Nat.lt_of_le_of_lt (Nat.add_le_add_left (by decide : 1 ≤ 64) _) hr.units) (se_var 1) (se_var 4) (se_var 2))))))
  (ss_cons (s_set (i := 5) sc_law_first.nd rfl (Or.inl rfl) (se_blt cl_len rfl (F.free 15 rfl) boot_len (sa_cons (se_var 1) sa_nil)))
  (ss_cons (s_for hp rfl (si_rng1 rfl (F.free 19 rfl) (se_var 5)) (pg_nm sc_law_first.nd rfl (Or.inl rfl)) (ss_one (s_for hp rfl (si_rng2 rfl (F.free 19 rfl) (se_bin (o_add .nil tk) (se_var 6) se_int) (se_var 5)) (pg_nm sc_law_first.nd rfl (Or.inl rfl)) (ss_one (s_for hp rfl (si_rng2 rfl (F.free 19 rfl) (se_bin (o_add .nil tk) (se_var 7) se_int) (se_var 5)) (pg_nm sc_law_first.nd rfl (Or.inl rfl)) (ss_one (s_for hp rfl (si_rng2 rfl (F.free 19 rfl) (se_bin (o_add .nil tk) (se_var 8) se_int) (se_var 5)) (pg_nm sc_law_first.nd rfl (Or.inl rfl)) (ss_one (s_if (L2.PW.pt (sw_and (st_cmp (o_eq hr.units) (se_ix (Nat.lt_of_le_of_lt (Nat.add_le_add_left (by decide : 1 ≤ 64) _) hr.units) (se_var 1) (se_var 6)) (se_ix (Nat.lt_of_le_of_lt (Nat.add_le_add_left (by decide : 1 ≤ 64) _) hr.units) (se_var 1) (se_var 8))) (sw_and (st_cmp (o_eq hr.units) (se_ix (Nat.lt_of_le_of_lt (Nat.add_le_add_left (by decide : 1 ≤ 64) _) hr.units) (se_var 1) (se_var 7)) (se_ix (Nat.lt_of_le_of_lt (Nat.add_le_add_left (by decide : 1 ≤ 64) _) hr.units) (se_var 1) (se_var 9))) (sw_and1 (st_cmp (o_ne hr.units) (se_ix (Nat.lt_of_le_of_lt (Nat.add_le_add_left (by decide : 1 ≤ 64) _) hr.units) (se_var 1) (se_var 6)) (se_ix (Nat.lt_of_le_of_lt (Nat.add_le_add_left (by decide : 1 ≤ 64) _) hr.units) (se_var 1) (se_var 7))))))) (ss_one (s_ret (se_tup (sa_cons (se_var 6) (sa_cons (se_var 7) (sa_cons (se_var 8) (sa_cons (se_var 9) sa_nil))))))) ss_nil)))))))))
  (ss_one (s_ret se_non))))))
theorem kp_law_first {X : Cx} (F : FX X) : PySem.W.keepIn X.K (.ref (fAd X.K d_law_first.at_)) = true := (F.d 28 rfl).elim fun _ D => D.kp
theorem ow_law_first {X : Cx} (F : FX X) (hr : Room 2 X.A) (hgd : X.A.guards = some []) : Own X (cadK tb X.K) (fAd X.K d_law_first.at_) 1 M_law_first [] := ⟨(F.d 28 rfl).elim fun fd D => ⟨fd, _, 1, [], [], ok_law_first F D, hr, hgd, D.bindsN fun _ _ _ _ _ _ us hl => match us, hl with | [_], _ => rfl, .nil, fun _ => RLs.nil⟩⟩
def m_law : Sv := (sSeq (sSet 1 (eL (fCall 1 M_law_pen []) (lCons (eVar 0) lNil)))
  (sSeq (sFor (eRng1 (eC (.int 3))) (.nm 2) (sSeq (sSet 3 (eL (fCall 2 M_law_some_uncrossed []) (lCons (eVar 1) (lCons (eL (fCall 2 M_law_draw []) (lCons (eVar 1) (lCons (eC (.int 9)) lNil))) lNil))))
  (sIf (tNot' (eTest (eL (fCall 2 M_law_is_right []) (lCons (eVar 3) (lCons (eL (fCall 1 M_complement []) (lCons (eVar 3) lNil)) lNil))))) (sRet (eC (.bl false))) sNil)))
  (sSeq (sSet 4 (eL (fCall 2 M_law_draw []) (lCons (eVar 1) (lCons (eC (.int 6)) lNil))))
  (sSeq (sSet 5 (eLc false (eIt (eL (fCall 2 M_partings []) (lCons (eVar 4) (lCons (eC (.str "uncrossed")) lNil)))) (.nm 3) tYes' (eL (fCall 1 M_complement []) (lCons (eVar 3) lNil)) [3]))
  (sSeq (sIf (eTest (eB neV' (eL fSorted (lCons (eVar 5) lNil)) (eL fSorted (lCons (eLc false (eIt (eL (fCall 1 M_law_m_partings []) (lCons (eVar 4) lNil))) (.nm 3) (tNot' (eTest (eL (fCall 1 M_law_m_is_crossed []) (lCons (eVar 3) lNil)))) (eVar 3) [3]) lNil)))) (sRet (eC (.bl false))) sNil)
  (sSeq (sSet 6 (eLc false (eIt (eL (fCall 1 M_law_m_partings []) (lCons (eB (addV []) (eC (.int 4)) (eL (fCall 2 M_law_draw []) (lCons (eVar 1) (lCons (eC (.int 3)) lNil)))) lNil))) (.nm 3) (eTest (eL (fCall 1 M_law_m_is_crossed []) (lCons (eVar 3) lNil))) (eVar 3) [3]))
  (sSeq (sSet 3 (eL (fCall 2 M_law_pick []) (lCons (eVar 1) (lCons (eVar 6) lNil))))
  (sSeq (sIf (eTest (eB neV' (eLam "told" (eL (fCall 1 M_complement []) (lCons (eVar 3) lNil)) HL_law_m_caught) (eB (addV []) (eL fTup (lCons (eC (.str "crossed")) lNil)) (eL (fCall 1 M_law_first []) (lCons (eVar 3) lNil))))) (sRet (eC (.bl false))) sNil)
  (sSeq (sSet 7 (eL (fCall 2 M_law_pick []) (lCons (eVar 1) (lCons (eL fFl (lCons (eC .non) (lCons (eC (.int 3)) (lCons (eC (.str "0")) (lCons (eL fFl lNil) (lCons (eL fFl (lCons (eL fTup (lCons (eC (.int 0)) lNil)) lNil)) (lCons (eL fTup (lCons (eL fTup lNil) lNil)) (lCons (eL fTup (lCons (eL fTup (lCons (eC (.int 1)) lNil)) (lCons (eL fTup (lCons (eC (.int 0)) lNil)) lNil))) (lCons (eL fTup (lCons (eL fTup (lCons (eC (.int 1)) (lCons (eC (.int 0)) lNil))) lNil)) (lCons (eL fTup (lCons (eL fTup (lCons (eC (.int 0)) (lCons (eC (.int 2)) lNil))) lNil)) (lCons (eL fTup (lCons (eL fTup (lCons (eC (.bl true)) lNil)) lNil)) lNil))))))))))) lNil))))
  (sRet (eB eqV' (eLam "told" (eL (fCall 1 M_complement []) (lCons (eVar 7) lNil)) HL_law_m_caught) (eL fTup (lCons (eC (.str "parting")) (lCons (eL fRepr (lCons (eVar 7) lNil)) lNil))))))))))))))
abbrev M_law : Fn := fnB 8 m_law
theorem sc_law : FnScope ["script", "pen", "lap", "parting", "n", "told", "crossed", "odd"] ["script"] (defScope s_law) := ⟨rfl, rfl, rfl, by decide +kernel, rfl, by decide +kernel, by decide +kernel⟩
theorem ok_law {P : Program} {w : World} {K : PySem.W.Frag} {mg : Str → Option Value} {base : Heap} {fd : FuncData} {c P0 : Addr} (F : FK P K mg base) (D : FunD K "law" "law" (defArgs s_law) (defBody s_law) (defScope s_law) (d_law.dvs K) [] (fAd K d_law.at_) fd) (hcode : fd.code = .ref c) (TB : LamX.TabB base mg c P0) :
    FnG P w K mg base (cadK [(P0, ("law" : Str) ++ ".<locals>." ++ "<lambda>")] K) 16 (fAd K d_law.at_) fd ["script"] 1 M_law :=
  fn_mirrorT (k := 15) D sc_law fun A outer s H E hr hgd tk hp =>
  (ss_cons (s_set (i := 1) sc_law.nd rfl (Or.inl rfl) (se_call (ow_law_pen F (hr.mono (by decide)) hgd) tk rfl (F.glo 96 rfl) (kp_law_pen F) (sa_cons (se_var 0) sa_nil)))
  (ss_cons (s_for hp rfl (si_rng1 rfl (F.free 19 rfl) se_int) (pg_nm sc_law.nd rfl (Or.inl rfl)) (ss_cons (s_set (i := 3) sc_law.nd rfl (Or.inr rfl) (se_call (ow_law_some_uncrossed F (hr.mono (by decide)) hgd) tk rfl (F.glo 97 rfl) (kp_law_some_uncrossed F) (sa_cons (se_var 1) (sa_cons (se_call (ow_law_draw F (hr.mono (by decide)) hgd) tk rfl (F.glo 16 rfl) (kp_law_draw F) (sa_cons (se_var 1) (sa_cons se_int sa_nil))) sa_nil))))
  (ss_one (s_if (st_not (st_val (se_call (ow_law_is_right F (hr.mono (by decide)) hgd) tk rfl (F.glo 98 rfl) (kp_law_is_right F) (sa_cons (se_var 3) (sa_cons (se_call (ow_complement F (hr.mono (by decide)) hgd) tk rfl (F.glo 83 rfl) (kp_complement F) (sa_cons (se_var 3) sa_nil)) sa_nil))))) (ss_one (s_ret se_bl)) ss_nil))))
  (ss_cons (s_set (i := 4) sc_law.nd rfl (Or.inl rfl) (se_call (ow_law_draw F (hr.mono (by decide)) hgd) tk rfl (F.glo 16 rfl) (kp_law_draw F) (sa_cons (se_var 1) (sa_cons se_int sa_nil))))
  (ss_cons (s_setLc rfl sc_law.nd rfl rfl rfl (si_seq (se_call (ow_partings F (hr.mono (by decide)) hgd) tk rfl (F.glo 99 rfl) (kp_partings F) (sa_cons (se_var 4) (sa_cons se_str sa_nil)))) (blkOk_by (own := [("parting", 3)]) (by show blkC ["script", "pen", "lap", "parting", "n", "told", "crossed", "odd"] (defScope s_law) _ _ = true; decide +kernel)) (fun _ _ _ _ _ => (pg_nm sc_law.nd rfl (Or.inl rfl))) (fun _ _ _ _ _ => sts_nil) (fun _ _ _ _ _ => (se_call (ow_complement F (hr.mono (by decide)) hgd) LamX.takes0 rfl (F.glo 83 rfl) (kp_complement F) (sa_cons (se_var 3) sa_nil))) rfl (by decide))
  (ss_cons (s_if (st_cmp (o_ne hr.units) (se_blt (cl_sorted hr.units) rfl (F.free 30 rfl) boot_sorted (sa_cons (se_var 5) sa_nil)) (se_blt (cl_sorted hr.units) rfl (F.free 30 rfl) boot_sorted (sa_cons (se_lc rfl sc_law.nd (si_seq (se_call (ow_law_m_partings F (hr.mono (by decide)) hgd) tk rfl (F.glo 100 rfl) (kp_law_m_partings F) (sa_cons (se_var 4) sa_nil))) (blkOk_by (own := [("parting", 3)]) (by show blkC ["script", "pen", "lap", "parting", "n", "told", "crossed", "odd"] (defScope s_law) _ _ = true; decide +kernel)) (fun _ _ _ _ _ => (pg_nm sc_law.nd rfl (Or.inl rfl))) (fun _ _ _ _ _ => (sts_one (st_not (st_val (se_call (ow_law_m_is_crossed F (hr.mono (by decide)) hgd) LamX.takes0 rfl (F.glo 20 rfl) (kp_law_m_is_crossed F) (sa_cons (se_var 3) sa_nil)))))) (fun _ _ _ _ _ => (se_var 3)) rfl (by decide)) sa_nil))) (ss_one (s_ret se_bl)) ss_nil)
  (ss_cons (s_setLc rfl sc_law.nd rfl rfl rfl (si_seq (se_call (ow_law_m_partings F (hr.mono (by decide)) hgd) tk rfl (F.glo 100 rfl) (kp_law_m_partings F) (sa_cons (se_bin (o_add .nil tk) se_int (se_call (ow_law_draw F (hr.mono (by decide)) hgd) tk rfl (F.glo 16 rfl) (kp_law_draw F) (sa_cons (se_var 1) (sa_cons se_int sa_nil)))) sa_nil))) (blkOk_by (own := [("parting", 3)]) (by show blkC ["script", "pen", "lap", "parting", "n", "told", "crossed", "odd"] (defScope s_law) _ _ = true; decide +kernel)) (fun _ _ _ _ _ => (pg_nm sc_law.nd rfl (Or.inl rfl))) (fun _ _ _ _ _ => (sts_one (st_val (se_call (ow_law_m_is_crossed F (hr.mono (by decide)) hgd) LamX.takes0 rfl (F.glo 20 rfl) (kp_law_m_is_crossed F) (sa_cons (se_var 3) sa_nil))))) (fun _ _ _ _ _ => (se_var 3)) rfl (by decide))
  (ss_cons (s_set (i := 3) sc_law.nd rfl (Or.inr rfl) (se_call (ow_law_pick F (hr.mono (by decide)) hgd) tk rfl (F.glo 21 rfl) (kp_law_pick F) (sa_cons (se_var 1) (sa_cons (se_var 6) sa_nil))))
  (ss_cons (s_if (st_cmp (o_ne hr.units) (se_lamT (k := 13) (catch_law_m_caught F (hr.mono (by decide)) hgd) rfl hgd TB hcode tab1_mem tab1_u (hr.mono (by decide)) (LamX.lamS_by (by show LamX.lamSB (defScope s_law) _ = true; decide +kernel)) rfl (fun _ _ _ _ _ => rfl) (fun A' outer' s' H' E' f' c' hr hgd tkL => (se_call (ow_complement F (hr.mono (by decide)) hgd) tkL rfl (F.glo 83 rfl) (kp_complement F) (sa_cons (se_var 3) sa_nil)))) (se_bin (o_add .nil tk) (se_tup (sa_cons se_str sa_nil)) (se_call (ow_law_first F (hr.mono (by decide)) hgd) tk rfl (F.glo 101 rfl) (kp_law_first F) (sa_cons (se_var 3) sa_nil)))) (ss_one (s_ret se_bl)) ss_nil)
  (ss_cons (s_set (i := 7) sc_law.nd rfl (Or.inr rfl) (se_call (ow_law_pick F (hr.mono (by decide)) hgd) tk rfl (F.glo 21 rfl) (kp_law_pick F) (sa_cons (se_var 1) (sa_cons (se_fl (sa_cons se_non (sa_cons se_int (sa_cons se_str (sa_cons (se_fl sa_nil) (sa_cons (se_fl (sa_cons (se_tup (sa_cons se_int sa_nil)) sa_nil)) (sa_cons (se_tup (sa_cons (se_tup sa_nil) sa_nil)) (sa_cons (se_tup (sa_cons (se_tup (sa_cons se_int sa_nil)) (sa_cons (se_tup (sa_cons se_int sa_nil)) sa_nil))) (sa_cons (se_tup (sa_cons (se_tup (sa_cons se_int (sa_cons se_int sa_nil))) sa_nil)) (sa_cons (se_tup (sa_cons (se_tup (sa_cons se_int (sa_cons se_int sa_nil))) sa_nil)) (sa_cons (se_tup (sa_cons (se_tup (sa_cons se_bl sa_nil)) sa_nil)) sa_nil))))))))))) sa_nil))))
  (ss_one (s_ret (se_cmp (o_eq hr.units) (se_lamT (k := 13) (catch_law_m_caught F (hr.mono (by decide)) hgd) rfl hgd TB hcode tab1_mem tab1_u (hr.mono (by decide)) (LamX.lamS_by (by show LamX.lamSB (defScope s_law) _ = true; decide +kernel)) rfl (fun _ _ _ _ _ => rfl) (fun A' outer' s' H' E' f' c' hr hgd tkL => (se_call (ow_complement F (hr.mono (by decide)) hgd) tkL rfl (F.glo 83 rfl) (kp_complement F) (sa_cons (se_var 7) sa_nil)))) (se_tup (sa_cons se_str (sa_cons (se_blt (cl_repr hgd hr.units) rfl (F.free 43 rfl) boot_repr (sa_cons (se_var 7) sa_nil)) sa_nil)))))))))))))))
end
end K71
end
section
set_option Elab.async false
set_option linter.all false
set_option maxRecDepth 100000
set_option maxHeartbeats 0
namespace K71
open PySem PySem.Spec PyProof.Rows L2 Lv
open He (ga ma fAd)
theorem fin {q : Program} {loose : List PySem.Str} {XP : (PySem.Str → Option Value) → Heap → Prop} {d : DefRec} {K : Params → PySem.W.Frag} {as : List Addr} {e : ∀ P, as = (K P).map (·.1)} {T : Addr}
    (hdf : d.params.defaults = []) (hdn : d.name = ("law" : PySem.Str)) (sx : ∀ P, SaysX PP.main.file ["law"] fx fn xd (addT (K P) T))
    (plain : ∀ ns : List Int, ns.length ≤ 63 → (∀ z ∈ ns, Builtin.Int.intBits z ≤ 1048576) → ∃ lh', M_law [.sl (ns.map LV.int)] [] = .ok (.bl true) lh') :
    PySem.W.WalkO q loose XP (PySem.W.kmHook K as e [T]).says PySem.Challenge.rw_leverheaps_k71_whole_complements.row.toRowW d [] (fun f vs => PySem.call f vs) := by
  refine walk_km sx (walk_ofG (l := PySem.Challenge.rw_leverheaps_k71_whole_complements) (n := 63) rfl (by decide) hdf fun w mg fa h K' X' c G hmg0 base H s₁ a ns hl hbits kb nb tb e0 ht hs => ?_)
  have hmg : mg ("law" : Str) = some (.ref fa) := by rw [← hdn]; exact hmg0
  have F : FK PySem.Challenge.rw_leverheaps_k71_whole_complements.prog (cutT K' ["law"]) mg base := ⟨fun i f hf => c.fact (List.mem_of_getElem? hf), fun i d h => c.def_ i h, fun i d h => c.exc i h, kb, nb, by decide +kernel⟩
  have eg := F.glo 0 rfl
  rw [hmg] at eg
  obtain rfl : fa = ga (cutT K' ["law"]) "law" := by cases eg; rfl
  obtain ⟨fd, D⟩ := F.d 29 rfl
  obtain ⟨oc, od, dV, kV, doc, pm, an, cdv, ct, osl, efd, lk, _⟩ := D.ex
  have hcode : fd.code = .ref (tabOf K' "law").1 := tab_code X' G (cut_in X') (c.tabs "law" (List.mem_cons_self ..)) hmg lk
  have TB := tb (tabOf K' "law") (List.mem_cons_self ..)
  have Fn := ok_law (w := w) F D hcode TB
  obtain ⟨lh', pl⟩ := plain ns hl hbits
  exact law_run Fn ⟨rfl, by decide, by decide⟩ e0 (D.bindsA (ps := ["script"]) (fun _ _ _ _ _ _ us hl => match us, hl with | [_], _ => rfl) s₁ [.ref a] rfl) (fun p hp => by
    have e : p = _ := List.mem_singleton.mp hp
    rw [e]; exact ht (tabOf K' "law") (List.mem_cons_self ..)) hs pl
end K71
end
section
set_option Elab.async false
set_option linter.all false
namespace Lv
open PySem PySem.Spec PyProof.Rows L2

/-! ### plain: the mirrors by simp -/
theorem fnB_run {N : Nat} {s : Sv} {ls : List LV} {lh : LH} {r : Res LV} (env : LE) (he : startL N ls = env) (h : trimR lh.length (endR (s env lh)) = r) : fnB N s ls lh = r := by
  subst he; exact h
section
variable {env env' : LE} {h h' : LH} {i j l : Nat} {v : LV} {a c d : Ev} {t u : EvT} {s s' : Sv} {r el it : EvL} {f : LV → LH → Res LV} {g g' : LV → LV → LH → Res LV} {k : List LV → LH → Res LV}
@[simp] theorem eVar_d : eVar i env h = (match env[i]? with | some (some v) => .ok v h | _ => .stuck) := rfl
@[simp] theorem eC_d : eC v env h = .ok v h := rfl
@[simp] theorem eU_d : eU f a env h = rb (a env h) f := rfl
@[simp] theorem eB_d : eB g a c env h = rb (a env h) fun x lh1 => rb (c env lh1) fun y lh2 => g x y lh2 := rfl
@[simp] theorem lNil_d : lNil env h = .ok [] h := rfl
@[simp] theorem lCons_d : lCons a r env h = rb (a env h) fun x lh1 => rb (r env lh1) fun xs lh2 => .ok (x :: xs) lh2 := rfl
@[simp] theorem eL_d : eL k r env h = rb (r env h) k := rfl
@[simp] theorem eTest_d : eTest a env h = rb (a env h) toB := rfl
@[simp] theorem eAnd_d : eAnd a c env h = rb (a env h) fun x lh1 => rb (toB x lh1) fun k lh2 => if k = true then c env lh2 else .ok (.bl false) lh2 := rfl
@[simp] theorem eOr_d : eOr a c env h = rb (a env h) fun x lh1 => rb (toB x lh1) fun k lh2 => if k = true then .ok (.bl true) lh2 else c env lh2 := rfl
@[simp] theorem eNot_d : eNot a env h = rb (a env h) fun x lh1 => rb (toB x lh1) fun k lh2 => .ok (.bl (!k)) lh2 := rfl
@[simp] theorem eIf_d : eIf t a c env h = rb (t env h) fun k lh1 => if k = true then a env lh1 else c env lh1 := rfl
@[simp] theorem tAnd_d : tAnd' t u env h = rb (t env h) fun k lh1 => if k = true then u env lh1 else .ok false lh1 := rfl
@[simp] theorem tOr_d : tOr' t u env h = rb (t env h) fun k lh1 => if k = true then .ok true lh1 else u env lh1 := rfl
@[simp] theorem tNot_d : tNot' t env h = rb (t env h) fun k lh1 => .ok (!k) lh1 := rfl
@[simp] theorem tYes_d : tYes' env h = .ok true h := rfl
@[simp] theorem eChain_d : eChain g g' a c d env h = rb (a env h) fun x lh1 => rb (c env lh1) fun y lh2 => rb (g x y lh2) fun z lh3 => rb (toB z lh3) fun k lh4 => if k = true then rb (d env lh4) fun u lh5 => g' y u lh5 else .ok (.bl false) lh4 := rfl
@[simp] theorem sNil_d : sNil env h = .nx env h := rfl
@[simp] theorem sSeq_d : sSeq s s' env h = (match s env h with | .nx env' lh' => s' env' lh' | r => r) := rfl
@[simp] theorem sExpr_d : sExpr a env h = rS (a env h) env fun _ lh' => .nx env lh' := rfl
@[simp] theorem sRet_d : sRet a env h = rS (a env h) env fun v lh' => .rt v lh' := rfl
@[simp] theorem sSet_d : sSet i a env h = rS (a env h) env fun v lh' => .nx (env.set i (some v)) lh' := rfl
@[simp] theorem sIf_d : sIf t s s' env h = rS (t env h) env fun k lh' => if k = true then s env lh' else s' env lh' := rfl
@[simp] theorem sBrk_d : sBrk env h = .bk env h := rfl
@[simp] theorem sCnt_d : sCnt env h = .ct env h := rfl
@[simp] theorem sPar_d : sPar i j a c env h = rS (a env h) env fun x lh1 => rS (c env lh1) env fun y lh2 => .nx ((env.set i (some x)).set j (some y)) lh2 := rfl
@[simp] theorem sPar3_d : sPar3 i j l a c d env h = rS (a env h) env fun x lh1 => rS (c env lh1) env fun y lh2 => rS (d env lh2) env fun z lh3 => .nx (((env.set i (some x)).set j (some y)).set l (some z)) lh3 := rfl
@[simp] theorem sAsg_d {g : Tg} : sAsg g a env h = rS (a env h) env fun v lh' => (match asg g v env with | some env' => .nx env' lh' | none => .stuck) := rfl
@[simp] theorem asg_nm : asg (.nm i) v env = some (env.set i (some v)) := rfl
@[simp] theorem asg_tp {is : List Nat} {xs : List LV} : asg (.tp is) (.tup xs) env = asgs is xs env := rfl
@[simp] theorem asgs_nil : asgs [] [] env = some env := rfl
@[simp] theorem asgs_cons {is : List Nat} {xs : List LV} : asgs (i :: is) (v :: xs) env = asgs is xs (env.set i (some v)) := rfl
@[simp] theorem endR_nx : endR (.nx env h) = .ok .non h := rfl
@[simp] theorem endR_rt : endR (.rt v h) = .ok v h := rfl
@[simp] theorem endR_exn {c : Nat} {fs : List (Str × LV)} : endR (.exn c fs env h) = .exn c fs h := rfl
@[simp] theorem eIt_d : eIt a env h = rb (a env h) itemsOf := rfl
@[simp] theorem eRng1_d : eRng1 a env h = rb (a env h) fun x lh1 => (match x with | .int j => if -(2 ^ 62) ≤ j ∧ j < 2 ^ 62 then .ok (rangeL 0 j) lh1 else .stuck | _ => .stuck) := rfl
@[simp] theorem eRng2_d : eRng2 a c env h = rb (a env h) fun x lh1 => rb (c env lh1) fun y lh2 => (match x, y with | .int i, .int j => if (-(2 ^ 62) ≤ i ∧ i < 2 ^ 62) ∧ (-(2 ^ 62) ≤ j ∧ j < 2 ^ 62) then .ok (rangeL i j) lh2 else .stuck | _, _ => .stuck) := rfl
@[simp] theorem eEnum_d : eEnum a env h = rb (a env h) fun x lh1 => rb (itemsOf x lh1) fun xs lh2 => .ok (enumL 0 xs) lh2 := rfl
@[simp] theorem eZip_d : eZip a c env h = rb (a env h) fun x lh1 => rb (c env lh1) fun y lh2 => rb (itemsOf x lh2) fun xs lh3 => rb (itemsOf y lh3) fun ys lh4 => .ok (zipL xs ys) lh4 := rfl
@[simp] theorem sSub_d : sSub a c d env h = rS (d env h) env fun z lh1 => rS (a env lh1) env fun x lh2 => rS (c env lh2) env fun y lh3 => subAt z x y env lh3 := rfl
@[simp] theorem partL_none : partL none env h = .ok none h := rfl
@[simp] theorem partL_some : partL (some a) env h = rb (a env h) fun x lh1 => (match x with | .int i => .ok (some i) lh1 | _ => .stuck) := rfl
@[simp] theorem eSlice_d {lo hi : Option Ev} : eSlice a lo hi env h = rb (a env h) fun x lh1 => rb (partL lo env lh1) fun l lh2 => rb (partL hi env lh2) fun h lh3 => cutV' x l h lh3 := rfl
@[simp] theorem sRaise_d {c : Nat} {ps : List Str} : sRaise c ps el env h = rS (el env h) env fun xs lh1 => if xs.length = ps.length then .exn c (fldsL ps xs []) env lh1 else .stuck := rfl
end
section
variable {i j : Int} {h : LH} {own : List (Nat × Fn)} {xs ys : List LV} {b c : Bool} {x y : LV} {fs : List (Str × LV)} {env : LE}
@[simp] theorem noRef_non : noRef .non = true := by first | simp only [noRefs] | simp only [noReff] | simp only [noRef]
@[simp] theorem noRef_int : noRef (.int i) = true := by first | simp only [noRefs] | simp only [noReff] | simp only [noRef]
@[simp] theorem noRef_bl : noRef (.bl b) = true := by first | simp only [noRefs] | simp only [noReff] | simp only [noRef]
@[simp] theorem noRef_str {x : Str} : noRef (.str x) = true := by first | simp only [noRefs] | simp only [noReff] | simp only [noRef]
@[simp] theorem noRef_tup : noRef (.tup xs) = noRefs xs := by first | simp only [noRefs] | simp only [noReff] | simp only [noRef]
@[simp] theorem noRef_fl : noRef (.fl xs) = noRefs xs := by first | simp only [noRefs] | simp only [noReff] | simp only [noRef]
@[simp] theorem noRef_sl : noRef (.sl xs) = noRefs xs := by first | simp only [noRefs] | simp only [noReff] | simp only [noRef]
@[simp] theorem noRef_obj {c : Nat} : noRef (.obj c fs) = noReff fs := by first | simp only [noRefs] | simp only [noReff] | simp only [noRef]
@[simp] theorem noRef_ref {n : Nat} : noRef (.ref n) = false := by first | simp only [noRefs] | simp only [noReff] | simp only [noRef]
@[simp] theorem noRefs_nil : noRefs [] = true := by first | simp only [noRefs] | simp only [noReff] | simp only [noRef]
@[simp] theorem noRefs_cons : noRefs (x :: xs) = (noRef x && noRefs xs) := by first | simp only [noRefs] | simp only [noReff] | simp only [noRef]
@[simp] theorem noReff_nil : noReff [] = true := by first | simp only [noRefs] | simp only [noReff] | simp only [noRef]
@[simp] theorem noReff_cons {f : Str} : noReff ((f, x) :: fs) = (noRef x && noReff fs) := by first | simp only [noRefs] | simp only [noReff] | simp only [noRef]
theorem noRefs_iff : ∀ {xs : List LV}, noRefs xs = true ↔ ∀ x ∈ xs, noRef x = true
  | [] => by simp
  | x :: xs => by rw [noRefs_cons, Bool.and_eq_true, noRefs_iff]; simp
@[simp] theorem noRefs_app : noRefs (xs ++ ys) = (noRefs xs && noRefs ys) := by
  rw [Bool.eq_iff_iff, Bool.and_eq_true, noRefs_iff, noRefs_iff, noRefs_iff]
  simp only [List.mem_append]
  exact ⟨fun h => ⟨fun x m => h x (.inl m), fun x m => h x (.inr m)⟩, fun h x m => m.elim (h.1 x) (h.2 x)⟩
@[simp] theorem noRefs_ints {is : List Int} : noRefs (is.map .int) = true := noRefs_iff.2 fun x m => by
  obtain ⟨i, _, rfl⟩ := List.mem_map.1 m
  rfl
@[simp] theorem toB_bl : toB (.bl b) h = .ok b h := rfl
@[simp] theorem itemsOf_fl : itemsOf (.fl xs) h = .ok xs h := rfl
@[simp] theorem itemsOf_sl : itemsOf (.sl xs) h = .ok xs h := rfl
@[simp] theorem itemsOf_tup : itemsOf (.tup xs) h = .ok xs h := rfl
@[simp] theorem addV_int : addV own (.int i) (.int j) h = .ok (.int (i + j)) h := rfl
@[simp] theorem addV_tup (hl : xs.length + ys.length ≤ LIM) : addV own (.tup xs) (.tup ys) h = .ok (.tup (xs ++ ys)) h := if_pos hl
@[simp] theorem addV_fl (hl : xs.length + ys.length ≤ LIM) : addV own (.fl xs) (.fl ys) h = .ok (.fl (xs ++ ys)) h := if_pos hl
@[simp] theorem subV_int : subV own (.int i) (.int j) h = .ok (.int (i - j)) h := rfl
@[simp] theorem subV_bl : subV own (.bl b) (.bl c) h = .ok (.int (b2i b - b2i c)) h := rfl
@[simp] theorem fdivV_int (hj : j ≠ 0) (hb : j.natAbs < 2 ^ 64) : fdivV (.int i) (.int j) h = .ok (.int (i.fdiv j)) h := if_pos ⟨hj, log2_64 hb⟩
theorem fdivV_wide (hj : j ≠ 0) (hb : j.natAbs.log2 < 9000) : fdivV (.int i) (.int j) h = .ok (.int (i.fdiv j)) h := if_pos ⟨hj, hb⟩
@[simp] theorem modV_int (hj : j ≠ 0) : modV (.int i) (.int j) h = .ok (.int (i.fmod j)) h := if_pos hj
@[simp] theorem powV_int (h0 : 0 ≤ j) (h1 : j ≤ 1000000) (hi : i.natAbs < 2 ^ 64) : powV (.int i) (.int j) h = .ok (.int (i ^ j.toNat)) h := if_pos ⟨h0, h1, hi⟩
@[simp] theorem ltV_int : cmpV (fun i j => decide (i < j)) (.int i) (.int j) h = .ok (.bl (decide (i < j))) h := rfl
@[simp] theorem leV_int : cmpV (fun i j => decide (i ≤ j)) (.int i) (.int j) h = .ok (.bl (decide (i ≤ j))) h := rfl
@[simp] theorem gtV_int : cmpV (fun i j => decide (j < i)) (.int i) (.int j) h = .ok (.bl (decide (j < i))) h := rfl
@[simp] theorem geV_int : cmpV (fun i j => decide (j ≤ i)) (.int i) (.int j) h = .ok (.bl (decide (j ≤ i))) h := rfl
@[simp] theorem negV_int : negV (.int i) h = .ok (.int (-i)) h := rfl
@[simp] theorem fInt_int : fInt [.int i] h = .ok (.int i) h := rfl
@[simp] theorem fInt_bl : fInt [.bl b] h = .ok (.int (if b then 1 else 0)) h := rfl
@[simp] theorem fAbs_int : fAbs [.int i] h = .ok (.int (if i < 0 then -i else i)) h := rfl
@[simp] theorem fMin_int : fMin [.int i, .int j] h = .ok (.int (if j < i then j else i)) h := rfl
@[simp] theorem fMax_int : fMax [.int i, .int j] h = .ok (.int (if j > i then j else i)) h := rfl
@[simp] theorem fGcd_int : fGcd [.int i, .int j] h = .ok (.int ((Nat.gcd i.natAbs j.natAbs : Nat) : Int)) h := rfl
@[simp] theorem fIx_tup : fIx (.tup xs) (.int i) h = optR (atI xs i) h := rfl
@[simp] theorem fIx_fl : fIx (.fl xs) (.int i) h = optR (atI xs i) h := rfl
@[simp] theorem cutV_tup {lo hi : Option Int} : cutV' (.tup xs) lo hi h = .ok (.tup (cutL xs lo hi)) h := rfl
@[simp] theorem cutV_fl {lo hi : Option Int} : cutV' (.fl xs) lo hi h = .ok (.fl (cutL xs lo hi)) h := rfl
@[simp] theorem optR_some : optR (some x) h = .ok x h := rfl
@[simp] theorem trimR_ok {n : Nat} (hv : noRef x = true) : trimR n (.ok x h) = .ok x (h.take n) := if_pos hv
@[simp] theorem trimR_exn {n c : Nat} (hv : noReff fs = true) : trimR n (.exn c fs h) = .exn c fs (h.take n) := if_pos hv
@[simp] theorem fList_fl : fList false [.fl xs] h = .ok (.fl xs) h := rfl
@[simp] theorem fList_sl : fList false [.sl xs] h = .ok (.fl xs) h := rfl
@[simp] theorem fList_tup : fList false [.tup xs] h = .ok (.fl xs) h := rfl
@[simp] theorem fTuple_fl : fTuple [.fl xs] h = .ok (.tup xs) h := rfl
@[simp] theorem fTuple_tup : fTuple [.tup xs] h = .ok (.tup xs) h := rfl
end
@[simp] theorem fTup_ok {xs : List LV} {h : LH} (hl : xs.length ≤ LIM) : fTup xs h = .ok (.tup xs) h := if_pos hl
@[simp] theorem fFl_ok {xs : List LV} {h : LH} (hl : xs.length ≤ LIM) : fFl xs h = .ok (.fl xs) h := if_pos hl
@[simp] theorem fLen_tup {xs : List LV} {h : LH} : fLen [.tup xs] h = .ok (.int (xs.length : Nat)) h := rfl
@[simp] theorem fLen_fl {xs : List LV} {h : LH} : fLen [.fl xs] h = .ok (.int (xs.length : Nat)) h := rfl
@[simp] theorem fLen_sl {xs : List LV} {h : LH} : fLen [.sl xs] h = .ok (.int (xs.length : Nat)) h := rfl
@[simp] theorem mulV_int {own : List (Nat × Fn)} {i j : Int} {h : LH} (hm : mulOk i j = true) : mulV own (.int i) (.int j) h = .ok (.int (i * j)) h := if_pos hm
@[simp] theorem LIM_eq : LIM = 1000000 := rfl
theorem mulOk_r {i j : Int} (h1 : -(2 ^ 64) < j) (h2 : j < 2 ^ 64) : mulOk i j = true := by simp [mulOk]; omega
theorem mulOk_l {i j : Int} (h1 : -(2 ^ 64) < i) (h2 : i < 2 ^ 64) : mulOk i j = true := by simp [mulOk]; omega
@[simp] theorem eqV_int {i j : Int} {h : LH} : eqV' (.int i) (.int j) h = .ok (.bl (decide (i = j))) h := by
  have : eqV' (.int i) (.int j) h = .ok (.bl (i == j)) h := rfl
  rw [this]; rfl
@[simp] theorem lookL_hit {k : Key} {v : LV} {kvs : List (Key × LV)} : lookL ((k, v) :: kvs) k = some v := by simp [lookL]
@[simp] theorem lookL_miss {k k' : Key} {v : LV} {kvs : List (Key × LV)} (h : k ≠ k') : lookL ((k, v) :: kvs) k' = lookL kvs k' := by simp [lookL, h]
theorem atI_nat {α : Type} {xs : List α} {i : Nat} {x : α} (h : xs[i]? = some x) : atI xs (i : Int) = some x := by
  have hl : i < xs.length := (List.getElem?_eq_some_iff.1 h).1
  unfold atI ixN
  rw [if_pos (by omega), if_pos (by omega)]
  simpa using h

/-! ### fields of an instance that is being made -/
def putF (f : Str) (cs : List Nat) (x y : LV) (env : LE) (lh : LH) : SR := match x with
  | .ref n => (match lh[n]? with
    | some (.ins c fs) => if c ∈ cs ∧ fs.length < 1000 ∧ noRef y = true then .nx env (lh.set n (.ins c (putL f y fs))) else .stuck
    | _ => .stuck)
  | _ => .stuck
@[simp] theorem sFldL_eq {f : Str} {cs : List Nat} {o v : Ev} {env : LE} {lh : LH} : sFldL f cs o v env lh = rS (v env lh) env fun y lh1 => rS (o env lh1) env fun x lh2 => putF f cs x y env lh2 := by
  unfold sFldL putF
  cases v env lh with
  | ok y lh1 =>
    show rS (o env lh1) env _ = rS (o env lh1) env _
    cases o env lh1 with
    | ok x lh2 => cases x <;> rfl
    | _ => rfl
  | _ => rfl
@[simp] theorem take_snoc {α : Type} {h : List α} {x : α} : List.take (h.length + 1) (h ++ [x]) = h ++ [x] := List.take_of_length_le (by simp)
theorem getLast_app {α : Type} {h : List α} {x : α} : (h ++ [x])[h.length]? = some x := by simp
@[simp] theorem putF_last {f : Str} {c : Nat} {y : LV} {fs : List (Str × LV)} {env : LE} {h : LH} (hl : fs.length < 1000) (hy : noRef y = true) : putF f [c] (.ref h.length) y env (h ++ [.ins c fs]) = .nx env (h ++ [.ins c (putL f y fs)]) := by
  unfold putF
  simp only [getLast_app]
  rw [if_pos ⟨List.mem_singleton.2 rfl, hl, hy⟩]
  simp
@[simp] theorem fld_last {f : Str} {c : Nat} {v : LV} {fs : List (Str × LV)} {h : LH} (hv : fs.lookup f = some v) : fFldC f [c] (.ref h.length) (h ++ [.ins c fs]) = .ok v (h ++ [.ins c fs]) := by
  unfold fFldC clsOf fFld
  simp [getLast_app, hv]
@[simp] theorem fld_obj {f : Str} {c : Nat} {v : LV} {fs : List (Str × LV)} {h : LH} (hv : fs.lookup f = some v) : fFldC f [c] (.obj c fs) h = .ok v h := by
  unfold fFldC clsOf fFld
  simp [hv]
theorem fMake_run {c n : Nat} {m : Fn} {dls ls : List LV} {h : LH} {fs : List (Str × LV)} (hl : (ls ++ dls).length + 1 = n) (hm : m (.ref h.length :: (ls ++ dls)) (h ++ [.ins c []]) = .ok .non (h ++ [.ins c fs])) : fMake c n m dls ls h = .ok (.obj c fs) h := by
  unfold fMake
  rw [if_pos hl, hm]
  simp [getLast_app]
theorem fMake_exn {c n k : Nat} {m : Fn} {dls ls : List LV} {h h' : LH} {fs : List (Str × LV)} (hl : (ls ++ dls).length + 1 = n) (hm : m (.ref h.length :: (ls ++ dls)) (h ++ [.ins c []]) = .exn k fs h') : fMake c n m dls ls h = .exn k fs h' := by
  unfold fMake
  rw [if_pos hl, hm]
  simp

/-! ### the pen -/
structure Pen where
  cells : List Int
  at_ : Int
  dig : Int
  cnt : Int
  fold : Int
def penO (q : Pen) : LO := .dct [(.inr "cells", .fl (q.cells.map .int)), (.inr "at", .int q.at_), (.inr "digits", .int q.dig), (.inr "count", .int q.cnt), (.inr "fold", .int q.fold)]
structure Pen.Ok (k : Nat) (q : Pen) : Prop where
  a0 : 0 ≤ q.at_
  d0 : 0 ≤ q.dig
  c0 : 0 ≤ q.cnt
  c1 : q.cnt + k ≤ 1000000000
  f0 : 0 ≤ q.fold
  f1 : q.fold < 2147483648
theorem Pen.Ok.mono {k k' : Nat} {q : Pen} (h : q.Ok k) (hk : k' ≤ k) : q.Ok k' := ⟨h.a0, h.d0, h.c0, by have := h.c1; omega, h.f0, h.f1⟩
section
variable {q : Pen} {r : LH} {z : Int} {env : LE}
@[simp] theorem pen_cells : fIx (.ref 0) (.str "cells") (penO q :: r) = .ok (.fl (q.cells.map .int)) (penO q :: r) := rfl
@[simp] theorem pen_at : fIx (.ref 0) (.str "at") (penO q :: r) = .ok (.int q.at_) (penO q :: r) := rfl
@[simp] theorem pen_dig : fIx (.ref 0) (.str "digits") (penO q :: r) = .ok (.int q.dig) (penO q :: r) := rfl
@[simp] theorem pen_cnt : fIx (.ref 0) (.str "count") (penO q :: r) = .ok (.int q.cnt) (penO q :: r) := rfl
@[simp] theorem pen_fold : fIx (.ref 0) (.str "fold") (penO q :: r) = .ok (.int q.fold) (penO q :: r) := rfl
@[simp] theorem put_at : subAt (.int z) (.ref 0) (.str "at") env (penO q :: r) = .nx env (penO { q with at_ := z } :: r) := rfl
@[simp] theorem put_dig : subAt (.int z) (.ref 0) (.str "digits") env (penO q :: r) = .nx env (penO { q with dig := z } :: r) := rfl
@[simp] theorem put_cnt : subAt (.int z) (.ref 0) (.str "count") env (penO q :: r) = .nx env (penO { q with cnt := z } :: r) := rfl
@[simp] theorem put_fold : subAt (.int z) (.ref 0) (.str "fold") env (penO q :: r) = .nx env (penO { q with fold := z } :: r) := rfl
end
theorem fmod_nonneg {a b : Int} (h : 0 < b) : 0 ≤ a.fmod b := by rw [Int.fmod_eq_emod_of_nonneg _ (Int.le_of_lt h)]; exact Int.emod_nonneg _ (by omega)
end Lv
end
section
set_option Elab.async false
set_option linter.all false
namespace Lv
open PySem PySem.Spec PyProof.Rows L2
/-! ### comprehensions -/
theorem push_last {y : LV} {acc : List LV} {h : LH} (hl : acc.length ≤ LIM) (hy : noRef y = true) : pushAt h.length y (h ++ [.lst acc]) = .ok () (h ++ [.lst (acc ++ [y])]) := by
  unfold pushAt
  simp only [getLast_app]
  rw [if_pos ⟨hl, hy⟩]
  simp
section
variable {α : Type} {it : EvL} {g : Tg} {t : EvT} {el : Ev} {vs : List Nat} {env : LE} {h h' : LH}
theorem cLoop_pure (inj : α → LV) (p : α → Bool) (f : α → LV) (env' : LE) : ∀ (as : List α) (acc : List LV),
    (∀ a ∈ as, ∃ e1, asg g (inj a) env' = some e1 ∧ ∀ acc, t e1 (h ++ [.lst acc]) = .ok (p a) (h ++ [.lst acc]) ∧ (p a = true → el e1 (h ++ [.lst acc]) = .ok (f a) (h ++ [.lst acc]) ∧ noRef (f a) = true)) →
    acc.length + as.length ≤ LIM → cLoop g t el env' h.length (as.map inj) (h ++ [.lst acc]) = .ok () (h ++ [.lst (acc ++ (as.filter p).map f)])
  | [], acc, _, _ => by simp [cLoop]
  | a :: as, acc, hx, hl => by
    obtain ⟨e1, ha, hb⟩ := hx a (List.mem_cons_self ..)
    have hl' : acc.length + (as.length + 1) ≤ LIM := hl
    have hr := fun b m => hx b (List.mem_cons_of_mem _ m)
    rw [List.map_cons, cLoop, ha]
    simp only [(hb acc).1, rb_ok]
    by_cases hp : p a = true
    · rw [if_pos hp, ((hb acc).2 hp).1, rb_ok, push_last (by omega) ((hb acc).2 hp).2, rb_ok, cLoop_pure inj p f env' as (acc ++ [f a]) hr (by simp only [List.length_append, List.length_singleton]; omega)]
      simp [List.filter_cons, hp]
    · rw [if_neg hp, cLoop_pure inj p f env' as acc hr (by omega)]
      simp [List.filter_cons, hp]
theorem eLc_pure (inj : α → LV) (p : α → Bool) (f : α → LV) (as : List α) (hi : it env h = .ok (as.map inj) h')
    (hx : ∀ a ∈ as, ∃ e1, asg g (inj a) (lwipe env vs) = some e1 ∧ ∀ acc, t e1 (h' ++ [.lst acc]) = .ok (p a) (h' ++ [.lst acc]) ∧ (p a = true → el e1 (h' ++ [.lst acc]) = .ok (f a) (h' ++ [.lst acc]) ∧ noRef (f a) = true))
    (hl : as.length ≤ LIM) : eLc false it g t el vs env h = .ok (.fl ((as.filter p).map f)) h' := by
  unfold eLc
  rw [hi, rb_ok, cLoop_pure inj p f (lwipe env vs) as [] hx (by simpa using hl)]
  simp [calmR, lcFin]
theorem eLc_map (inj : α → LV) (f : α → LV) (as : List α) (hi : it env h = .ok (as.map inj) h')
    (hx : ∀ a ∈ as, ∃ e1, asg g (inj a) (lwipe env vs) = some e1 ∧ ∀ acc, el e1 (h' ++ [.lst acc]) = .ok (f a) (h' ++ [.lst acc]) ∧ noRef (f a) = true)
    (hl : as.length ≤ LIM) : eLc false it g tYes' el vs env h = .ok (.fl (as.map f)) h' := by
  have := eLc_pure (t := tYes') (vs := vs) (el := el) (g := g) (it := it) (env := env) (h := h) inj (fun _ => true) f as hi (fun a m => by
    obtain ⟨e1, h1, h2⟩ := hx a m
    exact ⟨e1, h1, fun acc => ⟨rfl, fun _ => h2 acc⟩⟩) hl
  rwa [List.filter_eq_self.2 (fun _ _ => rfl)] at this
/-- pairs of two lists -/
inductive F2 {β : Type} (P : α → β → Prop) : List α → List β → Prop where
  | nil : F2 P [] []
  | cons {a : α} {b : β} {as : List α} {bs : List β} (h : P a b) (r : F2 P as bs) : F2 P (a :: as) (b :: bs)
theorem F2.len {β : Type} {P : α → β → Prop} {as : List α} {bs : List β} (h : F2 P as bs) : as.length = bs.length := by induction h with | nil => rfl | cons _ _ ih => simp [ih]
theorem cLoop_pen {β : Type} (inj : α → LV) (P : α → β → Prop) (f : β → LV) (c k : Nat) (env' : LE) (r : LH) : ∀ (as : List α) (acc : List LV) (q : Pen),
    (∀ a ∈ as, ∃ e1, asg g (inj a) env' = some e1 ∧ ∀ acc k q, Pen.Ok (k + c) q → ∃ b q', P a b ∧ q'.Ok k ∧ el e1 (penO q :: (r ++ [.lst acc])) = .ok (f b) (penO q' :: (r ++ [.lst acc])) ∧ noRef (f b) = true) →
    acc.length + as.length ≤ LIM → q.Ok (k + c * as.length) → ∃ bs q', F2 P as bs ∧ q'.Ok k ∧ cLoop g tYes' el env' (r.length + 1) (as.map inj) (penO q :: (r ++ [.lst acc])) = .ok () (penO q' :: (r ++ [.lst (acc ++ bs.map f)]))
  | [], acc, q, _, _, hq => ⟨[], q, .nil, hq.mono (by omega), by simp [cLoop]⟩
  | a :: as, acc, q, hx, hl, hq => by
    obtain ⟨e1, ha, hb⟩ := hx a (List.mem_cons_self ..)
    have hl' : acc.length + (as.length + 1) ≤ LIM := hl
    rw [List.length_cons, Nat.mul_add, Nat.mul_one] at hq
    obtain ⟨b, q1, hP, hq1, he, hn⟩ := hb acc (k + c * as.length) q (hq.mono (by omega))
    obtain ⟨bs, q2, h2, hq2, h3⟩ := cLoop_pen inj P f c k env' r as (acc ++ [f b]) q1 (fun b m => hx b (List.mem_cons_of_mem _ m)) (by simp only [List.length_append, List.length_singleton]; omega) hq1
    refine ⟨b :: bs, q2, .cons hP h2, hq2, ?_⟩
    have hpu := push_last (y := f b) (acc := acc) (h := penO q1 :: r) (by omega) hn
    simp only [List.length_cons, List.cons_append] at hpu
    rw [List.map_cons, cLoop, ha]
    simp only [tYes', rb_ok, if_true, he, hpu]
    show cLoop g tYes' el env' (r.length + 1) (as.map inj) _ = _
    rw [h3]
    simp
theorem eLc_pen {β : Type} (inj : α → LV) (P : α → β → Prop) (f : β → LV) (c k : Nat) (as : List α) {q : Pen} {r : LH} (hi : it env h = .ok (as.map inj) (penO q :: r))
    (hx : ∀ a ∈ as, ∃ e1, asg g (inj a) (lwipe env vs) = some e1 ∧ ∀ acc k q, Pen.Ok (k + c) q → ∃ b q', P a b ∧ q'.Ok k ∧ el e1 (penO q :: (r ++ [.lst acc])) = .ok (f b) (penO q' :: (r ++ [.lst acc])) ∧ noRef (f b) = true)
    (hl : as.length ≤ LIM) (hq : q.Ok (k + c * as.length)) : ∃ bs q', F2 P as bs ∧ q'.Ok k ∧ eLc false it g tYes' el vs env h = .ok (.fl (bs.map f)) (penO q' :: r) := by
  obtain ⟨bs, q2, h2, hq2, h3⟩ := cLoop_pen inj P f c k (lwipe env vs) r as [] q hx (by simpa using hl) hq
  refine ⟨bs, q2, h2, hq2, ?_⟩
  unfold eLc
  rw [hi, rb_ok]
  simp only [List.length_cons, List.cons_append]
  rw [h3]
  simp [calmR, lcFin]
end
end Lv
end
section
set_option Elab.async false
set_option linter.all false
namespace Lv
open PySem PySem.Spec PyProof.Rows L2
/-! ### plain data: equality, repr, the catching def -/
mutual
/-- plain data of at most so many levels -/
def shp : LV → Nat → Bool
  | .non, _ => true
  | .bl _, _ => true
  | .int _, _ => true
  | .str x, _ => x.cps.all (· < 0x110000)
  | .tup xs, n => (match n with | 0 => false | n + 1 => shps xs n)
  | .fl xs, n => (match n with | 0 => false | n + 1 => shps xs n)
  | .sl xs, n => (match n with | 0 => false | n + 1 => shps xs n)
  | _, _ => false
def shps : List LV → Nat → Bool
  | [], _ => true
  | x :: xs, n => shp x n && shps xs n
end
mutual
def eqD : LV → LV → Bool
  | .non, y => (match y with | .non => true | _ => false)
  | .bl a, y => (match y with | .bl b => a == b | .int j => (if a then 1 else 0) == j | _ => false)
  | .int i, y => (match y with | .bl b => i == (if b then 1 else 0) | .int j => i == j | _ => false)
  | .str x, y => (match y with | .str z => x == z | _ => false)
  | .tup xs, y => (match y with | .tup ys => eqDs xs ys | _ => false)
  | .fl xs, y => (match y with | .fl ys => eqDs xs ys | .sl ys => eqDs xs ys | _ => false)
  | .sl xs, y => (match y with | .fl ys => eqDs xs ys | .sl ys => eqDs xs ys | _ => false)
  | _, _ => false
def eqDs : List LV → List LV → Bool
  | [], ys => ys.isEmpty
  | x :: xs, ys => (match ys with | [] => false | y :: ys => eqD x y && eqDs xs ys)
end
section
variable {n : Nat} {x y : LV} {xs ys : List LV} {a b : Bool} {i j : Int} {s t : Str}
@[simp] theorem shp_non : shp .non n = true := by simp only [shp]
@[simp] theorem shp_bl : shp (.bl a) n = true := by simp only [shp]
@[simp] theorem shp_int : shp (.int i) n = true := by simp only [shp]
@[simp] theorem shp_tup : shp (.tup xs) (n + 1) = shps xs n := by simp only [shp]
@[simp] theorem shp_fl : shp (.fl xs) (n + 1) = shps xs n := by simp only [shp]
@[simp] theorem shp_sl : shp (.sl xs) (n + 1) = shps xs n := by simp only [shp]
@[simp] theorem shps_nil : shps [] n = true := by simp only [shps]
@[simp] theorem shps_cons : shps (x :: xs) n = (shp x n && shps xs n) := by simp only [shps]
theorem shps_iff : ∀ {xs : List LV}, shps xs n = true ↔ ∀ x ∈ xs, shp x n = true
  | [] => by simp
  | x :: xs => by rw [shps_cons, Bool.and_eq_true, shps_iff]; simp
theorem shps_map {α : Type} {f : α → LV} {as : List α} (h : ∀ a ∈ as, shp (f a) n = true) : shps (as.map f) n = true := shps_iff.2 fun x m => by
  obtain ⟨a, ha, rfl⟩ := List.mem_map.1 m
  exact h a ha
@[simp] theorem eqD_non : eqD .non .non = true := by simp only [eqD]
@[simp] theorem eqD_bl : eqD (.bl a) (.bl b) = (a == b) := by simp only [eqD]
@[simp] theorem eqD_int : eqD (.int i) (.int j) = decide (i = j) := by simp only [eqD]; rfl
@[simp] theorem eqD_str : eqD (.str s) (.str t) = decide (s = t) := by simp only [eqD]; rfl
@[simp] theorem eqD_tup : eqD (.tup xs) (.tup ys) = eqDs xs ys := by simp only [eqD]
@[simp] theorem eqD_fl : eqD (.fl xs) (.fl ys) = eqDs xs ys := by simp only [eqD]
@[simp] theorem eqD_flsl : eqD (.fl xs) (.sl ys) = eqDs xs ys := by simp only [eqD]
@[simp] theorem eqD_slfl : eqD (.sl xs) (.fl ys) = eqDs xs ys := by simp only [eqD]
@[simp] theorem eqD_sl : eqD (.sl xs) (.sl ys) = eqDs xs ys := by simp only [eqD]
@[simp] theorem eqDs_nil : eqDs [] [] = true := by simp [eqDs]
@[simp] theorem eqDs_nc : eqDs [] (y :: ys) = false := by simp [eqDs]
@[simp] theorem eqDs_cn : eqDs (x :: xs) [] = false := by simp [eqDs]
@[simp] theorem eqDs_cons : eqDs (x :: xs) (y :: ys) = (eqD x y && eqDs xs ys) := by simp [eqDs]
end
mutual
theorem shp_d : ∀ (x : LV) (n : Nat), shp x n = true → ∃ d, dOf x = some d ∧ d.canLay0 = true ∧ d.depth ≤ n
  | .non, n, _ => ⟨.none, by simp only [dOf], by simp only [PyData.canLay0], by simp [PyData.depth]⟩
  | .bl b, n, _ => ⟨.bool b, by simp only [dOf], by simp only [PyData.canLay0], by simp [PyData.depth]⟩
  | .int b, n, _ => ⟨.int b, by simp only [dOf], by simp only [PyData.canLay0], by simp [PyData.depth]⟩
  | .str b, n, h => ⟨.str b, by simp only [dOf], by simp only [shp] at h; simp only [PyData.canLay0, PyData.strOk]; exact h, by simp [PyData.depth]⟩
  | .tup xs, 0, h => by simp [shp] at h
  | .fl xs, 0, h => by simp [shp] at h
  | .sl xs, 0, h => by simp [shp] at h
  | .tup xs, n + 1, h => by
    obtain ⟨ds, e, c, p⟩ := shps_d xs n (by simpa using h)
    exact ⟨.tuple ds, by simp only [dOf, e], by simpa only [PyData.canLay0] using c, by simp only [PyData.depth]; omega⟩
  | .fl xs, n + 1, h => by
    obtain ⟨ds, e, c, p⟩ := shps_d xs n (by simpa using h)
    exact ⟨.list ds, by simp only [dOf, e], by simpa only [PyData.canLay0] using c, by simp only [PyData.depth]; omega⟩
  | .sl xs, n + 1, h => by
    obtain ⟨ds, e, c, p⟩ := shps_d xs n (by simpa using h)
    exact ⟨.list ds, by simp only [dOf, e], by simpa only [PyData.canLay0] using c, by simp only [PyData.depth]; omega⟩
  | .obj _ _, n, h => by simp [shp] at h
  | .ref _, n, h => by simp [shp] at h
  | .con _, n, h => by simp [shp] at h
theorem shps_d : ∀ (xs : List LV) (n : Nat), shps xs n = true → ∃ ds, dOfs xs = some ds ∧ PyData.canLayAll0 ds = true ∧ PyData.depthAll ds ≤ n
  | [], n, _ => ⟨[], by simp only [dOfs], by simp only [PyData.canLayAll0], by simp [PyData.depthAll]⟩
  | x :: xs, n, h => by
    rw [shps_cons, Bool.and_eq_true] at h
    obtain ⟨d, e, c, p⟩ := shp_d x n h.1
    obtain ⟨ds, e2, c2, p2⟩ := shps_d xs n h.2
    exact ⟨d :: ds, by simp only [dOfs, e, e2], by simp only [PyData.canLayAll0, c, c2, Bool.and_self], by simp only [PyData.depthAll]; omega⟩
end
theorem dOf_lst {xs : List LV} {d : PyData} (h : (match dOfs xs with | some ds => some (PyData.list ds) | none => none) = some d) : ∃ ds, dOfs xs = some ds ∧ d = .list ds := by
  cases e : dOfs xs with
  | none => rw [e] at h; cases h
  | some ds => rw [e] at h; cases h; exact ⟨ds, rfl, rfl⟩
theorem dOf_tpl {xs : List LV} {d : PyData} (h : (match dOfs xs with | some ds => some (PyData.tuple ds) | none => none) = some d) : ∃ ds, dOfs xs = some ds ∧ d = .tuple ds := by
  cases e : dOfs xs with
  | none => rw [e] at h; cases h
  | some ds => rw [e] at h; cases h; exact ⟨ds, rfl, rfl⟩
mutual
theorem eqD_ok : ∀ (x y : LV) (d e : PyData), dOf x = some d → dOf y = some e → PyData.eqv d e = eqD x y
  | .non, y, d, e, h, k => by
    simp only [dOf] at h; cases h
    cases y <;> simp only [dOf] at k <;> first | (cases k; simp [PyData.eqv, eqD]; done) | (obtain ⟨ds, _, rfl⟩ := dOf_tpl k; simp [PyData.eqv, eqD]) | (obtain ⟨ds, _, rfl⟩ := dOf_lst k; simp [PyData.eqv, eqD]) | cases k
  | .bl b, y, d, e, h, k => by
    simp only [dOf] at h; cases h
    cases y <;> simp only [dOf] at k <;> first | (cases k; simp [PyData.eqv, eqD]; done) | (obtain ⟨ds, _, rfl⟩ := dOf_tpl k; simp [PyData.eqv, eqD]) | (obtain ⟨ds, _, rfl⟩ := dOf_lst k; simp [PyData.eqv, eqD]) | cases k
  | .int b, y, d, e, h, k => by
    simp only [dOf] at h; cases h
    cases y <;> simp only [dOf] at k <;> first | (cases k; simp [PyData.eqv, eqD]; done) | (obtain ⟨ds, _, rfl⟩ := dOf_tpl k; simp [PyData.eqv, eqD]) | (obtain ⟨ds, _, rfl⟩ := dOf_lst k; simp [PyData.eqv, eqD]) | cases k
  | .str b, y, d, e, h, k => by
    simp only [dOf] at h; cases h
    cases y <;> simp only [dOf] at k <;> first | (cases k; simp [PyData.eqv, eqD]; done) | (obtain ⟨ds, _, rfl⟩ := dOf_tpl k; simp [PyData.eqv, eqD]) | (obtain ⟨ds, _, rfl⟩ := dOf_lst k; simp [PyData.eqv, eqD]) | cases k
  | .tup xs, y, d, e, h, k => by
    simp only [dOf] at h
    obtain ⟨ds, hs, rfl⟩ := dOf_tpl h
    cases y <;> simp only [dOf] at k <;> first | (cases k; simp [PyData.eqv, eqD]; done) | (obtain ⟨es, ke, rfl⟩ := dOf_tpl k; simp only [PyData.eqv, eqD]; exact eqDs_ok _ _ _ _ hs ke) | (obtain ⟨ds, _, rfl⟩ := dOf_lst k; simp [PyData.eqv, eqD]) | cases k
  | .fl xs, y, d, e, h, k => by
    simp only [dOf] at h
    obtain ⟨ds, hs, rfl⟩ := dOf_lst h
    cases y <;> simp only [dOf] at k <;> first | (cases k; simp [PyData.eqv, eqD]; done) | (obtain ⟨es, ke, rfl⟩ := dOf_tpl k; simp [PyData.eqv, eqD]; done) | (obtain ⟨es, ke, rfl⟩ := dOf_lst k; simp only [PyData.eqv, eqD]; exact eqDs_ok _ _ _ _ hs ke) | cases k
  | .sl xs, y, d, e, h, k => by
    simp only [dOf] at h
    obtain ⟨ds, hs, rfl⟩ := dOf_lst h
    cases y <;> simp only [dOf] at k <;> first | (cases k; simp [PyData.eqv, eqD]; done) | (obtain ⟨es, ke, rfl⟩ := dOf_tpl k; simp [PyData.eqv, eqD]; done) | (obtain ⟨es, ke, rfl⟩ := dOf_lst k; simp only [PyData.eqv, eqD]; exact eqDs_ok _ _ _ _ hs ke) | cases k
  | .obj _ _, y, d, e, h, k => by simp only [dOf] at h; cases h
  | .ref _, y, d, e, h, k => by simp only [dOf] at h; cases h
  | .con _, y, d, e, h, k => by simp only [dOf] at h; cases h
theorem eqDs_ok : ∀ (xs ys : List LV) (ds es : List PyData), dOfs xs = some ds → dOfs ys = some es → PyData.eqvAll ds es = eqDs xs ys
  | [], [], ds, es, h, k => by simp only [dOfs] at h k; cases h; cases k; simp [PyData.eqvAll]
  | [], y :: ys, ds, es, h, k => by
    simp only [dOfs] at h k; cases h
    split at k
    · cases k; simp [PyData.eqvAll]
    · cases k
  | x :: xs, [], ds, es, h, k => by
    simp only [dOfs] at h k; cases k
    split at h
    · cases h; simp [PyData.eqvAll]
    · cases h
  | x :: xs, y :: ys, ds, es, h, k => by
    simp only [dOfs] at h k
    split at h
    · rename_i d ds' h1 h2
      cases h
      split at k
      · rename_i e es' k1 k2
        cases k
        rw [PyData.eqvAll, eqDs_cons, eqD_ok x y d e h1 k1, eqDs_ok xs ys ds' es' h2 k2]
      · cases k
    · cases h
end
theorem dTop_dOf {x : LV} {h : LH} {n : Nat} (hx : shp x n = true) : dTop x h = dOf x := by
  cases x <;> first | rfl | (simp [shp] at hx)
theorem eqV_d {x y : LV} {h : LH} (hx : shp x 64 = true) (hy : shp y 64 = true) : eqV' x y h = .ok (.bl (eqD x y)) h := by
  obtain ⟨d, e1, c1, p1⟩ := shp_d x 64 hx
  obtain ⟨e, e2, c2, p2⟩ := shp_d y 64 hy
  unfold eqV'
  rw [dTop_dOf hx, dTop_dOf hy, e1, e2]
  simp only
  rw [if_pos ⟨by simp [SeqAt.shaped, c1, p1], by simp [SeqAt.shaped, c2, p2]⟩, eqD_ok x y d e e1 e2]
theorem neV_d {x y : LV} {h : LH} (hx : shp x 64 = true) (hy : shp y 64 = true) : neV' x y h = .ok (.bl (!eqD x y)) h := by
  obtain ⟨d, e1, c1, p1⟩ := shp_d x 64 hx
  obtain ⟨e, e2, c2, p2⟩ := shp_d y 64 hy
  unfold neV'
  rw [dTop_dOf hx, dTop_dOf hy, e1, e2]
  simp only
  rw [if_pos ⟨by simp [SeqAt.shaped, c1, p1], by simp [SeqAt.shaped, c2, p2]⟩, eqD_ok x y d e e1 e2]
theorem eqD_self {x : LV} {n : Nat} (hx : shp x n = true) : eqD x x = true := by
  obtain ⟨d, e, c, _⟩ := shp_d x n hx
  rw [← eqD_ok x x d d e e, SeqAt.eqv_refl d c]
theorem eqDs_self {xs : List LV} {n : Nat} (hx : shps xs n = true) : eqDs xs xs = true := by
  have : shp (.fl xs) (n + 1) = true := by simpa using hx
  have := eqD_self this
  rwa [eqD_fl] at this
theorem neV_self {x : LV} {h : LH} (hx : shp x 64 = true) : neV' x x h = .ok (.bl false) h := by rw [neV_d hx hx, eqD_self hx]; rfl
theorem eqV_self {x : LV} {h : LH} (hx : shp x 64 = true) : eqV' x x h = .ok (.bl true) h := by rw [eqV_d hx hx, eqD_self hx]
/-! ### repr -/
def rp (x : LV) : Str := match dOf x with | some d => d.shown | none => ""
def rpOk (x : LV) : Bool := match x with
  | .ref _ => false
  | x => (match dOf x with | some d => d.showable && !d.hasDict && decide (d.depth ≤ 40) && decide (d.shown.length ≤ LIM) | none => false)
theorem repr_ok {x : LV} {h : LH} (hx : rpOk x = true) : fRepr [x] h = .ok (.str (rp x)) h := by
  have hd : dTop x h = dOf x := by cases x <;> first | rfl | (simp [rpOk] at hx)
  have hx' : (match dOf x with | some d => d.showable && !d.hasDict && decide (d.depth ≤ 40) && decide (d.shown.length ≤ LIM) | none => false) = true := by cases x <;> first | exact hx | (simp [rpOk] at hx)
  unfold fRepr rp
  simp only [hd]
  cases e : dOf x with
  | none => rw [e] at hx'; simp at hx'
  | some d =>
    rw [e] at hx'
    simp only [Bool.and_eq_true, Bool.not_eq_true', decide_eq_true_eq] at hx'
    simp only
    rw [if_pos ⟨hx'.1.1.1, hx'.1.1.2, hx'.1.2, hx'.2⟩]
/-! ### the catching def -/
theorem eLam_told {told : Str} {b : Ev} {HL : List Hd} {env : LE} {h h' : LH} {v : LV} (e : b env h = .ok v h') : eLam told b HL env h = .ok (.tup [.str told, v]) h' := by
  unfold eLam; rw [e]
theorem eLam_exn {told : Str} {b : Ev} {HL : List Hd} {env : LE} {h h' h2 : LH} {c : Nat} {fs : List (Str × LV)} {o : Option Nat} {g : Xv} {v : LV} (e : b env h = .exn c fs h') (hl : HL.lookup c = some (o, g)) (hg : g fs h' = .ok v h2) : eLam told b HL env h = .ok v h2 := by
  unfold eLam; rw [e]; simp only [hl, hg]
end Lv
end
section
set_option Elab.async false
set_option linter.all false
set_option maxRecDepth 100000
namespace Lv
open PySem PySem.Spec PyProof.Rows L2
/-! ### rationals as pairs and as records -/
def gsg (t b : Int) : Int := if 0 < b then (Nat.gcd t.natAbs b.natAbs : Nat) else -(Nat.gcd t.natAbs b.natAbs : Nat)
theorem gsg_ne {t b : Int} (hb : b ≠ 0) : gsg t b ≠ 0 := by
  have : 0 < Nat.gcd t.natAbs b.natAbs := Nat.gcd_pos_of_pos_right _ (by omega)
  unfold gsg; split <;> omega
theorem gsg_abs {t b : Int} : (gsg t b).natAbs = Nat.gcd t.natAbs b.natAbs := by
  unfold gsg; split <;> omega
theorem fdiv_ex {t g q : Int} (hg : g ≠ 0) (h : t = q * g) : t.fdiv g = q := by
  rw [h, Int.mul_fdiv_cancel _ hg]
theorem ediv_ex {t g q : Int} (hg : g ≠ 0) (h : t = q * g) : t / g = q := by
  rw [h, Int.mul_ediv_cancel _ hg]
theorem num_gsg {t b : Int} (hb : b ≠ 0) : t.fdiv (gsg t b) = (Rat.divInt t b).num := by
  rw [Rat.num_divInt]
  have hg : 0 < Nat.gcd t.natAbs b.natAbs := Nat.gcd_pos_of_pos_right _ (by omega)
  have eg : b.gcd t = Nat.gcd t.natAbs b.natAbs := by rw [Int.gcd, Nat.gcd_comm]
  obtain ⟨q, hq⟩ : ((Nat.gcd t.natAbs b.natAbs : Nat) : Int) ∣ t := Int.ofNat_dvd_left.2 (Nat.gcd_dvd_left _ _)
  rw [eg]
  unfold gsg
  generalize Nat.gcd t.natAbs b.natAbs = g at *
  by_cases h : 0 < b
  · rw [if_pos h, Int.sign_eq_one_of_pos h, Int.one_mul, fdiv_ex (q := q) (by omega) (by rw [hq, Int.mul_comm]), ediv_ex (q := q) (by omega) (by rw [hq, Int.mul_comm])]
  · have h' : b < 0 := by omega
    rw [if_neg h, Int.sign_eq_neg_one_of_neg h', fdiv_ex (q := -q) (by omega) (by rw [hq, Int.neg_mul_neg, Int.mul_comm]), ediv_ex (q := -q) (by omega) (by rw [hq, Int.neg_mul, Int.one_mul, Int.neg_mul, Int.mul_comm])]
theorem den_gsg {t b : Int} (hb : b ≠ 0) : b.fdiv (gsg t b) = ((Rat.divInt t b).den : Int) := by
  rw [Rat.den_divInt, if_neg hb]
  have hg : 0 < Nat.gcd t.natAbs b.natAbs := Nat.gcd_pos_of_pos_right _ (by omega)
  have eg : b.gcd t = Nat.gcd t.natAbs b.natAbs := by rw [Int.gcd, Nat.gcd_comm]
  obtain ⟨q, hq⟩ : Nat.gcd t.natAbs b.natAbs ∣ b.natAbs := Nat.gcd_dvd_right _ _
  rw [eg]
  unfold gsg
  generalize Nat.gcd t.natAbs b.natAbs = g at *
  have e : b.natAbs / g = q := by rw [hq]; exact Nat.mul_div_cancel_left _ hg
  rw [e]
  by_cases h : 0 < b
  · rw [if_pos h]
    exact fdiv_ex (by omega) (by
      have : b = (b.natAbs : Int) := by omega
      rw [this, hq, Int.natCast_mul, Int.mul_comm])
  · rw [if_neg h]
    exact fdiv_ex (by omega) (by
      have : b = -(b.natAbs : Int) := by omega
      rw [this, hq, Int.natCast_mul, Int.mul_neg, Int.mul_comm])
theorem log_mono {a b : Nat} (h : a ≤ b) : a.log2 ≤ b.log2 := by
  by_cases h0 : a = 0
  · subst h0; simp
  · have hb : b ≠ 0 := by omega
    have h1 : b < 2 ^ (b.log2 + 1) := Nat.lt_log2_self
    have := (Nat.log2_lt h0).2 (Nat.lt_of_le_of_lt h h1)
    omega
theorem log_mul (a b : Nat) : (a * b).log2 ≤ a.log2 + b.log2 + 1 := by
  by_cases h0 : a * b = 0
  · rw [h0]; simp
  · have h1 : a < 2 ^ (a.log2 + 1) := Nat.lt_log2_self
    have h2 : b < 2 ^ (b.log2 + 1) := Nat.lt_log2_self
    have h3 : a * b < 2 ^ (a.log2 + 1 + (b.log2 + 1)) := by rw [Nat.pow_add]; exact Nat.mul_lt_mul'' h1 h2
    have := (Nat.log2_lt h0).2 h3
    omega
theorem gsg_log {t b : Int} {B : Nat} (hb : b ≠ 0) (h : b.natAbs.log2 < B) : (gsg t b).natAbs.log2 < B := by
  rw [gsg_abs]
  exact Nat.lt_of_le_of_lt (log_mono (Nat.gcd_le_right _ (by omega))) h
theorem mulOk_log {i j : Int} {a b : Nat} (hi : i.natAbs.log2 < a) (hj : j.natAbs.log2 < b) (h : a + b ≤ 1000000) : mulOk i j = true := by
  unfold mulOk
  rw [Bool.or_eq_true]
  exact .inr (decide_eq_true (by omega))
/-- the pair, the record of a rational -/
def qpair (x : Rat) : LV := .tup [.int x.num, .int (x.den : Int)]
def qflds (x : Rat) : List (Str × LV) := [("top", .int x.num), ("bottom", .int (x.den : Int)), ("sign", .int (b2i (decide (0 < x.num)) - b2i (decide (x.num < 0)))), ("whole", .bl (decide ((x.den : Int) = 1)))]
/-- few digits -/
structure Sz (B : Nat) (x : Rat) : Prop where
  n : x.num.natAbs.log2 < B
  d : x.den.log2 < B
theorem Sz.mono {B C : Nat} {x : Rat} (h : Sz B x) (hc : B ≤ C) : Sz C x := ⟨Nat.lt_of_lt_of_le h.n hc, Nat.lt_of_lt_of_le h.d hc⟩
theorem den_ne (x : Rat) : (x.den : Int) ≠ 0 := by have := x.den_pos; omega
theorem q_mul (x y : Rat) : Rat.divInt (x.num * y.num) ((x.den : Int) * y.den) = x * y := by
  conv => rhs; rw [← Rat.num_divInt_den x, ← Rat.num_divInt_den y]
  rw [Rat.divInt_mul_divInt]
theorem q_add (x y : Rat) : Rat.divInt (x.num * y.den + y.num * x.den) ((x.den : Int) * y.den) = x + y := by
  conv => rhs; rw [← Rat.num_divInt_den x, ← Rat.num_divInt_den y]
  rw [Rat.divInt_add_divInt _ _ (den_ne x) (den_ne y)]
theorem q_self (x : Rat) : Rat.divInt x.num x.den = x := Rat.num_divInt_den x
theorem q_one (i : Int) : Rat.divInt i 1 = (i : Rat) := by
  have := Rat.num_divInt_den (i : Rat)
  rwa [Rat.num_intCast, Rat.den_intCast] at this
/-- a number with the denominator D -/
def Bd (D M : Nat) (x : Rat) : Prop := ∃ a : Int, a.natAbs ≤ M ∧ x = Rat.divInt a D
theorem Bd.mono {D M N : Nat} {x : Rat} (h : Bd D M x) (hm : M ≤ N) : Bd D N x := let ⟨a, ha, e⟩ := h; ⟨a, Nat.le_trans ha hm, e⟩
theorem Bd.add {D M N : Nat} (hD : 0 < D) {x y : Rat} (h : Bd D M x) (g : Bd D N y) : Bd D (M + N) (x + y) := by
  obtain ⟨a, ha, rfl⟩ := h
  obtain ⟨b, hb, rfl⟩ := g
  refine ⟨a + b, by omega, ?_⟩
  have h0 : (D : Int) ≠ 0 := by omega
  rw [Rat.divInt_add_divInt _ _ h0 h0]
  refine (Rat.divInt_eq_divInt_iff (Int.mul_ne_zero h0 h0) h0).2 ?_
  rw [← Int.add_mul, Int.mul_assoc]
theorem Bd.mul {D E M N : Nat} {x y : Rat} (h : Bd D M x) (g : Bd E N y) : Bd (D * E) (M * N) (x * y) := by
  obtain ⟨a, ha, rfl⟩ := h
  obtain ⟨b, hb, rfl⟩ := g
  refine ⟨a * b, ?_, ?_⟩
  · rw [Int.natAbs_mul]; exact Nat.mul_le_mul ha hb
  · rw [Rat.divInt_mul_divInt, Int.natCast_mul]
theorem Bd.sz {D M B : Nat} (hD : 0 < D) {x : Rat} (h : Bd D M x) (hM : M.log2 < B) (hd : D.log2 < B) : Sz B x := by
  obtain ⟨a, ha, rfl⟩ := h
  have h0 : (D : Int) ≠ 0 := by omega
  constructor
  · rw [Rat.num_divInt, Int.sign_eq_one_of_pos (by omega), Int.one_mul]
    have := Int.natAbs_ediv_le_natAbs a ((D : Int).gcd a)
    exact Nat.lt_of_le_of_lt (log_mono (by omega)) hM
  · rw [Rat.den_divInt, if_neg h0]
    have := Nat.div_le_self (D : Int).natAbs ((D : Int).gcd a)
    have e : (D : Int).natAbs = D := Int.natAbs_natCast D
    exact Nat.lt_of_le_of_lt (log_mono (by omega)) hd
end Lv
end
section
set_option Elab.async false
set_option linter.all false
set_option maxRecDepth 100000
namespace Lv
open PySem PySem.Spec PyProof.Rows L2
theorem sSeq_nx {s t : Sv} {env env' : LE} {h h' : LH} (e : s env h = .nx env' h') : sSeq s t env h = t env' h' := by unfold sSeq; rw [e]
theorem sSeq_rt {s t : Sv} {env : LE} {v : LV} {h h' : LH} (e : s env h = .rt v h') : sSeq s t env h = .rt v h' := by unfold sSeq; rw [e]
theorem sSeq_exn {s t : Sv} {env env' : LE} {c : Nat} {fs : List (Str × LV)} {h h' : LH} (e : s env h = .exn c fs env' h') : sSeq s t env h = .exn c fs env' h' := by unfold sSeq; rw [e]
theorem sFor_run {it : EvL} {g : Tg} {s : Sv} {env : LE} {h h' : LH} {xs : List LV} (e : it env h = .ok xs h') : sFor it g s env h = fLoop g s xs env h' := by unfold sFor; rw [e, rS_ok]
theorem fCall_run {n : Nat} {m : Fn} {dls ls : List LV} {h : LH} (hl : (ls ++ dls).length = n) : fCall n m dls ls h = m (ls ++ dls) h := if_pos hl
theorem range_items {n : Int} {h : LH} (h0 : -(2 ^ 62) ≤ n) (h1 : n < 2 ^ 62) {ev : Ev} {env : LE} {lh : LH} (he : ev env lh = .ok (.int n) h) : eRng1 ev env lh = .ok ((List.range n.toNat).map fun i => LV.int (0 + (i : Nat))) h := by
  unfold eRng1
  rw [he, rb_ok]
  simp only
  rw [if_pos ⟨h0, h1⟩, rangeL]
  simp
/-! calls, the def kept from sight -/
theorem call1 {f : Fn} {a : Ev} {env : LE} {h h1 : LH} {x : LV} {r : Res LV} (ha : a env h = .ok x h1) (hf : f [x] h1 = r) : eL (fCall 1 f []) (lCons a lNil) env h = r := by
  unfold eL lCons lNil
  rw [ha, rb_ok, rb_ok, rb_ok]
  exact hf
theorem call2 {f : Fn} {a b : Ev} {env : LE} {h h1 h2 : LH} {x y : LV} {r : Res LV} (ha : a env h = .ok x h1) (hb : b env h1 = .ok y h2) (hf : f [x, y] h2 = r) : eL (fCall 2 f []) (lCons a (lCons b lNil)) env h = r := by
  unfold eL lCons lNil
  rw [ha, rb_ok, hb, rb_ok, rb_ok, rb_ok, rb_ok]
  exact hf
theorem call3 {f : Fn} {a b c : Ev} {env : LE} {h h1 h2 h3 : LH} {x y z : LV} {r : Res LV} (ha : a env h = .ok x h1) (hb : b env h1 = .ok y h2) (hc : c env h2 = .ok z h3) (hf : f [x, y, z] h3 = r) : eL (fCall 3 f []) (lCons a (lCons b (lCons c lNil))) env h = r := by
  unfold eL lCons lNil
  rw [ha, rb_ok, hb, rb_ok, hc, rb_ok, rb_ok, rb_ok, rb_ok, rb_ok]
  exact hf
/-! ### loops by a relation -/
def foldS {α ρ σ : Type} (f : σ → α → Sum ρ σ) : σ → List α → Sum ρ σ
  | s, [] => .inr s
  | s, a :: as => match f s a with
    | .inl r => .inl r
    | .inr s' => foldS f s' as
/-- a for loop: R what stands at the head of a turn, Rr what a return hands out -/
theorem for_rel {α ρ σ : Type} {g : Tg} {body : Sv} (enc : α → LV) (R : σ → LE → LH → Prop) (Rr : ρ → LV → LH → Prop) (f : σ → α → Sum ρ σ) : ∀ (as : List α) (s : σ) (env : LE) (h : LH), R s env h →
    (∀ a ∈ as, ∀ s env h, R s env h → ∃ e1, asg g (enc a) env = some e1 ∧ (match f s a with
      | .inl r => ∃ v h', body e1 h = .rt v h' ∧ Rr r v h'
      | .inr s' => ∃ e2 h', (body e1 h = .nx e2 h' ∨ body e1 h = .ct e2 h') ∧ R s' e2 h')) →
    (match foldS f s as with
      | .inl r => ∃ v h', fLoop g body (as.map enc) env h = .rt v h' ∧ Rr r v h'
      | .inr s' => ∃ e2 h', fLoop g body (as.map enc) env h = .nx e2 h' ∧ R s' e2 h')
  | [], s, env, h, r, _ => ⟨env, h, rfl, r⟩
  | a :: as, s, env, h, r, H => by
    obtain ⟨e1, ha, hb⟩ := H a (List.mem_cons_self ..) s env h r
    rw [foldS]
    cases hf : f s a with
    | inl r' =>
      rw [hf] at hb
      obtain ⟨v, h', e, q⟩ := hb
      refine ⟨v, h', ?_, q⟩
      simp only [List.map_cons, fLoop, ha, e]
    | inr s' =>
      rw [hf] at hb
      obtain ⟨e2, h', e, q⟩ := hb
      have ih := for_rel (body := body) enc R Rr f as s' e2 h' q fun b m => H b (List.mem_cons_of_mem _ m)
      have step : fLoop g body ((a :: as).map enc) env h = fLoop g body (as.map enc) e2 h' := by
        rcases e with e | e <;> simp only [List.map_cons, fLoop, ha, e]
      rw [step]
      exact ih
/-- without a return -/
theorem for_nx {α σ : Type} {g : Tg} {body : Sv} (enc : α → LV) (R : σ → LE → LH → Prop) (f : σ → α → σ) (as : List α) (s : σ) (env : LE) (h : LH) (r : R s env h)
    (H : ∀ a ∈ as, ∀ s env h, R s env h → ∃ e1, asg g (enc a) env = some e1 ∧ ∃ e2 h', (body e1 h = .nx e2 h' ∨ body e1 h = .ct e2 h') ∧ R (f s a) e2 h') :
    ∃ e2 h', fLoop g body (as.map enc) env h = .nx e2 h' ∧ R (as.foldl f s) e2 h' := by
  have q := for_rel (ρ := Empty) (g := g) (body := body) enc R (fun _ _ _ => False) (fun s a => .inr (f s a)) as s env h r fun a m s env h r => by
    obtain ⟨e1, ha, hb⟩ := H a m s env h r
    exact ⟨e1, ha, hb⟩
  have e : ∀ (as : List α) (s : σ), foldS (ρ := Empty) (fun s a => .inr (f s a)) s as = .inr (as.foldl f s) := by
    intro as
    induction as with
    | nil => intro s; rfl
    | cons a as ih => intro s; exact ih _
  rw [e] at q
  exact q
/-- a search: the first that p takes is answered -/
theorem for_any {α : Type} {g : Tg} {body : Sv} (enc : α → LV) (R : LE → LH → Prop) (v : LV) (p : α → Bool) (as : List α) (env : LE) (h : LH) (r : R env h) (hh : LH)
    (H : ∀ a ∈ as, ∀ env h, R env h → ∃ e1, asg g (enc a) env = some e1 ∧ (if p a = true then body e1 h = .rt v hh else ∃ e2 h', (body e1 h = .nx e2 h' ∨ body e1 h = .ct e2 h') ∧ R e2 h')) :
    (if as.any p = true then fLoop g body (as.map enc) env h = .rt v hh else ∃ e2 h', fLoop g body (as.map enc) env h = .nx e2 h' ∧ R e2 h') := by
  have q := for_rel (ρ := Unit) (σ := Unit) (g := g) (body := body) enc (fun _ => R) (fun _ u h' => u = v ∧ h' = hh) (fun _ a => if p a = true then .inl () else .inr ()) as () env h r fun a m s env h r => by
    obtain ⟨e1, ha, hb⟩ := H a m env h r
    refine ⟨e1, ha, ?_⟩
    by_cases hp : p a = true
    · rw [if_pos hp] at hb ⊢; exact ⟨v, hh, hb, rfl, rfl⟩
    · rw [if_neg hp] at hb ⊢; exact hb
  have e : ∀ (as : List α), foldS (ρ := Unit) (σ := Unit) (fun _ a => if p a = true then .inl () else .inr ()) () as = if as.any p = true then .inl () else .inr () := by
    intro as
    induction as with
    | nil => rfl
    | cons a as ih =>
      rw [foldS, List.any_cons]
      by_cases hp : p a = true
      · simp [hp]
      · simp [hp, ih]
  rw [e] at q
  by_cases ha : as.any p = true
  · rw [if_pos ha] at q ⊢
    obtain ⟨u, h', e, rfl, rfl⟩ := q
    exact e
  · rw [if_neg ha] at q ⊢; exact q
/-- without a return, told by what is done -/
theorem for_pre {α : Type} {g : Tg} {body : Sv} (enc : α → LV) (R : List α → LE → LH → Prop) (as : List α) (env : LE) (h : LH) (r : R [] env h)
    (H : ∀ l a l2, as = l ++ a :: l2 → ∀ env h, R l env h → ∃ e1, asg g (enc a) env = some e1 ∧ ∃ e2 h', (body e1 h = .nx e2 h' ∨ body e1 h = .ct e2 h') ∧ R (l ++ [a]) e2 h') :
    ∃ e2 h', fLoop g body (as.map enc) env h = .nx e2 h' ∧ R as e2 h' := by
  have go : ∀ (as2 l : List α), as = l ++ as2 → ∀ env h, R l env h → ∃ e2 h', fLoop g body (as2.map enc) env h = .nx e2 h' ∧ R as e2 h' := by
    intro as2
    induction as2 with
    | nil => intro l e env h r; rw [List.append_nil] at e; subst e; exact ⟨env, h, rfl, r⟩
    | cons a as2 ih =>
      intro l e env h r
      obtain ⟨e1, ha, e2, h', hb, r'⟩ := H l a as2 e env h r
      have q := ih (l ++ [a]) (by rw [e]; simp) e2 h' r'
      have step : fLoop g body ((a :: as2).map enc) env h = fLoop g body (as2.map enc) e2 h' := by
        rcases hb with hb | hb <;> simp only [List.map_cons, fLoop, ha, hb]
      rw [step]
      exact q
  exact go as [] rfl env h r
/-- a search: what is found is answered -/
theorem for_find {α ρ : Type} {g : Tg} {body : Sv} (enc : α → LV) (R : LE → LH → Prop) (Rv : ρ → LV) (f : α → Option ρ) (as : List α) (env : LE) (h : LH) (r : R env h) (hh : LH)
    (H : ∀ a ∈ as, ∀ env h, R env h → ∃ e1, asg g (enc a) env = some e1 ∧ (match f a with
      | some r => body e1 h = .rt (Rv r) hh
      | none => ∃ e2 h', (body e1 h = .nx e2 h' ∨ body e1 h = .ct e2 h') ∧ R e2 h')) :
    (match as.findSome? f with
      | some r => fLoop g body (as.map enc) env h = .rt (Rv r) hh
      | none => ∃ e2 h', fLoop g body (as.map enc) env h = .nx e2 h' ∧ R e2 h') := by
  have q := for_rel (ρ := ρ) (σ := Unit) (g := g) (body := body) enc (fun _ => R) (fun r u h' => u = Rv r ∧ h' = hh) (fun _ a => match f a with | some r => .inl r | none => .inr ()) as () env h r fun a m s env h r => by
    obtain ⟨e1, ha, hb⟩ := H a m env h r
    refine ⟨e1, ha, ?_⟩
    cases e : f a with
    | some r => rw [e] at hb; exact ⟨Rv r, hh, hb, rfl, rfl⟩
    | none => rw [e] at hb; exact hb
  have e : ∀ (as : List α), foldS (ρ := ρ) (σ := Unit) (fun _ a => match f a with | some r => .inl r | none => .inr ()) () as = (match as.findSome? f with | some r => .inl r | none => .inr ()) := by
    intro as
    induction as with
    | nil => rfl
    | cons a as ih =>
      rw [foldS, List.findSome?_cons]
      cases e : f a with
      | some r => rfl
      | none => exact ih
  rw [e] at q
  cases e : as.findSome? f with
  | some r =>
    rw [e] at q
    obtain ⟨u, h', e, rfl, rfl⟩ := q
    exact e
  | none => rw [e] at q; exact q
/-! ### comprehensions of two clauses, lists that are written -/
theorem cLoop2_pure {α β : Type} {g g1 : Tg} {it1 : EvL} {el : Ev} {vs1 : List Nat} {h : LH} (inj : α → LV) (inj2 F : β → LV) (f : α → List β) (env' : LE) : ∀ (as : List α) (acc : List LV),
    (∀ a ∈ as, ∃ e1, asg g (inj a) env' = some e1 ∧ ∀ acc, it1 e1 (h ++ [.lst acc]) = .ok ((f a).map inj2) (h ++ [.lst acc]) ∧ ∀ b ∈ f a, ∃ e2, asg g1 (inj2 b) (lwipe e1 vs1) = some e2 ∧ ∀ acc, el e2 (h ++ [.lst acc]) = .ok (F b) (h ++ [.lst acc]) ∧ noRef (F b) = true) →
    acc.length + (as.flatMap f).length ≤ LIM → cLoop2 g tYes' it1 g1 tYes' el vs1 env' h.length (as.map inj) (h ++ [.lst acc]) = .ok () (h ++ [.lst (acc ++ (as.flatMap f).map F)])
  | [], acc, _, _ => by simp [cLoop2]
  | a :: as, acc, hx, hl => by
    obtain ⟨e1, ha, hb⟩ := hx a (List.mem_cons_self ..)
    rw [List.flatMap_cons, List.length_append] at hl
    have c1 := cLoop_pure (g := g1) (t := tYes') (el := el) (h := h) inj2 (fun _ => true) F (lwipe e1 vs1) (f a) acc (fun b m => by
      obtain ⟨e2, h1, h2⟩ := (hb acc).2 b m
      exact ⟨e2, h1, fun acc => ⟨rfl, fun _ => h2 acc⟩⟩) (by omega)
    rw [List.filter_eq_self.2 (fun _ _ => rfl)] at c1
    rw [List.map_cons, cLoop2, ha]
    simp only [tYes', rb_ok, if_true, (hb acc).1]
    rw [c1, rb_ok, cLoop2_pure (g := g) (g1 := g1) (it1 := it1) (el := el) (vs1 := vs1) (h := h) inj inj2 F f env' as (acc ++ (f a).map F) (fun b m => hx b (List.mem_cons_of_mem _ m)) (by simp only [List.length_append, List.length_map]; omega)]
    simp
theorem eLc2_map {α β : Type} {it : EvL} {g g1 : Tg} {it1 : EvL} {el : Ev} {vs vs1 : List Nat} {env : LE} {h h' : LH} (inj : α → LV) (inj2 F : β → LV) (f : α → List β) (as : List α) (hi : it env h = .ok (as.map inj) h')
    (hx : ∀ a ∈ as, ∃ e1, asg g (inj a) (lwipe env vs) = some e1 ∧ ∀ acc, it1 e1 (h' ++ [.lst acc]) = .ok ((f a).map inj2) (h' ++ [.lst acc]) ∧ ∀ b ∈ f a, ∃ e2, asg g1 (inj2 b) (lwipe e1 vs1) = some e2 ∧ ∀ acc, el e2 (h' ++ [.lst acc]) = .ok (F b) (h' ++ [.lst acc]) ∧ noRef (F b) = true)
    (hl : (as.flatMap f).length ≤ LIM) : eLc2 false it g tYes' it1 g1 tYes' el vs vs1 env h = .ok (.fl ((as.flatMap f).map F)) h' := by
  unfold eLc2
  rw [hi, rb_ok, cLoop2_pure inj inj2 F f (lwipe env vs) as [] hx (by simpa using hl)]
  simp [calmR, lcFin]
theorem app_ok {xs : List LV} {y : LV} {ev ar : Ev} {env : LE} {h r : LH} {n : Nat} (he : ev env h = .ok y h) (ha : ar env h = .ok (.ref n) h) (hg : h[n]? = some (.lst xs)) (hl : xs.length ≤ LIM) (hn : noRef y = true) (hr : h.set n (.lst (xs ++ [y])) = r) :
    eApp ar ev env h = .ok .non r := by
  unfold eApp
  rw [ha, rb_ok]
  simp only [hg, he, rb_ok]
  rw [if_pos ⟨hl, hn⟩, hr]
theorem set_last {h : LH} {o o' : LO} : (h ++ [o]).set h.length o' = h ++ [o'] := by simp
theorem cut_to (xs : List LV) (k : Nat) : cutL xs none (some (k : Int)) = xs.take k := by
  unfold cutL
  rw [HT.sIx_none, HT.sIx_nat]
  simp [List.take_take]
theorem cut_from (xs : List LV) (k : Nat) : cutL xs (some (k : Int)) none = xs.drop k := by
  unfold cutL
  rw [HT.sIx_none, HT.sIx_nat]
  by_cases h : k ≤ xs.length
  · rw [Nat.min_eq_left h]
    exact List.take_of_length_le (by simp)
  · rw [Nat.min_eq_right (by omega)]
    simp
    omega
theorem enumL_zip {α : Type} (f : α → LV) : ∀ (xs : List α) (k : Nat), enumL k (xs.map f) = (xs.zip ((List.range xs.length).map (k + ·))).map fun q => .tup [.int (q.2 : Nat), f q.1]
  | [], k => rfl
  | x :: xs, k => by
    rw [List.map_cons, enumL, enumL_zip f xs (k + 1), List.length_cons, List.range_succ_eq_map]
    simp only [List.map_cons, List.zip_cons_cons, Nat.add_zero, List.map_map]
    congr 2
    congr 1
    refine List.map_congr_left fun i _ => ?_
    simp only [Function.comp]
    omega
theorem enumL_zip0 {α : Type} (f : α → LV) (xs : List α) : enumL 0 (xs.map f) = (xs.zip (List.range xs.length)).map fun q => .tup [.int (q.2 : Nat), f q.1] := by
  rw [enumL_zip]
  congr 2
  simp
theorem foldl_snoc {α β : Type} (g : α → β) : ∀ (as : List α) (s : List β), as.foldl (fun s a => s ++ [g a]) s = s ++ as.map g
  | [], s => by simp
  | a :: as, s => by rw [List.foldl_cons, foldl_snoc g as]; simp
theorem zip_range {α β : Type} (d : α) (xs : List α) (g : α × Nat → β) : (xs.zip (List.range xs.length)).map g = (List.range xs.length).map fun k => g (xs.getD k d, k) := by
  refine List.ext_getElem (by simp) fun i h1 h2 => ?_
  simp at h1
  simp [h1]
theorem map_all {α : Type} (f : α → Bool) (as : List α) (h : LH) : fAll [.fl (as.map fun a => LV.bl (f a))] h = .ok (.bl (as.all f)) h := by
  have e : blsOf (as.map fun a => LV.bl (f a)) = some (as.map f) := by
    induction as with
    | nil => rfl
    | cons a as ih => simp [blsOf, ih]
  unfold fAll
  simp only [e]
  congr 2
  induction as with
  | nil => rfl
  | cons a as ih => simp_all
theorem sum_ints {add : LV → LV → LH → Res LV} (ha : ∀ i j h, add (.int i) (.int j) h = .ok (.int (i + j)) h) : ∀ (is : List Int) (a : Int) (h : LH), sumL add (is.map .int) (.int a) h = .ok (.int (a + is.sum)) h
  | [], a, h => by simp [sumL]
  | i :: is, a, h => by
    have e : sumAcc (.int i) = true := rfl
    rw [List.map_cons, sumL, if_pos e, ha]
    show (if sumAcc (.int (a + i)) = true then sumL add (is.map .int) (.int (a + i)) h else .stuck) = _
    rw [if_pos (show sumAcc (.int (a + i)) = true from rfl), sum_ints ha is, List.sum_cons, Int.add_assoc]
end Lv
end
section
set_option Elab.async false
set_option linter.all false
set_option maxRecDepth 100000
namespace Lv
open PySem PySem.Spec PyProof.Rows L2
/-! ### sorted, told by its answer -/
theorem uniq {α : Type} {le : α → α → Bool} : ∀ {l2 l1 : List α}, l1.Perm l2 → l1.Pairwise (fun a b => le a b = true) → l2.Pairwise (fun a b => le b a = false) → l1 = l2
  | [], l1, p, _, _ => List.perm_nil.mp p
  | a :: t2, [], p, _, _ => absurd p.length_eq (by simp)
  | a :: t2, c :: t1, p, h1, h2 => by
    rw [List.pairwise_cons] at h1 h2
    have hc : c ∈ a :: t2 := p.mem_iff.1 (List.mem_cons_self ..)
    have ha : a ∈ c :: t1 := p.mem_iff.2 (List.mem_cons_self ..)
    by_cases e : c = a
    · subst e
      rw [uniq p.cons_inv h1.2 h2.2]
    · have m2 : c ∈ t2 := (List.mem_cons.1 hc).resolve_left e
      have m1 : a ∈ t1 := (List.mem_cons.1 ha).resolve_left fun q => e q.symm
      have q1 := h1.1 a m1
      have q2 := h2.1 c m2
      rw [q1] at q2; cases q2
theorem srtL_pw (xs : List LV) : (srtL xs).Pairwise (fun a b => PySem.W.dataLe false srtD a b = true) := by
  have T : PySem.W.TotalLe (PySem.W.dataLe false srtD) := PySem.W.sortLe_total _ _ _
  exact List.pairwise_mergeSort (fun a b c h1 h2 => T.trans a b c h1 h2) (fun a b => by have := T.total a b; simpa using this) xs
theorem srtL_is {xs ys : List LV} (p : ys.Perm xs) (s : ys.Pairwise fun a b => PySem.W.dataLe false srtD b a = false) : srtL xs = ys :=
  uniq ((List.mergeSort_perm _ _).trans p.symm) (srtL_pw xs) s
theorem sorted_is {xs ys : List LV} {ds : List PyData} (hd : dOfs xs = some ds) (hb : srtB ds = true) (p : ys.Perm xs) (s : ys.Pairwise fun a b => PySem.W.dataLe false srtD b a = false) (h : LH) : fSorted [.fl xs] h = .ok (.fl ys) h := by
  unfold fSorted
  simp only [lstOf]
  by_cases c : xs.length ≤ 1
  · rw [if_pos c, perm_short c p]
  · rw [if_neg c, hd]
    simp only
    rw [if_pos hb, srtL_is p s]
theorem int_le (a b : Int) : PySem.W.dataLe false srtD (.int a) (.int b) = decide (a ≤ b) := by
  have e1 : srtD (.int a) = .int a := by simp [srtD, dOf]
  have e2 : srtD (.int b) = .int b := by simp [srtD, dOf]
  rw [PySem.W.dataLe_eq]
  simp only [cond_false, e1, e2]
  rw [PySem.W.dataLt_int, PySem.W.not_lt_int]
theorem dOfs_ints : ∀ is : List Int, dOfs (is.map LV.int) = some (is.map PyData.int)
  | [] => by simp [dOfs]
  | i :: is => by simp [dOfs, dOf, dOfs_ints is]
theorem alike_ints (a b : Int) : PySem.W.alike (.int a) (.int b) = true := by simp [PySem.W.alike]
theorem srtB_ints (is : List Int) : srtB (is.map PyData.int) = true := by
  unfold srtB
  rw [Bool.and_eq_true, Bool.and_eq_true, Bool.or_eq_true]
  refine ⟨?_, .inr ?_, ?_⟩
  · rw [List.all_map, List.all_eq_true]
    intro a _
    show (is.map PyData.int).all _ = true
    rw [List.all_map, List.all_eq_true]
    exact fun b _ => alike_ints a b
  · rw [List.all_map, List.all_eq_true]; intro a _; rfl
  · rw [List.all_map, List.all_eq_true]; intro a _; simp [PyData.depth]
/-- sorted of integers -/
theorem sorted_ints' {is js : List Int} (p : js.Perm is) (s : js.Pairwise (· < ·)) (h : LH) : fSorted [.fl (is.map LV.int)] h = .ok (.fl (js.map LV.int)) h := by
  refine sorted_is (dOfs_ints is) (srtB_ints is) (p.map _) ?_ h
  rw [List.pairwise_map]
  exact s.imp fun {a b} hlt => by rw [int_le]; exact decide_eq_false (by omega)
theorem sortedT_ints {is : List Int} (hl : 2 ≤ is.length) (h : LH) : ∃ js : List Int, js.Perm is ∧ fSortedT [.tup (is.map LV.int)] h = .ok (.fl (js.map LV.int)) h := by
  unfold fSortedT
  simp only
  rw [if_neg (by simp; omega), dOfs_ints]
  simp only
  rw [if_pos (srtB_ints is)]
  have pm : (srtL (is.map LV.int)).Perm (is.map LV.int) := List.mergeSort_perm _ _
  have : ∀ (l : List LV) (is : List Int), l.Perm (is.map LV.int) → ∃ js : List Int, js.Perm is ∧ l = js.map LV.int := by
    intro l is
    induction is generalizing l with
    | nil => intro p; exact ⟨[], .refl _, by simpa using p⟩
    | cons i is ih =>
      intro p
      have m : LV.int i ∈ l := p.mem_iff.2 (by simp)
      obtain ⟨l1, l2, rfl⟩ := List.append_of_mem m
      have p' : (l1 ++ l2).Perm (is.map LV.int) := (List.perm_middle.symm.trans p).cons_inv
      obtain ⟨js, pj, e⟩ := ih _ p'
      obtain ⟨j1, j2, rfl, rfl, rfl⟩ := List.append_eq_map_iff.1 e
      exact ⟨j1 ++ i :: j2, List.perm_middle.trans (pj.cons i), by simp⟩
  obtain ⟨js, pj, e⟩ := this _ is pm
  exact ⟨js, pj, by rw [e]⟩
end Lv
end
section
set_option Elab.async false
set_option linter.all false
set_option maxRecDepth 100000
namespace Lv
open PySem PySem.Spec PyProof.Rows L2
/-! ### steps -/
section
variable {env : LE} {h h1 h2 h3 : LH} {a b c : Ev} {t u : EvT} {s s' : Sv} {x y z v : LV} {k : Bool} {i j : Nat}
theorem var_ok (e : env[i]? = some (some v)) : eVar i env h = .ok v h := by unfold eVar; rw [e]
theorem u_ok {f : LV → LH → Res LV} {r : Res LV} (ha : a env h = .ok x h1) (hf : f x h1 = r) : eU f a env h = r := by unfold eU; rw [ha, rb_ok]; exact hf
theorem b_ok {f : LV → LV → LH → Res LV} {r : Res LV} (ha : a env h = .ok x h1) (hb : b env h1 = .ok y h2) (hf : f x y h2 = r) : eB f a b env h = r := by unfold eB; rw [ha, rb_ok, hb, rb_ok]; exact hf
theorem l1_ok {f : List LV → LH → Res LV} {r : Res LV} (ha : a env h = .ok x h1) (hf : f [x] h1 = r) : eL f (lCons a lNil) env h = r := by unfold eL lCons lNil; rw [ha, rb_ok, rb_ok, rb_ok]; exact hf
theorem l2_ok {f : List LV → LH → Res LV} {r : Res LV} (ha : a env h = .ok x h1) (hb : b env h1 = .ok y h2) (hf : f [x, y] h2 = r) : eL f (lCons a (lCons b lNil)) env h = r := by
  unfold eL lCons lNil; rw [ha, rb_ok, hb, rb_ok, rb_ok, rb_ok, rb_ok]; exact hf
theorem l3_ok {f : List LV → LH → Res LV} {r : Res LV} (ha : a env h = .ok x h1) (hb : b env h1 = .ok y h2) (hc : c env h2 = .ok z h3) (hf : f [x, y, z] h3 = r) : eL f (lCons a (lCons b (lCons c lNil))) env h = r := by
  unfold eL lCons lNil; rw [ha, rb_ok, hb, rb_ok, hc, rb_ok, rb_ok, rb_ok, rb_ok, rb_ok]; exact hf
theorem test_ok (ha : a env h = .ok (.bl k) h1) : eTest a env h = .ok k h1 := by unfold eTest; rw [ha]; rfl
theorem tNot_ok (ht : t env h = .ok k h1) : tNot' t env h = .ok (!k) h1 := by unfold tNot'; rw [ht]; rfl
theorem tOr_t (ht : t env h = .ok true h1) : tOr' t u env h = .ok true h1 := by unfold tOr'; rw [ht]; rfl
theorem tOr_f {r : Res Bool} (ht : t env h = .ok false h1) (hu : u env h1 = r) : tOr' t u env h = r := by unfold tOr'; rw [ht, rb_ok]; exact hu
theorem tOr_ok {k' : Bool} (ht : t env h = .ok k h) (hu : u env h = .ok k' h) : tOr' t u env h = .ok (k || k') h := by
  cases k with
  | true => exact tOr_t ht
  | false => exact tOr_f ht hu
theorem tAnd_f (ht : t env h = .ok false h1) : tAnd' t u env h = .ok false h1 := by unfold tAnd'; rw [ht]; rfl
theorem tAnd_t {r : Res Bool} (ht : t env h = .ok true h1) (hu : u env h1 = r) : tAnd' t u env h = r := by unfold tAnd'; rw [ht, rb_ok]; exact hu
theorem tAnd_ok {k' : Bool} (ht : t env h = .ok k h) (hu : u env h = .ok k' h) : tAnd' t u env h = .ok (k && k') h := by
  cases k with
  | false => exact tAnd_f ht
  | true => exact tAnd_t ht hu
theorem eAnd_t {r : Res LV} (ha : a env h = .ok (.bl true) h1) (hb : b env h1 = r) : eAnd a b env h = r := by unfold eAnd; rw [ha, rb_ok]; exact hb
theorem eAnd_f (ha : a env h = .ok (.bl false) h1) : eAnd a b env h = .ok (.bl false) h1 := by unfold eAnd; rw [ha, rb_ok]; rfl
theorem eOr_t (ha : a env h = .ok (.bl true) h1) : eOr a b env h = .ok (.bl true) h1 := by unfold eOr; rw [ha, rb_ok]; rfl
theorem eOr_f {r : Res LV} (ha : a env h = .ok (.bl false) h1) (hb : b env h1 = r) : eOr a b env h = r := by unfold eOr; rw [ha, rb_ok]; exact hb
theorem eNot_ok (ha : a env h = .ok (.bl k) h1) : eNot a env h = .ok (.bl !k) h1 := by unfold eNot; rw [ha, rb_ok]; rfl
theorem eIf_t {r : Res LV} (ht : t env h = .ok true h1) (ha : a env h1 = r) : eIf t a b env h = r := by unfold eIf; rw [ht, rb_ok]; exact ha
theorem eIf_f {r : Res LV} (ht : t env h = .ok false h1) (hb : b env h1 = r) : eIf t a b env h = r := by unfold eIf; rw [ht, rb_ok]; exact hb
theorem sIf_t {r : SR} (ht : t env h = .ok true h1) (hs : s env h1 = r) : sIf t s s' env h = r := by unfold sIf; rw [ht, rS_ok]; exact hs
theorem sIf_f {r : SR} (ht : t env h = .ok false h1) (hs : s' env h1 = r) : sIf t s s' env h = r := by unfold sIf; rw [ht, rS_ok]; exact hs
theorem sIf_no (ht : t env h = .ok false h1) : sIf t s sNil env h = .nx env h1 := sIf_f ht rfl
theorem sSet_ok (ha : a env h = .ok v h1) : sSet i a env h = .nx (env.set i (some v)) h1 := by unfold sSet; rw [ha]; rfl
theorem sExpr_ok (ha : a env h = .ok v h1) : sExpr a env h = .nx env h1 := by unfold sExpr; rw [ha]; rfl
theorem sRet_ok (ha : a env h = .ok v h1) : sRet a env h = .rt v h1 := by unfold sRet; rw [ha]; rfl
/-- a def's end, by a statement that returns -/
theorem end_rt {n : Nat} (hs : s env h = .rt v h1) (hv : noRef v = true) (hn : h1.take n = h2) : trimR n (endR (s env h)) = .ok v h2 := by rw [hs]; show (if noRef v = true then _ else _) = _; rw [if_pos hv, hn]
theorem end_ret {n : Nat} (ha : a env h = .ok v h1) (hv : noRef v = true) (hn : h1.take n = h2) : trimR n (endR (sRet a env h)) = .ok v h2 := end_rt (sRet_ok ha) hv hn
theorem end_nx {n : Nat} {env' : LE} (hs : s env h = .nx env' h1) (hn : h1.take n = h2) : trimR n (endR (s env h)) = .ok .non h2 := by
  rw [hs, endR_nx, trimR_ok noRef_non, hn]
theorem end_exn {n c : Nat} {env' : LE} {fs : List (Str × LV)} (hs : s env h = .exn c fs env' h1) (hv : noReff fs = true) (hn : h1.take n = h2) : trimR n (endR (s env h)) = .exn c fs h2 := by
  rw [hs]; show (if noReff fs = true then _ else _) = _; rw [if_pos hv, hn]
theorem take_self : h.take h.length = h := List.take_length
theorem take_app : (h ++ h1).take h.length = h := by simp
end
end Lv
end
section
set_option Elab.async false
set_option linter.all false
set_option maxRecDepth 100000
namespace Lv
namespace Pa
/-! ### an item more, by itself -/
def oneMore (n : Nat) (p : Pt) : Bool := oCr p || !oCr (p ++ [[n]])
theorem om0 : (parts 0).all (oneMore 0) = true := by decide +kernel
theorem om1 : (parts 1).all (oneMore 1) = true := by decide +kernel
theorem om2 : (parts 2).all (oneMore 2) = true := by decide +kernel
theorem om3 : (parts 3).all (oneMore 3) = true := by decide +kernel
theorem om4 : (parts 4).all (oneMore 4) = true := by decide +kernel
theorem om5 : (parts 5).all (oneMore 5) = true := by decide +kernel
theorem om6 : (parts 6).all (oneMore 6) = true := by decide +kernel
theorem om7 : (parts 7).all (oneMore 7) = true := by decide +kernel
theorem one_more (n : Nat) (hn : n < 8) (p : Pt) (hp : p ∈ parts n) (hc : oCr p = false) : oCr (p ++ [[n]]) = false := by
  have t : oneMore n p = true := by
    have h : n = 0 ∨ n = 1 ∨ n = 2 ∨ n = 3 ∨ n = 4 ∨ n = 5 ∨ n = 6 ∨ n = 7 := by omega
    rcases h with h | h | h | h | h | h | h | h <;> subst h
    · exact List.all_eq_true.mp om0 p hp
    · exact List.all_eq_true.mp om1 p hp
    · exact List.all_eq_true.mp om2 p hp
    · exact List.all_eq_true.mp om3 p hp
    · exact List.all_eq_true.mp om4 p hp
    · exact List.all_eq_true.mp om5 p hp
    · exact List.all_eq_true.mp om6 p hp
    · exact List.all_eq_true.mp om7 p hp
  unfold oneMore at t
  rw [hc] at t
  simpa using t
theorem addTo_eq : ∀ (bs : Pt) (k j : Nat), k < bs.length → addTo bs k j = bs.take k ++ [bs.getD k [] ++ [j]] ++ bs.drop (k + 1)
  | [], _, _, h => absurd h (by simp)
  | b :: r, 0, j, _ => by simp [addTo]
  | b :: r, k + 1, j, h => by
    have := addTo_eq r k j (by simpa using h)
    simp [addTo, this]
theorem addTo_wth {bs : Pt} {k j : Nat} (h : k < bs.length) : addTo bs k j ∈ wth j bs := by
  rw [addTo_eq bs k j h]
  exact List.mem_cons_of_mem _ (List.mem_map.2 ⟨k, List.mem_range.2 h, rfl⟩)
theorem mem_succ {n : Nat} {p q : Pt} (hp : p ∈ parts n) (hq : q ∈ wth n p) : q ∈ parts (n + 1) := List.mem_flatMap.2 ⟨p, hp, hq⟩
end Pa
end Lv
end
section
set_option Elab.async false
set_option linter.all false
set_option maxRecDepth 100000
namespace Lv
namespace Pa
def uncs (n : Nat) : List Pt := (parts n).filter fun p => !oCr p
def eBl (b : Bl) : LV := .tup (b.map fun i => .int (i : Nat))
def ePt (p : Pt) : LV := .tup (p.map eBl)
def noTie (n : Nat) : Bool := (uncs n).all fun p => (uncs n).all fun q => beqP p q || !(PySem.W.dataLe false srtD (ePt p) (ePt q) && PySem.W.dataLe false srtD (ePt q) (ePt p))
theorem nt0 : noTie 0 = true := by decide +kernel
theorem nt1 : noTie 1 = true := by decide +kernel
theorem nt2 : noTie 2 = true := by decide +kernel
theorem nt3 : noTie 3 = true := by decide +kernel
theorem nt4 : noTie 4 = true := by decide +kernel
theorem nt5 : noTie 5 = true := by decide +kernel
/-- no partings twice -/
def noTwo : List Pt → Bool
  | [] => true
  | p :: r => !(r.any fun q => beqP p q) && noTwo r
def remP (p : Pt) : List Pt → Option (List Pt)
  | [] => none
  | q :: r => if beqP p q then some r else (remP p r).map (q :: ·)
def permP : List Pt → List Pt → Bool
  | [], l => l.isEmpty
  | p :: r, l => match remP p l with
    | some l' => permP r l'
    | none => false
def cPerm (n : Nat) : Bool := noTwo (uncs n) && permP ((uncs n).map comp) (uncs n)
theorem cp0 : cPerm 0 = true := by decide +kernel
theorem cp1 : cPerm 1 = true := by decide +kernel
theorem cp2 : cPerm 2 = true := by decide +kernel
theorem cp3 : cPerm 3 = true := by decide +kernel
theorem cp4 : cPerm 4 = true := by decide +kernel
theorem cp5 : cPerm 5 = true := by decide +kernel
/-! the law's first crossing -/
def lfD (g : Nat → Nat) (n a b c : Nat) : Option (Nat × Nat × Nat × Nat) := (frm (c + 1) n).findSome? fun d => if Nat.beq (g a) (g c) && (Nat.beq (g b) (g d) && !Nat.beq (g a) (g b)) then some (a, b, c, d) else none
def lfC (g : Nat → Nat) (n a b : Nat) : Option (Nat × Nat × Nat × Nat) := (frm (b + 1) n).findSome? fun c => lfD g n a b c
def lfB (g : Nat → Nat) (n a : Nat) : Option (Nat × Nat × Nat × Nat) := (frm (a + 1) n).findSome? fun b => lfC g n a b
def lfA (g : Nat → Nat) (n : Nat) : Option (Nat × Nat × Nat × Nat) := (List.range n).findSome? fun a => lfB g n a
def sameX (o o' : Option (Nat × Nat × Nat × Nat)) : Bool := match o, o' with
  | some x, some y => Nat.beq x.1 y.1 && (Nat.beq x.2.1 y.2.1 && (Nat.beq x.2.2.1 y.2.2.1 && Nat.beq x.2.2.2 y.2.2.2))
  | _, _ => false
def okX (p : Pt) : Bool := !oCr p || sameX (lfA (fun i => (blockOf p).getD i 0) (blockOf p).length) (firstX p)
theorem fx4 : (parts 4).all okX = true := by decide +kernel
theorem fx5 : (parts 5).all okX = true := by decide +kernel
theorem fx6 : (parts 6).all okX = true := by decide +kernel
theorem crossed_some : ((parts 4).any oCr && (parts 5).any oCr && (parts 6).any oCr) = true := by decide +kernel
end Pa
end Lv
end
section
set_option Elab.async false
set_option linter.all false
set_option maxRecDepth 100000
namespace Lv
namespace Pa
/-! the dict of the law's first crossing -/
def putD (l : List (Nat × Nat)) (i k : Nat) : List (Nat × Nat) := if l.any (fun kv => Nat.beq kv.1 i) then l.map fun kv => if Nat.beq kv.1 i then (kv.1, k) else kv else l ++ [(i, k)]
def putDs (D : List (Nat × Nat)) (x : Bl × Nat) : List (Nat × Nat) := x.1.foldl (fun D i => putD D i x.2) D
def dl (p : Pt) : List (Nat × Nat) := (p.zip (List.range p.length)).foldl putDs []
def lookN (l : List (Nat × Nat)) (i : Nat) : Option Nat := (l.find? fun kv => Nat.beq kv.1 i).map (·.2)
def okD (n : Nat) (p : Pt) : Bool := Nat.beq (dl p).length n && (Nat.beq (blockOf p).length n && (List.range n).all fun i => match lookN (dl p) i with
  | some k => Nat.beq k ((blockOf p).getD i 0)
  | none => false)
theorem dd4 : (parts 4).all (okD 4) = true := by decide +kernel
theorem dd5 : (parts 5).all (okD 5) = true := by decide +kernel
theorem dd6 : (parts 6).all (okD 6) = true := by decide +kernel
theorem crossX {n : Nat} (hn : n = 4 ∨ n = 5 ∨ n = 6) {p : Pt} (hp : p ∈ parts n) (hc : oCr p = true) : ∃ x, firstX p = some x ∧ lfA (fun i => (blockOf p).getD i 0) n = some x ∧ (dl p).length = n ∧ ∀ i, i < n → lookN (dl p) i = some ((blockOf p).getD i 0) := by
  have h1 : okX p = true := by
    rcases hn with rfl | rfl | rfl
    · exact List.all_eq_true.mp fx4 p hp
    · exact List.all_eq_true.mp fx5 p hp
    · exact List.all_eq_true.mp fx6 p hp
  have h2 : okD n p = true := by
    rcases hn with rfl | rfl | rfl
    · exact List.all_eq_true.mp dd4 p hp
    · exact List.all_eq_true.mp dd5 p hp
    · exact List.all_eq_true.mp dd6 p hp
  have e : ∀ a b : Nat, (a.beq b = true) = (a = b) := fun a b => Nat.beq_eq
  unfold okD at h2
  simp only [Bool.and_eq_true, e] at h2
  obtain ⟨l1, l2, l3⟩ := h2
  unfold okX at h1
  rw [hc, l2] at h1
  simp only [Bool.not_true, Bool.false_or] at h1
  have sx : ∀ o o' : Option (Nat × Nat × Nat × Nat), sameX o o' = true → ∃ x, o' = some x ∧ o = some x := by
    intro o o' h
    match o, o', h with
    | some (a, b, c, d), some (a', b', c', d'), h =>
      simp only [sameX, Bool.and_eq_true, e] at h
      obtain ⟨rfl, rfl, rfl, rfl⟩ := h
      exact ⟨_, rfl, rfl⟩
    | none, _, h => cases h
    | some _, none, h => cases h
  obtain ⟨x, e1, e2⟩ := sx _ _ h1
  refine ⟨x, e1, e2, l1, fun i hi => ?_⟩
  have := List.all_eq_true.mp l3 i (List.mem_range.2 hi)
  revert this
  cases lookN (dl p) i with
  | none => intro h; cases h
  | some k => intro h; simp only [e] at h; rw [h]
end Pa
end Lv
end
section
set_option Elab.async false
set_option linter.all false
set_option maxRecDepth 100000
namespace K71
open PySem PySem.Spec PyProof.Rows L2 Lv
theorem tail_ok {q : Pen} {k : Nat} (hq : q.Ok k) {many : Int} (h0 : 0 < many) (h1 : many < 2 ^ 30) (r : LH) (env : LE) (he : env = [some (.ref 0), some (.int many), env.getD 2 none, none, none]) :
  ∃ d q', 0 ≤ d ∧ d < many ∧ q'.Ok k ∧ trimR (r.length + 1) (endR ((sSeq (sIf (eTest (eB gtV (eB fIx (eVar 0) (eC (.str "digits"))) (eC (.int 0)))) (sSeq (sSet 3 (eB modV (eL fInt (lCons (eB fIx (eVar 0) (eC (.str "digits"))) lNil)) (eVar 1)))
  (sSeq (sSub (eVar 0) (eC (.str "digits")) (eB fdivV (eB fIx (eVar 0) (eC (.str "digits"))) (eVar 1)))
  (sRet (eVar 3)))) sNil)
  (sSeq (sSet 4 (eB (addV []) (eB (addV []) (eB fIx (eVar 0) (eC (.str "fold"))) (eB (mulV []) (eB fIx (eVar 0) (eC (.str "count"))) (eC (.int 7907)))) (eC (.int 37))))
  (sRet (eB modV (eB fdivV (eL fInt (lCons (eB modV (eB powV (eVar 4) (eC (.int 17))) (eC (.int 2305843009213693951))) lNil)) (eC (.int 128))) (eVar 1))))) env (penO q :: r))) = .ok (.int d) (penO q' :: r) := by
  have hm0 : many ≠ 0 := by omega
  have hm1 : many.natAbs < 18446744073709551616 := by omega
  generalize env.getD 2 none = o at he
  subst he
  obtain ⟨a0, d0, c0, c1, f0, f1⟩ := hq
  by_cases hd : 0 < q.dig
  · refine ⟨q.dig.fmod many, ⟨q.cells, q.at_, q.dig.fdiv many, q.cnt, q.fold⟩, fmod_nonneg h0, Int.fmod_lt_of_pos _ h0, ⟨a0, ?_, c0, c1, f0, f1⟩, ?_⟩
    · exact Int.fdiv_nonneg d0 (by omega)
    · simp [hd, hm0, hm1]
  · refine ⟨((((q.fold + q.cnt * 7907 + 37) ^ 17).fmod 2305843009213693951).fdiv 128).fmod many, q, fmod_nonneg h0, Int.fmod_lt_of_pos _ h0, ⟨a0, d0, c0, c1, f0, f1⟩, ?_⟩
    have hb : (q.fold + q.cnt * 7907 + 37).natAbs < 18446744073709551616 := by omega
    have hmu : mulOk q.cnt 7907 = true := mulOk_r (by decide) (by decide)
    simp [hd, hm0, hm1, hmu, hb]

theorem draw {q : Pen} {k : Nat} (hq : q.Ok (k + 1)) {many : Int} (h0 : 0 < many) (h1 : many < 2 ^ 30) (r : LH) :
    ∃ d q', 0 ≤ d ∧ d < many ∧ q'.Ok k ∧ M_law_draw [.ref 0, .int many] (penO q :: r) = .ok (.int d) (penO q' :: r) := by
  obtain ⟨a0, d0, c0, c1, f0, f1⟩ := hq
  have t18 : ((10 : Int) ^ 18) = 1000000000000000000 := by decide
  by_cases hc : q.dig = 0 ∧ q.at_ < q.cells.length
  · obtain ⟨hd, ha⟩ := hc
    obtain ⟨c, hcell⟩ : ∃ c, q.cells[q.at_.toNat]? = some c := ⟨_, List.getElem?_eq_getElem (by omega)⟩
    have hix : atI (q.cells.map LV.int) q.at_ = some (.int c) := by
      have := Lv.atI_nat (xs := q.cells.map LV.int) (i := q.at_.toNat) (x := .int c) (by simp [hcell])
      rwa [Int.toNat_of_nonneg a0] at this
    by_cases h18 : 1000000000000000000 ≤ c
    · obtain ⟨d, q', g0, g1, g2, g3⟩ := tail_ok (q := { q with cnt := q.cnt + 1, at_ := q.at_ + 1, dig := c - 1000000000000000000 }) (k := k) ⟨by simp; omega, by simp; omega, by simp; omega, by simp; omega, f0, f1⟩ h0 h1 r
        [some (.ref 0), some (.int many), some (.int c), none, none] rfl
      refine ⟨d, q', g0, g1, g2, fnB_run [some (.ref 0), some (.int many), none, none, none] rfl ?_⟩
      rw [← g3]
      unfold m_law_draw
      rw [List.length_cons]
      congr 2
      simp [hd, ha, hix, h18, t18]
    · obtain ⟨d, q', g0, g1, g2, g3⟩ := tail_ok (q := { q with cnt := q.cnt + 1, at_ := q.at_ + 1, fold := (q.fold * 69069 + c).fmod 2147483587 }) (k := k) ⟨by simp; omega, d0, by simp; omega, by simp; omega, fmod_nonneg (by decide), Int.lt_trans (Int.fmod_lt_of_pos _ (by decide)) (by decide)⟩ h0 h1 r
        [some (.ref 0), some (.int many), some (.int c), none, none] rfl
      refine ⟨d, q', g0, g1, g2, fnB_run [some (.ref 0), some (.int many), none, none, none] rfl ?_⟩
      rw [← g3]
      have hmu : mulOk q.fold 69069 = true := mulOk_r (by decide) (by decide)
      unfold m_law_draw
      rw [List.length_cons]
      congr 2
      simp [hd, ha, hix, h18, t18, hmu]
  · obtain ⟨d, q', g0, g1, g2, g3⟩ := tail_ok (q := { q with cnt := q.cnt + 1 }) (k := k) ⟨a0, d0, by simp; omega, by simp; omega, f0, f1⟩ h0 h1 r
        [some (.ref 0), some (.int many), none, none, none] rfl
    refine ⟨d, q', g0, g1, g2, fnB_run [some (.ref 0), some (.int many), none, none, none] rfl ?_⟩
    rw [← g3]
    unfold m_law_draw
    rw [List.length_cons]
    congr 2
    by_cases hd : q.dig = 0
    · have ha : ¬ q.at_ < q.cells.length := fun h => hc ⟨hd, h⟩
      simp [hd, ha]
    · simp [hd]
theorem fmod_nat (a b : Nat) : ((a : Int)).fmod (b : Int) = ((a % b : Nat) : Int) := by
  rw [Int.fmod_eq_emod_of_nonneg _ (Int.natCast_nonneg b)]; exact (Int.natCast_emod a b).symm
theorem pen_loop {sc : LV} {h : LH} : ∀ (ns : List Int) (f : Int) (x2 : Option LV), 0 ≤ f → f < 1000000007 → ∃ f' y2, 0 ≤ f' ∧ f' < 1000000007 ∧ fLoop (.nm 2) (sSet 1 (eB modV (eL fInt (lCons (eB (addV []) (eB (mulV []) (eVar 1) (eC (.int 47))) (eVar 2)) lNil)) (eC (.int 1000000007)))) (ns.map LV.int) [some sc, some (.int f), x2] h = .nx [some sc, some (.int f'), y2] h
  | [], f, x2, h0, h1 => ⟨f, x2, h0, h1, by simp [fLoop]⟩
  | n :: ns, f, x2, h0, h1 => by
    obtain ⟨f', y2, g0, g1, g2⟩ := pen_loop (sc := sc) (h := h) ns ((f * 47 + n).fmod 1000000007) (some (.int n)) (fmod_nonneg (by decide)) (Int.fmod_lt_of_pos _ (by decide))
    refine ⟨f', y2, g0, g1, ?_⟩
    rw [List.map_cons, fLoop]
    have ea : asg (.nm 2) (.int n) [some sc, some (.int f), x2] = some [some sc, some (.int f), some (.int n)] := rfl
    simp only [ea]
    have hm : mulOk f 47 = true := mulOk_r (by decide) (by decide)
    have e : sSet 1 (eB modV (eL fInt (lCons (eB (addV []) (eB (mulV []) (eVar 1) (eC (.int 47))) (eVar 2)) lNil)) (eC (.int 1000000007))) [some sc, some (.int f), some (.int n)] h = .nx [some sc, some (.int ((f * 47 + n).fmod 1000000007)), some (.int n)] h := by simp [hm]
    rw [e]
    exact g2
theorem pen_ok {ns : List Int} : ∃ q : Pen, q.Ok 1000000000 ∧ M_law_pen [.sl (ns.map .int)] [] = .ok (.ref 0) [penO q] := by
  obtain ⟨f, y2, g0, g1, g2⟩ := pen_loop (sc := .sl (ns.map .int)) (h := []) ns 0 none (by decide) (by decide)
  refine ⟨⟨ns, 0, 0, 0, f⟩, ⟨by simp, by simp, by simp, by simp, g0, by simp only; omega⟩, fnB_run [some (.sl (ns.map .int)), none, none] rfl ?_⟩
  unfold m_law_pen
  rw [sSeq_nx (env' := [some (.sl (ns.map .int)), some (.int 0), none]) (h' := []) (by simp)]
  rw [sSeq_nx ((sFor_run (xs := ns.map .int) (h' := []) (by simp)).trans g2)]
  have hn : noRefk [((.inr "cells" : Key), LV.fl (ns.map .int)), (.inr "at", .int 0), (.inr "digits", .int 0), (.inr "count", .int 0), (.inr "fold", .int f)] = true := by
    simp [noRefk]
  simp [eDict, dPairs, dictFin, hn, trimR]
  rfl
end K71
end
section
set_option Elab.async false
set_option linter.all false
set_option maxRecDepth 100000
namespace K71
open PySem PySem.Spec PyProof.Rows L2 Lv
/-! ### picks, integers (a law without rationals) -/
@[simp] theorem isI_int {i : Int} {h : LH} : fIsi tb_is_int (.int i) h = .ok (.bl true) h := rfl
@[simp] theorem isI_bl {i : Bool} {h : LH} : fIsi tb_is_int (.bl i) h = .ok (.bl true) h := rfl
@[simp] theorem isI_str {i : Str} {h : LH} : fIsi tb_is_int (.str i) h = .ok (.bl false) h := rfl
@[simp] theorem isI_non {h : LH} : fIsi tb_is_int .non h = .ok (.bl false) h := rfl
@[simp] theorem isI_tup {xs : List LV} {h : LH} : fIsi tb_is_int (.tup xs) h = .ok (.bl false) h := rfl
@[simp] theorem isI_fl {xs : List LV} {h : LH} : fIsi tb_is_int (.fl xs) h = .ok (.bl false) h := rfl
@[simp] theorem isB_int {i : Int} {h : LH} : fIsi tb_is_bool (.int i) h = .ok (.bl false) h := rfl
@[simp] theorem isB_bl {i : Bool} {h : LH} : fIsi tb_is_bool (.bl i) h = .ok (.bl true) h := rfl
@[simp] theorem isT_int {i : Int} {h : LH} : fIsi tb_is_tuple (.int i) h = .ok (.bl false) h := rfl
@[simp] theorem isT_bl {i : Bool} {h : LH} : fIsi tb_is_tuple (.bl i) h = .ok (.bl false) h := rfl
@[simp] theorem isT_str {i : Str} {h : LH} : fIsi tb_is_tuple (.str i) h = .ok (.bl false) h := rfl
@[simp] theorem isT_non {h : LH} : fIsi tb_is_tuple .non h = .ok (.bl false) h := rfl
@[simp] theorem isT_tup {xs : List LV} {h : LH} : fIsi tb_is_tuple (.tup xs) h = .ok (.bl true) h := rfl
@[simp] theorem isT_fl {xs : List LV} {h : LH} : fIsi tb_is_tuple (.fl xs) h = .ok (.bl false) h := rfl
theorem integer_int {i : Int} (h : LH) : M_is_integer [.int i] h = .ok (.bl true) h := fnB_run [some (.int i)] rfl (by simp [m_is_integer])
theorem integer_bl {i : Bool} (h : LH) : M_is_integer [.bl i] h = .ok (.bl false) h := fnB_run [some (.bl i)] rfl (by simp [m_is_integer])
theorem integer_non (h : LH) : M_is_integer [.non] h = .ok (.bl false) h := fnB_run [some .non] rfl (by simp [m_is_integer])
theorem integer_str {x : Str} (h : LH) : M_is_integer [.str x] h = .ok (.bl false) h := fnB_run [some (.str x)] rfl (by simp [m_is_integer])
theorem integer_tup {x : List LV} (h : LH) : M_is_integer [.tup x] h = .ok (.bl false) h := fnB_run [some (.tup x)] rfl (by simp [m_is_integer])
theorem integer_fl {x : List LV} (h : LH) : M_is_integer [.fl x] h = .ok (.bl false) h := fnB_run [some (.fl x)] rfl (by simp [m_is_integer])
theorem pick_ok {q : Pen} {k : Nat} (hq : q.Ok (k + 1)) {xs : List LV} (h0 : xs ≠ []) (h1 : xs.length < 10000) (hn : noRefs xs = true) (r : LH) :
    ∃ x q', x ∈ xs ∧ q'.Ok k ∧ M_law_pick [.ref 0, .fl xs] (penO q :: r) = .ok x (penO q' :: r) := by
  have hp : 0 < xs.length := List.length_pos_iff.2 h0
  obtain ⟨d, q', g0, g1, g2, g3⟩ := draw hq (many := (xs.length : Nat)) (by omega) (by omega) r
  have hd : d.toNat < xs.length := by omega
  refine ⟨xs[d.toNat], q', List.getElem_mem hd, g2, fnB_run [some (.ref 0), some (.fl xs)] rfl ?_⟩
  have hx : atI xs d = some xs[d.toNat] := by
    have := Lv.atI_nat (xs := xs) (i := d.toNat) (x := xs[d.toNat]) (List.getElem?_eq_getElem hd)
    rwa [Int.toNat_of_nonneg g0] at this
  have hn' : noRef xs[d.toNat] = true := noRefs_iff.1 hn _ (List.getElem_mem hd)
  unfold m_law_pick
  simp [fCall_run, g3, hx, hn']
end K71
end
section
set_option Elab.async false
set_option linter.all false
set_option maxRecDepth 100000
namespace K71
open PySem PySem.Spec PyProof.Rows L2 Lv
/-! ### partings as values -/
abbrev nI (i : Nat) : LV := .int (i : Nat)
def encB (b : Bl) : LV := .tup (b.map nI)
def encP (p : Pt) : LV := .tup (p.map encB)
theorem encB_nr (b : Bl) : noRef (encB b) = true := by
  unfold encB
  rw [noRef_tup]
  exact noRefs_iff.2 fun x m => by obtain ⟨i, _, rfl⟩ := List.mem_map.1 m; simp
theorem encP_nr (p : Pt) : noRef (encP p) = true := by
  unfold encP
  rw [noRef_tup]
  exact noRefs_iff.2 fun x m => by obtain ⟨i, _, rfl⟩ := List.mem_map.1 m; exact encB_nr i
theorem encPs_nr (ps : List Pt) : noRefs (ps.map encP) = true := noRefs_iff.2 fun x m => by obtain ⟨i, _, rfl⟩ := List.mem_map.1 m; exact encP_nr i
/-- not too long -/
def Sm (p : Pt) : Prop := p.length ≤ 1000 ∧ ∀ b ∈ p, b.length ≤ 1000
theorem app_item {p : Pt} {i : Nat} {k : Nat} (hk : k < p.length) (b : Bl) : LV.tup ((p.map encB).take k ++ [encB (b ++ [i])] ++ (p.map encB).drop (k + 1)) = encP (p.take k ++ [b ++ [i]] ++ p.drop (k + 1)) := by
  simp [encP, List.map_take, List.map_drop]
/-- one turn of the inner loop, by whatever slots -/
theorem with_turn {p : Pt} (hp : Sm p) {i k : Nat} {b : Bl} (hb : b.length ≤ 1000) {eP eI eK eB' : Ev} {env : LE} {h : LH} (vP : eP env h = .ok (encP p) h) (vI : eI env h = .ok (nI i) h) (vK : eK env h = .ok (nI k) h) (vB : eB' env h = .ok (encB b) h) :
    eB (addV []) (eB (addV []) (eSlice eP none (some eK)) (eL fTup (lCons (eB (addV []) eB' (eL fTup (lCons eI lNil))) lNil))) (eSlice eP (some (eB (addV []) eK (eC (.int 1)))) none) env h = .ok (encP (p.take k ++ [b ++ [i]] ++ p.drop (k + 1))) h := by
  have e1 : (k : Int) + 1 = ((k + 1 : Nat) : Int) := by omega
  have l1 : (b.map nI).length + [nI i].length ≤ 1000000 := by simp; omega
  have l2 : ((p.map encB).take k).length + 1 ≤ 1000000 := by have := hp.1; simp; omega
  have l3 : ((p.map encB).take k).length + 1 + ((p.map encB).drop (k + 1)).length ≤ 1000000 := by have := hp.1; simp; omega
  have f1 := addV_tup (own := []) (xs := b.map nI) (ys := [nI i]) (h := h) (by rw [LIM_eq]; exact l1)
  have f2 := addV_tup (own := []) (xs := (p.map encB).take k) (ys := [.tup (b.map nI ++ [nI i])]) (h := h) (by rw [LIM_eq]; simpa using l2)
  have f3 := addV_tup (own := []) (xs := (p.map encB).take k ++ [.tup (b.map nI ++ [nI i])]) (ys := (p.map encB).drop (k + 1)) (h := h) (by rw [LIM_eq]; simp only [List.length_append, List.length_singleton]; exact l3)
  have hE : encP (p.take k ++ [b ++ [i]] ++ p.drop (k + 1)) = .tup ((p.map encB).take k ++ [.tup (b.map nI ++ [nI i])] ++ (p.map encB).drop (k + 1)) := by simp [encP, encB, List.map_take, List.map_drop]
  rw [hE]
  unfold encP at vP
  unfold encB at vB
  simp only [eB_d, eSlice_d, partL_none, partL_some, eL_d, lCons_d, lNil_d, eC_d, vP, vI, vK, vB, rb_ok, cutV_tup, cut_to, fTup_ok (show [nI i].length ≤ LIM by simp), f1, fTup_ok (show [LV.tup (b.map nI ++ [nI i])].length ≤ LIM by simp), f2, addV_int, e1, cut_from, f3]
theorem with_item_ok {p : Pt} (hp : Sm p) (i : Nat) (h : LH) : M_with_item [encP p, nI i] h = .ok (.fl ((Pa.wth i p).map encP)) h := by
  refine fnB_run [some (encP p), some (nI i), none, none, none] rfl ?_
  unfold m_with_item
  have l0 : (p.map encB).length + 1 ≤ 1000000 := by have := hp.1; simp; omega
  let F : Bl × Nat → Pt := fun q => p.take q.2 ++ [q.1 ++ [i]] ++ p.drop (q.2 + 1)
  rw [sSeq_nx (env' := [some (encP p), some (nI i), some (.ref h.length), none, none]) (h' := h ++ [.lst ([p ++ [[i]]].map encP)]) (by
    have f1 := addV_tup (own := []) (xs := p.map encB) (ys := [.tup [nI i]]) (h := h) (by rw [LIM_eq]; simpa using l0)
    have hE : encP (p ++ [[i]]) = .tup (p.map encB ++ [.tup [nI i]]) := by simp [encP, encB]
    have hn := encP_nr (p ++ [[i]])
    simp only [List.map_cons, List.map_nil]
    rw [hE] at hn ⊢
    unfold encP
    simp [f1, fLst] at hn ⊢
    simp [hn])]
  obtain ⟨e2, h2, el, x3, x4, he, hh⟩ := for_pre (g := .tp [3, 4]) (body := sExpr (eApp (eVar 2) (eB (addV []) (eB (addV []) (eSlice (eVar 0) none (some (eVar 3))) (eL fTup (lCons (eB (addV []) (eVar 4) (eL fTup (lCons (eVar 1) lNil))) lNil))) (eSlice (eVar 0) (some (eB (addV []) (eVar 3) (eC (.int 1)))) none))))
    (fun q : Bl × Nat => LV.tup [.int (q.2 : Nat), encB q.1]) (fun l env hh => ∃ (x3 x4 : Option LV), env = [some (encP p), some (nI i), some (.ref h.length), x3, x4] ∧ hh = h ++ [.lst (((p ++ [[i]]) :: l.map F).map encP)])
    (p.zip (List.range p.length)) [some (encP p), some (nI i), some (.ref h.length), none, none] (h ++ [.lst ([p ++ [[i]]].map encP)]) ⟨none, none, rfl, rfl⟩ (by
      rintro l ⟨b, k⟩ l2 el env hh ⟨x3, x4, rfl, rfl⟩
      have hl : l.length ≤ p.length := by
        have := congrArg List.length el
        simp at this
        omega
      have hb : b ∈ p := (List.of_mem_zip (show (b, k) ∈ p.zip (List.range p.length) by rw [el]; simp)).1
      refine ⟨[some (encP p), some (nI i), some (.ref h.length), some (nI k), some (encB b)], rfl, [some (encP p), some (nI i), some (.ref h.length), some (nI k), some (encB b)], h ++ [.lst (((p ++ [[i]]) :: (l ++ [(b, k)]).map F).map encP)], .inl ?_, _, _, rfl, rfl⟩
      have w := with_turn hp (i := i) (k := k) (b := b) (hp.2 b hb) (eP := eVar 0) (eI := eVar 1) (eK := eVar 3) (eB' := eVar 4) (env := [some (encP p), some (nI i), some (.ref h.length), some (nI k), some (encB b)]) (h := h ++ [.lst (((p ++ [[i]]) :: l.map F).map encP)]) rfl rfl rfl rfl
      have a := app_ok (ar := eVar 2) (n := h.length) (xs := ((p ++ [[i]]) :: l.map F).map encP) w rfl (by simp) (by have := hp.1; simp; omega) (encP_nr _) (r := h ++ [.lst (((p ++ [[i]]) :: (l ++ [(b, k)]).map F).map encP)]) (by rw [set_last]; simp [F])
      rw [sExpr_d, a]
      rfl)
  subst he hh
  have hz : (p ++ [[i]]) :: (p.zip (List.range p.length)).map F = Pa.wth i p := by
    rw [zip_range []]
    rfl
  rw [hz] at el
  rw [sSeq_nx (env' := [some (encP p), some (nI i), some (.ref h.length), x3, x4]) (h' := h ++ [.lst ((Pa.wth i p).map encP)]) (by
    rw [sFor_run (xs := (p.zip (List.range p.length)).map (fun q : Bl × Nat => LV.tup [.int (q.2 : Nat), encB q.1])) (h' := h ++ [.lst ([p ++ [[i]]].map encP)])]
    · exact el
    · unfold encP
      simp [enumL_zip0])]
  have hn := encPs_nr (Pa.wth i p)
  simp [fFrz, hn]
end K71
end
section
set_option Elab.async false
set_option linter.all false
set_option maxRecDepth 100000
namespace K71
open PySem PySem.Spec PyProof.Rows L2 Lv
/-! ### the package's tests -/
structure Gd (p : Pt) : Prop where
  l : p.length ≤ 100
  b : ∀ b ∈ p, b ≠ [] ∧ b.length ≤ 100
theorem Gd.sm {p : Pt} (g : Gd p) : Sm p := ⟨by have := g.l; omega, fun b m => by have := (g.b b m).2; omega⟩
theorem dlt (a b : Nat) : decide ((a : Int) < b) = Nat.blt a b := by
  have e : (a.blt b = true) = (a < b) := Nat.blt_eq
  rw [Bool.eq_iff_iff, decide_eq_true_iff, e]
  omega
theorem dle (a b : Nat) : decide ((a : Int) ≤ b) = Nat.ble a b := by
  have e : (a.ble b = true) = (a ≤ b) := Nat.ble_eq
  rw [Bool.eq_iff_iff, decide_eq_true_iff, e]
  omega
theorem deq (a b : Nat) : decide ((a : Int) = b) = Nat.beq a b := by
  have e : (a.beq b = true) = (a = b) := Nat.beq_eq
  rw [Bool.eq_iff_iff, decide_eq_true_iff, e]
  omega
theorem chain_lt {a c d : Ev} {env : LE} {h : LH} {i j k : Nat} (ha : a env h = .ok (nI i) h) (hc : c env h = .ok (nI j) h) (hd : d env h = .ok (nI k) h) : eTest (eChain ltV ltV a c d) env h = .ok (Nat.blt i j && Nat.blt j k) h := by
  simp only [eTest_d, eChain_d, ha, hc, hd, rb_ok, ltV, ltV_int, toB_bl, dlt]
  cases Nat.blt i j <;> simp [dlt]
theorem chain_le {a c d : Ev} {env : LE} {h : LH} {i j k : Nat} (ha : a env h = .ok (nI i) h) (hc : c env h = .ok (nI j) h) (hd : d env h = .ok (nI k) h) : eTest (eChain ltV leV a c d) env h = .ok (Nat.blt i j && Nat.ble j k) h := by
  simp only [eTest_d, eChain_d, ha, hc, hd, rb_ok, ltV, leV, ltV_int, toB_bl, dlt]
  cases Nat.blt i j <;> simp only [leV_int, toB_bl, rb_ok, dle, if_true, Bool.true_and, Bool.false_and, Bool.false_eq_true, if_false]
theorem at_la : ∀ {b : Bl}, b ≠ [] → atI (b.map nI) (-1) = some (nI (Pa.la b)) := by
  intro b hb
  have h : ∀ b : Bl, b ≠ [] → (b.map nI)[b.length - 1]? = some (nI (Pa.la b)) := by
    intro b
    induction b with
    | nil => intro h; exact absurd rfl h
    | cons a r ih =>
      intro _
      cases r with
      | nil => rfl
      | cons c r =>
        have := ih (by simp)
        show _ = some (nI (Pa.la (c :: r)))
        simpa using this
  have hp : 0 < b.length := List.length_pos_iff.2 hb
  have := h b hb
  rw [← this]
  unfold atI ixN
  rw [if_neg (by omega), if_pos (by simp; omega)]
  show (b.map nI)[_]? = _
  congr 1
  simp
  omega
theorem at_hd {b : Bl} (hb : b ≠ []) : atI (b.map nI) 0 = some (nI (Pa.hd b)) := by
  cases b with
  | nil => exact absurd rfl hb
  | cons a r => exact Lv.atI_nat (i := 0) rfl
theorem rows_ok {p : Pt} (g : Gd p) (h : LH) : M_is_in_rows [encP p] h = .ok (.bl (Pa.rows p)) h := by
  refine fnB_run [some (encP p), none] rfl ?_
  unfold m_is_in_rows
  rw [sRet_d, eL_d, lCons_d, eLc_map (α := Bl) (h' := h) encB (fun b => .bl (Nat.beq (Pa.la b + 1) (b.length + Pa.hd b))) p]
  · simp [map_all, Pa.rows]
  · simp [encP]
  · intro b hb
    obtain ⟨h0, h1⟩ := g.b b hb
    refine ⟨_, rfl, fun acc => ⟨?_, by simp⟩⟩
    simp [lwipe, encB, at_la h0, at_hd h0]
    rw [Bool.eq_iff_iff, decide_eq_true_iff, Nat.beq_eq]
    omega
  · have := g.l; rw [LIM_eq]; omega
theorem crossed_ok {one other : Bl} (h1 : one.length ≤ 100) (h2 : other.length ≤ 100) (h : LH) : M_are_crossed [encB one, encB other] h = .ok (.bl (Pa.areX one other)) h := by
  refine fnB_run [some (encB one), some (encB other), none, none, none, none] rfl ?_
  unfold m_are_crossed
  have c1 : cutL (one.map nI) (some 1) none = one.tail.map nI := by have := cut_from (one.map nI) 1; simpa using this
  have hz : ∀ xs ys : Bl, zipL (xs.map nI) (ys.map nI) = (xs.zip ys).map fun q => LV.tup [nI q.1, nI q.2] := by
    intro xs
    induction xs with
    | nil => intro ys; cases ys <;> rfl
    | cons x xs ih => intro ys; cases ys with | nil => rfl | cons y ys => simp [zipL, ih]
  have q := for_any (g := .tp [2, 3]) (body := sSeq (sSet 4 (eL fLen (lCons (eLc false (eIt (eVar 1)) (.nm 5) (eTest (eChain ltV ltV (eVar 2) (eVar 5) (eVar 3))) (eVar 5) [5]) lNil))) (sIf (eTest (eChain ltV ltV (eC (.int 0)) (eVar 4) (eL fLen (lCons (eVar 1) lNil)))) (sRet (eC (.bl true))) sNil))
    (fun q : Nat × Nat => LV.tup [nI q.1, nI q.2]) (fun env hh => ∃ x2 x3 x4 x5, env = [some (encB one), some (encB other), x2, x3, x4, x5] ∧ hh = h) (.bl true)
    (fun q => let c := (other.filter fun x => Nat.blt q.1 x && Nat.blt x q.2).length; Nat.blt 0 c && Nat.blt c other.length) (one.zip one.tail) [some (encB one), some (encB other), none, none, none, none] h ⟨_, _, _, _, rfl, rfl⟩ h (by
      rintro ⟨lo, hi⟩ _ env hh ⟨x2, x3, x4, x5, rfl, rfl⟩
      refine ⟨[some (encB one), some (encB other), some (nI lo), some (nI hi), x4, x5], rfl, ?_⟩
      have b1 : (sSet 4 (eL fLen (lCons (eLc false (eIt (eVar 1)) (.nm 5) (eTest (eChain ltV ltV (eVar 2) (eVar 5) (eVar 3))) (eVar 5) [5]) lNil))) [some (encB one), some (encB other), some (nI lo), some (nI hi), x4, x5] hh = .nx [some (encB one), some (encB other), some (nI lo), some (nI hi), some (.int ((other.filter fun x => Nat.blt lo x && Nat.blt x hi).length : Nat)), x5] hh := by
        rw [sSet_d, eL_d, lCons_d, eLc_pure (α := Nat) (h' := hh) nI (fun x => Nat.blt lo x && Nat.blt x hi) nI other]
        · simp
        · simp [encB]
        · intro x hx
          exact ⟨_, rfl, fun acc => ⟨chain_lt rfl rfl rfl, fun _ => ⟨rfl, by simp⟩⟩⟩
        · rw [LIM_eq]; omega
      rw [sSeq_nx b1]
      generalize (other.filter fun x => Nat.blt lo x && Nat.blt x hi).length = c
      rw [sIf_d, chain_lt (i := 0) (j := c) (k := other.length) rfl rfl (by simp [encB])]
      cases h1 : Nat.blt 0 c <;> cases h2 : Nat.blt c other.length <;> simp [h1, h2])
  rw [sSeq_d, sFor_run (xs := (one.zip one.tail).map fun q : Nat × Nat => LV.tup [nI q.1, nI q.2]) (h' := h) (by
    unfold encB
    simp only [eZip2, eVar_d, eSlice_d, partL_some, partL_none, eC_d, rb_ok, List.getElem?_cons_zero, cutV_tup, itemsOf_tup, c1]
    rw [← hz])]
  change if Pa.areX one other = true then _ else _ at q
  by_cases hx : Pa.areX one other = true
  · rw [if_pos hx] at q
    rw [q, hx]
    simp
  · have hx' : Pa.areX one other = false := by simpa using hx
    rw [if_neg hx] at q
    obtain ⟨e2, h', q, x2, x3, x4, x5, rfl, rfl⟩ := q
    rw [q, hx']
    simp
end K71
end
section
set_option Elab.async false
set_option linter.all false
set_option maxRecDepth 100000
namespace K71
open PySem PySem.Spec PyProof.Rows L2 Lv
theorem many_ok {p : Pt} (g : Gd p) {v : Nat} {env : LE} (h : LH) (h0 : env[0]? = some (some (encP p))) (hv : v < env.length) :
    eL (fSum (withR (addV []) [])) (lCons (eLc false (eIt (eVar 0)) (.nm v) tYes' (eL fLen (lCons (eVar v) lNil)) [v]) lNil) env h = .ok (nI (Pa.many p)) h := by
  rw [eL_d, lCons_d, eLc_map (α := Bl) (h' := h) encB (fun b => nI b.length) p]
  · have s := sum_ints (add := withR (addV []) []) (fun i j h => rfl) (p.map fun b => ((b.length : Nat) : Int)) 0 h
    rw [List.map_map] at s
    have e : ∀ p : Pt, (p.map fun b => ((b.length : Nat) : Int)).sum = ((Pa.many p : Nat) : Int) := by
      intro p
      induction p with
      | nil => rfl
      | cons b p ih => simp only [List.map_cons, List.sum_cons, ih, Pa.many]; omega
    rw [e, Int.zero_add] at s
    exact s
  · simp [h0, encP]
  · intro b hb
    refine ⟨_, rfl, fun acc => ⟨?_, by simp⟩⟩
    have e : ((lwipe env [v]).set v (some (encB b)))[v]? = some (some (encB b)) := by simp [lwipe, hv]
    simp only [eL_d, lCons_d, lNil_d, eVar_d, e, rb_ok]
    simp [encB]
  · have := g.l; rw [LIM_eq]; omega
theorem range_1 (m : Nat) : rangeL 1 (m : Int) = (List.range (m - 1)).map fun i => nI (i + 1) := by
  unfold rangeL
  have e : ((m : Int) - 1).toNat = m - 1 := by omega
  rw [e]
  refine List.map_congr_left fun i _ => ?_
  show LV.int _ = LV.int _
  congr 1
  omega
theorem rng1_ok {ea eb : Ev} {env : LE} {h : LH} {m : Nat} (ha : ea env h = .ok (.int 1) h) (hb : eb env h = .ok (nI m) h) (hm : m ≤ 100000) : eRng2 ea eb env h = .ok ((List.range (m - 1)).map fun i => nI (i + 1)) h := by
  have h1 : -(2 ^ 62) ≤ (m : Int) := by omega
  have h2 : (m : Int) < 2 ^ 62 := by omega
  have h3 : -(2 ^ 62) ≤ (1 : Int) := by decide
  have h4 : (1 : Int) < 2 ^ 62 := by decide
  unfold eRng2
  rw [ha, rb_ok, hb, rb_ok]
  simp only
  rw [if_pos ⟨⟨h3, h4⟩, h1, h2⟩, range_1]
theorem many_le {p : Pt} (g : Gd p) : Pa.many p ≤ 10000 := by
  have := g.l
  have : ∀ p : Pt, (∀ b ∈ p, b.length ≤ 100) → Pa.many p ≤ p.length * 100 := by
    intro p
    induction p with
    | nil => intro _; simp [Pa.many]
    | cons b p ih =>
      intro H
      have h1 := H b (List.mem_cons_self ..)
      have h2 := ih fun b m => H b (List.mem_cons_of_mem _ m)
      simp only [Pa.many, List.map_cons, List.sum_cons, List.length_cons] at h2 ⊢
      omega
  have := this p fun b m => (g.b b m).2
  omega
theorem whole_turn {p : Pt} (g : Gd p) (i : Nat) {x1 x3 : Option LV} (hh : LH) : (eTest (eL fAll (lCons (eLc false (eIt (eVar 0)) (.nm 3) tYes' (eOr (eB ltV (eB fIx (eVar 3) (eU negV (eC (.int 1)))) (eVar 2)) (eB geV (eB fIx (eVar 3) (eC (.int 0))) (eVar 2))) [3]) lNil))) [some (encP p), x1, some (nI i), x3] hh = .ok (p.all fun b => Nat.blt (Pa.la b) i || Nat.ble i (Pa.hd b)) hh := by
  rw [eTest_d, eL_d, lCons_d, eLc_map (α := Bl) (h' := hh) encB (fun b => .bl (Nat.blt (Pa.la b) i || Nat.ble i (Pa.hd b))) p]
  · simp [map_all]
  · simp [encP]
  · intro b hb
    obtain ⟨h0, h1⟩ := g.b b hb
    refine ⟨_, rfl, fun acc => ⟨?_, by simp⟩⟩
    simp only [lwipe, List.set_cons_succ, List.set_cons_zero, encB, eOr_d, eB_d, eU_d, eC_d, eVar_d, List.getElem?_cons_succ, List.getElem?_cons_zero, rb_ok, negV_int, fIx_tup, at_la h0, at_hd h0, optR_some, ltV, geV, ltV_int, geV_int, toB_bl, dlt, dle]
    cases Nat.blt (Pa.la b) i <;> rfl
  · have := g.l; rw [LIM_eq]; omega
theorem whole_ok {p : Pt} (g : Gd p) (h : LH) : M_is_whole [encP p] h = .ok (.bl (Pa.whole p)) h := by
  refine fnB_run [some (encP p), none, none, none] rfl ?_
  unfold m_is_whole
  rw [sSeq_nx (env' := [some (encP p), some (nI (Pa.many p)), none, none]) (h' := h) (by
    rw [sSet_d, many_ok g h rfl (by simp)]
    rfl)]
  have q := for_any (g := .nm 2) (body := sIf (eTest (eL fAll (lCons (eLc false (eIt (eVar 0)) (.nm 3) tYes' (eOr (eB ltV (eB fIx (eVar 3) (eU negV (eC (.int 1)))) (eVar 2)) (eB geV (eB fIx (eVar 3) (eC (.int 0))) (eVar 2))) [3]) lNil))) (sRet (eC (.bl false))) sNil)
    (fun i : Nat => nI (i + 1)) (fun env hh => ∃ x2 x3, env = [some (encP p), some (nI (Pa.many p)), x2, x3] ∧ hh = h) (.bl false)
    (fun i => p.all fun b => Nat.blt (Pa.la b) (i + 1) || Nat.ble (i + 1) (Pa.hd b)) (List.range (Pa.many p - 1)) [some (encP p), some (nI (Pa.many p)), none, none] h ⟨_, _, rfl, rfl⟩ h (by
      rintro i _ env hh ⟨x2, x3, rfl, rfl⟩
      refine ⟨[some (encP p), some (nI (Pa.many p)), some (nI (i + 1)), x3], rfl, ?_⟩
      rw [sIf_d, whole_turn g]
      cases hx : (p.all fun b => Nat.blt (Pa.la b) (i + 1) || Nat.ble (i + 1) (Pa.hd b)) <;> simp [hx])
  rw [sSeq_d, sFor_run (xs := (List.range (Pa.many p - 1)).map fun i : Nat => nI (i + 1)) (h' := h) (rng1_ok rfl rfl (by have := many_le g; omega))]
  have hw : Pa.whole p = !((List.range (Pa.many p - 1)).any fun i => p.all fun b => Nat.blt (Pa.la b) (i + 1) || Nat.ble (i + 1) (Pa.hd b)) := by
    unfold Pa.whole
    rw [List.not_any_eq_all_not]
  rw [hw]
  revert q
  cases (List.range (Pa.many p - 1)).any fun i => p.all fun b => Nat.blt (Pa.la b) (i + 1) || Nat.ble (i + 1) (Pa.hd b)
  · intro q
    rw [if_neg (by simp)] at q
    obtain ⟨e2, h', q, x2, x3, rfl, rfl⟩ := q
    rw [q]
    simp
  · intro q
    rw [if_pos rfl] at q
    rw [q]
    simp
end K71
end
section
set_option Elab.async false
set_option linter.all false
set_option maxRecDepth 100000
namespace K71
open PySem PySem.Spec PyProof.Rows L2 Lv
theorem rng0_ok {ea : Ev} {env : LE} {h h' : LH} {m : Nat} (ha : ea env h = .ok (nI m) h') (hm : m ≤ 100000) : eRng1 ea env h = .ok ((List.range m).map nI) h' := by
  have q := range_items (n := (m : Nat)) (h := h') (ev := ea) (env := env) (lh := h) (by omega) (by omega) ha
  rw [q]
  simp
theorem inL_ref {n k : Nat} {met : List Nat} {h : LH} (hg : h[n]? = some (.lst (met.map nI))) : inL true (nI k) (.ref n) h = .ok (.bl (!(met.any fun m => Nat.beq m k))) h := by
  unfold inL
  have s : seqOf (.ref n) h = some (met.map nI) := by unfold seqOf; simp only [hg]
  rw [s]
  have f : (met.map nI).all flatL = true := by rw [List.all_map]; simp [flatL]
  simp only [f]
  rw [if_pos ⟨rfl, trivial⟩]
  simp only [if_true]
  congr 3
  rw [List.any_map]
  congr 1
  funext m
  show ((m : Int) == (k : Int)) = _
  rw [← deq]
  rfl
theorem fLen_ref {n : Nat} {xs : List LV} {h : LH} (hg : h[n]? = some (.lst xs)) : fLen [.ref n] h = .ok (nI xs.length) h := by
  unfold fLen
  simp [seqOf, hg]
theorem pop_ok {a : Ev} {env : LE} {n : Nat} {w : List Nat} {h r : LH} (ha : a env h = .ok (.ref n) h) (hg : h[n]? = some (.lst (w.map nI))) (hw : w ≠ []) (hr : h.set n (.lst (w.dropLast.map nI)) = r) : ePop a env h = .ok (nI (Pa.la w)) r := by
  have e : ∀ w : List Nat, w ≠ [] → (w.map nI)[(w.map nI).length - 1]? = some (nI (Pa.la w)) := by
    intro b
    induction b with
    | nil => intro h; exact absurd rfl h
    | cons a r ih =>
      intro _
      cases r with
      | nil => rfl
      | cons c r =>
        have := ih (by simp)
        show _ = some (nI (Pa.la (c :: r)))
        simpa using this
  unfold ePop
  rw [ha, rb_ok]
  simp only [hg]
  rw [e w hw]
  simp only
  rw [← List.map_dropLast, hr]
theorem ix_enc {p : Pt} {k : Nat} (hk : k < p.length) (h : LH) : fIx (encP p) (nI k) h = .ok (encB (p.getD k [])) h := by
  unfold encP
  rw [fIx_tup, Lv.atI_nat (x := encB (p.getD k [])) (by simp [hk])]
  rfl
/-- one turn of the inner loop -/
theorem jturn_ok {p : Pt} (g : Gd p) {met w : List Nat} {here k : Nat} (h0 : here < p.length) (h1 : k < p.length) (hm : met.length ≤ 50000) (hw : w.length ≤ 50000) (h : LH) :
    (sIf (tAnd' (eTest (eB (inL true) (eVar 4) (eVar 1))) (eTest (eL (fCall 2 M_are_crossed []) (lCons (eB fIx (eVar 0) (eVar 3)) (lCons (eB fIx (eVar 0) (eVar 4)) lNil))))) (sSeq (sExpr (eApp (eVar 1) (eVar 4))) (sExpr (eApp (eVar 2) (eVar 4)))) sNil)
      [some (encP p), some (.ref h.length), some (.ref (h.length + 1)), some (nI here), some (nI k)] (h ++ [.lst (met.map nI), .lst (w.map nI)])
      = .nx [some (encP p), some (.ref h.length), some (.ref (h.length + 1)), some (nI here), some (nI k)] (h ++ [.lst ((Pa.jTurn p here (met, w) k).1.map nI), .lst ((Pa.jTurn p here (met, w) k).2.map nI)]) := by
  have in1 := inL_ref (n := h.length) (k := k) (met := met) (h := h ++ [.lst (met.map nI), .lst (w.map nI)]) (by simp)
  have gb : ∀ j, j < p.length → (p.getD j []).length ≤ 100 := fun j hj => (g.b _ (by rw [List.getD_eq_getElem?_getD, List.getElem?_eq_getElem hj]; exact List.getElem_mem hj)).2
  have cr := crossed_ok (gb here h0) (gb k h1) (h ++ [.lst (met.map nI), .lst (w.map nI)])
  have i1 := ix_enc h0 (h ++ [.lst (met.map nI), .lst (w.map nI)])
  have i2 := ix_enc h1 (h ++ [.lst (met.map nI), .lst (w.map nI)])
  have a1 := app_ok (xs := met.map nI) (y := nI k) (ev := eVar 4) (ar := eVar 1) (env := [some (encP p), some (.ref h.length), some (.ref (h.length + 1)), some (nI here), some (nI k)]) (h := h ++ [.lst (met.map nI), .lst (w.map nI)]) (n := h.length) (r := h ++ [.lst ((met ++ [k]).map nI), .lst (w.map nI)]) rfl rfl (by simp) (by rw [LIM_eq, List.length_map]; omega) rfl (by simp)
  have a2 := app_ok (xs := w.map nI) (y := nI k) (ev := eVar 4) (ar := eVar 2) (env := [some (encP p), some (.ref h.length), some (.ref (h.length + 1)), some (nI here), some (nI k)]) (h := h ++ [.lst ((met ++ [k]).map nI), .lst (w.map nI)]) (n := h.length + 1) (r := h ++ [.lst ((met ++ [k]).map nI), .lst ((w ++ [k]).map nI)]) rfl rfl (by simp) (by rw [LIM_eq, List.length_map]; omega) rfl (by simp)
  have t1 : eTest (eB (inL true) (eVar 4) (eVar 1)) [some (encP p), some (.ref h.length), some (.ref (h.length + 1)), some (nI here), some (nI k)] (h ++ [.lst (met.map nI), .lst (w.map nI)]) = .ok (!(met.any fun m => Nat.beq m k)) (h ++ [.lst (met.map nI), .lst (w.map nI)]) := by
    show rb (inL true (nI k) (.ref h.length) _) toB = _
    rw [in1]
    rfl
  have t2 : eTest (eL (fCall 2 M_are_crossed []) (lCons (eB fIx (eVar 0) (eVar 3)) (lCons (eB fIx (eVar 0) (eVar 4)) lNil))) [some (encP p), some (.ref h.length), some (.ref (h.length + 1)), some (nI here), some (nI k)] (h ++ [.lst (met.map nI), .lst (w.map nI)]) = .ok (Pa.areX (p.getD here []) (p.getD k [])) (h ++ [.lst (met.map nI), .lst (w.map nI)]) := by
    show rb (rb (rb (fIx (encP p) (nI here) _) _) _) toB = _
    rw [i1, rb_ok]
    show rb (rb (rb (rb (fIx (encP p) (nI k) _) _) _) _) toB = _
    rw [i2]
    show rb (M_are_crossed [_, _] _) toB = _
    rw [cr]
    rfl
  rw [sIf_d]
  unfold tAnd'
  rw [t1, rb_ok]
  unfold Pa.jTurn
  cases c1 : !(met.any fun m => Nat.beq m k) with
  | false => simp
  | true =>
    simp only [if_true, t2, rS_ok, Bool.true_and]
    cases c2 : Pa.areX (p.getD here []) (p.getD k []) with
    | false => simp
    | true =>
      simp only [if_true, rS_ok]
      rw [sSeq_nx (env' := [some (encP p), some (.ref h.length), some (.ref (h.length + 1)), some (nI here), some (nI k)]) (h' := h ++ [.lst ((met ++ [k]).map nI), .lst (w.map nI)]) (by rw [sExpr_d, a1]; rfl)]
      rw [sExpr_d, a2]
      rfl
theorem jfold {p : Pt} {here : Nat} : ∀ (l : List Nat) (s : List Nat × List Nat), (∀ x ∈ l, x < p.length) → (∀ x ∈ s.2, x < p.length) → (l.foldl (Pa.jTurn p here) s).1.length ≤ s.1.length + l.length ∧ (l.foldl (Pa.jTurn p here) s).2.length ≤ s.2.length + l.length ∧ ∀ x ∈ (l.foldl (Pa.jTurn p here) s).2, x < p.length
  | [], s, _, h => ⟨Nat.le_refl _, Nat.le_refl _, h⟩
  | k :: l, s, hl, h => by
    rw [List.foldl_cons]
    have e : (Pa.jTurn p here s k).1.length ≤ s.1.length + 1 ∧ (Pa.jTurn p here s k).2.length ≤ s.2.length + 1 ∧ ∀ x ∈ (Pa.jTurn p here s k).2, x < p.length := by
      unfold Pa.jTurn
      split
      · refine ⟨by simp, by simp, fun x m => ?_⟩
        simp only [List.mem_append, List.mem_singleton] at m
        rcases m with m | rfl
        · exact h x m
        · exact hl x (List.mem_cons_self ..)
      · exact ⟨by omega, by omega, h⟩
    obtain ⟨q1, q2, q3⟩ := jfold l (Pa.jTurn p here s k) (fun x m => hl x (List.mem_cons_of_mem _ m)) e.2.2
    obtain ⟨e1, e2, _⟩ := e
    refine ⟨?_, ?_, q3⟩ <;> simp only [List.length_cons] <;> omega
abbrev jT : EvT := tAnd' (eTest (eB gtV (eL fLen (lCons (eVar 2) lNil)) (eC (.int 0)))) (eTest (eB gtV (eL fLen (lCons (eVar 0) lNil)) (eC (.int 0))))
abbrev jI : Sv := sIf (tAnd' (eTest (eB (inL true) (eVar 4) (eVar 1))) (eTest (eL (fCall 2 M_are_crossed []) (lCons (eB fIx (eVar 0) (eVar 3)) (lCons (eB fIx (eVar 0) (eVar 4)) lNil))))) (sSeq (sExpr (eApp (eVar 1) (eVar 4))) (sExpr (eApp (eVar 2) (eVar 4)))) sNil
abbrev jB : Sv := sSeq (sSet 3 (ePop (eVar 2))) (sFor (eRng1 (eL fLen (lCons (eVar 0) lNil))) (.nm 4) jI)
theorem la_mem : ∀ {w : List Nat}, w ≠ [] → Pa.la w ∈ w
  | [], h => absurd rfl h
  | [a], _ => List.mem_cons_self ..
  | _ :: b :: r, _ => List.mem_cons_of_mem _ (la_mem (w := b :: r) (by simp))
theorem jt_ok {p : Pt} {h : LH} {met w : List Nat} {x3 x4 : Option LV} (hp : 0 < p.length) : jT [some (encP p), some (.ref h.length), some (.ref (h.length + 1)), x3, x4] (h ++ [.lst (met.map nI), .lst (w.map nI)]) = .ok (decide (0 < w.length)) (h ++ [.lst (met.map nI), .lst (w.map nI)]) := by
  have l := fLen_ref (n := h.length + 1) (xs := w.map nI) (h := h ++ [.lst (met.map nI), .lst (w.map nI)]) (by simp)
  have e1 : eTest (eB gtV (eL fLen (lCons (eVar 2) lNil)) (eC (.int 0))) [some (encP p), some (.ref h.length), some (.ref (h.length + 1)), x3, x4] (h ++ [.lst (met.map nI), .lst (w.map nI)]) = .ok (decide (0 < w.length)) (h ++ [.lst (met.map nI), .lst (w.map nI)]) := by
    show rb (rb (fLen [.ref (h.length + 1)] _) _) toB = _
    rw [l]
    simp [gtV]
  have e2 : eTest (eB gtV (eL fLen (lCons (eVar 0) lNil)) (eC (.int 0))) [some (encP p), some (.ref h.length), some (.ref (h.length + 1)), x3, x4] (h ++ [.lst (met.map nI), .lst (w.map nI)]) = .ok true (h ++ [.lst (met.map nI), .lst (w.map nI)]) := by
    unfold encP
    simp [gtV, hp]
  unfold jT tAnd'
  rw [e1, rb_ok]
  cases hd : decide (0 < w.length)
  · simp
  · simp only [if_true, e2]
theorem jb_ok {p : Pt} (g : Gd p) {h : LH} {met w : List Nat} {x3 x4 : Option LV} (h0 : w ≠ []) (hw : ∀ x ∈ w, x < p.length) (l1 : met.length ≤ 20000) (l2 : w.length ≤ 20000) (s : List Nat × List Nat) (hs : s = (List.range p.length).foldl (Pa.jTurn p (Pa.la w)) (met, w.dropLast)) :
    ∃ y3 y4, jB [some (encP p), some (.ref h.length), some (.ref (h.length + 1)), x3, x4] (h ++ [.lst (met.map nI), .lst (w.map nI)]) = .nx [some (encP p), some (.ref h.length), some (.ref (h.length + 1)), y3, y4] (h ++ [.lst (s.1.map nI), .lst (s.2.map nI)]) := by
  have hd : ∀ x ∈ w.dropLast, x < p.length := fun x m => hw x (List.dropLast_subset _ m)
  have hl : w.dropLast.length ≤ 20000 := by rw [List.length_dropLast]; omega
  have hp1 := g.l
  have po := pop_ok (a := eVar 2) (env := [some (encP p), some (.ref h.length), some (.ref (h.length + 1)), x3, x4]) (n := h.length + 1) (w := w) (h := h ++ [.lst (met.map nI), .lst (w.map nI)]) (r := h ++ [.lst (met.map nI), .lst (w.dropLast.map nI)]) rfl (by simp) h0 (by simp)
  obtain ⟨e2, h2, el, x4', he, hh⟩ := for_pre (g := .nm 4) (body := jI) nI
    (fun l env hh => ∃ (x4 : Option LV), env = [some (encP p), some (.ref h.length), some (.ref (h.length + 1)), some (nI (Pa.la w)), x4] ∧ hh = h ++ [.lst ((l.foldl (Pa.jTurn p (Pa.la w)) (met, w.dropLast)).1.map nI), .lst ((l.foldl (Pa.jTurn p (Pa.la w)) (met, w.dropLast)).2.map nI)])
    (List.range p.length) [some (encP p), some (.ref h.length), some (.ref (h.length + 1)), some (nI (Pa.la w)), x4] (h ++ [.lst (met.map nI), .lst (w.dropLast.map nI)]) ⟨x4, rfl, rfl⟩ (by
      rintro l k l2 er env hh ⟨x4, rfl, rfl⟩
      have hll : l.length ≤ p.length := by
        have := congrArg List.length er
        simp at this
        omega
      have hmem : ∀ x ∈ l ++ k :: l2, x < p.length := fun x m => by rw [← er] at m; exact List.mem_range.1 m
      have jf := jfold (here := Pa.la w) l (met, w.dropLast) (fun x m => hmem x (List.mem_append_left _ m)) hd
      refine ⟨_, rfl, _, _, .inl (jturn_ok g (hw _ (la_mem h0)) (hmem k (by simp)) ?_ ?_ h), some (nI k), rfl, ?_⟩
      · have := jf.1; simp only at this; omega
      · have := jf.2.1; simp only at this; omega
      · rw [List.foldl_append]; rfl)
  subst he hh
  refine ⟨some (nI (Pa.la w)), x4', ?_⟩
  unfold jB
  rw [sSeq_nx (env' := [some (encP p), some (.ref h.length), some (.ref (h.length + 1)), some (nI (Pa.la w)), x4]) (h' := h ++ [.lst (met.map nI), .lst (w.dropLast.map nI)]) (by rw [sSet_d, po]; rfl)]
  rw [sFor_run (rng0_ok (m := p.length) (h' := h ++ [.lst (met.map nI), .lst (w.dropLast.map nI)]) (by unfold encP; simp) (by omega))]
  rw [el, hs]
theorem joined_loop {p : Pt} (g : Gd p) (hp : 0 < p.length) (h : LH) : ∀ (f : Nat) (met w : List Nat) (x3 x4 : Option LV), (∀ x ∈ w, x < p.length) → met.length + f * 100 ≤ 20000 → w.length + f * 100 ≤ 20000 → ∀ met', Pa.jLoop p f met w = some met' →
    ∃ w' y3 y4, wLoop jT jB f [some (encP p), some (.ref h.length), some (.ref (h.length + 1)), x3, x4] (h ++ [.lst (met.map nI), .lst (w.map nI)]) = .nx [some (encP p), some (.ref h.length), some (.ref (h.length + 1)), y3, y4] (h ++ [.lst (met'.map nI), .lst w'])
  | 0, _, _, _, _, _, _, _, _, e => by cases e
  | f + 1, met, w, x3, x4, hw, l1, l2, met', e => by
    unfold wLoop
    rw [jt_ok hp, rS_ok]
    cases w with
    | nil =>
      cases e
      exact ⟨[], x3, x4, rfl⟩
    | cons a r =>
      rw [if_pos (by simp)]
      have hs := jfold (here := Pa.la (a :: r)) (List.range p.length) (met, (a :: r).dropLast) (fun x m => List.mem_range.1 m) (fun x m => hw x (List.dropLast_subset _ m))
      have e' : Pa.jLoop p f ((List.range p.length).foldl (Pa.jTurn p (Pa.la (a :: r))) (met, (a :: r).dropLast)).1 ((List.range p.length).foldl (Pa.jTurn p (Pa.la (a :: r))) (met, (a :: r).dropLast)).2 = some met' := e
      obtain ⟨y3, y4, eb⟩ := jb_ok g (h := h) (met := met) (w := a :: r) (x3 := x3) (x4 := x4) (by simp) hw (by omega) (by omega) _ rfl
      rw [eb]
      simp only
      generalize (List.range p.length).foldl (Pa.jTurn p (Pa.la (a :: r))) (met, (a :: r).dropLast) = s at hs e' ⊢
      have hp1 := g.l
      obtain ⟨q1, q2, q3⟩ := hs
      simp only [List.length_range, List.length_dropLast, List.length_cons] at q1 q2 l2
      exact joined_loop g hp h f s.1 s.2 y3 y4 q3 (by omega) (by omega) met' e'
theorem joined_ok {p : Pt} (g : Gd p) {b : Bool} (hb : Pa.joined p = some b) (h : LH) : M_is_joined [encP p] h = .ok (.bl b) h := by
  refine fnB_run [some (encP p), none, none, none, none] rfl ?_
  unfold m_is_joined
  rw [sSeq_nx (env' := [some (encP p), some (.ref h.length), some (.ref (h.length + 1)), none, none]) (h' := h ++ [.lst (([0] : List Nat).map nI), .lst (([0] : List Nat).map nI)]) (by
    simp [fLst, List.append_assoc])]
  cases p with
  | nil =>
    cases hb
    have l1 := fLen_ref (n := h.length) (xs := ([0] : List Nat).map nI) (h := h ++ [.lst (([0] : List Nat).map nI), .lst (([0] : List Nat).map nI)]) (by simp)
    have l2 := fLen_ref (n := h.length + 1) (xs := ([0] : List Nat).map nI) (h := h ++ [.lst (([0] : List Nat).map nI), .lst (([0] : List Nat).map nI)]) (by simp)
    have w : (sWhile (fun _ => 100) jT jB) [some (encP []), some (.ref h.length), some (.ref (h.length + 1)), none, none] (h ++ [.lst (([0] : List Nat).map nI), .lst (([0] : List Nat).map nI)]) = .nx [some (encP []), some (.ref h.length), some (.ref (h.length + 1)), none, none] (h ++ [.lst (([0] : List Nat).map nI), .lst (([0] : List Nat).map nI)]) := by
      have t : jT [some (encP []), some (.ref h.length), some (.ref (h.length + 1)), none, none] (h ++ [.lst (([0] : List Nat).map nI), .lst (([0] : List Nat).map nI)]) = .ok false (h ++ [.lst (([0] : List Nat).map nI), .lst (([0] : List Nat).map nI)]) := by
        have e1 : eTest (eB gtV (eL fLen (lCons (eVar 2) lNil)) (eC (.int 0))) [some (encP []), some (.ref h.length), some (.ref (h.length + 1)), none, none] (h ++ [.lst (([0] : List Nat).map nI), .lst (([0] : List Nat).map nI)]) = .ok true (h ++ [.lst (([0] : List Nat).map nI), .lst (([0] : List Nat).map nI)]) := by
          show rb (rb (fLen [.ref (h.length + 1)] _) _) toB = _
          rw [l2]
          simp [gtV]
        unfold jT tAnd'
        rw [e1, rb_ok, if_pos rfl]
        simp [encP, gtV]
      unfold sWhile
      show wLoop jT jB (99 + 1) _ _ = _
      unfold wLoop
      rw [t, rS_ok]
      rfl
    rw [sSeq_nx w]
    have e1 : (eL fLen (lCons (eVar 1) lNil)) [some (encP []), some (.ref h.length), some (.ref (h.length + 1)), none, none] (h ++ [.lst (([0] : List Nat).map nI), .lst (([0] : List Nat).map nI)]) = _ := l1
    rw [sRet_d, eB_d, e1]
    simp [encP, geV]
  | cons b0 p0 =>
    have hj : ∃ met, Pa.jLoop (b0 :: p0) 100 [0] [0] = some met ∧ b = Nat.ble (b0 :: p0).length met.length := by
      unfold Pa.joined at hb
      simp only at hb
      cases e : Pa.jLoop (b0 :: p0) 100 [0] [0] with
      | none => rw [e] at hb; cases hb
      | some met => rw [e] at hb; exact ⟨met, rfl, (Option.some.inj hb).symm⟩
    obtain ⟨met, ej, rfl⟩ := hj
    obtain ⟨w', y3, y4, el⟩ := joined_loop g (by simp) h 100 [0] [0] none none (by intro x m; simp at m; subst m; simp) (by simp) (by simp) met ej
    rw [sSeq_nx (show (sWhile (fun _ => 100) jT jB) _ _ = _ from el)]
    have l1 := fLen_ref (n := h.length) (xs := met.map nI) (h := h ++ [.lst (met.map nI), .lst w']) (by simp)
    have e1 : (eL fLen (lCons (eVar 1) lNil)) [some (encP (b0 :: p0)), some (.ref h.length), some (.ref (h.length + 1)), y3, y4] (h ++ [.lst (met.map nI), .lst w']) = _ := l1
    rw [sRet_d, eB_d, e1]
    have d := dle (b0 :: p0).length met.length
    have e2 : (eL fLen (lCons (eVar 0) lNil)) [some (encP (b0 :: p0)), some (.ref h.length), some (.ref (h.length + 1)), y3, y4] (h ++ [.lst (met.map nI), .lst w']) = .ok (nI (b0 :: p0).length) (h ++ [.lst (met.map nI), .lst w']) := by simp [encP]
    rw [rb_ok, e2, rb_ok]
    unfold geV
    rw [geV_int]
    simp only [List.length_map, d, rS_ok, endR_rt]
    simp
end K71
end
section
set_option Elab.async false
set_option linter.all false
set_option maxRecDepth 100000
namespace K71
open PySem PySem.Spec PyProof.Rows L2 Lv
theorem setAt_map : ∀ (xs : List Nat) (j v : Nat), (xs.map nI).set j (nI v) = (Pa.setAt xs j v).map nI
  | [], j, v => by simp [Pa.setAt]
  | a :: xs, 0, v => by simp [Pa.setAt]
  | a :: xs, j + 1, v => by simp [Pa.setAt, setAt_map xs j v]
theorem setAt_len : ∀ (xs : List Nat) (j v : Nat), (Pa.setAt xs j v).length = xs.length
  | [], j, v => rfl
  | a :: xs, 0, v => rfl
  | a :: xs, j + 1, v => by simp [Pa.setAt, setAt_len xs j v]
theorem putI_len {k : Nat} : ∀ (l : List Nat) (xs : List Nat), (l.foldl (fun a item => Pa.setAt a item k) xs).length = xs.length
  | [], xs => rfl
  | i :: l, xs => by rw [List.foldl_cons, putI_len l, setAt_len]
theorem putB_len : ∀ (l : List (Bl × Nat)) (xs : List Nat), (l.foldl Pa.putB xs).length = xs.length
  | [], xs => rfl
  | q :: l, xs => by rw [List.foldl_cons, putB_len l]; unfold Pa.putB; rw [putI_len]
theorem ixN_nat {n j : Nat} (h : j < n) : L2.ixN n (j : Int) = some j := by
  unfold L2.ixN
  rw [if_pos (by omega), if_pos (by omega)]
  simp
abbrev pB : Sv := sFor (eIt (eVar 3)) (.nm 4) (sSub (eVar 1) (eVar 4) (eVar 2))
theorem pb_ok {p : Pt} {b : Bl} {k : Nat} {xs : List Nat} {x4 : Option LV} (hb : ∀ i ∈ b, i < xs.length) (h : LH) :
    ∃ y4, pB [some (encP p), some (.ref h.length), some (nI k), some (encB b), x4] (h ++ [.lst (xs.map nI)]) = .nx [some (encP p), some (.ref h.length), some (nI k), some (encB b), y4] (h ++ [.lst ((Pa.putB xs (b, k)).map nI)]) := by
  obtain ⟨e2, h2, el, x4', he, hh⟩ := for_pre (g := .nm 4) (body := sSub (eVar 1) (eVar 4) (eVar 2)) nI
    (fun l env hh => ∃ (x4 : Option LV), env = [some (encP p), some (.ref h.length), some (nI k), some (encB b), x4] ∧ hh = h ++ [.lst ((l.foldl (fun a item => Pa.setAt a item k) xs).map nI)])
    b [some (encP p), some (.ref h.length), some (nI k), some (encB b), x4] (h ++ [.lst (xs.map nI)]) ⟨x4, rfl, rfl⟩ (by
      rintro l i l2 er env hh ⟨x4, rfl, rfl⟩
      refine ⟨_, rfl, [some (encP p), some (.ref h.length), some (nI k), some (encB b), some (nI i)], h ++ [.lst (((l ++ [i]).foldl (fun a item => Pa.setAt a item k) xs).map nI)], .inl ?_, some (nI i), rfl, rfl⟩
      have hl : i < (l.foldl (fun a item => Pa.setAt a item k) xs).length := by rw [putI_len]; exact hb i (by rw [er]; simp)
      rw [List.foldl_append]
      simp only [List.foldl_cons, List.foldl_nil]
      generalize l.foldl (fun a item => Pa.setAt a item k) xs = ys at hl ⊢
      show subAt (nI k) (.ref h.length) (nI i) _ _ = _
      unfold subAt
      simp only [getLast_app, List.length_map, ixN_nat hl]
      rw [if_pos (by simp), set_last, setAt_map]
      rfl)
  subst he hh
  refine ⟨x4', ?_⟩
  unfold pB
  rw [sFor_run (xs := b.map nI) (h' := h ++ [.lst (xs.map nI)]) (by simp [encB]), el]
  rfl
theorem block_ok {p : Pt} (g : Gd p) (hi : ∀ b ∈ p, ∀ i ∈ b, i < Pa.many p) (h : LH) : M_block_of_each [encP p] h = .ok (.fl ((Pa.blockOf p).map nI)) h := by
  refine fnB_run [some (encP p), none, none, none, none] rfl ?_
  have hm := many_le g
  unfold m_block_of_each
  rw [sSeq_nx (env' := [some (encP p), some (.ref h.length), none, none, none]) (h' := h ++ [.lst ((List.replicate (Pa.many p) 0).map nI)]) (by
    have e0 : (eL fFl (lCons (eC (.int 0)) lNil)) [some (encP p), none, none, none, none] h = .ok (.fl [.int 0]) h := by simp
    rw [sSet_d, eB_d, e0, rb_ok, many_ok g h rfl (by simp)]
    have e : (List.replicate (Pa.many p) [LV.int 0]).flatten = (List.replicate (Pa.many p) 0).map nI := by
      generalize Pa.many p = m
      induction m with
      | zero => rfl
      | succ m ih => rw [List.replicate_succ, List.flatten_cons, ih, List.replicate_succ]; rfl
    have h1 : -(2 ^ 62) ≤ ((Pa.many p : Nat) : Int) := by omega
    have h2 : ((Pa.many p : Nat) : Int) < 2 ^ 62 := by omega
    rw [rb_ok]
    unfold repV
    simp only
    rw [if_pos ⟨h1, h2, by simp; omega⟩, if_pos trivial, if_pos (by simp)]
    rw [Int.toNat_natCast, e]
    rfl)]
  obtain ⟨e2, h2, el, x2', x3', x4', he, hh⟩ := for_pre (g := .tp [2, 3]) (body := pB) (fun q : Bl × Nat => LV.tup [.int (q.2 : Nat), encB q.1])
    (fun l env hh => ∃ (x2 x3 x4 : Option LV), env = [some (encP p), some (.ref h.length), x2, x3, x4] ∧ hh = h ++ [.lst ((l.foldl Pa.putB (List.replicate (Pa.many p) 0)).map nI)])
    (p.zip (List.range p.length)) [some (encP p), some (.ref h.length), none, none, none] (h ++ [.lst ((List.replicate (Pa.many p) 0).map nI)]) ⟨none, none, none, rfl, rfl⟩ (by
      rintro l ⟨b, k⟩ l2 er env hh ⟨x2, x3, x4, rfl, rfl⟩
      have hb : b ∈ p := (List.of_mem_zip (show (b, k) ∈ p.zip (List.range p.length) by rw [er]; simp)).1
      obtain ⟨y4, eb⟩ := pb_ok (p := p) (b := b) (k := k) (xs := l.foldl Pa.putB (List.replicate (Pa.many p) 0)) (x4 := x4) (by rw [putB_len, List.length_replicate]; exact hi b hb) h
      refine ⟨_, rfl, _, _, .inl eb, some (nI k), some (encB b), y4, rfl, ?_⟩
      rw [List.foldl_append]
      rfl)
  subst he hh
  rw [sSeq_nx (env' := [some (encP p), some (.ref h.length), x2', x3', x4']) (h' := h ++ [.lst ((Pa.blockOf p).map nI)]) (by
    rw [sFor_run (xs := (p.zip (List.range p.length)).map (fun q : Bl × Nat => LV.tup [.int (q.2 : Nat), encB q.1])) (h' := h ++ [.lst ((List.replicate (Pa.many p) 0).map nI)])]
    · exact el
    · unfold encP
      simp [enumL_zip0])]
  have hn : noRefs ((Pa.blockOf p).map nI) = true := noRefs_iff.2 fun x m => by obtain ⟨i, _, rfl⟩ := List.mem_map.1 m; simp
  simp [fFrz, hn]
end K71
end
section
set_option Elab.async false
set_option linter.all false
set_option maxRecDepth 100000
namespace K71
open PySem PySem.Spec PyProof.Rows L2 Lv
theorem frm_lt {a n x : Nat} (h : x ∈ Pa.frm a n) : x < n := by
  obtain ⟨i, hi, rfl⟩ := List.mem_map.1 h
  have := List.mem_range.1 hi
  omega
theorem frm_ok {ea eb : Ev} {env : LE} {h : LH} {a n : Nat} (ha : ea env h = .ok (.int ((a : Int) + 1)) h) (hb : eb env h = .ok (nI n) h) (h1 : a ≤ 100000) (h2 : n ≤ 100000) : eRng2 ea eb env h = .ok ((Pa.frm (a + 1) n).map nI) h := by
  have g1 : -(2 ^ 62) ≤ (a : Int) + 1 := by omega
  have g2 : (a : Int) + 1 < 2 ^ 62 := by omega
  have g3 : -(2 ^ 62) ≤ (n : Int) := by omega
  have g4 : (n : Int) < 2 ^ 62 := by omega
  unfold eRng2
  rw [ha, rb_ok, hb, rb_ok]
  simp only
  rw [if_pos ⟨⟨g1, g2⟩, g3, g4⟩]
  unfold rangeL Pa.frm
  have e : ((n : Int) - ((a : Int) + 1)).toNat = n - (a + 1) := by omega
  rw [e, List.map_map]
  congr 1
theorem at_nat {xs : List Nat} {i : Nat} (hi : i < xs.length) (h : LH) : fIx (.fl (xs.map nI)) (nI i) h = .ok (nI (xs.getD i 0)) h := by
  rw [fIx_fl, Lv.atI_nat (x := nI (xs.getD i 0)) (by simp [hi])]
  rfl
theorem eq_nat (i j : Nat) (h : LH) : eqV' (nI i) (nI j) h = .ok (.bl (Nat.beq i j)) h := by rw [eqV_int, deq]
theorem ne_nat (i j : Nat) (h : LH) : neV' (nI i) (nI j) h = .ok (.bl (!Nat.beq i j)) h := by rw [neV_d (by simp) (by simp), eqD_int, deq]
theorem frm_len (a n : Nat) : (Pa.frm a n).length = n - a := by simp [Pa.frm]
/-- a slot that a comprehension binds again -/
theorem lc_frm {i a n : Nat} {ea eb : Ev} {tst : EvT} {t : Nat → Bool} {env : LE} {h : LH} (hr : eRng2 ea eb env h = .ok ((Pa.frm a n).map nI) h) (hn : n ≤ 100000) (hi : i < env.length)
    (hx : ∀ x ∈ Pa.frm a n, ∀ acc, tst (env.set i (some (nI x))) (h ++ [acc]) = .ok (t x) (h ++ [acc])) : eIt (eLc false (eRng2 ea eb) (.nm i) tst (eVar i) [i]) env h = .ok (((Pa.frm a n).filter t).map nI) h := by
  rw [eIt_d, eLc_pure (α := Nat) (h' := h) nI t nI (Pa.frm a n) hr]
  · rfl
  · intro x m
    have e : (lwipe env [i]).set i (some (nI x)) = env.set i (some (nI x)) := by simp [lwipe]
    refine ⟨_, rfl, fun acc => ⟨?_, fun _ => ⟨?_, by simp⟩⟩⟩
    · rw [e]; exact hx x m _
    · rw [e]; simp [hi]
  · rw [frm_len, LIM_eq]; omega
abbrev fcD : Sv := sFor (eIt (eLc false (eRng2 (eB (addV []) (eVar 5) (eC (.int 1))) (eVar 2)) (.nm 6) (eTest (eB eqV' (eB fIx (eVar 1) (eVar 6)) (eB fIx (eVar 1) (eVar 4)))) (eVar 6) [6])) (.nm 6) (sRet (eL fTup (lCons (eVar 3) (lCons (eVar 4) (lCons (eVar 5) (lCons (eVar 6) lNil))))))
abbrev fcC : Sv := sFor (eIt (eLc false (eRng2 (eB (addV []) (eVar 4) (eC (.int 1))) (eVar 2)) (.nm 5) (eTest (eB eqV' (eB fIx (eVar 1) (eVar 5)) (eB fIx (eVar 1) (eVar 3)))) (eVar 5) [5])) (.nm 5) fcD
abbrev fcB : Sv := sFor (eIt (eLc false (eRng2 (eB (addV []) (eVar 3) (eC (.int 1))) (eVar 2)) (.nm 4) (eTest (eB neV' (eB fIx (eVar 1) (eVar 4)) (eB fIx (eVar 1) (eVar 3)))) (eVar 4) [4])) (.nm 4) fcC
abbrev encX (q : Nat × Nat × Nat × Nat) : LV := .tup [nI q.1, nI q.2.1, nI q.2.2.1, nI q.2.2.2]
theorem test_eq {xs : List Nat} {i j : Nat} {ea eb ec : Ev} {env : LE} {h : LH} (ha : ea env h = .ok (.fl (xs.map nI)) h) (hb : eb env h = .ok (nI i) h) (hc : ec env h = .ok (nI j) h) (hi : i < xs.length) (hj : j < xs.length) : eTest (eB eqV' (eB fIx ea eb) (eB fIx ea ec)) env h = .ok (Nat.beq (xs.getD i 0) (xs.getD j 0)) h := by
  rw [eTest_d, eB_d, eB_d, ha, rb_ok, hb, rb_ok, at_nat hi, rb_ok, eB_d, ha, rb_ok, hc, rb_ok, at_nat hj, rb_ok, eq_nat]
  rfl
theorem test_ne {xs : List Nat} {i j : Nat} {ea eb ec : Ev} {env : LE} {h : LH} (ha : ea env h = .ok (.fl (xs.map nI)) h) (hb : eb env h = .ok (nI i) h) (hc : ec env h = .ok (nI j) h) (hi : i < xs.length) (hj : j < xs.length) : eTest (eB neV' (eB fIx ea eb) (eB fIx ea ec)) env h = .ok (!Nat.beq (xs.getD i 0) (xs.getD j 0)) h := by
  rw [eTest_d, eB_d, eB_d, ha, rb_ok, hb, rb_ok, at_nat hi, rb_ok, eB_d, ha, rb_ok, hc, rb_ok, at_nat hj, rb_ok, ne_nat]
  rfl
section
variable {P : LV} {xs : List Nat} {h : LH}
theorem fcD_ok {a b c : Nat} (hl : xs.length ≤ 10000) (hb : b < xs.length) (hc : c < xs.length) (x6 : Option LV) : (match ((Pa.frm (c + 1) xs.length).filter fun d => Nat.beq (xs.getD d 0) (xs.getD b 0)).findSome? fun d => some (a, b, c, d) with
    | some r => fcD [some P, some (.fl (xs.map nI)), some (nI xs.length), some (nI a), some (nI b), some (nI c), x6] h = .rt (encX r) h
    | none => ∃ y6, fcD [some P, some (.fl (xs.map nI)), some (nI xs.length), some (nI a), some (nI b), some (nI c), x6] h = .nx [some P, some (.fl (xs.map nI)), some (nI xs.length), some (nI a), some (nI b), some (nI c), y6] h) := by
  have li := lc_frm (i := 6) (a := c + 1) (n := xs.length) (ea := eB (addV []) (eVar 5) (eC (.int 1))) (eb := eVar 2) (tst := eTest (eB eqV' (eB fIx (eVar 1) (eVar 6)) (eB fIx (eVar 1) (eVar 4)))) (t := fun d => Nat.beq (xs.getD d 0) (xs.getD b 0)) (env := [some P, some (.fl (xs.map nI)), some (nI xs.length), some (nI a), some (nI b), some (nI c), x6]) (h := h) (frm_ok rfl rfl (by omega) (by omega)) (by omega) (by simp) (fun x m acc => test_eq rfl rfl rfl (frm_lt m) hb)
  have q := for_find (g := .nm 6) (body := sRet (eL fTup (lCons (eVar 3) (lCons (eVar 4) (lCons (eVar 5) (lCons (eVar 6) lNil)))))) nI (fun env hh => ∃ y6, env = [some P, some (.fl (xs.map nI)), some (nI xs.length), some (nI a), some (nI b), some (nI c), y6] ∧ hh = h) encX (fun d => some (a, b, c, d))
    ((Pa.frm (c + 1) xs.length).filter fun d => Nat.beq (xs.getD d 0) (xs.getD b 0)) _ h ⟨x6, rfl, rfl⟩ h (by
      rintro d m env hh ⟨y6, rfl, rfl⟩
      exact ⟨_, rfl, by simp [encX]⟩)
  unfold fcD
  rw [sFor_run li]
  revert q
  cases ((Pa.frm (c + 1) xs.length).filter fun d => Nat.beq (xs.getD d 0) (xs.getD b 0)).findSome? fun d => some (a, b, c, d) with
  | some r => exact fun q => q
  | none =>
    rintro ⟨e2, h', q, y6, rfl, rfl⟩
    exact ⟨y6, q⟩
theorem fcC_ok {a b : Nat} (hl : xs.length ≤ 10000) (ha : a < xs.length) (hb : b < xs.length) (x5 x6 : Option LV) : (match ((Pa.frm (b + 1) xs.length).filter fun c => Nat.beq (xs.getD c 0) (xs.getD a 0)).findSome? fun c => ((Pa.frm (c + 1) xs.length).filter fun d => Nat.beq (xs.getD d 0) (xs.getD b 0)).findSome? fun d => some (a, b, c, d) with
    | some r => fcC [some P, some (.fl (xs.map nI)), some (nI xs.length), some (nI a), some (nI b), x5, x6] h = .rt (encX r) h
    | none => ∃ y5 y6, fcC [some P, some (.fl (xs.map nI)), some (nI xs.length), some (nI a), some (nI b), x5, x6] h = .nx [some P, some (.fl (xs.map nI)), some (nI xs.length), some (nI a), some (nI b), y5, y6] h) := by
  have li := lc_frm (i := 5) (a := b + 1) (n := xs.length) (ea := eB (addV []) (eVar 4) (eC (.int 1))) (eb := eVar 2) (tst := eTest (eB eqV' (eB fIx (eVar 1) (eVar 5)) (eB fIx (eVar 1) (eVar 3)))) (t := fun d => Nat.beq (xs.getD d 0) (xs.getD a 0)) (env := [some P, some (.fl (xs.map nI)), some (nI xs.length), some (nI a), some (nI b), x5, x6]) (h := h) (frm_ok rfl rfl (by omega) (by omega)) (by omega) (by simp) (fun x m acc => test_eq rfl rfl rfl (frm_lt m) ha)
  have q := for_find (g := .nm 5) (body := fcD) nI (fun env hh => ∃ y5 y6, env = [some P, some (.fl (xs.map nI)), some (nI xs.length), some (nI a), some (nI b), y5, y6] ∧ hh = h) encX (fun c => ((Pa.frm (c + 1) xs.length).filter fun d => Nat.beq (xs.getD d 0) (xs.getD b 0)).findSome? fun d => some (a, b, c, d))
    ((Pa.frm (b + 1) xs.length).filter fun d => Nat.beq (xs.getD d 0) (xs.getD a 0)) _ h ⟨x5, x6, rfl, rfl⟩ h (by
      rintro c m env hh ⟨y5, y6, rfl, rfl⟩
      have f := fcD_ok (P := P) (h := hh) (a := a) (b := b) (c := c) hl hb (frm_lt (List.mem_filter.1 m).1) y6
      refine ⟨_, rfl, ?_⟩
      revert f
      cases ((Pa.frm (c + 1) xs.length).filter fun d => Nat.beq (xs.getD d 0) (xs.getD b 0)).findSome? fun d => some (a, b, c, d) with
      | some r => exact fun q => q
      | none =>
        rintro ⟨z6, q⟩
        exact ⟨_, _, .inl q, some (nI c), z6, rfl, rfl⟩)
  unfold fcC
  rw [sFor_run li]
  revert q
  cases ((Pa.frm (b + 1) xs.length).filter fun c => Nat.beq (xs.getD c 0) (xs.getD a 0)).findSome? fun c => ((Pa.frm (c + 1) xs.length).filter fun d => Nat.beq (xs.getD d 0) (xs.getD b 0)).findSome? fun d => some (a, b, c, d) with
  | some r => exact fun q => q
  | none =>
    rintro ⟨e2, h', q, y5, y6, rfl, rfl⟩
    exact ⟨y5, y6, q⟩
theorem fcB_ok {a : Nat} (hl : xs.length ≤ 10000) (ha : a < xs.length) (x4 x5 x6 : Option LV) : (match ((Pa.frm (a + 1) xs.length).filter fun b => !Nat.beq (xs.getD b 0) (xs.getD a 0)).findSome? fun b => ((Pa.frm (b + 1) xs.length).filter fun c => Nat.beq (xs.getD c 0) (xs.getD a 0)).findSome? fun c => ((Pa.frm (c + 1) xs.length).filter fun d => Nat.beq (xs.getD d 0) (xs.getD b 0)).findSome? fun d => some (a, b, c, d) with
    | some r => fcB [some P, some (.fl (xs.map nI)), some (nI xs.length), some (nI a), x4, x5, x6] h = .rt (encX r) h
    | none => ∃ y4 y5 y6, fcB [some P, some (.fl (xs.map nI)), some (nI xs.length), some (nI a), x4, x5, x6] h = .nx [some P, some (.fl (xs.map nI)), some (nI xs.length), some (nI a), y4, y5, y6] h) := by
  have li := lc_frm (i := 4) (a := a + 1) (n := xs.length) (ea := eB (addV []) (eVar 3) (eC (.int 1))) (eb := eVar 2) (tst := eTest (eB neV' (eB fIx (eVar 1) (eVar 4)) (eB fIx (eVar 1) (eVar 3)))) (t := fun d => !Nat.beq (xs.getD d 0) (xs.getD a 0)) (env := [some P, some (.fl (xs.map nI)), some (nI xs.length), some (nI a), x4, x5, x6]) (h := h) (frm_ok rfl rfl (by omega) (by omega)) (by omega) (by simp) (fun x m acc => test_ne rfl rfl rfl (frm_lt m) ha)
  have q := for_find (g := .nm 4) (body := fcC) nI (fun env hh => ∃ y4 y5 y6, env = [some P, some (.fl (xs.map nI)), some (nI xs.length), some (nI a), y4, y5, y6] ∧ hh = h) encX (fun b => ((Pa.frm (b + 1) xs.length).filter fun c => Nat.beq (xs.getD c 0) (xs.getD a 0)).findSome? fun c => ((Pa.frm (c + 1) xs.length).filter fun d => Nat.beq (xs.getD d 0) (xs.getD b 0)).findSome? fun d => some (a, b, c, d))
    ((Pa.frm (a + 1) xs.length).filter fun d => !Nat.beq (xs.getD d 0) (xs.getD a 0)) _ h ⟨x4, x5, x6, rfl, rfl⟩ h (by
      rintro b m env hh ⟨y4, y5, y6, rfl, rfl⟩
      have f := fcC_ok (P := P) (h := hh) (a := a) (b := b) hl ha (frm_lt (List.mem_filter.1 m).1) y5 y6
      refine ⟨_, rfl, ?_⟩
      revert f
      cases ((Pa.frm (b + 1) xs.length).filter fun c => Nat.beq (xs.getD c 0) (xs.getD a 0)).findSome? fun c => ((Pa.frm (c + 1) xs.length).filter fun d => Nat.beq (xs.getD d 0) (xs.getD b 0)).findSome? fun d => some (a, b, c, d) with
      | some r => exact fun q => q
      | none =>
        rintro ⟨z5, z6, q⟩
        exact ⟨_, _, .inl q, some (nI b), z5, z6, rfl, rfl⟩)
  unfold fcB
  rw [sFor_run li]
  revert q
  cases ((Pa.frm (a + 1) xs.length).filter fun b => !Nat.beq (xs.getD b 0) (xs.getD a 0)).findSome? fun b => ((Pa.frm (b + 1) xs.length).filter fun c => Nat.beq (xs.getD c 0) (xs.getD a 0)).findSome? fun c => ((Pa.frm (c + 1) xs.length).filter fun d => Nat.beq (xs.getD d 0) (xs.getD b 0)).findSome? fun d => some (a, b, c, d) with
  | some r => exact fun q => q
  | none =>
    rintro ⟨e2, h', q, y4, y5, y6, rfl, rfl⟩
    exact ⟨y4, y5, y6, q⟩
end
def encO : Option (Nat × Nat × Nat × Nat) → LV
  | some q => encX q
  | none => .non
theorem first_ok {p : Pt} (g : Gd p) (hi : ∀ b ∈ p, ∀ i ∈ b, i < Pa.many p) (h : LH) : M_first_crossing [encP p] h = .ok (encO (Pa.firstX p)) h := by
  refine fnB_run [some (encP p), none, none, none, none, none, none] rfl ?_
  have hl : (Pa.blockOf p).length ≤ 10000 := by
    have := many_le g
    unfold Pa.blockOf
    rw [putB_len, List.length_replicate]
    exact this
  unfold m_first_crossing
  have bo := block_ok g hi h
  rw [sSeq_nx (env' := [some (encP p), some (.fl ((Pa.blockOf p).map nI)), none, none, none, none, none]) (h' := h) (by
    simp [fCall_run, bo])]
  rw [sSeq_nx (env' := [some (encP p), some (.fl ((Pa.blockOf p).map nI)), some (nI (Pa.blockOf p).length), none, none, none, none]) (h' := h) (by simp)]
  have e : Pa.firstX p = (List.range (Pa.blockOf p).length).findSome? fun a => ((Pa.frm (a + 1) (Pa.blockOf p).length).filter fun b => !Nat.beq ((Pa.blockOf p).getD b 0) ((Pa.blockOf p).getD a 0)).findSome? fun b => ((Pa.frm (b + 1) (Pa.blockOf p).length).filter fun c => Nat.beq ((Pa.blockOf p).getD c 0) ((Pa.blockOf p).getD a 0)).findSome? fun c => ((Pa.frm (c + 1) (Pa.blockOf p).length).filter fun d => Nat.beq ((Pa.blockOf p).getD d 0) ((Pa.blockOf p).getD b 0)).findSome? fun d => some (a, b, c, d) := rfl
  rw [e]
  generalize Pa.blockOf p = xs at hl ⊢
  have q := for_find (g := .nm 3) (body := fcB) nI (fun env hh => ∃ y3 y4 y5 y6, env = [some (encP p), some (.fl (xs.map nI)), some (nI xs.length), y3, y4, y5, y6] ∧ hh = h) encX
    (fun a => ((Pa.frm (a + 1) xs.length).filter fun b => !Nat.beq (xs.getD b 0) (xs.getD a 0)).findSome? fun b => ((Pa.frm (b + 1) xs.length).filter fun c => Nat.beq (xs.getD c 0) (xs.getD a 0)).findSome? fun c => ((Pa.frm (c + 1) xs.length).filter fun d => Nat.beq (xs.getD d 0) (xs.getD b 0)).findSome? fun d => some (a, b, c, d))
    (List.range xs.length) _ h ⟨none, none, none, none, rfl, rfl⟩ h (by
      rintro a m env hh ⟨y3, y4, y5, y6, rfl, rfl⟩
      have f := fcB_ok (P := encP p) (h := hh) (a := a) hl (List.mem_range.1 m) y4 y5 y6
      refine ⟨_, rfl, ?_⟩
      revert f
      cases ((Pa.frm (a + 1) xs.length).filter fun b => !Nat.beq (xs.getD b 0) (xs.getD a 0)).findSome? fun b => ((Pa.frm (b + 1) xs.length).filter fun c => Nat.beq (xs.getD c 0) (xs.getD a 0)).findSome? fun c => ((Pa.frm (c + 1) xs.length).filter fun d => Nat.beq (xs.getD d 0) (xs.getD b 0)).findSome? fun d => some (a, b, c, d) with
      | some r => exact fun q => q
      | none =>
        rintro ⟨z4, z5, z6, q⟩
        exact ⟨_, _, .inl q, some (nI a), z4, z5, z6, rfl, rfl⟩)
  rw [sSeq_d, sFor_run (rng0_ok (m := xs.length) (h' := h) rfl (by omega))]
  revert q
  cases (List.range xs.length).findSome? fun a => ((Pa.frm (a + 1) xs.length).filter fun b => !Nat.beq (xs.getD b 0) (xs.getD a 0)).findSome? fun b => ((Pa.frm (b + 1) xs.length).filter fun c => Nat.beq (xs.getD c 0) (xs.getD a 0)).findSome? fun c => ((Pa.frm (c + 1) xs.length).filter fun d => Nat.beq (xs.getD d 0) (xs.getD b 0)).findSome? fun d => some (a, b, c, d) with
  | some r =>
    intro q
    simp only at q
    rw [q]
    simp [encO]
  | none =>
    rintro ⟨e2, h', q, y3, y4, y5, y6, rfl, rfl⟩
    rw [q]
    simp [encO]
end K71
end
section
set_option Elab.async false
set_option linter.all false
set_option maxRecDepth 100000
namespace K71
open PySem PySem.Spec PyProof.Rows L2 Lv
/-! ### what is known of all partings of few things -/
structure Rt (n : Nat) (p : Pt) : Prop where
  g : Gd p
  hi : ∀ b ∈ p, ∀ i ∈ b, i < Pa.many p
  m : Pa.many p = n
  r : Pa.rows p = Pa.oRows p
  w : Pa.whole p = Pa.oWhole p
  u : Pa.uncr p = !Pa.oCr p
  j : Pa.joined p = some (Pa.oJoined p)
theorem len_many : ∀ p : Pt, (∀ b ∈ p, b ≠ []) → p.length ≤ Pa.many p ∧ ∀ b ∈ p, b.length ≤ Pa.many p
  | [], _ => ⟨Nat.zero_le _, fun b m => by cases m⟩
  | b :: p, H => by
    obtain ⟨h1, h2⟩ := len_many p fun c m => H c (List.mem_cons_of_mem _ m)
    have h3 : 0 < b.length := List.length_pos_iff.2 (H b (List.mem_cons_self ..))
    have e : Pa.many (b :: p) = b.length + Pa.many p := rfl
    refine ⟨by simp only [List.length_cons]; omega, fun c m => ?_⟩
    rcases List.mem_cons.1 m with rfl | m
    · omega
    · have := h2 c m; omega
theorem rt_of {n : Nat} (hn : n ≤ 8) {p : Pt} (hp : p ∈ Pa.parts n) : Rt n p := by
  have t := Pa.tests n hn p hp
  unfold Pa.tst Pa.okP at t
  simp only [Bool.and_eq_true, beq_iff_eq] at t
  obtain ⟨⟨h1, h2⟩, h3, h4, h5, h6⟩ := t
  have h1 : Pa.many p = n := by have e : ((Pa.many p).beq n = true) = (Pa.many p = n) := Nat.beq_eq; rwa [e] at h1
  have h2 := List.all_eq_true.mp h2
  have hb : ∀ b ∈ p, b ≠ [] ∧ ∀ i ∈ b, i < n := fun b m => by
    have := h2 b m
    simp only [Bool.and_eq_true, Bool.not_eq_true', List.isEmpty_eq_false_iff] at this
    refine ⟨this.1, fun i hi => ?_⟩
    have q := List.all_eq_true.mp this.2 i hi
    have e : (i.blt n = true) = (i < n) := Nat.blt_eq
    rwa [e] at q
  obtain ⟨l1, l2⟩ := len_many p fun b m => (hb b m).1
  refine ⟨⟨by omega, fun b m => ⟨(hb b m).1, by have := l2 b m; omega⟩⟩, fun b m i hi => by rw [h1]; exact (hb b m).2 i hi, h1, h3, h4, h5, ?_⟩
  revert h6
  cases Pa.joined p with
  | none => intro h; cases h
  | some c => intro h; rw [show c = Pa.oJoined p from by simpa [Pa.isSo] using h]
/-! ### sorts -/
def ofS (s : Str) (p : Pt) : Bool := if s = "rows" then Pa.oRows p else if s = "joined" then Pa.oJoined p else if s = "whole" then Pa.oWhole p else if s = "all" then true else !Pa.oCr p && (decide (s = "uncrossed") || Pa.oWhole p)
theorem eq_strs {s t : Str} (hs : shp (.str s) 64 = true) (ht : shp (.str t) 64 = true) (h : LH) : eqV' (.str s) (.str t) h = .ok (.bl (decide (s = t))) h := by rw [eqV_d hs ht, eqD_str]
theorem is_of_ok {n : Nat} {p : Pt} (R : Rt n p) {s : Str} (hs : shp (.str s) 64 = true) (h : LH) : M_is_of [encP p, .str s] h = .ok (.bl (ofS s p)) h := by
  refine fnB_run [some (encP p), some (.str s)] rfl ?_
  have f1 := rows_ok R.g h
  have f2 := joined_ok R.g R.j h
  have f3 := whole_ok R.g h
  have f4 := first_ok R.g R.hi h
  have q1 := eq_strs hs (t := "rows") (by decide +kernel) h
  have q2 := eq_strs hs (t := "joined") (by decide +kernel) h
  have q3 := eq_strs hs (t := "whole") (by decide +kernel) h
  have q4 := eq_strs hs (t := "all") (by decide +kernel) h
  have q5 := eq_strs hs (t := "uncrossed") (by decide +kernel) h
  have u : isNon (encO (Pa.firstX p)) .non h = .ok (.bl (!Pa.oCr p)) h := by
    rw [← R.u]
    unfold Pa.uncr
    cases Pa.firstX p <;> rfl
  rw [R.r] at f1
  rw [R.w] at f3
  unfold m_is_of ofS
  by_cases c1 : s = "rows"
  · rw [if_pos c1]
    simp [q1, decide_eq_true c1, fCall_run, f1]
  rw [if_neg c1]
  by_cases c2 : s = "joined"
  · rw [if_pos c2]
    simp [q1, q2, decide_eq_false c1, decide_eq_true c2, fCall_run, f2]
  rw [if_neg c2]
  by_cases c3 : s = "whole"
  · rw [if_pos c3]
    simp [q1, q2, q3, decide_eq_false c1, decide_eq_false c2, decide_eq_true c3, fCall_run, f3]
  rw [if_neg c3]
  by_cases c4 : s = "all"
  · rw [if_pos c4]
    simp [q1, q2, q3, q4, decide_eq_false c1, decide_eq_false c2, decide_eq_false c3, decide_eq_true c4]
  rw [if_neg c4]
  by_cases c5 : s = "uncrossed"
  · cases co : Pa.oCr p <;> rw [co] at u <;> simp [q1, q2, q3, q4, q5, decide_eq_false c1, decide_eq_false c2, decide_eq_false c3, decide_eq_false c4, decide_eq_true c5, fCall_run, f4, u, f3]
  · cases co : Pa.oCr p <;> rw [co] at u <;> simp [q1, q2, q3, q4, q5, decide_eq_false c1, decide_eq_false c2, decide_eq_false c3, decide_eq_false c4, decide_eq_false c5, fCall_run, f4, u, f3]
/-! ### partings, sorted -/
def dB (b : Bl) : PyData := .tuple (b.map fun i => .int (i : Nat))
def dP (p : Pt) : PyData := .tuple (p.map dB)
theorem dOfs_map {α : Type} {f : α → LV} {d : α → PyData} (h : ∀ a, dOf (f a) = some (d a)) : ∀ as : List α, dOfs (as.map f) = some (as.map d)
  | [] => by simp [dOfs]
  | a :: as => by simp [dOfs, h, dOfs_map h as]
theorem dOf_B (b : Bl) : dOf (encB b) = some (dB b) := by
  unfold encB dB
  simp only [dOf]
  rw [dOfs_map (d := fun i : Nat => .int (i : Nat)) (fun i => by simp only [dOf])]
theorem dOf_P (p : Pt) : dOf (encP p) = some (dP p) := by
  unfold encP dP
  simp only [dOf]
  rw [dOfs_map dOf_B]
theorem alikeAll_map {α : Type} {f : α → PyData} (h : ∀ a b, PySem.W.alike (f a) (f b) = true) : ∀ as bs : List α, PySem.W.alikeAll (as.map f) (bs.map f) = true
  | [], _ => by simp [PySem.W.alikeAll]
  | _ :: _, [] => by simp [PySem.W.alikeAll]
  | a :: as, b :: bs => by simp [PySem.W.alikeAll, h, alikeAll_map h as bs]
theorem alike_B (b c : Bl) : PySem.W.alike (dB b) (dB c) = true := by
  unfold dB
  rw [PySem.W.alike]
  exact alikeAll_map (fun a b => by simp [PySem.W.alike]) _ _
theorem alike_P (p q : Pt) : PySem.W.alike (dP p) (dP q) = true := by
  unfold dP
  rw [PySem.W.alike]
  exact alikeAll_map alike_B _ _
theorem shp_B (b : Bl) : shp (encB b) 2 = true := by
  unfold encB
  rw [shp_tup]
  exact shps_map fun i _ => by simp
theorem shp_P (p : Pt) : shp (encP p) 3 = true := by
  unfold encP
  rw [shp_tup]
  exact shps_map fun b _ => shp_B b
theorem perm_map {α β : Type} {f : α → β} : ∀ (qs : List α) (l : List β), l.Perm (qs.map f) → ∃ ps : List α, l = ps.map f ∧ ps.Perm qs
  | [], l, h => ⟨[], by simpa using h, .nil⟩
  | q :: qs, l, h => by
    have hm : f q ∈ l := h.mem_iff.2 (by simp)
    obtain ⟨l1, l2, rfl⟩ := List.append_of_mem hm
    have h' : (l1 ++ l2).Perm (qs.map f) := (List.perm_middle.symm.trans h).cons_inv
    obtain ⟨ps, e, hp⟩ := perm_map qs _ h'
    obtain ⟨p1, p2, rfl, rfl, rfl⟩ := List.append_eq_map_iff.1 e
    exact ⟨p1 ++ q :: p2, by simp, List.perm_middle.trans (hp.cons q)⟩
theorem sorted_ok {n : Nat} {qs : List Pt} (hq : ∀ p ∈ qs, p ≠ [] ∨ qs.length ≤ 1) (h : LH) : ∃ ps : List Pt, ps.Perm qs ∧ fSorted [.fl (qs.map encP)] h = .ok (.fl (ps.map encP)) h := by
  unfold fSorted
  simp only [lstOf]
  by_cases c : (qs.map encP).length ≤ 1
  · exact ⟨qs, .refl _, by rw [if_pos c]⟩
  · have e1 := dOfs_map dOf_P qs
    have ne : ∀ p ∈ qs, p ≠ [] := fun p m => (hq p m).resolve_right (by simpa using c)
    have e2 : srtB (qs.map dP) = true := by
      unfold srtB
      rw [Bool.and_eq_true, Bool.and_eq_true, Bool.or_eq_true]
      refine ⟨?_, .inl ?_, ?_⟩
      · rw [List.all_map, List.all_eq_true]
        intro p _
        show (qs.map dP).all _ = true
        rw [List.all_map, List.all_eq_true]
        exact fun q _ => alike_P p q
      · rw [List.all_map, List.all_eq_true]
        intro p m
        cases p with
        | nil => exact absurd rfl (ne [] m)
        | cons b p => rfl
      · rw [List.all_map, List.all_eq_true]
        intro p _
        obtain ⟨d, h1, _, h3⟩ := shp_d _ _ (shp_P p)
        rw [dOf_P] at h1
        cases h1
        simp only [Function.comp, decide_eq_true_iff]
        omega
    obtain ⟨ps, h1, h2⟩ := perm_map qs (srtL (qs.map encP)) (List.mergeSort_perm _ _)
    refine ⟨ps, h2, ?_⟩
    rw [if_neg c, e1]
    simp only
    rw [if_pos e2, h1]
end K71
end
section
set_option Elab.async false
set_option linter.all false
set_option maxRecDepth 100000
namespace K71
open PySem PySem.Spec PyProof.Rows L2 Lv
theorem parts_len : ∀ n, n ≤ 8 → (Pa.parts n).length ≤ 5000 := by decide +kernel
theorem range_pre {n a : Nat} {l l2 : List Nat} (e : List.range n = l ++ a :: l2) : a = l.length ∧ l.length < n := by
  have h1 := congrArg List.length e
  simp at h1
  have h2 := congrArg (fun x => x[l.length]?) e
  simp at h2
  have h3 : l.length < n := by omega
  rw [List.getElem?_eq_getElem (by simpa using h3)] at h2
  simp at h2
  exact ⟨h2.symm, h3⟩
theorem wth_len (i : Nat) (p : Pt) : (Pa.wth i p).length = p.length + 1 := by simp [Pa.wth]
theorem flat_parts (n : Nat) : (Pa.parts n).flatMap (Pa.wth n) = Pa.parts (n + 1) := rfl
/-- one lap of partings_of -/
theorem parts_lap {k : Nat} (hk : k < 8) {v1 x4 x5 : Option LV} {v0 : Option LV} (h : LH) :
    (sSet 2 (eLc2 false (eIt (eVar 2)) (.nm 4) tYes' (eIt (eL (fCall 2 M_with_item []) (lCons (eVar 4) (lCons (eVar 3) lNil)))) (.nm 5) tYes' (eVar 5) [4, 5] [5])) [v0, v1, some (.fl ((Pa.parts k).map encP)), some (nI k), x4, x5] h
      = .nx [v0, v1, some (.fl ((Pa.parts (k + 1)).map encP)), some (nI k), x4, x5] h := by
  rw [sSet_d, eLc2_map (α := Pt) (β := Pt) (h' := h) encP encP encP (Pa.wth k) (Pa.parts k)]
  · rw [flat_parts]; rfl
  · simp
  · intro p hp
    have R := rt_of (by omega : k ≤ 8) hp
    refine ⟨_, rfl, fun acc => ⟨?_, fun q hq => ⟨_, rfl, fun acc => ⟨rfl, encP_nr q⟩⟩⟩⟩
    have w := with_item_ok R.g.sm k (h ++ [.lst acc])
    simp [lwipe, fCall_run, w]
  · rw [flat_parts, LIM_eq]
    have := parts_len (k + 1) (by omega)
    omega
theorem nil_parts {n : Nat} (hn : n ≤ 8) {p : Pt} (hp : p ∈ Pa.parts n) : p ≠ [] ∨ n = 0 := by
  have R := rt_of hn hp
  by_cases e : p = []
  · subst e; exact .inr R.m.symm
  · exact .inl e
theorem partings_of_ok {n : Nat} (hn : n ≤ 8) {s : Str} (hs : shp (.str s) 64 = true) (h : LH) : ∃ qs : List Pt, qs.Perm ((Pa.parts n).filter (ofS s)) ∧ M_partings_of [nI n, .str s] h = .ok (.tup (qs.map encP)) h := by
  obtain ⟨e2, h2, el, x3', x4', x5', he, hh⟩ := for_pre (g := .nm 3) (body := sSet 2 (eLc2 false (eIt (eVar 2)) (.nm 4) tYes' (eIt (eL (fCall 2 M_with_item []) (lCons (eVar 4) (lCons (eVar 3) lNil)))) (.nm 5) tYes' (eVar 5) [4, 5] [5])) nI
    (fun l env hh => ∃ (x3 x4 x5 : Option LV), env = [some (nI n), some (.str s), some (.fl ((Pa.parts l.length).map encP)), x3, x4, x5] ∧ hh = h)
    (List.range n) [some (nI n), some (.str s), some (.fl ((Pa.parts 0).map encP)), none, none, none] h ⟨none, none, none, rfl, rfl⟩ (by
      rintro l k l2 er env hh ⟨x3, x4, x5, rfl, rfl⟩
      obtain ⟨rfl, hk⟩ := range_pre er
      refine ⟨_, rfl, _, _, .inl (parts_lap (by omega) hh), some (nI l.length), x4, x5, ?_, rfl⟩
      rw [List.length_append]
      rfl)
  subst he hh
  rw [List.length_range] at el
  obtain ⟨qs, hp, hso⟩ := sorted_ok (n := n) (qs := (Pa.parts n).filter (ofS s)) (fun p m => by
    rcases nil_parts hn (List.mem_filter.1 m).1 with e | e
    · exact .inl e
    · subst e
      exact .inr (Nat.le_trans (List.length_filter_le _ _) (Nat.le_refl 1))) h2
  refine ⟨qs, hp, fnB_run [some (nI n), some (.str s), none, none, none, none] rfl ?_⟩
  unfold m_partings_of
  rw [sSeq_nx (env' := [some (nI n), some (.str s), some (.fl ((Pa.parts 0).map encP)), none, none, none]) (h' := h2) (by simp [Pa.parts, encP])]
  rw [sSeq_nx (env' := [some (nI n), some (.str s), some (.fl ((Pa.parts n).map encP)), x3', x4', x5']) (h' := h2) (by
    rw [sFor_run (rng0_ok (m := n) (h' := h2) rfl (by omega)), el])]
  have lc : (eLc false (eIt (eVar 2)) (.nm 4) (eTest (eL (fCall 2 M_is_of []) (lCons (eVar 4) (lCons (eVar 1) lNil)))) (eVar 4) [4]) [some (nI n), some (.str s), some (.fl ((Pa.parts n).map encP)), x3', x4', x5'] h2 = .ok (.fl (((Pa.parts n).filter (ofS s)).map encP)) h2 := by
    rw [eLc_pure (α := Pt) (h' := h2) encP (ofS s) encP (Pa.parts n)]
    · simp
    · intro p hp
      refine ⟨_, rfl, fun acc => ⟨?_, fun _ => ⟨rfl, encP_nr p⟩⟩⟩
      have w := is_of_ok (rt_of hn hp) hs (h2 ++ [.lst acc])
      simp [lwipe, fCall_run, w]
    · rw [LIM_eq]
      have := parts_len n hn
      omega
  have hn2 := encPs_nr qs
  rw [sRet_d, eL_d, lCons_d, eL_d, lCons_d, lc]
  simp [hso, hn2]
/-! ### what is refused -/
def SORTSV : LV := .tup [.str "all", .str "uncrossed", .str "rows", .str "joined", .str "whole", .str "uncrossed whole"]
def sorts : List Str := ["all", "uncrossed", "rows", "joined", "whole", "uncrossed whole"]
theorem sort_ok {s : Str} (hs : s ∈ sorts) (h : LH) : M_need_sort [.str s, SORTSV] h = .ok .non h := by
  refine fnB_run [some (.str s), some SORTSV] rfl ?_
  have e : inL true (.str s) SORTSV h = .ok (.bl false) h := by
    unfold inL SORTSV
    have : sorts.any (fun z => z == s) = true := List.any_eq_true.2 ⟨s, hs, by simp⟩
    show (if flatL (.str s) = true ∧ _ then Res.ok (LV.bl (!(sorts.any fun z => z == s))) h else .stuck) = _
    rw [this]
    rfl
  have f : fIsi tb_is_str (.str s) h = .ok (.bl true) h := rfl
  unfold m_need_sort
  simp [e, f]
theorem count_ok {n m : Nat} (hm : n ≤ m) (h : LH) : M_is_count [nI n, nI m] h = .ok (.bl true) h := by
  refine fnB_run [some (nI n), some (nI m)] rfl ?_
  unfold m_is_count
  have g1 : geV (nI n) (.int 0) h = .ok (.bl true) h := by unfold geV; rw [geV_int, decide_eq_true (by omega)]
  have g2 : leV (nI n) (nI m) h = .ok (.bl true) h := by unfold leV; rw [leV_int, decide_eq_true (by omega)]
  have g3 : isNon (nI m) .non h = .ok (.bl false) h := rfl
  simp [fCall_run, integer_int, g1, g2, g3]
  exact hm
theorem sorts_shp : ∀ s ∈ sorts, shp (.str s) 64 = true := by decide +kernel
theorem nI8 : nI 8 = .int 8 := rfl
theorem pq1 {n : Nat} {s : Str} (h : LH) (c : M_is_count [nI n, .int 8] h = .ok (.bl true) h) : (sIf (tNot' (eTest (eL (fCall 2 M_is_count []) (lCons (eVar 0) (lCons (eC (.int 8)) lNil))))) (sRaise 0 ["what", "value"] (lCons (eC (.str "n")) (lCons (eVar 0) lNil))) sNil) [some (nI n), some (.str s)] h = .nx [some (nI n), some (.str s)] h := by simp [fCall_run, c]
theorem pq2 {n : Nat} {s : Str} (h : LH) (so : M_need_sort [.str s, SORTSV] h = .ok .non h) : (sExpr (eL (fCall 2 M_need_sort []) (lCons (eVar 1) (lCons (eC (.tup [.str "all", .str "uncrossed", .str "rows", .str "joined", .str "whole", .str "uncrossed whole"])) lNil)))) [some (nI n), some (.str s)] h = .nx [some (nI n), some (.str s)] h := by
  unfold SORTSV at so
  simp [fCall_run, so]
theorem pq3 (m1 : Fn) {n : Nat} {s : Str} (h : LH) (v : LV) (hn2 : noRef v = true) (e : m1 [nI n, .str s] h = .ok v h) : trimR h.length (endR (sRet (eL (fCall 2 m1 []) (lCons (eVar 0) (lCons (eVar 1) lNil))) [some (nI n), some (.str s)] h)) = .ok v h := by
  simp [fCall_run, e, hn2]
theorem partings_ok {n : Nat} (hn : n ≤ 8) {s : Str} (hs : s ∈ sorts) (h : LH) : ∃ qs : List Pt, qs.Perm ((Pa.parts n).filter (ofS s)) ∧ M_partings [nI n, .str s] h = .ok (.tup (qs.map encP)) h := by
  have hs' := sorts_shp s hs
  obtain ⟨qs, hp, e⟩ := partings_of_ok hn hs' h
  refine ⟨qs, hp, fnB_run [some (nI n), some (.str s)] rfl ?_⟩
  have hn2 := encPs_nr qs
  have c := count_ok hn h
  rw [nI8] at c
  unfold m_partings
  rw [sSeq_nx (pq1 h c), sSeq_nx (pq2 h (sort_ok hs h))]
  exact pq3 M_partings_of h (.tup (qs.map encP)) (by rw [noRef_tup]; exact hn2) e
end K71
end
section
set_option Elab.async false
set_option linter.all false
set_option maxRecDepth 100000
namespace K71
open PySem PySem.Spec PyProof.Rows L2 Lv
/-! ### the law's own partings -/
abbrev lpI : Sv := sFor (eEnum (eVar 4)) (.tp [5, 6]) (sExpr (eApp (eVar 3) (eB (addV []) (eB (addV []) (eSlice (eVar 4) none (some (eVar 5))) (eL fTup (lCons (eB (addV []) (eVar 6) (eL fTup (lCons (eVar 2) lNil))) lNil))) (eSlice (eVar 4) (some (eB (addV []) (eVar 5) (eC (.int 1)))) none))))
theorem lpI_ok {p : Pt} (hp : Sm p) (i : Nat) {acc : List Pt} (ha : acc.length ≤ 500000) {v0 v1 x5 x6 : Option LV} (h : LH) :
    ∃ y5 y6, lpI [v0, v1, some (nI i), some (.ref h.length), some (encP p), x5, x6] (h ++ [.lst (acc.map encP)]) = .nx [v0, v1, some (nI i), some (.ref h.length), some (encP p), y5, y6] (h ++ [.lst ((acc ++ (Pa.wth i p).tail).map encP)]) := by
  let F : Bl × Nat → Pt := fun q => p.take q.2 ++ [q.1 ++ [i]] ++ p.drop (q.2 + 1)
  obtain ⟨e2, h2, el, y5, y6, he, hh⟩ := for_pre (g := .tp [5, 6]) (body := sExpr (eApp (eVar 3) (eB (addV []) (eB (addV []) (eSlice (eVar 4) none (some (eVar 5))) (eL fTup (lCons (eB (addV []) (eVar 6) (eL fTup (lCons (eVar 2) lNil))) lNil))) (eSlice (eVar 4) (some (eB (addV []) (eVar 5) (eC (.int 1)))) none))))
    (fun q : Bl × Nat => LV.tup [.int (q.2 : Nat), encB q.1]) (fun l env hh => ∃ (x5 x6 : Option LV), env = [v0, v1, some (nI i), some (.ref h.length), some (encP p), x5, x6] ∧ hh = h ++ [.lst ((acc ++ l.map F).map encP)])
    (p.zip (List.range p.length)) [v0, v1, some (nI i), some (.ref h.length), some (encP p), x5, x6] (h ++ [.lst (acc.map encP)]) ⟨x5, x6, rfl, by simp⟩ (by
      rintro l ⟨b, k⟩ l2 el env hh ⟨x3, x4, rfl, rfl⟩
      have hl : l.length ≤ p.length := by
        have := congrArg List.length el
        simp at this
        omega
      have hb : b ∈ p := (List.of_mem_zip (show (b, k) ∈ p.zip (List.range p.length) by rw [el]; simp)).1
      refine ⟨[v0, v1, some (nI i), some (.ref h.length), some (encP p), some (nI k), some (encB b)], rfl, [v0, v1, some (nI i), some (.ref h.length), some (encP p), some (nI k), some (encB b)], h ++ [.lst ((acc ++ (l ++ [(b, k)]).map F).map encP)], .inl ?_, _, _, rfl, rfl⟩
      have w := with_turn hp (i := i) (k := k) (b := b) (hp.2 b hb) (eP := eVar 4) (eI := eVar 2) (eK := eVar 5) (eB' := eVar 6) (env := [v0, v1, some (nI i), some (.ref h.length), some (encP p), some (nI k), some (encB b)]) (h := h ++ [.lst ((acc ++ l.map F).map encP)]) rfl rfl rfl rfl
      have a := app_ok (ar := eVar 3) (n := h.length) (xs := (acc ++ l.map F).map encP) w rfl (by simp) (by have := hp.1; rw [LIM_eq]; simp; omega) (encP_nr _) (r := h ++ [.lst ((acc ++ (l ++ [(b, k)]).map F).map encP)]) (by rw [set_last]; simp [F])
      rw [sExpr_d, a]
      rfl)
  subst he hh
  have hz : (p.zip (List.range p.length)).map F = (Pa.wth i p).tail := by
    rw [zip_range []]
    rfl
  rw [hz] at el
  refine ⟨y5, y6, ?_⟩
  unfold lpI
  rw [sFor_run (xs := (p.zip (List.range p.length)).map (fun q : Bl × Nat => LV.tup [.int (q.2 : Nat), encB q.1])) (h' := h ++ [.lst (acc.map encP)])]
  · exact el
  · unfold encP
    simp [enumL_zip0]
abbrev lpB : Sv := sSeq (sExpr (eApp (eVar 3) (eB (addV []) (eVar 4) (eL fTup (lCons (eL fTup (lCons (eVar 2) lNil)) lNil))))) lpI
theorem lpB_ok {p : Pt} (hp : Sm p) (i : Nat) {acc : List Pt} (ha : acc.length ≤ 400000) {v0 v1 x5 x6 : Option LV} (h : LH) :
    ∃ y5 y6, lpB [v0, v1, some (nI i), some (.ref h.length), some (encP p), x5, x6] (h ++ [.lst (acc.map encP)]) = .nx [v0, v1, some (nI i), some (.ref h.length), some (encP p), y5, y6] (h ++ [.lst ((acc ++ Pa.wth i p).map encP)]) := by
  obtain ⟨y5, y6, e⟩ := lpI_ok hp i (acc := acc ++ [p ++ [[i]]]) (by simp; omega) (v0 := v0) (v1 := v1) (x5 := x5) (x6 := x6) h
  refine ⟨y5, y6, ?_⟩
  have w : (acc ++ [p ++ [[i]]]) ++ (Pa.wth i p).tail = acc ++ Pa.wth i p := by simp [Pa.wth]
  rw [w] at e
  have l0 : (p.map encB).length + 1 ≤ 1000000 := by have := hp.1; simp; omega
  have ev : ∀ hh, (eB (addV []) (eVar 4) (eL fTup (lCons (eL fTup (lCons (eVar 2) lNil)) lNil))) [v0, v1, some (nI i), some (.ref h.length), some (encP p), x5, x6] hh = .ok (encP (p ++ [[i]])) hh := by
    intro hh
    have f1 := addV_tup (own := []) (xs := p.map encB) (ys := [.tup [nI i]]) (h := hh) (by rw [LIM_eq]; exact l0)
    have hE : encP (p ++ [[i]]) = .tup (p.map encB ++ [.tup [nI i]]) := by simp [encP, encB]
    rw [hE]
    unfold encP
    simp [f1]
  have a := app_ok (ar := eVar 3) (n := h.length) (xs := acc.map encP) (ev (h ++ [.lst (acc.map encP)])) rfl (by simp) (by rw [LIM_eq]; simp; omega) (encP_nr _) (r := h ++ [.lst ((acc ++ [p ++ [[i]]]).map encP)]) (by rw [set_last]; simp)
  unfold lpB
  rw [sSeq_nx (env' := [v0, v1, some (nI i), some (.ref h.length), some (encP p), x5, x6]) (h' := h ++ [.lst ((acc ++ [p ++ [[i]]]).map encP)]) (by rw [sExpr_d, a]; rfl), e]
abbrev lpL : Sv := sSeq (sSet 3 (eL fLst lNil)) (sSeq (sFor (eIt (eVar 1)) (.nm 4) lpB) (sSet 1 (eU fFrz (eVar 3))))
theorem lpL_ok {k : Nat} (hk : k < 8) {v0 x3 x4 x5 x6 : Option LV} (h : LH) : ∃ y3 y4 y5 y6, lpL [v0, some (.fl ((Pa.parts k).map encP)), some (nI k), x3, x4, x5, x6] h = .nx [v0, some (.fl ((Pa.parts (k + 1)).map encP)), some (nI k), y3, y4, y5, y6] (h ++ [.dead]) := by
  obtain ⟨e2, h2, el, y4, y5, y6, he, hh⟩ := for_pre (g := .nm 4) (body := lpB) encP
    (fun l env hh => ∃ (x4 x5 x6 : Option LV), env = [v0, some (.fl ((Pa.parts k).map encP)), some (nI k), some (.ref h.length), x4, x5, x6] ∧ hh = h ++ [.lst ((l.flatMap (Pa.wth k)).map encP)])
    (Pa.parts k) [v0, some (.fl ((Pa.parts k).map encP)), some (nI k), some (.ref h.length), x4, x5, x6] (h ++ [.lst []]) ⟨x4, x5, x6, rfl, rfl⟩ (by
      rintro l p l2 er env hh ⟨x4, x5, x6, rfl, rfl⟩
      have hp : p ∈ Pa.parts k := by rw [er]; simp
      have R := rt_of (by omega : k ≤ 8) hp
      have hb : (l.flatMap (Pa.wth k)).length ≤ 5000 := by
        have h1 := parts_len (k + 1) (by omega)
        rw [← flat_parts, er, List.flatMap_append, List.length_append] at h1
        omega
      obtain ⟨y5, y6, e⟩ := lpB_ok R.g.sm k (acc := l.flatMap (Pa.wth k)) (by omega) (v0 := v0) (v1 := some (.fl ((Pa.parts k).map encP))) (x5 := x5) (x6 := x6) h
      refine ⟨_, rfl, _, _, .inl e, some (encP p), y5, y6, rfl, ?_⟩
      rw [List.flatMap_append]
      simp)
  subst he hh
  rw [flat_parts] at el
  refine ⟨some (.ref h.length), y4, y5, y6, ?_⟩
  unfold lpL
  rw [sSeq_nx (env' := [v0, some (.fl ((Pa.parts k).map encP)), some (nI k), some (.ref h.length), x4, x5, x6]) (h' := h ++ [.lst []]) (by simp [fLst])]
  rw [sSeq_nx (env' := [v0, some (.fl ((Pa.parts k).map encP)), some (nI k), some (.ref h.length), y4, y5, y6]) (h' := h ++ [.lst ((Pa.parts (k + 1)).map encP)]) (by
    rw [sFor_run (xs := (Pa.parts k).map encP) (h' := h ++ [.lst []]) (by simp), el])]
  simp [fFrz]
theorem own_partings_ok {n : Nat} (hn : n ≤ 8) (h : LH) : M_law_m_partings [nI n] h = .ok (.fl ((Pa.parts n).map encP)) h := by
  refine fnB_run [some (nI n), none, none, none, none, none, none] rfl ?_
  obtain ⟨e2, h2, el, x2, x3, x4, x5, x6, ds, he, hh⟩ := for_pre (g := .nm 2) (body := lpL) nI
    (fun l env hh => ∃ (x2 x3 x4 x5 x6 : Option LV) (ds : LH), env = [some (nI n), some (.fl ((Pa.parts l.length).map encP)), x2, x3, x4, x5, x6] ∧ hh = h ++ ds)
    (List.range n) [some (nI n), some (.fl ((Pa.parts 0).map encP)), none, none, none, none, none] h ⟨none, none, none, none, none, [], rfl, by simp⟩ (by
      rintro l k l2 er env hh ⟨x2, x3, x4, x5, x6, ds, rfl, rfl⟩
      obtain ⟨rfl, hk⟩ := range_pre er
      obtain ⟨y3, y4, y5, y6, e⟩ := lpL_ok (k := l.length) (by omega) (v0 := some (nI n)) (x3 := x3) (x4 := x4) (x5 := x5) (x6 := x6) (h ++ ds)
      refine ⟨_, rfl, _, _, .inl e, some (nI l.length), y3, y4, y5, y6, ds ++ [.dead], ?_, by simp⟩
      rw [List.length_append]
      rfl)
  subst he hh
  rw [List.length_range] at el
  unfold m_law_m_partings
  rw [sSeq_nx (env' := [some (nI n), some (.fl ((Pa.parts 0).map encP)), none, none, none, none, none]) (h' := h) (by simp [Pa.parts, encP])]
  rw [sSeq_nx (env' := [some (nI n), some (.fl ((Pa.parts n).map encP)), x2, x3, x4, x5, x6]) (h' := h ++ ds) (by
    rw [sFor_run (rng0_ok (m := n) (h' := h) rfl (by omega)), el])]
  have hn2 := encPs_nr (Pa.parts n)
  simp [hn2]
/-! ### crossings -/
theorem ne_nil (xs : List Nat) (h : LH) : neV' (.fl (xs.map nI)) (.fl []) h = .ok (.bl (!xs.isEmpty)) h := by
  rw [neV_d (by rw [shp_fl]; exact shps_map fun i _ => by simp) (by simp), eqD_fl]
  cases xs <;> simp
theorem eq_nil (xs : List Nat) (h : LH) : eqV' (.fl (xs.map nI)) (.fl []) h = .ok (.bl xs.isEmpty) h := by
  rw [eqV_d (by rw [shp_fl]; exact shps_map fun i _ => by simp) (by simp), eqD_fl]
  cases xs <;> simp
abbrev crT : EvT := tAnd' (eTest (eB ltV (eVar 2) (eVar 3))) (tAnd' (eTest (eB neV' (eLc false (eIt (eVar 1)) (.nm 4) (eTest (eChain ltV ltV (eVar 2) (eVar 4) (eVar 3))) (eVar 4) [4]) (eL fFl lNil))) (eTest (eB neV' (eLc false (eIt (eVar 1)) (.nm 5) (tOr' (eTest (eB ltV (eVar 5) (eVar 2))) (eTest (eB gtV (eVar 5) (eVar 3)))) (eVar 5) [5]) (eL fFl lNil))))
def oT (other : Bl) (a c : Nat) : Bool := Nat.blt a c && (!(other.filter fun b => Nat.blt a b && Nat.blt b c).isEmpty && !(other.filter fun d => Nat.blt d a || Nat.blt c d).isEmpty)
theorem lt_nat {ea eb : Ev} {env : LE} {h : LH} {i j : Nat} (ha : ea env h = .ok (nI i) h) (hb : eb env h = .ok (nI j) h) : eTest (eB ltV ea eb) env h = .ok (Nat.blt i j) h := by
  rw [eTest_d, eB_d, ha, rb_ok, hb, rb_ok]
  unfold ltV
  rw [ltV_int, dlt]
  rfl
theorem gt_nat {ea eb : Ev} {env : LE} {h : LH} {i j : Nat} (ha : ea env h = .ok (nI i) h) (hb : eb env h = .ok (nI j) h) : eTest (eB gtV ea eb) env h = .ok (Nat.blt j i) h := by
  rw [eTest_d, eB_d, ha, rb_ok, hb, rb_ok]
  unfold gtV
  rw [gtV_int, dlt]
  rfl
theorem crT_ok {one : LV} {other : Bl} (ho : other.length ≤ 100) (a c : Nat) {x4 x5 : Option LV} (h : LH) : crT [some one, some (encB other), some (nI a), some (nI c), x4, x5] h = .ok (oT other a c) h := by
  have l1 : (eLc false (eIt (eVar 1)) (.nm 4) (eTest (eChain ltV ltV (eVar 2) (eVar 4) (eVar 3))) (eVar 4) [4]) [some one, some (encB other), some (nI a), some (nI c), x4, x5] h = .ok (.fl ((other.filter fun b => Nat.blt a b && Nat.blt b c).map nI)) h := by
    rw [eLc_pure (α := Nat) (h' := h) nI (fun x => Nat.blt a x && Nat.blt x c) nI other]
    · simp [encB]
    · intro x hx
      exact ⟨_, rfl, fun acc => ⟨chain_lt rfl rfl rfl, fun _ => ⟨rfl, by simp⟩⟩⟩
    · rw [LIM_eq]; omega
  have l2 : (eLc false (eIt (eVar 1)) (.nm 5) (tOr' (eTest (eB ltV (eVar 5) (eVar 2))) (eTest (eB gtV (eVar 5) (eVar 3)))) (eVar 5) [5]) [some one, some (encB other), some (nI a), some (nI c), x4, x5] h = .ok (.fl ((other.filter fun d => Nat.blt d a || Nat.blt c d).map nI)) h := by
    rw [eLc_pure (α := Nat) (h' := h) nI (fun d => Nat.blt d a || Nat.blt c d) nI other]
    · simp [encB]
    · intro x hx
      refine ⟨_, rfl, fun acc => ⟨?_, fun _ => ⟨rfl, by simp⟩⟩⟩
      unfold tOr'
      rw [lt_nat (i := x) (j := a) rfl rfl, rb_ok, gt_nat (i := x) (j := c) rfl rfl]
      cases Nat.blt x a <;> rfl
    · rw [LIM_eq]; omega
  have f : (eL fFl lNil) [some one, some (encB other), some (nI a), some (nI c), x4, x5] h = .ok (.fl []) h := by simp
  have t1 : eTest (eB neV' (eLc false (eIt (eVar 1)) (.nm 4) (eTest (eChain ltV ltV (eVar 2) (eVar 4) (eVar 3))) (eVar 4) [4]) (eL fFl lNil)) [some one, some (encB other), some (nI a), some (nI c), x4, x5] h = .ok (!(other.filter fun b => Nat.blt a b && Nat.blt b c).isEmpty) h := by
    rw [eTest_d, eB_d, l1, rb_ok, f, rb_ok, ne_nil]
    rfl
  have t2 : eTest (eB neV' (eLc false (eIt (eVar 1)) (.nm 5) (tOr' (eTest (eB ltV (eVar 5) (eVar 2))) (eTest (eB gtV (eVar 5) (eVar 3)))) (eVar 5) [5]) (eL fFl lNil)) [some one, some (encB other), some (nI a), some (nI c), x4, x5] h = .ok (!(other.filter fun d => Nat.blt d a || Nat.blt c d).isEmpty) h := by
    rw [eTest_d, eB_d, l2, rb_ok, f, rb_ok, ne_nil]
    rfl
  unfold crT tAnd' oT
  rw [lt_nat (i := a) (j := c) rfl rfl, rb_ok]
  cases Nat.blt a c
  · rfl
  · simp only [if_true, Bool.true_and]
    rw [t1, rb_ok]
    cases !(other.filter fun b => Nat.blt a b && Nat.blt b c).isEmpty
    · rfl
    · simp only [if_true, Bool.true_and]
      exact t2
theorem cross_ok {one other : Bl} (ho : other.length ≤ 100) (h : LH) : M_law_m_cross [encB one, encB other] h = .ok (.bl (Pa.oX one other)) h := by
  refine fnB_run [some (encB one), some (encB other), none, none, none, none] rfl ?_
  have inner : ∀ (a : Nat) (x3 x4 x5 : Option LV), (if (one.any fun c => oT other a c) = true then (sFor (eIt (eVar 0)) (.nm 3) (sIf crT (sRet (eC (.bl true))) sNil)) [some (encB one), some (encB other), some (nI a), x3, x4, x5] h = .rt (.bl true) h
      else ∃ y3 y4 y5, (sFor (eIt (eVar 0)) (.nm 3) (sIf crT (sRet (eC (.bl true))) sNil)) [some (encB one), some (encB other), some (nI a), x3, x4, x5] h = .nx [some (encB one), some (encB other), some (nI a), y3, y4, y5] h) := by
    intro a x3 x4 x5
    have q := for_any (g := .nm 3) (body := sIf crT (sRet (eC (.bl true))) sNil) nI (fun env hh => ∃ x3 x4 x5, env = [some (encB one), some (encB other), some (nI a), x3, x4, x5] ∧ hh = h) (.bl true) (fun c => oT other a c) one [some (encB one), some (encB other), some (nI a), x3, x4, x5] h ⟨_, _, _, rfl, rfl⟩ h (by
      rintro c _ env hh ⟨x3, x4, x5, rfl, rfl⟩
      refine ⟨_, rfl, ?_⟩
      show (if oT other a c = true then sIf crT (sRet (eC (.bl true))) sNil [some (encB one), some (encB other), some (nI a), some (nI c), x4, x5] hh = _ else ∃ e2 h', ((sIf crT (sRet (eC (.bl true))) sNil [some (encB one), some (encB other), some (nI a), some (nI c), x4, x5] hh = .nx e2 h') ∨ (sIf crT (sRet (eC (.bl true))) sNil [some (encB one), some (encB other), some (nI a), some (nI c), x4, x5] hh = .ct e2 h')) ∧ _)
      rw [sIf_d, crT_ok ho]
      cases oT other a c <;> simp)
    have i0 : (eIt (eVar 0)) [some (encB one), some (encB other), some (nI a), x3, x4, x5] h = .ok (one.map nI) h := by simp [encB]
    rw [sFor_run i0]
    cases hx : one.any fun c => oT other a c
    · rw [hx, if_neg (by simp)] at q
      obtain ⟨e2, h', q, y3, y4, y5, rfl, rfl⟩ := q
      rw [if_neg (by simp)]
      exact ⟨y3, y4, y5, q⟩
    · rw [hx, if_pos rfl] at q
      rw [if_pos rfl]
      exact q
  have q := for_any (g := .nm 2) (body := sFor (eIt (eVar 0)) (.nm 3) (sIf crT (sRet (eC (.bl true))) sNil)) nI (fun env hh => ∃ x2 x3 x4 x5, env = [some (encB one), some (encB other), x2, x3, x4, x5] ∧ hh = h) (.bl true) (fun a => one.any fun c => oT other a c) one [some (encB one), some (encB other), none, none, none, none] h ⟨_, _, _, _, rfl, rfl⟩ h (by
    rintro a _ env hh ⟨x2, x3, x4, x5, rfl, rfl⟩
    refine ⟨_, rfl, ?_⟩
    have i := inner a x3 x4 x5
    by_cases hx : (one.any fun c => oT other a c) = true
    · rw [if_pos hx] at i ⊢
      exact i
    · rw [if_neg hx] at i ⊢
      obtain ⟨y3, y4, y5, i⟩ := i
      exact ⟨_, _, .inl i, some (nI a), y3, y4, y5, rfl, rfl⟩)
  have i0 : (eIt (eVar 0)) [some (encB one), some (encB other), none, none, none, none] h = .ok (one.map nI) h := by simp [encB]
  unfold m_law_m_cross
  rw [sSeq_d, sFor_run i0]
  have e : Pa.oX one other = one.any fun a => one.any fun c => oT other a c := rfl
  rw [e]
  revert q
  cases one.any fun a => one.any fun c => oT other a c
  · intro q
    rw [if_neg (by simp)] at q
    obtain ⟨e2, h', q, x2, x3, x4, x5, rfl, rfl⟩ := q
    rw [q]
    simp
  · intro q
    rw [if_pos rfl] at q
    rw [q]
    simp
end K71
end
section
set_option Elab.async false
set_option linter.all false
set_option maxRecDepth 100000
namespace K71
open PySem PySem.Spec PyProof.Rows L2 Lv
theorem any_zip {α : Type} (d : α) (xs : List α) (f : α × Nat → Bool) : (xs.zip (List.range xs.length)).any f = (List.range xs.length).any fun k => f (xs.getD k d, k) := by
  have e := zip_range d xs f
  have a : ∀ {β : Type} (l : List β) (g : β → Bool), l.any g = (l.map g).any id := fun l g => by rw [List.any_map]; rfl
  rw [a, e, ← a]
theorem is_crossed_ok {p : Pt} (g : Gd p) (h : LH) : M_law_m_is_crossed [encP p] h = .ok (.bl (Pa.oCr p)) h := by
  refine fnB_run [some (encP p), none, none, none] rfl ?_
  have inner : ∀ (b : Bl) (k : Nat) (x3 : Option LV), (if ((p.take k).any fun o => Pa.oX b o) = true then (sFor (eIt (eSlice (eVar 0) none (some (eVar 1)))) (.nm 3) (sIf (eTest (eL (fCall 2 M_law_m_cross []) (lCons (eVar 2) (lCons (eVar 3) lNil)))) (sRet (eC (.bl true))) sNil)) [some (encP p), some (nI k), some (encB b), x3] h = .rt (.bl true) h
      else ∃ y3, (sFor (eIt (eSlice (eVar 0) none (some (eVar 1)))) (.nm 3) (sIf (eTest (eL (fCall 2 M_law_m_cross []) (lCons (eVar 2) (lCons (eVar 3) lNil)))) (sRet (eC (.bl true))) sNil)) [some (encP p), some (nI k), some (encB b), x3] h = .nx [some (encP p), some (nI k), some (encB b), y3] h) := by
    intro b k x3
    have q := for_any (g := .nm 3) (body := sIf (eTest (eL (fCall 2 M_law_m_cross []) (lCons (eVar 2) (lCons (eVar 3) lNil)))) (sRet (eC (.bl true))) sNil) encB (fun env hh => ∃ x3, env = [some (encP p), some (nI k), some (encB b), x3] ∧ hh = h) (.bl true) (fun o => Pa.oX b o) (p.take k) [some (encP p), some (nI k), some (encB b), x3] h ⟨_, rfl, rfl⟩ h (by
      rintro o ho env hh ⟨x3, rfl, rfl⟩
      refine ⟨[some (encP p), some (nI k), some (encB b), some (encB o)], rfl, ?_⟩
      have c := cross_ok (one := b) (other := o) (g.b o (List.mem_of_mem_take ho)).2 hh
      cases hx : Pa.oX b o <;> rw [hx] at c <;> simp [fCall_run, c])
    have i0 : (eIt (eSlice (eVar 0) none (some (eVar 1)))) [some (encP p), some (nI k), some (encB b), x3] h = .ok ((p.take k).map encB) h := by
      unfold encP
      simp [cut_to]
    rw [sFor_run i0]
    cases hx : (p.take k).any fun o => Pa.oX b o
    · rw [hx, if_neg (by simp)] at q
      obtain ⟨e2, h', q, y3, rfl, rfl⟩ := q
      rw [if_neg (by simp)]
      exact ⟨y3, q⟩
    · rw [hx, if_pos rfl] at q
      rw [if_pos rfl]
      exact q
  have q := for_any (g := .tp [1, 2]) (body := sFor (eIt (eSlice (eVar 0) none (some (eVar 1)))) (.nm 3) (sIf (eTest (eL (fCall 2 M_law_m_cross []) (lCons (eVar 2) (lCons (eVar 3) lNil)))) (sRet (eC (.bl true))) sNil)) (fun q : Bl × Nat => LV.tup [.int (q.2 : Nat), encB q.1]) (fun env hh => ∃ x1 x2 x3, env = [some (encP p), x1, x2, x3] ∧ hh = h) (.bl true)
    (fun q => (p.take q.2).any fun o => Pa.oX q.1 o) (p.zip (List.range p.length)) [some (encP p), none, none, none] h ⟨_, _, _, rfl, rfl⟩ h (by
    rintro ⟨b, k⟩ _ env hh ⟨x1, x2, x3, rfl, rfl⟩
    refine ⟨_, rfl, ?_⟩
    have i := inner b k x3
    by_cases hx : ((p.take k).any fun o => Pa.oX b o) = true
    · rw [if_pos hx] at i ⊢
      exact i
    · rw [if_neg hx] at i ⊢
      obtain ⟨y3, i⟩ := i
      exact ⟨_, _, .inl i, some (nI k), some (encB b), y3, rfl, rfl⟩)
  have i0 : (eEnum (eVar 0)) [some (encP p), none, none, none] h = .ok ((p.zip (List.range p.length)).map (fun q : Bl × Nat => LV.tup [.int (q.2 : Nat), encB q.1])) h := by
    unfold encP
    simp [enumL_zip0]
  unfold m_law_m_is_crossed
  rw [sSeq_d, sFor_run i0]
  rw [any_zip []] at q
  have e : Pa.oCr p = (List.range p.length).any fun k => (p.take k).any fun o => Pa.oX (p.getD k []) o := rfl
  rw [e]
  revert q
  cases (List.range p.length).any fun k => (p.take k).any fun o => Pa.oX (p.getD k []) o
  · intro q
    rw [if_neg (by simp)] at q
    obtain ⟨e2, h', q, x2, x3, x4, rfl, rfl⟩ := q
    rw [q]
    simp
  · intro q
    rw [if_pos rfl] at q
    rw [q]
    simp
/-! ### the law's own sorts -/
theorem eqDs_B : ∀ a b : Bl, eqDs (a.map nI) (b.map nI) = Pa.beqB a b
  | [], [] => by simp [Pa.beqB]
  | [], _ :: _ => by simp [Pa.beqB]
  | _ :: _, [] => by simp [Pa.beqB]
  | x :: xs, y :: ys => by simp only [List.map_cons, eqDs_cons, eqD_int, deq, eqDs_B xs ys, Pa.beqB]
theorem inD_ok (b : Bl) (lot : Pt) (h : LH) : inD true (encB b) (.fl (lot.map encB)) h = .ok (.bl (!(lot.any fun o => Pa.beqB o b))) h := by
  have s1 : shp (encB b) 60 = true := by unfold encB; rw [shp_tup]; exact shps_map fun i _ => by simp
  have s2 : shp (.fl (lot.map encB)) 60 = true := by
    rw [shp_fl]
    exact shps_map fun o _ => by unfold encB; rw [shp_tup]; exact shps_map fun i _ => by simp
  have d1 : dTop (encB b) h = some (dB b) := by rw [dTop_dOf s1, dOf_B]
  have d2 : dTop (.fl (lot.map encB)) h = some (.list (lot.map dB)) := by
    rw [dTop_dOf s2]
    simp only [dOf]
    rw [dOfs_map dOf_B]
  have sh : ∀ {x : LV} {d : PyData}, shp x 60 = true → dOf x = some d → SeqAt.shaped d = true := by
    intro x d hx hd
    obtain ⟨d', e1, c1, p1⟩ := shp_d x 60 hx
    rw [hd] at e1
    cases e1
    simp [SeqAt.shaped, c1]
    omega
  unfold inD
  rw [d1, d2]
  simp only
  rw [if_pos ⟨sh s1 (dOf_B b), sh s2 (by simp only [dOf]; rw [dOfs_map dOf_B])⟩]
  simp only [if_true]
  congr 3
  rw [List.any_map]
  congr 1
  funext o
  show PyData.eqv (dB o) (dB b) = _
  rw [eqD_ok (encB o) (encB b) _ _ (dOf_B o) (dOf_B b)]
  unfold encB
  rw [eqD_tup, eqDs_B]
end K71
end
section
set_option Elab.async false
set_option linter.all false
set_option maxRecDepth 100000
namespace K71
open PySem PySem.Spec PyProof.Rows L2 Lv
/-! ### right partings, judged by the package -/
theorem asc_pw : ∀ {l : List Nat}, Pa.asc l = true → l.Pairwise (· < ·)
  | [], _ => .nil
  | [a], _ => List.pairwise_singleton _ _
  | a :: b :: r, h => by
    simp only [Pa.asc, Bool.and_eq_true] at h
    have e : (a.blt b = true) = (a < b) := Nat.blt_eq
    rw [e] at h
    have ih := asc_pw h.2
    rw [List.pairwise_cons]
    refine ⟨fun c m => ?_, ih⟩
    rcases List.mem_cons.1 m with rfl | m
    · exact h.1
    · exact Nat.lt_trans h.1 ((List.pairwise_cons.1 ih).1 c m)
theorem asc_zip : ∀ {l : List Nat}, Pa.asc l = true → (l.zip l.tail).all (fun q => Nat.blt q.1 q.2) = true
  | [], _ => rfl
  | [a], _ => rfl
  | a :: b :: r, h => by
    simp only [Pa.asc, Bool.and_eq_true] at h
    show (Nat.blt a b && ((b :: r).zip r).all _) = true
    rw [h.1]
    exact asc_zip (l := b :: r) h.2
theorem ins_perm (a : Nat) : ∀ l : List Nat, (Pa.insN a l).Perm (a :: l)
  | [] => .refl _
  | b :: r => by
    unfold Pa.insN
    split
    · exact .refl _
    · exact ((ins_perm a r).cons b).trans (.swap a b r)
theorem srtN_perm : ∀ l : List Nat, (Pa.srtN l).Perm l
  | [] => .refl _
  | a :: l => (ins_perm a _).trans ((srtN_perm l).cons a)
theorem beqB_eq : ∀ {a b : List Nat}, Pa.beqB a b = true → a = b
  | [], [], _ => rfl
  | [], _ :: _, h => nomatch h
  | _ :: _, [], h => nomatch h
  | x :: xs, y :: ys, h => by
    simp only [Pa.beqB, Bool.and_eq_true] at h
    have e : (x.beq y = true) = (x = y) := Nat.beq_eq
    rw [e] at h
    rw [h.1, beqB_eq h.2]
theorem beqP_eq : ∀ {a b : Pt}, Pa.beqP a b = true → a = b
  | [], [], _ => rfl
  | [], _ :: _, h => nomatch h
  | _ :: _, [], h => nomatch h
  | x :: xs, y :: ys, h => by
    simp only [Pa.beqP, Bool.and_eq_true] at h
    rw [beqB_eq h.1, beqP_eq h.2]
structure Ip (n : Nat) (p : Pt) : Prop where
  m : Pa.many p = n
  b : ∀ b ∈ p, b ≠ [] ∧ Pa.asc b = true
  h : Pa.asc (p.map Pa.hd) = true
  f : p.flatten.Perm (List.range n)
theorem ip_of {n : Nat} {p : Pt} (t : Pa.isPt n p = true) : Ip n p := by
  unfold Pa.isPt at t
  simp only [Bool.and_eq_true] at t
  obtain ⟨⟨⟨h1, h2⟩, h3⟩, h4⟩ := t
  refine ⟨by have e : ((Pa.many p).beq n = true) = (Pa.many p = n) := Nat.beq_eq; rwa [e] at h1, fun b m => ?_, h3, ?_⟩
  · have := List.all_eq_true.mp h2 b m
    simp only [Bool.and_eq_true, Bool.not_eq_true', List.isEmpty_eq_false_iff] at this
    exact this
  · have e := beqB_eq h4
    rw [← e]
    exact (srtN_perm _).symm
theorem Ip.gd {n : Nat} {p : Pt} (I : Ip n p) (hn : n ≤ 8) : Gd p := by
  obtain ⟨l1, l2⟩ := len_many p fun b m => (I.b b m).1
  have := I.m
  exact ⟨by omega, fun b m => ⟨(I.b b m).1, by have := l2 b m; omega⟩⟩
theorem Ip.hi {n : Nat} {p : Pt} (I : Ip n p) : ∀ b ∈ p, ∀ i ∈ b, i < Pa.many p := fun b m i hi => by
  rw [I.m]
  exact List.mem_range.1 (I.f.mem_iff.1 (List.mem_flatten.2 ⟨b, m, hi⟩))
theorem zipL_map (xs ys : List Nat) : zipL (xs.map nI) (ys.map nI) = (xs.zip ys).map fun q => LV.tup [nI q.1, nI q.2] := by
  induction xs generalizing ys with
  | nil => cases ys <;> rfl
  | cons x xs ih => cases ys with
    | nil => rfl
    | cons y ys => simp [zipL, ih]
theorem eq_len0 {b : Bl} (hb : b ≠ []) (h : LH) : eqV' (nI b.length) (.int 0) h = .ok (.bl false) h := by
  have hp : 0 < b.length := List.length_pos_iff.2 hb
  rw [eqV_int, decide_eq_false (by omega)]
theorem is_block_ok {b : Bl} (h0 : b ≠ []) (h1 : b.length ≤ 100) (ha : Pa.asc b = true) (h : LH) : M_is_block [encB b] h = .ok (.bl true) h := by
  refine fnB_run [some (encB b), none, none, none] rfl ?_
  have l1 : (eL fAll (lCons (eLc false (eIt (eVar 0)) (.nm 1) tYes' (eL (fCall 1 M_is_integer []) (lCons (eVar 1) lNil)) [1]) lNil)) [some (encB b), none, none, none] h = .ok (.bl true) h := by
    rw [eL_d, lCons_d, eLc_map (α := Nat) (h' := h) nI (fun _ => .bl true) b]
    · have := map_all (fun _ : Nat => true) b h
      simp only [rb_ok, lNil_d]
      rw [this]
      simp
    · simp [encB]
    · intro i _
      refine ⟨_, rfl, fun acc => ⟨?_, by simp⟩⟩
      exact call1 (x := nI i) (h1 := h ++ [.lst acc]) (by simp [lwipe]) (integer_int _)
    · rw [LIM_eq]; omega
  have c1 : cutL (b.map nI) (some 1) none = b.tail.map nI := by have := cut_from (b.map nI) 1; simpa using this
  have l2 : (eL fAll (lCons (eLc false (eZip2 (eVar 0) (eSlice (eVar 0) (some (eC (.int 1))) none)) (.tp [2, 3]) tYes' (eB ltV (eVar 2) (eVar 3)) [2, 3]) lNil)) [some (encB b), none, none, none] h = .ok (.bl true) h := by
    rw [eL_d, lCons_d, eLc_map (α := Nat × Nat) (h' := h) (fun q => LV.tup [nI q.1, nI q.2]) (fun q => .bl (Nat.blt q.1 q.2)) (b.zip b.tail)]
    · have := map_all (fun q : Nat × Nat => Nat.blt q.1 q.2) (b.zip b.tail) h
      simp only [rb_ok, lNil_d]
      rw [this, asc_zip ha]
    · unfold encB
      simp only [eZip2, eVar_d, eSlice_d, partL_some, partL_none, eC_d, rb_ok, List.getElem?_cons_zero, cutV_tup, c1]
      rw [← zipL_map]
    · rintro ⟨i, j⟩ _
      refine ⟨_, rfl, fun acc => ⟨?_, by simp⟩⟩
      simp only [lwipe, List.set_cons_succ, List.set_cons_zero, asg_tp]
      rw [b_ok (x := nI i) (y := nI j) (h1 := h ++ [.lst acc]) (h2 := h ++ [.lst acc]) (by simp) (by simp) rfl]
      unfold ltV
      rw [ltV_int, dlt]
    · rw [LIM_eq, List.length_zip]; omega
  have e0 := eq_len0 h0 h
  unfold m_is_block
  have t : (tOr' (tNot' (eTest (eU (fIsi tb_is_tuple) (eVar 0)))) (tOr' (eTest (eB eqV' (eL fLen (lCons (eVar 0) lNil)) (eC (.int 0)))) (tNot' (eTest (eL fAll (lCons (eLc false (eIt (eVar 0)) (.nm 1) tYes' (eL (fCall 1 M_is_integer []) (lCons (eVar 1) lNil)) [1]) lNil)))))) [some (encB b), none, none, none] h = .ok false h := by
    refine tOr_f (h1 := h) (tNot_ok (k := true) (test_ok (u_ok (x := encB b) (h1 := h) rfl rfl))) (tOr_f (h1 := h) (test_ok (b_ok (x := nI b.length) (h1 := h) (l1_ok (x := encB b) (h1 := h) rfl (by unfold encB; simp)) rfl e0)) (tNot_ok (k := true) (test_ok l1)))
  refine (congrArg (fun z => trimR h.length (endR z)) (sSeq_nx (sIf_no t))).trans ?_
  exact end_ret l2 rfl take_self
theorem flat_len (p : Pt) : p.flatten.length = Pa.many p := by
  unfold Pa.many; rw [List.length_flatten]
theorem is_parting_ok {n : Nat} (hn : n ≤ 8) {p : Pt} (I : Ip n p) (h : LH) : M_is_parting [encP p] h = .ok (.bl true) h := by
  refine fnB_run [some (encP p), none, none, none, none] rfl ?_
  have g := I.gd hn
  have l1 : (eL fAll (lCons (eLc false (eIt (eVar 0)) (.nm 3) tYes' (eL (fCall 1 M_is_block []) (lCons (eVar 3) lNil)) [3]) lNil)) [some (encP p), none, none, none, none] h = .ok (.bl true) h := by
    rw [eL_d, lCons_d, eLc_map (α := Bl) (h' := h) encB (fun _ => .bl true) p]
    · have := map_all (fun _ : Bl => true) p h
      simp only [rb_ok, lNil_d]
      rw [this]
      simp
    · simp [encP]
    · intro b hb
      refine ⟨_, rfl, fun acc => ⟨?_, by simp⟩⟩
      exact call1 (x := encB b) (h1 := h ++ [.lst acc]) (by simp [lwipe]) (is_block_ok (g.b b hb).1 (g.b b hb).2 (I.b b hb).2 _)
    · have := g.l; rw [LIM_eq]; omega
  have l2 : (eLc2 false (eIt (eVar 0)) (.nm 3) tYes' (eIt (eVar 3)) (.nm 4) tYes' (eVar 4) [3, 4] [4]) [some (encP p), none, none, none, none] h = .ok (.fl (p.flatten.map nI)) h := by
    rw [eLc2_map (α := Bl) (β := Nat) (h' := h) encB nI nI id p]
    · simp [List.flatMap_id]
    · simp [encP]
    · intro b hb
      exact ⟨_, rfl, fun acc => ⟨by simp [lwipe, encB], fun i _ => ⟨_, rfl, fun acc => ⟨by simp [lwipe], by simp⟩⟩⟩⟩
    · have e : (p.flatMap id).length = n := by rw [List.flatMap_id, flat_len, I.m]
      rw [e, LIM_eq]; omega
  have l3 : (eLc false (eIt (eVar 0)) (.nm 3) tYes' (eB fIx (eVar 3) (eC (.int 0))) [3]) [some (encP p), some (.fl (p.flatten.map nI)), none, none, none] h = .ok (.fl ((p.map Pa.hd).map nI)) h := by
    rw [eLc_map (α := Bl) (h' := h) encB (fun b => nI (Pa.hd b)) p]
    · rw [List.map_map]; rfl
    · simp [encP]
    · intro b hb
      refine ⟨_, rfl, fun acc => ⟨?_, by simp⟩⟩
      simp [lwipe, encB, at_hd (g.b b hb).1]
    · have := g.l; rw [LIM_eq]; omega
  have hl : p.flatten.length = n := by rw [flat_len, I.m]
  have s1 : fSorted [.fl (p.flatten.map nI)] h = .ok (.fl ((List.range n).map nI)) h := by
    have := sorted_ints' (is := p.flatten.map fun i : Nat => (i : Int)) (js := (List.range n).map fun i : Nat => (i : Int)) (I.f.symm.map _) (by
      rw [List.pairwise_map]
      exact List.pairwise_lt_range.imp fun {a b} h => by omega) h
    rwa [List.map_map, List.map_map] at this
  have s2 : fSorted [.fl ((p.map Pa.hd).map nI)] h = .ok (.fl ((p.map Pa.hd).map nI)) h := by
    have := sorted_ints' (is := (p.map Pa.hd).map fun i : Nat => (i : Int)) (js := (p.map Pa.hd).map fun i : Nat => (i : Int)) (.refl _) (by
      rw [List.pairwise_map]
      exact (asc_pw I.h).imp fun {a b} h => by omega) h
    rwa [List.map_map] at this
  have sh : ∀ l : List Nat, shp (.fl (l.map nI)) 64 = true := fun l => by rw [shp_fl]; exact shps_map fun i _ => by simp
  have r1 : (eListR1 false (eL fLen (lCons (eVar 1) lNil))) [some (encP p), some (.fl (p.flatten.map nI)), some (.fl ((p.map Pa.hd).map nI)), none, none] h = .ok (.fl ((List.range n).map nI)) h := by
    have f : (eL fLen (lCons (eVar 1) lNil)) [some (encP p), some (.fl (p.flatten.map nI)), some (.fl ((p.map Pa.hd).map nI)), none, none] h = .ok (nI n) h := by
      exact l1_ok (x := .fl (p.flatten.map nI)) (h1 := h) rfl (by rw [fLen_fl, List.length_map, hl])
    unfold eListR1
    rw [f, rb_ok]
    unfold rgK
    simp only
    rw [if_pos ⟨⟨by decide, by decide⟩, ⟨by omega, by omega⟩, by rw [LIM_eq]; omega⟩]
    unfold mkSq rangeL
    simp only [Bool.false_eq_true, if_false]
    rw [show ((n : Nat) : Int) - 0 = (n : Nat) from by omega, Int.toNat_natCast]
    simp
  unfold m_is_parting
  have t : (tOr' (tNot' (eTest (eU (fIsi tb_is_tuple) (eVar 0)))) (tNot' (eTest (eL fAll (lCons (eLc false (eIt (eVar 0)) (.nm 3) tYes' (eL (fCall 1 M_is_block []) (lCons (eVar 3) lNil)) [3]) lNil))))) [some (encP p), none, none, none, none] h = .ok false h := by
    exact tOr_f (h1 := h) (tNot_ok (k := true) (test_ok (u_ok (x := encP p) (h1 := h) rfl rfl))) (tNot_ok (k := true) (test_ok l1))
  rw [sSeq_nx (env' := [some (encP p), none, none, none, none]) (h' := h) (by rw [sIf_d, t]; rfl)]
  rw [sSeq_nx (env' := [some (encP p), some (.fl (p.flatten.map nI)), none, none, none]) (h' := h) (by rw [sSet_d, l2]; rfl)]
  rw [sSeq_nx (env' := [some (encP p), some (.fl (p.flatten.map nI)), some (.fl ((p.map Pa.hd).map nI)), none, none]) (h' := h) (by rw [sSet_d, l3]; rfl)]
  have e1 := eqV_self (h := h) (sh (List.range n))
  have e2 := eqV_self (h := h) (sh (p.map Pa.hd))
  have hle : decide (((n : Nat) : Int) ≤ 8) = true := decide_eq_true (by omega)
  refine end_ret (v := .bl true) (h1 := h) (eAnd_t (h1 := h) (b_ok (x := nI n) (y := .int 8) (h1 := h) (h2 := h) (l1_ok (x := .fl (p.flatten.map nI)) (h1 := h) rfl (by rw [fLen_fl, List.length_map, hl])) rfl (by unfold leV; rw [leV_int, hle])) (eAnd_t (h1 := h) (b_ok (h1 := h) (h2 := h) (l1_ok (h1 := h) rfl s1) r1 e1) (b_ok (h1 := h) (h2 := h) rfl (l1_ok (h1 := h) rfl s2) e2))) rfl take_self
theorem need_ok {n : Nat} (hn : n ≤ 8) {p : Pt} (I : Ip n p) (h : LH) : M_need_parting [encP p] h = .ok .non h := by
  refine fnB_run [some (encP p)] rfl ?_
  unfold m_need_parting
  rw [sIf_d, tNot_d, eTest_d, call1 (x := encP p) (h1 := h) (by simp) (is_parting_ok hn I h)]
  simp
/-! ### two things in one block -/
theorem can_ok {p : Pt} (g : Gd p) (i j : Nat) (h : LH) : M_can_join [encP p, nI i, nI j] h = .ok (.bl (Pa.canJ p i j)) h := by
  refine fnB_run [some (encP p), some (nI i), some (nI j), none, none, none] rfl ?_
  let f : Bl → Bool := fun b => let c := (b.filter fun x => Nat.blt i x && Nat.ble x j).length; Nat.blt 0 c && Nat.blt c b.length
  have q := for_any (g := .nm 3) (body := sSeq (sSet 4 (eL fLen (lCons (eLc false (eIt (eVar 3)) (.nm 5) (eTest (eChain ltV leV (eVar 1) (eVar 5) (eVar 2))) (eVar 5) [5]) lNil))) (sIf (eTest (eChain ltV ltV (eC (.int 0)) (eVar 4) (eL fLen (lCons (eVar 3) lNil)))) (sRet (eC (.bl false))) sNil))
    encB (fun env hh => ∃ x3 x4 x5, env = [some (encP p), some (nI i), some (nI j), x3, x4, x5] ∧ hh = h) (.bl false) f p [some (encP p), some (nI i), some (nI j), none, none, none] h ⟨_, _, _, rfl, rfl⟩ h (by
      rintro b hb env hh ⟨x3, x4, x5, rfl, rfl⟩
      refine ⟨[some (encP p), some (nI i), some (nI j), some (encB b), x4, x5], rfl, ?_⟩
      have b1 : (sSet 4 (eL fLen (lCons (eLc false (eIt (eVar 3)) (.nm 5) (eTest (eChain ltV leV (eVar 1) (eVar 5) (eVar 2))) (eVar 5) [5]) lNil))) [some (encP p), some (nI i), some (nI j), some (encB b), x4, x5] hh
          = .nx [some (encP p), some (nI i), some (nI j), some (encB b), some (nI (b.filter fun x => Nat.blt i x && Nat.ble x j).length), x5] hh := by
        rw [sSet_d, eL_d, lCons_d, eLc_pure (α := Nat) (h' := hh) nI (fun x => Nat.blt i x && Nat.ble x j) nI b]
        · simp
        · simp [encB]
        · intro x hx
          exact ⟨_, rfl, fun acc => ⟨chain_le rfl rfl rfl, fun _ => ⟨rfl, by simp⟩⟩⟩
        · have := (g.b b hb).2; rw [LIM_eq]; omega
      have t : eTest (eChain ltV ltV (eC (.int 0)) (eVar 4) (eL fLen (lCons (eVar 3) lNil))) [some (encP p), some (nI i), some (nI j), some (encB b), some (nI (b.filter fun x => Nat.blt i x && Nat.ble x j).length), x5] hh = .ok (f b) hh :=
        chain_lt (i := 0) (j := (b.filter fun x => Nat.blt i x && Nat.ble x j).length) (k := b.length) rfl rfl (by simp [encB])
      by_cases hf : f b = true
      · rw [if_pos hf, sSeq_nx b1]
        exact sIf_t (by rw [t, hf]) rfl
      · rw [if_neg hf, sSeq_nx b1]
        refine ⟨_, _, .inl (sIf_no (by rw [t, show f b = false by simpa using hf])), _, _, _, rfl, rfl⟩)
  have e : Pa.canJ p i j = !(p.any f) := by
    unfold Pa.canJ
    rw [List.not_any_eq_all_not]
  unfold m_can_join
  rw [sSeq_d, sFor_run (xs := p.map encB) (h' := h) (by simp [encP]), e]
  revert q
  cases p.any f
  · intro q
    rw [if_neg (by simp)] at q
    obtain ⟨e2, h', q, x3, x4, x5, rfl, rfl⟩ := q
    rw [q]
    simp
  · intro q
    rw [if_pos rfl] at q
    rw [q]
    simp
end K71
end
section
set_option Elab.async false
set_option linter.all false
set_option maxRecDepth 100000
namespace K71
open PySem PySem.Spec PyProof.Rows L2 Lv
/-! ### a list of lists in the heap -/
structure Nl (h hh : LH) (kk : Nat) (ms : List Nat) (bs : Pt) : Prop where
  pre : ∃ D, hh = h ++ D
  k0 : h.length ≤ kk
  k1 : hh[kk]? = some (.rls ms)
  len : ms.length = bs.length
  m0 : ∀ m ∈ ms, h.length ≤ m
  cell : ∀ i, i < bs.length → hh[ms.getD i 0]? = some (.lst ((bs.getD i []).map nI))
  nd : ms.Nodup
theorem getD_mem {ms : List Nat} {i : Nat} (h : i < ms.length) : ms.getD i 0 ∈ ms := by
  rw [List.getD_eq_getElem?_getD, List.getElem?_eq_getElem h]; exact List.getElem_mem h
theorem Nl.take {h hh : LH} {kk : Nat} {ms : List Nat} {bs : Pt} (N : Nl h hh kk ms bs) : hh.take h.length = h := by
  obtain ⟨D, rfl⟩ := N.pre; simp
theorem Nl.kl {h hh : LH} {kk : Nat} {ms : List Nat} {bs : Pt} (N : Nl h hh kk ms bs) : kk < hh.length := (List.getElem?_eq_some_iff.mp N.k1).1
theorem Nl.kne {h hh : LH} {kk : Nat} {ms : List Nat} {bs : Pt} (N : Nl h hh kk ms bs) {i : Nat} (hi : i < bs.length) : ms.getD i 0 ≠ kk := fun e => by
  have := N.cell i hi
  rw [e, N.k1] at this; cases this
theorem nl_new (h : LH) : Nl h (h ++ [.rls []]) h.length [] [] := ⟨⟨_, rfl⟩, Nat.le_refl _, by simp, rfl, fun _ m => (nomatch m), fun i hi => absurd hi (by simp), List.nodup_nil⟩
theorem set_set_back {hh : LH} {kk : Nat} {o o' : LO} (e : hh[kk]? = some o) : (hh.set kk o').set kk o = hh := by
  rw [List.set_set]
  refine List.ext_getElem? fun i => ?_
  by_cases hi : i = kk
  · subst hi; rw [List.getElem?_set_self (List.getElem?_eq_some_iff.mp e).1, e]
  · rw [List.getElem?_set_ne (Ne.symm hi)]
theorem hold_ok {i kk : Nat} {ms : List Nat} {env : LE} {hh : LH} {ev : Ev} {v : LV} (hk : env[i]? = some (some (.ref kk))) (hl : hh[kk]? = some (.rls ms)) (he : ev env (hh.set kk (.held ms)) = .ok v (hh.set kk (.held ms))) : eHold i ev env hh = .ok v hh := by
  have hlt : kk < hh.length := (List.getElem?_eq_some_iff.mp hl).1
  unfold eHold
  rw [hk]
  simp only [hl, he, relH]
  rw [List.getElem?_set_self hlt]
  simp only [if_true]
  rw [set_set_back hl]
theorem ms_range (ms : List Nat) : ms.map LV.ref = (List.range ms.length).map fun i => LV.ref (ms.getD i 0) := by
  refine List.ext_getElem (by simp) fun i h1 h2 => ?_
  simp at h1
  simp [h1]
theorem held_it {a : Ev} {env : LE} {kk : Nat} {ms : List Nat} {hh : LH} (ha : a env hh = .ok (.ref kk) hh) (hl : hh[kk]? = some (.held ms)) : eItH a env hh = .ok ((List.range ms.length).map fun i => LV.ref (ms.getD i 0)) hh := by
  unfold eItH heldOf
  rw [ha, rb_ok]
  simp only [hl]
  rw [ms_range]
theorem held_enum {a : Ev} {env : LE} {kk : Nat} {ms : List Nat} {hh : LH} (ha : a env hh = .ok (.ref kk) hh) (hl : hh[kk]? = some (.held ms)) : eEnumH a env hh = .ok ((List.range ms.length).map fun i => LV.tup [nI i, .ref (ms.getD i 0)]) hh := by
  unfold eEnumH heldOf
  rw [ha, rb_ok]
  simp only [hl]
  rw [rb_ok, enumL_zip0, zip_range 0]
/-- tuple([tuple(block) for block in blocks]) -/
theorem tuples_ok {h hh : LH} {kk : Nat} {ms : List Nat} {bs : Pt} (N : Nl h hh kk ms bs) (hb : bs.length ≤ 1000) {i j : Nat} {env : LE} (hk : env[i]? = some (some (.ref kk))) (hj : j < env.length) (hij : i ≠ j) :
    eHold i (eL fTuple (lCons (eLc false (eItH (eVar i)) (.nm j) tYes' (eL fTuple (lCons (eVar j) lNil)) [j]) lNil)) env hh = .ok (encP bs) hh := by
  refine hold_ok hk N.k1 ?_
  have hl : (hh.set kk (.held ms))[kk]? = some (.held ms) := List.getElem?_set_self N.kl
  have lc : eLc false (eItH (eVar i)) (.nm j) tYes' (eL fTuple (lCons (eVar j) lNil)) [j] env (hh.set kk (.held ms)) = .ok (.fl ((List.range ms.length).map fun i => encB (bs.getD i []))) (hh.set kk (.held ms)) := by
    refine eLc_map (α := Nat) (h' := hh.set kk (.held ms)) (fun i => LV.ref (ms.getD i 0)) (fun i => encB (bs.getD i [])) (List.range ms.length) (held_it (var_ok hk) hl) (fun n hn => ?_) (by rw [List.length_range, N.len, LIM_eq]; omega)
    have hn' : n < bs.length := by rw [← N.len]; exact List.mem_range.1 hn
    refine ⟨_, rfl, fun acc => ⟨?_, encB_nr _⟩⟩
    have c : (hh.set kk (.held ms) ++ [LO.lst acc])[ms.getD n 0]? = some (.lst ((bs.getD n []).map nI)) := by
      have := N.cell n hn'
      have l : ms.getD n 0 < hh.length := (List.getElem?_eq_some_iff.mp this).1
      rw [List.getElem?_append_left (by simpa using l), List.getElem?_set_ne (Ne.symm (N.kne hn'))]
      exact this
    refine l1_ok (x := .ref (ms.getD n 0)) (h1 := hh.set kk (.held ms) ++ [.lst acc]) (var_ok (by simp [lwipe, hj])) ?_
    unfold fTuple seqOf
    simp only [c]
    rfl
  refine l1_ok lc ?_
  rw [fTuple_fl]
  unfold encP
  congr 2
  rw [N.len]
  refine List.ext_getElem (by simp) fun i h1 h2 => ?_
  simp at h1
  simp [h1]
/-- blocks.append([j]) -/
theorem appN_ok {h hh : LH} {kk : Nat} {ms : List Nat} {bs : Pt} (N : Nl h hh kk ms bs) (hb : bs.length ≤ 1000) {i n : Nat} {j : Nat} {env : LE} (hk : env[i]? = some (some (.ref kk))) (hj : env[n]? = some (some (nI j))) :
    ∃ hh' ms', sAppN i (lCons (eVar n) lNil) env hh = .nx (env.set i (some (.ref (hh.length + 1)))) hh' ∧ Nl h hh' (hh.length + 1) ms' (bs ++ [[j]]) := by
  have el : eL fLst (lCons (eVar n) lNil) env hh = .ok (.ref hh.length) (hh ++ [.lst [nI j]]) := l1_ok (var_ok hj) (by simp [fLst])
  have k2 : (hh ++ [LO.lst [nI j]])[kk]? = some (.rls ms) := by rw [List.getElem?_append_left N.kl]; exact N.k1
  refine ⟨((hh ++ [LO.lst [nI j]]).set kk .dead) ++ [.rls (ms ++ [hh.length])], ms ++ [hh.length], ?_, ?_⟩
  · unfold sAppN
    rw [hk]
    simp only [N.k1, el, rS_ok, k2]
    rw [if_pos (by rw [N.len, LIM_eq]; omega), List.length_append]
    rfl
  · obtain ⟨D, e⟩ := N.pre
    have old : ∀ m, m < hh.length → m ≠ kk → (((hh ++ [LO.lst [nI j]]).set kk .dead) ++ [.rls (ms ++ [hh.length])])[m]? = hh[m]? := fun m hm hne => by
      rw [List.getElem?_append_left (by simp; omega), List.getElem?_set_ne (Ne.symm hne), List.getElem?_append_left hm]
    have new : (((hh ++ [LO.lst [nI j]]).set kk .dead) ++ [.rls (ms ++ [hh.length])])[hh.length]? = some (.lst [nI j]) := by
      rw [List.getElem?_append_left (by simp), List.getElem?_set_ne (by have := N.kl; omega)]
      simp
    refine ⟨?_, ?_, ?_, ?_, ?_, ?_, ?_⟩
    · refine ⟨((D ++ [LO.lst [nI j]]).set (kk - h.length) .dead) ++ [.rls (ms ++ [hh.length])], ?_⟩
      rw [← List.append_assoc]
      congr 1
      rw [e, List.append_assoc, List.set_append_right _ _ N.k0]
    · have := N.k0; have := N.kl; omega
    · rw [List.getElem?_append_right (by simp)]; simp
    · simp [N.len]
    · intro m hm
      rcases List.mem_append.1 hm with hm | hm
      · exact N.m0 m hm
      · rw [List.mem_singleton.1 hm, e]; simp
    · intro a ha
      by_cases hl : a < bs.length
      · have c := N.cell a hl
        have e1 : (ms ++ [hh.length]).getD a 0 = ms.getD a 0 := by simp [List.getD_eq_getElem?_getD, List.getElem?_append_left (by rw [N.len]; exact hl : a < ms.length)]
        have e2 : (bs ++ [[j]]).getD a [] = bs.getD a [] := by simp [List.getD_eq_getElem?_getD, List.getElem?_append_left hl]
        rw [e1, e2, old _ (List.getElem?_eq_some_iff.mp c).1 (N.kne hl)]
        exact c
      · have ea : a = bs.length := by simp at ha; omega
        subst ea
        have e1 : (ms ++ [hh.length]).getD bs.length 0 = hh.length := by rw [← N.len]; simp
        have e2 : (bs ++ [[j]]).getD bs.length [] = [j] := by simp
        rw [e1, e2, new]; rfl
    · rw [List.nodup_append]
      refine ⟨N.nd, by simp, fun a ha b hb => ?_⟩
      rw [List.mem_singleton.1 hb]
      obtain ⟨i, hi, rfl⟩ := List.getElem_of_mem ha
      have c := N.cell i (by rw [← N.len]; exact hi)
      have : ms.getD i 0 = ms[i] := by simp [List.getD_eq_getElem?_getD, hi]
      rw [this] at c
      have := (List.getElem?_eq_some_iff.mp c).1
      omega
theorem addTo_len : ∀ (bs : Pt) (k j : Nat), (Pa.addTo bs k j).length = bs.length
  | [], _, _ => rfl
  | b :: r, 0, j => rfl
  | b :: r, k + 1, j => by simp [Pa.addTo, addTo_len r k j]
theorem addTo_get : ∀ (bs : Pt) (k j a : Nat), a < bs.length → (Pa.addTo bs k j).getD a [] = if a = k then bs.getD a [] ++ [j] else bs.getD a []
  | [], _, _, _, h => absurd h (by simp)
  | b :: r, 0, j, 0, _ => by simp [Pa.addTo]
  | b :: r, 0, j, a + 1, _ => by simp [Pa.addTo]
  | b :: r, k + 1, j, 0, _ => by simp [Pa.addTo]
  | b :: r, k + 1, j, a + 1, h => by
    have := addTo_get r k j a (by simpa using h)
    simp only [Pa.addTo, List.getD_cons_succ, this, Nat.add_right_cancel_iff]
/-- blocks[k].append(j) -/
theorem appI_ok {h hh : LH} {kk : Nat} {ms : List Nat} {bs : Pt} (N : Nl h hh kk ms bs) {j k : Nat} (hk : k < bs.length) (hl : ∀ b ∈ bs, b.length ≤ 1000) {eB' eI eJ : Ev} {env : LE} (vB : eB' env hh = .ok (.ref kk) hh) (vI : eI env hh = .ok (nI k) hh) (vJ : eJ env hh = .ok (nI j) hh) :
    ∃ hh', eApp (eB fIxN eB' eI) eJ env hh = .ok .non hh' ∧ Nl h hh' kk ms (Pa.addTo bs k j) ∧ hh'.length = hh.length := by
  have c := N.cell k hk
  have hm : k < ms.length := by rw [N.len]; exact hk
  have e1 : eB fIxN eB' eI env hh = .ok (.ref (ms.getD k 0)) hh := b_ok vB vI (by
    unfold fIxN ixSeq
    simp only [N.k1]
    rw [Lv.atI_nat (x := .ref (ms.getD k 0)) (by simp [hm])]
    rfl)
  refine ⟨hh.set (ms.getD k 0) (.lst ((bs.getD k []).map nI ++ [nI j])), ?_, ?_, by simp⟩
  · refine app_ok vJ e1 c (by
      have : bs.getD k [] ∈ bs := by rw [List.getD_eq_getElem?_getD, List.getElem?_eq_getElem hk]; exact List.getElem_mem hk
      have := hl _ this
      rw [List.length_map, LIM_eq]; omega) (by simp) rfl
  · obtain ⟨D, e⟩ := N.pre
    refine ⟨?_, N.k0, ?_, by rw [addTo_len]; exact N.len, N.m0, ?_, N.nd⟩
    · refine ⟨D.set (ms.getD k 0 - h.length) (.lst ((bs.getD k []).map nI ++ [nI j])), ?_⟩
      rw [e, List.set_append_right _ _ (N.m0 _ (getD_mem hm))]
    · rw [List.getElem?_set_ne (N.kne hk)]; exact N.k1
    · intro a ha
      rw [addTo_len] at ha
      rw [addTo_get _ _ _ _ ha]
      by_cases hak : a = k
      · subst hak
        rw [if_pos rfl, List.getElem?_set_self (List.getElem?_eq_some_iff.mp c).1]
        simp
      · rw [if_neg hak, List.getElem?_set_ne]
        · exact N.cell a ha
        · intro q
          have am : a < ms.length := by rw [N.len]; exact ha
          rw [List.getD_eq_getElem?_getD, List.getD_eq_getElem?_getD, List.getElem?_eq_getElem hm, List.getElem?_eq_getElem am] at q
          simp only [Option.getD_some] at q
          have nd := List.pairwise_iff_getElem.1 N.nd
          rcases Nat.lt_trichotomy a k with z | z | z
          · exact nd a k am hm z q.symm
          · exact hak z
          · exact nd k a hm am z q
end K71
end
section
set_option Elab.async false
set_option linter.all false
set_option maxRecDepth 100000
namespace K71
open PySem PySem.Spec PyProof.Rows L2 Lv
/-! ### complement -/
structure Bs (n : Nat) (bs : Pt) : Prop where
  ln : bs.length ≤ n
  bb : ∀ b ∈ bs, b ≠ [] ∧ b.length ≤ n
theorem addTo_mem : ∀ {bs : Pt} {k j : Nat} {b : Bl}, b ∈ Pa.addTo bs k j → b ∈ bs ∨ ∃ c ∈ bs, b = c ++ [j]
  | [], _, _, _, h => by simp [Pa.addTo] at h
  | c :: r, 0, j, b, h => by
    rcases List.mem_cons.1 h with rfl | h
    · exact .inr ⟨c, by simp, rfl⟩
    · exact .inl (List.mem_cons_of_mem _ h)
  | c :: r, k + 1, j, b, h => by
    rcases List.mem_cons.1 h with rfl | h
    · exact .inl (by simp)
    · rcases addTo_mem h with h | ⟨d, hd, e⟩
      · exact .inl (List.mem_cons_of_mem _ h)
      · exact .inr ⟨d, List.mem_cons_of_mem _ hd, e⟩
theorem Bs.new {l : Nat} {bs : Pt} (B : Bs l bs) (j : Nat) : Bs (l + 1) (bs ++ [[j]]) := ⟨by have := B.ln; simp; omega, fun b hb => by
  rcases List.mem_append.1 hb with hb | hb
  · exact ⟨(B.bb b hb).1, by have := (B.bb b hb).2; omega⟩
  · rw [List.mem_singleton.1 hb]; simp⟩
theorem Bs.add {l : Nat} {bs : Pt} (B : Bs l bs) (k j : Nat) : Bs (l + 1) (Pa.addTo bs k j) := ⟨by rw [addTo_len]; have := B.ln; omega, fun b hb => by
  rcases addTo_mem hb with hb | ⟨c, hc, rfl⟩
  · exact ⟨(B.bb b hb).1, by have := (B.bb b hb).2; omega⟩
  · have := (B.bb c hc).2; simp; omega⟩
theorem fit_mem {p : Pt} {j : Nat} {bs : Pt} {k : Nat} (h : k ∈ Pa.fitK p j bs) : k < bs.length := List.mem_range.1 (List.mem_filter.1 h).1
/-- [k for k, block in enumerate(blocks) if can_join(parting, block[0], j)] -/
theorem fit_ok {p : Pt} (g : Gd p) {h hh : LH} {kk : Nat} {ms : List Nat} {bs : Pt} (N : Nl h hh kk ms bs) {l : Nat} (B : Bs l bs) (hl : l ≤ 100) (j : Nat) {x1 x4 x5 x6 : Option LV} :
    eHold 2 (eLc false (eEnumH (eVar 2)) (.tp [6, 5]) (eTest (eL (fCall 3 M_can_join []) (lCons (eVar 0) (lCons (eB fIx (eVar 5) (eC (.int 0))) (lCons (eVar 3) lNil))))) (eVar 6) [6, 5])
      [some (encP p), x1, some (.ref kk), some (nI j), x4, x5, x6] hh = .ok (.fl ((Pa.fitK p j bs).map nI)) hh := by
  refine hold_ok rfl N.k1 ?_
  have hk : (hh.set kk (.held ms))[kk]? = some (.held ms) := List.getElem?_set_self N.kl
  have en := held_enum (a := eVar 2) (env := [some (encP p), x1, some (.ref kk), some (nI j), x4, x5, x6]) (ms := ms) (hh := hh.set kk (.held ms)) rfl hk
  rw [eLc_pure (α := Nat) (h' := hh.set kk (.held ms)) (fun i => LV.tup [nI i, .ref (ms.getD i 0)]) (fun i => Pa.canJ p (Pa.hd (bs.getD i [])) j) nI (List.range ms.length) en]
  · rw [N.len]; rfl
  · intro i hi
    have hi' : i < bs.length := by rw [← N.len]; exact List.mem_range.1 hi
    have hb : bs.getD i [] ∈ bs := by rw [List.getD_eq_getElem?_getD, List.getElem?_eq_getElem hi']; exact List.getElem_mem hi'
    refine ⟨[some (encP p), x1, some (.ref kk), some (nI j), x4, some (.ref (ms.getD i 0)), some (nI i)], rfl, fun acc => ⟨?_, fun _ => ⟨rfl, by simp⟩⟩⟩
    have c : (hh.set kk (.held ms) ++ [LO.lst acc])[ms.getD i 0]? = some (.lst ((bs.getD i []).map nI)) := by
      have := N.cell i hi'
      have l : ms.getD i 0 < hh.length := (List.getElem?_eq_some_iff.mp this).1
      rw [List.getElem?_append_left (by simpa using l), List.getElem?_set_ne (Ne.symm (N.kne hi'))]
      exact this
    refine test_ok (call3 rfl (b_ok (x := .ref (ms.getD i 0)) (y := .int 0) rfl rfl (r := .ok (nI (Pa.hd (bs.getD i []))) (hh.set kk (.held ms) ++ [LO.lst acc])) ?_) rfl (can_ok g _ j _))
    unfold fIx ixSeq
    simp only [c]
    rw [at_hd (B.bb _ hb).1]
    rfl
  · rw [List.length_range, N.len, LIM_eq]; have := B.ln; omega
abbrev cmpB : Sv := sSeq (sSet 4 (eHold 2 (eLc false (eEnumH (eVar 2)) (.tp [6, 5]) (eTest (eL (fCall 3 M_can_join []) (lCons (eVar 0) (lCons (eB fIx (eVar 5) (eC (.int 0))) (lCons (eVar 3) lNil))))) (eVar 6) [6, 5])))
    (sIf (eTest (eB gtV (eL fLen (lCons (eVar 4) lNil)) (eC (.int 0)))) (sExpr (eApp (eB fIxN (eVar 2) (eB fIx (eVar 4) (eC (.int 0)))) (eVar 3))) (sAppN 2 (lCons (eVar 3) lNil)))
theorem cmpB_ok {p : Pt} (g : Gd p) {h hh : LH} {kk : Nat} {ms : List Nat} {bs : Pt} (N : Nl h hh kk ms bs) {l : Nat} (B : Bs l bs) (hl : l ≤ 100) (j : Nat) {x1 x4 x5 x6 : Option LV} :
    ∃ kk' ms' y4 hh', cmpB [some (encP p), x1, some (.ref kk), some (nI j), x4, x5, x6] hh = .nx [some (encP p), x1, some (.ref kk'), some (nI j), y4, x5, x6] hh' ∧ Nl h hh' kk' ms' (Pa.cStep p bs j) ∧ Bs (l + 1) (Pa.cStep p bs j) := by
  have f := fit_ok g N B hl j (x1 := x1) (x4 := x4) (x5 := x5) (x6 := x6)
  have s1 := sSeq_nx (t := sIf (eTest (eB gtV (eL fLen (lCons (eVar 4) lNil)) (eC (.int 0)))) (sExpr (eApp (eB fIxN (eVar 2) (eB fIx (eVar 4) (eC (.int 0)))) (eVar 3))) (sAppN 2 (lCons (eVar 3) lNil))) (sSet_ok (i := 4) f)
  unfold cmpB
  rw [s1]
  have t : ∀ hh, eTest (eB gtV (eL fLen (lCons (eVar 4) lNil)) (eC (.int 0))) [some (encP p), x1, some (.ref kk), some (nI j), some (.fl ((Pa.fitK p j bs).map nI)), x5, x6] hh = .ok (Nat.blt 0 (Pa.fitK p j bs).length) hh := fun hh =>
    gt_nat (i := (Pa.fitK p j bs).length) (j := 0) (l1_ok rfl (by rw [fLen_fl, List.length_map])) rfl
  unfold Pa.cStep
  cases e : Pa.fitK p j bs with
  | nil =>
    obtain ⟨hh', ms', h1, h2⟩ := appN_ok (env := [some (encP p), x1, some (.ref kk), some (nI j), some (.fl (([] : List Nat).map nI)), x5, x6]) N (by have := B.ln; omega) (i := 2) (n := 3) (j := j) rfl rfl
    rw [e] at t
    exact ⟨hh.length + 1, ms', some (.fl (([] : List Nat).map nI)), hh', sIf_f (t hh) h1, h2, B.new j⟩
  | cons k r =>
    have hk : k < bs.length := fit_mem (p := p) (j := j) (by rw [e]; simp)
    have t' := t hh
    rw [e] at t'
    obtain ⟨hh', h1, h2, _⟩ := appI_ok (env := [some (encP p), x1, some (.ref kk), some (nI j), some (.fl ((k :: r).map nI)), x5, x6]) N (j := j) hk (fun b hb => by have := (B.bb b hb).2; omega) (eB' := eVar 2) (eI := eB fIx (eVar 4) (eC (.int 0))) (eJ := eVar 3) rfl (b_ok rfl rfl (by
      rw [fIx_fl, at_hd (b := k :: r) (by simp)]; rfl)) rfl
    exact ⟨kk, ms, some (.fl ((k :: r).map nI)), hh', sIf_t t' (sExpr_ok h1), h2, B.add k j⟩
theorem comp_ok {n : Nat} (hn : n ≤ 8) {p : Pt} (I : Ip n p) (u : Pa.uncr p = true) (h : LH) : M_complement [encP p] h = .ok (encP (Pa.comp p)) h := by
  have g := I.gd hn
  have fx : Pa.firstX p = none := by unfold Pa.uncr at u; simpa using u
  refine fnB_run [some (encP p), none, none, none, none, none, none] rfl ?_
  unfold m_complement
  obtain ⟨e2, h2, el, kk, ms, x3, x4, x5, x6, he, N, B⟩ := for_pre (g := .nm 3) (body := cmpB) nI
    (fun l env hh => ∃ (kk : Nat) (ms : List Nat) (x3 x4 x5 x6 : Option LV), env = [some (encP p), some .non, some (.ref kk), x3, x4, x5, x6] ∧ Nl h hh kk ms (l.foldl (Pa.cStep p) []) ∧ Bs l.length (l.foldl (Pa.cStep p) []))
    (List.range (Pa.many p)) [some (encP p), some .non, some (.ref h.length), none, none, none, none] (h ++ [.rls []]) ⟨h.length, [], none, none, none, none, rfl, nl_new h, ⟨Nat.le_refl _, fun _ m => nomatch m⟩⟩ (by
      rintro l j l2 er env hh ⟨kk, ms, x3, x4, x5, x6, rfl, N, B⟩
      have hl : l.length ≤ 100 := by
        have := congrArg List.length er
        simp only [List.length_range, List.length_append, List.length_cons] at this
        have := I.m
        omega
      obtain ⟨kk', ms', y4, hh', e, N', B'⟩ := cmpB_ok g N B hl j (x1 := some .non) (x4 := x4) (x5 := x5) (x6 := x6)
      refine ⟨_, rfl, _, hh', .inl e, kk', ms', some (nI j), y4, x5, x6, rfl, ?_⟩
      rw [List.foldl_append, List.length_append]
      exact ⟨N', B'⟩)
  subst he
  have m := many_ok g (v := 5) (env := [some (encP p), some .non, some (.ref h.length), none, none, none, none]) (h ++ [.rls []]) rfl (by simp)
  have s1 : (sExpr (eL (fCall 1 M_need_parting []) (lCons (eVar 0) lNil))) [some (encP p), none, none, none, none, none, none] h = .nx [some (encP p), none, none, none, none, none, none] h := sExpr_ok (call1 rfl (need_ok hn I h))
  have s2 : (sSet 1 (eL (fCall 1 M_first_crossing []) (lCons (eVar 0) lNil))) [some (encP p), none, none, none, none, none, none] h = .nx [some (encP p), some .non, none, none, none, none, none] h := sSet_ok (call1 rfl (by
    have := first_ok g I.hi h
    rw [fx] at this
    exact this))
  have s3 : (eTest (eB notNon (eVar 1) (eC .non))) [some (encP p), some .non, none, none, none, none, none] h = .ok false h := test_ok (b_ok rfl rfl rfl)
  have s4 : (sSet 2 eRls0) [some (encP p), some .non, none, none, none, none, none] h = .nx [some (encP p), some .non, some (.ref h.length), none, none, none, none] (h ++ [.rls []]) := rfl
  rw [sSeq_nx s1, sSeq_nx s2, sSeq_nx (sIf_no s3), sSeq_nx s4]
  rw [sSeq_nx ((sFor_run (rng0_ok m (by rw [I.m]; omega))).trans el)]
  refine end_ret (tuples_ok N ?_ (i := 2) (j := 5) rfl (by simp) (by decide)) (encP_nr _) N.take
  have := B.ln
  rw [List.length_range] at this
  have := I.m
  omega
end K71
end
section
set_option Elab.async false
set_option linter.all false
set_option maxRecDepth 100000
namespace K71
open PySem PySem.Spec PyProof.Rows L2 Lv
/-! ### crossings, blocks as lists or as tuples -/
theorem crT_okR {one oV : LV} {other : Bl} (hO : ∀ h, itemsOf oV h = .ok (other.map nI) h) (ho : other.length ≤ 100) (a c : Nat) {x4 x5 : Option LV} (h : LH) : crT [some one, some (oV), some (nI a), some (nI c), x4, x5] h = .ok (oT other a c) h := by
  have l1 : (eLc false (eIt (eVar 1)) (.nm 4) (eTest (eChain ltV ltV (eVar 2) (eVar 4) (eVar 3))) (eVar 4) [4]) [some one, some (oV), some (nI a), some (nI c), x4, x5] h = .ok (.fl ((other.filter fun b => Nat.blt a b && Nat.blt b c).map nI)) h := by
    rw [eLc_pure (α := Nat) (h' := h) nI (fun x => Nat.blt a x && Nat.blt x c) nI other]
    · simp [hO]
    · intro x hx
      exact ⟨_, rfl, fun acc => ⟨chain_lt rfl rfl rfl, fun _ => ⟨rfl, by simp⟩⟩⟩
    · rw [LIM_eq]; omega
  have l2 : (eLc false (eIt (eVar 1)) (.nm 5) (tOr' (eTest (eB ltV (eVar 5) (eVar 2))) (eTest (eB gtV (eVar 5) (eVar 3)))) (eVar 5) [5]) [some one, some (oV), some (nI a), some (nI c), x4, x5] h = .ok (.fl ((other.filter fun d => Nat.blt d a || Nat.blt c d).map nI)) h := by
    rw [eLc_pure (α := Nat) (h' := h) nI (fun d => Nat.blt d a || Nat.blt c d) nI other]
    · simp [hO]
    · intro x hx
      refine ⟨_, rfl, fun acc => ⟨?_, fun _ => ⟨rfl, by simp⟩⟩⟩
      unfold tOr'
      rw [lt_nat (i := x) (j := a) rfl rfl, rb_ok, gt_nat (i := x) (j := c) rfl rfl]
      cases Nat.blt x a <;> rfl
    · rw [LIM_eq]; omega
  have f : (eL fFl lNil) [some one, some (oV), some (nI a), some (nI c), x4, x5] h = .ok (.fl []) h := by simp
  have t1 : eTest (eB neV' (eLc false (eIt (eVar 1)) (.nm 4) (eTest (eChain ltV ltV (eVar 2) (eVar 4) (eVar 3))) (eVar 4) [4]) (eL fFl lNil)) [some one, some (oV), some (nI a), some (nI c), x4, x5] h = .ok (!(other.filter fun b => Nat.blt a b && Nat.blt b c).isEmpty) h := by
    rw [eTest_d, eB_d, l1, rb_ok, f, rb_ok, ne_nil]
    rfl
  have t2 : eTest (eB neV' (eLc false (eIt (eVar 1)) (.nm 5) (tOr' (eTest (eB ltV (eVar 5) (eVar 2))) (eTest (eB gtV (eVar 5) (eVar 3)))) (eVar 5) [5]) (eL fFl lNil)) [some one, some (oV), some (nI a), some (nI c), x4, x5] h = .ok (!(other.filter fun d => Nat.blt d a || Nat.blt c d).isEmpty) h := by
    rw [eTest_d, eB_d, l2, rb_ok, f, rb_ok, ne_nil]
    rfl
  unfold crT tAnd' oT
  rw [lt_nat (i := a) (j := c) rfl rfl, rb_ok]
  cases Nat.blt a c
  · rfl
  · simp only [if_true, Bool.true_and]
    rw [t1, rb_ok]
    cases !(other.filter fun b => Nat.blt a b && Nat.blt b c).isEmpty
    · rfl
    · simp only [if_true, Bool.true_and]
      exact t2
theorem cross_okR {one other : Bl} {nV oV : LV} (hN : ∀ h, itemsOf nV h = .ok (one.map nI) h) (hO : ∀ h, itemsOf oV h = .ok (other.map nI) h) (ho : other.length ≤ 100) (h : LH) : M_law_m_cross [nV, oV] h = .ok (.bl (Pa.oX one other)) h := by
  refine fnB_run [some (nV), some (oV), none, none, none, none] rfl ?_
  have inner : ∀ (a : Nat) (x3 x4 x5 : Option LV), (if (one.any fun c => oT other a c) = true then (sFor (eIt (eVar 0)) (.nm 3) (sIf crT (sRet (eC (.bl true))) sNil)) [some (nV), some (oV), some (nI a), x3, x4, x5] h = .rt (.bl true) h
      else ∃ y3 y4 y5, (sFor (eIt (eVar 0)) (.nm 3) (sIf crT (sRet (eC (.bl true))) sNil)) [some (nV), some (oV), some (nI a), x3, x4, x5] h = .nx [some (nV), some (oV), some (nI a), y3, y4, y5] h) := by
    intro a x3 x4 x5
    have q := for_any (g := .nm 3) (body := sIf crT (sRet (eC (.bl true))) sNil) nI (fun env hh => ∃ x3 x4 x5, env = [some (nV), some (oV), some (nI a), x3, x4, x5] ∧ hh = h) (.bl true) (fun c => oT other a c) one [some (nV), some (oV), some (nI a), x3, x4, x5] h ⟨_, _, _, rfl, rfl⟩ h (by
      rintro c _ env hh ⟨x3, x4, x5, rfl, rfl⟩
      refine ⟨_, rfl, ?_⟩
      show (if oT other a c = true then sIf crT (sRet (eC (.bl true))) sNil [some (nV), some (oV), some (nI a), some (nI c), x4, x5] hh = _ else ∃ e2 h', ((sIf crT (sRet (eC (.bl true))) sNil [some (nV), some (oV), some (nI a), some (nI c), x4, x5] hh = .nx e2 h') ∨ (sIf crT (sRet (eC (.bl true))) sNil [some (nV), some (oV), some (nI a), some (nI c), x4, x5] hh = .ct e2 h')) ∧ _)
      rw [sIf_d, crT_okR hO ho]
      cases oT other a c <;> simp)
    have i0 : (eIt (eVar 0)) [some (nV), some (oV), some (nI a), x3, x4, x5] h = .ok (one.map nI) h := by simp [hN]
    rw [sFor_run i0]
    cases hx : one.any fun c => oT other a c
    · rw [hx, if_neg (by simp)] at q
      obtain ⟨e2, h', q, y3, y4, y5, rfl, rfl⟩ := q
      rw [if_neg (by simp)]
      exact ⟨y3, y4, y5, q⟩
    · rw [hx, if_pos rfl] at q
      rw [if_pos rfl]
      exact q
  have q := for_any (g := .nm 2) (body := sFor (eIt (eVar 0)) (.nm 3) (sIf crT (sRet (eC (.bl true))) sNil)) nI (fun env hh => ∃ x2 x3 x4 x5, env = [some (nV), some (oV), x2, x3, x4, x5] ∧ hh = h) (.bl true) (fun a => one.any fun c => oT other a c) one [some (nV), some (oV), none, none, none, none] h ⟨_, _, _, _, rfl, rfl⟩ h (by
    rintro a _ env hh ⟨x2, x3, x4, x5, rfl, rfl⟩
    refine ⟨_, rfl, ?_⟩
    have i := inner a x3 x4 x5
    by_cases hx : (one.any fun c => oT other a c) = true
    · rw [if_pos hx] at i ⊢
      exact i
    · rw [if_neg hx] at i ⊢
      obtain ⟨y3, y4, y5, i⟩ := i
      exact ⟨_, _, .inl i, some (nI a), y3, y4, y5, rfl, rfl⟩)
  have i0 : (eIt (eVar 0)) [some (nV), some (oV), none, none, none, none] h = .ok (one.map nI) h := by simp [hN]
  unfold m_law_m_cross
  rw [sSeq_d, sFor_run i0]
  have e : Pa.oX one other = one.any fun a => one.any fun c => oT other a c := rfl
  rw [e]
  revert q
  cases one.any fun a => one.any fun c => oT other a c
  · intro q
    rw [if_neg (by simp)] at q
    obtain ⟨e2, h', q, x2, x3, x4, x5, rfl, rfl⟩ := q
    rw [q]
    simp
  · intro q
    rw [if_pos rfl] at q
    rw [q]
    simp
theorem is_crossed_okR {p : Pt} {e : Bl → LV} {v : LV} (he : ∀ b h, itemsOf (e b) h = .ok (b.map nI) h) (hv : v = .tup (p.map e) ∨ v = .fl (p.map e)) (g : ∀ b ∈ p, b.length ≤ 100) (h : LH) : M_law_m_is_crossed [v] h = .ok (.bl (Pa.oCr p)) h := by
  refine fnB_run [some (v), none, none, none] rfl ?_
  have inner : ∀ (b : Bl) (k : Nat) (x3 : Option LV), (if ((p.take k).any fun o => Pa.oX b o) = true then (sFor (eIt (eSlice (eVar 0) none (some (eVar 1)))) (.nm 3) (sIf (eTest (eL (fCall 2 M_law_m_cross []) (lCons (eVar 2) (lCons (eVar 3) lNil)))) (sRet (eC (.bl true))) sNil)) [some (v), some (nI k), some (e b), x3] h = .rt (.bl true) h
      else ∃ y3, (sFor (eIt (eSlice (eVar 0) none (some (eVar 1)))) (.nm 3) (sIf (eTest (eL (fCall 2 M_law_m_cross []) (lCons (eVar 2) (lCons (eVar 3) lNil)))) (sRet (eC (.bl true))) sNil)) [some (v), some (nI k), some (e b), x3] h = .nx [some (v), some (nI k), some (e b), y3] h) := by
    intro b k x3
    have q := for_any (g := .nm 3) (body := sIf (eTest (eL (fCall 2 M_law_m_cross []) (lCons (eVar 2) (lCons (eVar 3) lNil)))) (sRet (eC (.bl true))) sNil) e (fun env hh => ∃ x3, env = [some (v), some (nI k), some (e b), x3] ∧ hh = h) (.bl true) (fun o => Pa.oX b o) (p.take k) [some (v), some (nI k), some (e b), x3] h ⟨_, rfl, rfl⟩ h (by
      rintro o ho env hh ⟨x3, rfl, rfl⟩
      refine ⟨[some (v), some (nI k), some (e b), some (e o)], rfl, ?_⟩
      have c := cross_okR (one := b) (other := o) (he b) (he o) (g o (List.mem_of_mem_take ho)) hh
      cases hx : Pa.oX b o <;> rw [hx] at c <;> simp [fCall_run, c])
    have i0 : (eIt (eSlice (eVar 0) none (some (eVar 1)))) [some (v), some (nI k), some (e b), x3] h = .ok ((p.take k).map e) h := by
      rcases hv with rfl | rfl <;> simp [cut_to]
    rw [sFor_run i0]
    cases hx : (p.take k).any fun o => Pa.oX b o
    · rw [hx, if_neg (by simp)] at q
      obtain ⟨e2, h', q, y3, rfl, rfl⟩ := q
      rw [if_neg (by simp)]
      exact ⟨y3, q⟩
    · rw [hx, if_pos rfl] at q
      rw [if_pos rfl]
      exact q
  have q := for_any (g := .tp [1, 2]) (body := sFor (eIt (eSlice (eVar 0) none (some (eVar 1)))) (.nm 3) (sIf (eTest (eL (fCall 2 M_law_m_cross []) (lCons (eVar 2) (lCons (eVar 3) lNil)))) (sRet (eC (.bl true))) sNil)) (fun q : Bl × Nat => LV.tup [.int (q.2 : Nat), e q.1]) (fun env hh => ∃ x1 x2 x3, env = [some (v), x1, x2, x3] ∧ hh = h) (.bl true)
    (fun q => (p.take q.2).any fun o => Pa.oX q.1 o) (p.zip (List.range p.length)) [some (v), none, none, none] h ⟨_, _, _, rfl, rfl⟩ h (by
    rintro ⟨b, k⟩ _ env hh ⟨x1, x2, x3, rfl, rfl⟩
    refine ⟨_, rfl, ?_⟩
    have i := inner b k x3
    by_cases hx : ((p.take k).any fun o => Pa.oX b o) = true
    · rw [if_pos hx] at i ⊢
      exact i
    · rw [if_neg hx] at i ⊢
      obtain ⟨y3, i⟩ := i
      exact ⟨_, _, .inl i, some (nI k), some (e b), y3, rfl, rfl⟩)
  have i0 : (eEnum (eVar 0)) [some (v), none, none, none] h = .ok ((p.zip (List.range p.length)).map (fun q : Bl × Nat => LV.tup [.int (q.2 : Nat), e q.1])) h := by
    rcases hv with rfl | rfl <;> simp [enumL_zip0]
  unfold m_law_m_is_crossed
  rw [sSeq_d, sFor_run i0]
  rw [any_zip []] at q
  have eC : Pa.oCr p = (List.range p.length).any fun k => (p.take k).any fun o => Pa.oX (p.getD k []) o := rfl
  rw [eC]
  revert q
  cases (List.range p.length).any fun k => (p.take k).any fun o => Pa.oX (p.getD k []) o
  · intro q
    rw [if_neg (by simp)] at q
    obtain ⟨e2, h', q, x2, x3, x4, rfl, rfl⟩ := q
    rw [q]
    simp
  · intro q
    rw [if_pos rfl] at q
    rw [q]
    simp
end K71
end
section
set_option Elab.async false
set_option linter.all false
set_option maxRecDepth 100000
namespace K71
open PySem PySem.Spec PyProof.Rows L2 Lv
theorem Nl.app {h hh : LH} {kk : Nat} {ms : List Nat} {bs : Pt} (N : Nl h hh kk ms bs) (E : LH) : Nl h (hh ++ E) kk ms bs := by
  obtain ⟨D, e⟩ := N.pre
  refine ⟨⟨D ++ E, by rw [e, List.append_assoc]⟩, N.k0, by rw [List.getElem?_append_left N.kl]; exact N.k1, N.len, N.m0, fun i hi => ?_, N.nd⟩
  have c := N.cell i hi
  rw [List.getElem?_append_left (List.getElem?_eq_some_iff.mp c).1]
  exact c
theorem Nl.pen {q q' : Pen} {r x : LH} {kk : Nat} {ms : List Nat} {bs : Pt} (N : Nl (penO q :: r) (penO q :: x) kk ms bs) : Nl (penO q' :: r) (penO q' :: x) kk ms bs := by
  obtain ⟨D, e⟩ := N.pre
  have e' : x = r ++ D := by simpa using e
  have up : ∀ {n : Nat} {o : LO}, 0 < n → (penO q :: x)[n]? = some o → (penO q' :: x)[n]? = some o := fun {n o} hn h => by
    cases n with
    | zero => omega
    | succ n => simpa using h
  have k0 := N.k0
  simp only [List.length_cons] at k0
  refine ⟨⟨D, by rw [e']; rfl⟩, by simpa using N.k0, up (by omega) N.k1, N.len, fun m hm => by simpa using N.m0 m hm, fun i hi => ?_, N.nd⟩
  have := N.m0 _ (getD_mem (by rw [N.len]; exact hi : i < ms.length))
  simp only [List.length_cons] at this
  exact up (by omega) (N.cell i hi)
theorem app_ok2 {xs : List LV} {y : LV} {ev ar : Ev} {env : LE} {h0 h r : LH} {n : Nat} (ha : ar env h0 = .ok (.ref n) h) (he : ev env h = .ok y h) (hg : h[n]? = some (.lst xs)) (hl : xs.length ≤ LIM) (hn : noRef y = true) (hr : h.set n (.lst (xs ++ [y])) = r) :
    eApp ar ev env h0 = .ok .non r := by
  unfold eApp
  rw [ha, rb_ok]
  simp only [hg, he, rb_ok]
  rw [if_pos ⟨hl, hn⟩, hr]
theorem appI_ok2 {h h0 hh : LH} {kk : Nat} {ms : List Nat} {bs : Pt} (N : Nl h hh kk ms bs) {j k : Nat} (hk : k < bs.length) (hl : ∀ b ∈ bs, b.length ≤ 1000) {eB' eI eJ : Ev} {env : LE} (vB : eB' env h0 = .ok (.ref kk) h0) (vI : eI env h0 = .ok (nI k) hh) (vJ : eJ env hh = .ok (nI j) hh) :
    ∃ hh', eApp (eB fIxN eB' eI) eJ env h0 = .ok .non hh' ∧ Nl h hh' kk ms (Pa.addTo bs k j) := by
  have c := N.cell k hk
  have hm : k < ms.length := by rw [N.len]; exact hk
  obtain ⟨hh', e, N', _⟩ := appI_ok N (env := env) (j := j) hk hl (eB' := eC (.ref kk)) (eI := eC (nI k)) (eJ := eJ) rfl rfl vJ
  have e1 : eB fIxN eB' eI env h0 = .ok (.ref (ms.getD k 0)) hh := b_ok vB vI (by
    unfold fIxN ixSeq
    simp only [N.k1]
    rw [Lv.atI_nat (x := .ref (ms.getD k 0)) (by simp [hm])]
    rfl)
  have bl : (bs.getD k []).length ≤ 1000 := by
    have : bs.getD k [] ∈ bs := by rw [List.getD_eq_getElem?_getD, List.getElem?_eq_getElem hk]; exact List.getElem_mem hk
    exact hl _ this
  have q := app_ok2 e1 vJ c (by rw [List.length_map, LIM_eq]; omega) (by simp) rfl
  have e2 : eB fIxN (eC (.ref kk)) (eC (nI k)) env hh = .ok (.ref (ms.getD k 0)) hh := b_ok rfl rfl (by
    unfold fIxN ixSeq
    simp only [N.k1]
    rw [Lv.atI_nat (x := .ref (ms.getD k 0)) (by simp [hm])]
    rfl)
  have q2 := app_ok2 e2 vJ c (by rw [List.length_map, LIM_eq]; omega) (by simp) rfl
  rw [q2] at e
  cases e
  exact ⟨_, q, N'⟩
/-! ### a written list made by a comprehension -/
theorem eLcT_map {α : Type} {it : EvL} {g : Tg} {el : Ev} {vs : List Nat} {env : LE} {h h' : LH} (inj : α → LV) (f : α → LV) (as : List α) (hi : it env h = .ok (as.map inj) h')
    (hx : ∀ a ∈ as, ∃ e1, asg g (inj a) (lwipe env vs) = some e1 ∧ ∀ acc, el e1 (h' ++ [.lst acc]) = .ok (f a) (h' ++ [.lst acc]) ∧ noRef (f a) = true) (hl : as.length ≤ LIM) :
    eLc true it g tYes' el vs env h = .ok (.ref h'.length) (h' ++ [.lst (as.map f)]) := by
  have c := cLoop_pure (g := g) (t := tYes') (el := el) (h := h') inj (fun _ => true) f (lwipe env vs) as [] (fun a m => by
    obtain ⟨e1, h1, h2⟩ := hx a m
    exact ⟨e1, h1, fun acc => ⟨rfl, fun _ => h2 acc⟩⟩) (by simpa using hl)
  unfold eLc
  rw [hi, rb_ok, c, List.filter_eq_self.2 (fun _ _ => rfl)]
  simp [calmR, lcFin]
theorem nIs_nr (l : List Nat) : noRefs (l.map nI) = true := noRefs_iff.2 fun x m => by obtain ⟨i, _, rfl⟩ := List.mem_map.1 m; simp
def eF (b : Bl) : LV := .fl (b.map nI)
theorem eF_nr (b : Bl) : noRef (eF b) = true := by unfold eF; rw [noRef_fl]; exact noRefs_iff.2 fun x m => by obtain ⟨i, _, rfl⟩ := List.mem_map.1 m; simp
theorem eF_it (b : Bl) (h : LH) : itemsOf (eF b) h = .ok (b.map nI) h := rfl
theorem addTo_map : ∀ (bs : Pt) (k j : Nat), (bs.map eF).set k (.fl ((bs.getD k []).map nI ++ [nI j])) = (Pa.addTo bs k j).map eF
  | [], _, _ => by simp [Pa.addTo]
  | b :: r, 0, j => by simp [Pa.addTo, eF]
  | b :: r, k + 1, j => by simp [Pa.addTo, ← addTo_map r k j]
abbrev suB : Sv := sSeq (sSet 7 (eLc true (eItH (eVar 2)) (.nm 8) tYes' (eL (fList false) (lCons (eVar 8) lNil)) [8]))
  (sSeq (sSub (eVar 7) (eVar 5) (eB (addV []) (eB fIx (eVar 7) (eVar 5)) (eL fFl (lCons (eVar 3) lNil))))
  (sIf (tNot' (eTest (eL (fCall 1 M_law_m_is_crossed []) (lCons (eU fFrz (eVar 7)) lNil)))) (sExpr (eApp (eVar 4) (eVar 5))) sNil))
def fits (bs : Pt) (j : Nat) : List Nat := (List.range bs.length).filter fun i => !Pa.oCr (Pa.addTo bs i j)
section
variable {h hh : LH} {kk : Nat} {ms : List Nat} {bs : Pt} {v0 v1 x7 x8 : Option LV}
theorem suB_ok (N : Nl h hh kk ms bs) {l : Nat} (B : Bs l bs) (hl : l ≤ 50) {i j : Nat} (hi : i < bs.length) {fu : List Nat} (hf : fu.length ≤ 1000) (D : LH) :
    ∃ x7' x8' D', suB [v0, v1, some (.ref kk), some (nI j), some (.ref hh.length), some (nI i), some (.ref (ms.getD i 0)), x7, x8] (hh.set kk (.held ms) ++ (.lst (fu.map nI) :: D))
      = .nx [v0, v1, some (.ref kk), some (nI j), some (.ref hh.length), some (nI i), some (.ref (ms.getD i 0)), x7', x8'] (hh.set kk (.held ms) ++ (.lst ((if Pa.oCr (Pa.addTo bs i j) then fu else fu ++ [i]).map nI) :: D')) := by
  generalize hX : hh.set kk (.held ms) ++ (LO.lst (fu.map nI) :: D) = X
  have hB : (hh.set kk (.held ms)).length = hh.length := by simp
  have kX : X[kk]? = some (.held ms) := by rw [← hX, List.getElem?_append_left (by rw [hB]; exact N.kl)]; exact List.getElem?_set_self N.kl
  have cX : ∀ a, a < bs.length → ∀ E : LH, (X ++ E)[ms.getD a 0]? = some (.lst ((bs.getD a []).map nI)) := fun a ha E => by
    have c := N.cell a ha
    have l : ms.getD a 0 < hh.length := (List.getElem?_eq_some_iff.mp c).1
    rw [← hX, List.append_assoc, List.getElem?_append_left (by rw [hB]; exact l), List.getElem?_set_ne (Ne.symm (N.kne ha))]
    exact c
  have s1 : eLc true (eItH (eVar 2)) (.nm 8) tYes' (eL (fList false) (lCons (eVar 8) lNil)) [8] [v0, v1, some (.ref kk), some (nI j), some (.ref hh.length), some (nI i), some (.ref (ms.getD i 0)), x7, x8] X = .ok (.ref X.length) (X ++ [.lst (bs.map eF)]) := by
    have e := eLcT_map (α := Nat) (g := .nm 8) (el := eL (fList false) (lCons (eVar 8) lNil)) (vs := [8]) (h' := X) (fun a => LV.ref (ms.getD a 0)) (fun a => eF (bs.getD a [])) (List.range ms.length) (held_it (a := eVar 2) (env := [v0, v1, some (.ref kk), some (nI j), some (.ref hh.length), some (nI i), some (.ref (ms.getD i 0)), x7, x8]) rfl kX) (fun a ha => by
      have ha' : a < bs.length := by rw [← N.len]; exact List.mem_range.1 ha
      refine ⟨_, rfl, fun acc => ⟨l1_ok (x := .ref (ms.getD a 0)) (h1 := X ++ [.lst acc]) rfl ?_, eF_nr _⟩⟩
      unfold fList seqOf
      simp only [cX a ha']
      rfl) (by rw [List.length_range, N.len, LIM_eq]; have := B.ln; omega)
    rw [e]
    congr 4
    rw [N.len]
    refine List.ext_getElem (by simp) fun n h1 h2 => ?_
    simp at h1
    simp [h1]
  have hb : bs.getD i [] ∈ bs := by rw [List.getD_eq_getElem?_getD, List.getElem?_eq_getElem hi]; exact List.getElem_mem hi
  have lX : (X ++ [LO.lst (bs.map eF)])[X.length]? = some (.lst (bs.map eF)) := by simp
  have s2 : (sSub (eVar 7) (eVar 5) (eB (addV []) (eB fIx (eVar 7) (eVar 5)) (eL fFl (lCons (eVar 3) lNil)))) [v0, v1, some (.ref kk), some (nI j), some (.ref hh.length), some (nI i), some (.ref (ms.getD i 0)), some (.ref X.length), x8] (X ++ [.lst (bs.map eF)])
      = .nx [v0, v1, some (.ref kk), some (nI j), some (.ref hh.length), some (nI i), some (.ref (ms.getD i 0)), some (.ref X.length), x8] (X ++ [.lst ((Pa.addTo bs i j).map eF)]) := by
    have ev : (eB (addV []) (eB fIx (eVar 7) (eVar 5)) (eL fFl (lCons (eVar 3) lNil))) [v0, v1, some (.ref kk), some (nI j), some (.ref hh.length), some (nI i), some (.ref (ms.getD i 0)), some (.ref X.length), x8] (X ++ [.lst (bs.map eF)]) = .ok (.fl ((bs.getD i []).map nI ++ [nI j])) (X ++ [.lst (bs.map eF)]) := by
      refine b_ok (x := .fl ((bs.getD i []).map nI)) (b_ok (x := .ref X.length) (y := nI i) rfl rfl ?_) (l1_ok (x := nI j) rfl (fFl_ok (by simp))) (by rw [addV_fl]; rw [List.length_map, List.length_singleton, LIM_eq]; have := (B.bb _ hb).2; omega)
      unfold fIx ixSeq
      simp only [lX]
      rw [Lv.atI_nat (x := eF (bs.getD i [])) (by simp [hi])]
      rfl
    rw [sSub_d, ev, rS_ok]
    show subAt (.fl ((bs.getD i []).map nI ++ [nI j])) (.ref X.length) (nI i) _ _ = _
    unfold subAt
    simp only [lX, List.length_map, ixN_nat hi]
    rw [if_pos (by rw [noRef_fl, noRefs_app, nIs_nr]; simp), set_last, addTo_map]
  have ad : ∀ b ∈ Pa.addTo bs i j, b.length ≤ 100 := fun b hb => by have := ((B.add i j).bb b hb).2; omega
  have s3 : (tNot' (eTest (eL (fCall 1 M_law_m_is_crossed []) (lCons (eU fFrz (eVar 7)) lNil)))) [v0, v1, some (.ref kk), some (nI j), some (.ref hh.length), some (nI i), some (.ref (ms.getD i 0)), some (.ref X.length), x8] (X ++ [.lst ((Pa.addTo bs i j).map eF)]) = .ok (!Pa.oCr (Pa.addTo bs i j)) (X ++ [.dead]) := by
    refine tNot_ok (test_ok (call1 (x := .fl ((Pa.addTo bs i j).map eF)) (h1 := X ++ [.dead]) (u_ok (x := .ref X.length) rfl ?_) (is_crossed_okR eF_it (.inr rfl) ad _)))
    unfold fFrz
    have : (X ++ [LO.lst ((Pa.addTo bs i j).map eF)])[X.length]? = some (.lst ((Pa.addTo bs i j).map eF)) := by simp
    simp only [this, set_last]
  unfold suB
  rw [sSeq_nx (sSet_ok s1)]
  show ∃ x7' x8' D', (sSeq _ _) [v0, v1, some (.ref kk), some (nI j), some (.ref hh.length), some (nI i), some (.ref (ms.getD i 0)), some (.ref X.length), x8] _ = _
  rw [sSeq_nx s2]
  cases hc : Pa.oCr (Pa.addTo bs i j) with
  | true =>
    rw [hc] at s3
    refine ⟨some (.ref X.length), x8, D ++ [.dead], ?_⟩
    rw [sIf_no s3, ← hX]
    simp
  | false =>
    rw [hc] at s3
    refine ⟨some (.ref X.length), x8, D ++ [.dead], ?_⟩
    have lf : (X ++ [LO.dead])[hh.length]? = some (.lst (fu.map nI)) := by
      rw [← hX, List.append_assoc, List.getElem?_append_right (by rw [hB]; exact Nat.le_refl _), hB, Nat.sub_self]; rfl
    refine sIf_t s3 ((sExpr_ok (app_ok2 (n := hh.length) (y := nI i) rfl rfl lf (by rw [List.length_map, LIM_eq]; omega) (by simp) rfl)).trans ?_)
    congr 1
    rw [← hX, List.append_assoc, List.set_append_right _ _ (by rw [hB]; exact Nat.le_refl _), hB, Nat.sub_self]
    simp
theorem suH_ok (N : Nl h hh kk ms bs) {l : Nat} (B : Bs l bs) (hl : l ≤ 50) (j : Nat) {x5 x6 : Option LV} :
    ∃ y5 y6 y7 y8 D, (sHold 2 (sFor (eEnumH (eVar 2)) (.tp [5, 6]) suB)) [v0, v1, some (.ref kk), some (nI j), some (.ref hh.length), x5, x6, x7, x8] (hh ++ [.lst []])
      = .nx [v0, v1, some (.ref kk), some (nI j), some (.ref hh.length), y5, y6, y7, y8] (hh ++ (.lst ((fits bs j).map nI) :: D)) := by
  have hB : (hh.set kk (.held ms)).length = hh.length := by simp
  obtain ⟨e2, h2, el, y5, y6, y7, y8, D, he, eh⟩ := for_pre (g := .tp [5, 6]) (body := suB) (fun i => LV.tup [nI i, .ref (ms.getD i 0)])
    (fun lst env hx => ∃ (x5 x6 x7 x8 : Option LV) (D : LH), env = [v0, v1, some (.ref kk), some (nI j), some (.ref hh.length), x5, x6, x7, x8] ∧ hx = hh.set kk (.held ms) ++ (.lst ((lst.filter fun i => !Pa.oCr (Pa.addTo bs i j)).map nI) :: D))
    (List.range ms.length) [v0, v1, some (.ref kk), some (nI j), some (.ref hh.length), x5, x6, x7, x8] (hh.set kk (.held ms) ++ [.lst []]) ⟨x5, x6, x7, x8, [], rfl, rfl⟩ (by
      rintro lst i l2 er env hx ⟨x5, x6, x7, x8, D, rfl, rfl⟩
      obtain ⟨rfl, hi⟩ := range_pre er
      rw [N.len] at hi
      obtain ⟨x7', x8', D', e⟩ := suB_ok (v0 := v0) (v1 := v1) (x7 := x7) (x8 := x8) N B hl (i := lst.length) (j := j) hi (fu := lst.filter fun i => !Pa.oCr (Pa.addTo bs i j)) (by have := List.length_filter_le (fun i => !Pa.oCr (Pa.addTo bs i j)) lst; have := B.ln; omega) D
      refine ⟨_, rfl, _, _, .inl e, some (nI lst.length), some (.ref (ms.getD lst.length 0)), x7', x8', D', rfl, ?_⟩
      rw [List.filter_append]
      congr 3
      cases hc : Pa.oCr (Pa.addTo bs lst.length j) <;> simp [hc])
  subst he eh
  rw [N.len] at el
  refine ⟨y5, y6, y7, y8, D, ?_⟩
  have k1 : (hh ++ [LO.lst []])[kk]? = some (.rls ms) := by rw [List.getElem?_append_left N.kl]; exact N.k1
  have sl : (hh ++ [LO.lst []]).set kk (.held ms) = hh.set kk (.held ms) ++ [.lst []] := List.set_append_left _ _ N.kl
  have kh : (hh.set kk (.held ms) ++ [LO.lst []])[kk]? = some (.held ms) := by rw [List.getElem?_append_left (by rw [hB]; exact N.kl)]; exact List.getElem?_set_self N.kl
  have run : (sFor (eEnumH (eVar 2)) (.tp [5, 6]) suB) [v0, v1, some (.ref kk), some (nI j), some (.ref hh.length), x5, x6, x7, x8] (hh.set kk (.held ms) ++ [.lst []]) = .nx [v0, v1, some (.ref kk), some (nI j), some (.ref hh.length), y5, y6, y7, y8] (hh.set kk (.held ms) ++ (.lst ((fits bs j).map nI) :: D)) := by
    rw [sFor_run (held_enum (a := eVar 2) (ms := ms) rfl kh), N.len]
    exact el
  unfold sHold
  simp only [List.getElem?_cons_succ, List.getElem?_cons_zero, k1, sl, run, Lv.relS]
  have kh2 : (hh.set kk (.held ms) ++ (LO.lst ((fits bs j).map nI) :: D))[kk]? = some (.held ms) := by rw [List.getElem?_append_left (by rw [hB]; exact N.kl)]; exact List.getElem?_set_self N.kl
  rw [kh2]
  simp only [if_true]
  rw [List.set_append_left _ _ (by rw [hB]; exact N.kl), set_set_back N.k1]
end
end K71
end
section
set_option Elab.async false
set_option linter.all false
set_option maxRecDepth 100000
namespace K71
open PySem PySem.Spec PyProof.Rows L2 Lv
theorem dTop_ref {n : Nat} {xs : List Nat} {h : LH} (hg : h[n]? = some (.lst (xs.map nI))) : dTop (.ref n) h = dTop (.fl (xs.map nI)) h := by
  unfold dTop
  simp only [hg, dOf]
theorem eq_nil_ref {n : Nat} {xs : List Nat} {h : LH} (hg : h[n]? = some (.lst (xs.map nI))) : eqV' (.ref n) (.fl []) h = .ok (.bl xs.isEmpty) h := by
  have := eq_nil xs h
  unfold eqV' at this ⊢
  rw [dTop_ref hg]
  exact this
theorem pick_ref_ok {q : Pen} {k n : Nat} (hq : q.Ok (k + 1)) {xs : List Nat} (h0 : xs ≠ []) (h1 : xs.length < 10000) {Z : LH} (hg : Z[n]? = some (.lst (xs.map nI))) :
    ∃ x q', x ∈ xs ∧ q'.Ok k ∧ M_law_pick [.ref 0, .ref (n + 1)] (penO q :: Z) = .ok (nI x) (penO q' :: Z) := by
  have hp : 0 < xs.length := List.length_pos_iff.2 h0
  obtain ⟨d, q', g0, g1, g2, g3⟩ := draw hq (many := (xs.length : Nat)) (by omega) (by omega) Z
  have hd : d.toNat < xs.length := by omega
  have hg' : ∀ q : Pen, (penO q :: Z)[n + 1]? = some (.lst (xs.map nI)) := fun q => by simpa using hg
  refine ⟨xs[d.toNat], q', List.getElem_mem hd, g2, fnB_run [some (.ref 0), some (.ref (n + 1))] rfl ?_⟩
  have fl : fLen [.ref (n + 1)] (penO q :: Z) = .ok (.int (xs.length : Nat)) (penO q :: Z) := by
    have := fLen_ref (hg' q)
    rwa [List.length_map] at this
  unfold m_law_pick
  refine end_ret (h1 := penO q' :: Z) (b_ok (x := .ref (n + 1)) (h1 := penO q :: Z) rfl (call2 (x := .ref 0) (y := .int (xs.length : Nat)) (h1 := penO q :: Z) rfl (l1_ok (x := .ref (n + 1)) rfl fl) g3) ?_) (by simp) (by simp)
  unfold fIx ixSeq
  simp only [hg' q']
  have := Lv.atI_nat (xs := xs.map nI) (i := d.toNat) (x := nI xs[d.toNat]) (by simp [hd])
  rw [Int.toNat_of_nonneg g0] at this
  rw [this]
  rfl
abbrev suL : Sv := sSeq (sSet 4 (eL fLst lNil)) (sSeq (sHold 2 (sFor (eEnumH (eVar 2)) (.tp [5, 6]) suB))
  (sIf (tOr' (eTest (eB eqV' (eVar 4) (eL fFl lNil))) (eTest (eB eqV' (eL (fCall 2 M_law_draw []) (lCons (eVar 0) (lCons (eC (.int 3)) lNil))) (eC (.int 0))))) (sAppN 2 (lCons (eVar 3) lNil))
    (sExpr (eApp (eB fIxN (eVar 2) (eL (fCall 2 M_law_pick []) (lCons (eVar 0) (lCons (eVar 4) lNil)))) (eVar 3)))))
/-- one item more -/
theorem suL_ok {q : Pen} {r hh : LH} {kk : Nat} {ms : List Nat} {bs : Pt} (N : Nl (penO q :: r) hh kk ms bs) {l : Nat} (B : Bs l bs) (hl : l ≤ 50) (j : Nat) {k : Nat} (hq : q.Ok (k + 2)) {v1 x4 x5 x6 x7 x8 : Option LV} :
    ∃ kk' ms' bs' q' hh' y4 y5 y6 y7 y8, suL [some (.ref 0), v1, some (.ref kk), some (nI j), x4, x5, x6, x7, x8] hh = .nx [some (.ref 0), v1, some (.ref kk'), some (nI j), y4, y5, y6, y7, y8] hh' ∧ Nl (penO q' :: r) hh' kk' ms' bs' ∧ q'.Ok k ∧ Bs (l + 1) bs' ∧
      (bs' = bs ++ [[j]] ∨ ∃ i, i < bs.length ∧ Pa.oCr (Pa.addTo bs i j) = false ∧ bs' = Pa.addTo bs i j) := by
  obtain ⟨D0, e0⟩ := N.pre
  obtain ⟨y5, y6, y7, y8, D, eh⟩ := suH_ok (v0 := some (.ref 0)) (v1 := v1) (x7 := x7) (x8 := x8) N B hl j (x5 := x5) (x6 := x6)
  have N1 := N.app (LO.lst ((fits bs j).map nI) :: D)
  have s1 : (sSet 4 (eL fLst lNil)) [some (.ref 0), v1, some (.ref kk), some (nI j), x4, x5, x6, x7, x8] hh = .nx [some (.ref 0), v1, some (.ref kk), some (nI j), some (.ref hh.length), x5, x6, x7, x8] (hh ++ [.lst []]) := by
    rw [sSet_d]; simp [fLst]
  have hY : hh ++ (LO.lst ((fits bs j).map nI) :: D) = penO q :: ((r ++ D0) ++ (LO.lst ((fits bs j).map nI) :: D)) := by rw [e0]; rfl
  have hhl : hh.length = (r ++ D0).length + 1 := by rw [e0]; rfl
  have cell : (hh ++ (LO.lst ((fits bs j).map nI) :: D))[hh.length]? = some (.lst ((fits bs j).map nI)) := by rw [List.getElem?_append_right (Nat.le_refl _), Nat.sub_self]; rfl
  have cellZ : ((r ++ D0) ++ (LO.lst ((fits bs j).map nI) :: D))[(r ++ D0).length]? = some (.lst ((fits bs j).map nI)) := by rw [List.getElem?_append_right (Nat.le_refl _), Nat.sub_self]; rfl
  have t1 : eTest (eB eqV' (eVar 4) (eL fFl lNil)) [some (.ref 0), v1, some (.ref kk), some (nI j), some (.ref hh.length), y5, y6, y7, y8] (hh ++ (LO.lst ((fits bs j).map nI) :: D)) = .ok (fits bs j).isEmpty (hh ++ (LO.lst ((fits bs j).map nI) :: D)) :=
    test_ok (b_ok (x := .ref hh.length) (y := .fl []) rfl (by simp) (eq_nil_ref cell))
  unfold suL
  rw [sSeq_nx s1, sSeq_nx eh]
  cases hf : (fits bs j).isEmpty with
  | true =>
    rw [hf] at t1
    obtain ⟨hh', ms', h1, h2⟩ := appN_ok N1 (env := [some (.ref 0), v1, some (.ref kk), some (nI j), some (.ref hh.length), y5, y6, y7, y8]) (by have := B.ln; omega) (i := 2) (n := 3) (j := j) rfl rfl
    exact ⟨_, ms', bs ++ [[j]], q, hh', some (.ref hh.length), y5, y6, y7, y8, sIf_t (tOr_t t1) h1, h2, hq.mono (by omega), B.new j, .inl rfl⟩
  | false =>
    rw [hf] at t1
    obtain ⟨d, q1, d0, d1, hq1, ed⟩ := draw (k := k + 1) hq (many := 3) (by decide) (by decide) ((r ++ D0) ++ (LO.lst ((fits bs j).map nI) :: D))
    rw [hY] at N1
    have N2 := N1.pen (q' := q1)
    have t2 : eTest (eB eqV' (eL (fCall 2 M_law_draw []) (lCons (eVar 0) (lCons (eC (.int 3)) lNil))) (eC (.int 0))) [some (.ref 0), v1, some (.ref kk), some (nI j), some (.ref hh.length), y5, y6, y7, y8] (hh ++ (LO.lst ((fits bs j).map nI) :: D)) = .ok (decide (d = 0)) (penO q1 :: ((r ++ D0) ++ (LO.lst ((fits bs j).map nI) :: D))) := by
      rw [hY]
      exact test_ok (b_ok (x := .int d) (y := .int 0) (call2 rfl rfl ed) rfl eqV_int)
    by_cases hd : d = 0
    · rw [decide_eq_true hd] at t2
      obtain ⟨hh', ms', h1, h2⟩ := appN_ok N2 (env := [some (.ref 0), v1, some (.ref kk), some (nI j), some (.ref hh.length), y5, y6, y7, y8]) (by have := B.ln; omega) (i := 2) (n := 3) (j := j) rfl rfl
      exact ⟨_, ms', bs ++ [[j]], q1, hh', some (.ref hh.length), y5, y6, y7, y8, sIf_t (tOr_f t1 t2) h1, h2, hq1.mono (by omega), B.new j, .inl rfl⟩
    · rw [decide_eq_false hd] at t2
      have fl : (fits bs j).length ≤ 50 := by
        have := List.length_filter_le (fun i => !Pa.oCr (Pa.addTo bs i j)) (List.range bs.length)
        rw [List.length_range] at this
        have := B.ln
        unfold fits
        omega
      obtain ⟨i, q2, hi, hq2, ep⟩ := pick_ref_ok (k := k) hq1 (xs := fits bs j) (by simpa using hf) (by omega) cellZ
      rw [← hhl] at ep
      obtain ⟨hi1, hi2⟩ := List.mem_filter.1 hi
      have hib := List.mem_range.1 hi1
      have N3 := N2.pen (q' := q2)
      obtain ⟨hh', h1, h2⟩ := appI_ok2 (h0 := penO q1 :: ((r ++ D0) ++ (LO.lst ((fits bs j).map nI) :: D))) N3 (j := j) hib (fun b hb => by have := (B.bb b hb).2; omega) (env := [some (.ref 0), v1, some (.ref kk), some (nI j), some (.ref hh.length), y5, y6, y7, y8])
        (eB' := eVar 2) (eI := eL (fCall 2 M_law_pick []) (lCons (eVar 0) (lCons (eVar 4) lNil))) (eJ := eVar 3) rfl (call2 rfl rfl ep) rfl
      exact ⟨kk, ms, Pa.addTo bs i j, q2, hh', some (.ref hh.length), y5, y6, y7, y8, sIf_f (tOr_f t1 t2) (sExpr_ok h1), h2, hq2, B.add i j, .inr ⟨i, hib, by simpa using hi2, rfl⟩⟩
theorem some_ok {q : Pen} {k n : Nat} (hn : n ≤ 8) (hq : q.Ok (k + 2 * n)) (r : LH) :
    ∃ p q', p ∈ Pa.parts n ∧ Pa.oCr p = false ∧ q'.Ok k ∧ M_law_some_uncrossed [.ref 0, nI n] (penO q :: r) = .ok (encP p) (penO q' :: r) := by
  obtain ⟨e2, h2, el, kk, ms, bs, q', x3, x4, x5, x6, x7, x8, he, N, hq', B, hp, hc⟩ := for_pre (g := .nm 3) (body := suL) nI
    (fun l env hh => ∃ (kk : Nat) (ms : List Nat) (bs : Pt) (q' : Pen) (x3 x4 x5 x6 x7 x8 : Option LV), env = [some (.ref 0), some (nI n), some (.ref kk), x3, x4, x5, x6, x7, x8] ∧ Nl (penO q' :: r) hh kk ms bs ∧ q'.Ok (k + 2 * (n - l.length)) ∧ Bs l.length bs ∧ bs ∈ Pa.parts l.length ∧ Pa.oCr bs = false)
    (List.range n) [some (.ref 0), some (nI n), some (.ref (penO q :: r).length), none, none, none, none, none, none] ((penO q :: r) ++ [.rls []]) ⟨_, [], [], q, none, none, none, none, none, none, rfl, nl_new _, by simpa using hq, ⟨Nat.le_refl _, fun _ m => nomatch m⟩, by simp [Pa.parts], rfl⟩ (by
      rintro l j l2 er env hh ⟨kk, ms, bs, q', x3, x4, x5, x6, x7, x8, rfl, N, hq', B, hp, hc⟩
      obtain ⟨rfl, hlt⟩ := range_pre er
      obtain ⟨kk', ms', bs', q2, hh', y4, y5, y6, y7, y8, e, N', hq2, B', hb⟩ := suL_ok N B (by omega) l.length (k := k + 2 * (n - (l.length + 1))) (hq'.mono (by omega)) (v1 := some (nI n)) (x4 := x4) (x5 := x5) (x6 := x6) (x7 := x7) (x8 := x8)
      refine ⟨_, rfl, _, hh', .inl e, kk', ms', bs', q2, some (nI l.length), y4, y5, y6, y7, y8, rfl, N', ?_⟩
      rw [List.length_append, List.length_singleton]
      refine ⟨hq2, B', ?_⟩
      rcases hb with rfl | ⟨i, hi, hx, rfl⟩
      · exact ⟨Pa.mem_succ hp (List.mem_cons_self ..), Pa.one_more _ (by omega) bs hp hc⟩
      · exact ⟨Pa.mem_succ hp (Pa.addTo_wth hi), hx⟩)
  subst he
  rw [List.length_range] at hq' B hp
  refine ⟨bs, q', hp, hc, hq'.mono (by omega), fnB_run [some (.ref 0), some (nI n), none, none, none, none, none, none, none] rfl ?_⟩
  unfold m_law_some_uncrossed
  have s1 : (sSet 2 eRls0) [some (.ref 0), some (nI n), none, none, none, none, none, none, none] (penO q :: r) = .nx [some (.ref 0), some (nI n), some (.ref (penO q :: r).length), none, none, none, none, none, none] ((penO q :: r) ++ [.rls []]) := rfl
  rw [sSeq_nx s1, sSeq_nx ((sFor_run (rng0_ok (m := n) rfl (by omega))).trans el)]
  exact end_ret (tuples_ok N (by have := B.ln; omega) (i := 2) (j := 6) rfl (by simp) (by decide)) (encP_nr _) N.take
end K71
end
section
set_option Elab.async false
set_option linter.all false
set_option maxRecDepth 100000
namespace K71
open PySem PySem.Spec PyProof.Rows L2 Lv
/-! ### the things of both -/
theorem many_okI {p : Pt} (g : Gd p) {i v : Nat} {env : LE} (h : LH) (h0 : env[i]? = some (some (encP p))) (hv : v < env.length) :
    eL (fSum (withR (addV []) [])) (lCons (eLc false (eIt (eVar i)) (.nm v) tYes' (eL fLen (lCons (eVar v) lNil)) [v]) lNil) env h = .ok (nI (Pa.many p)) h := by
  rw [eL_d, lCons_d, eLc_map (α := Bl) (h' := h) encB (fun b => nI b.length) p]
  · have s := sum_ints (add := withR (addV []) []) (fun i j h => rfl) (p.map fun b => ((b.length : Nat) : Int)) 0 h
    rw [List.map_map] at s
    have e : ∀ p : Pt, (p.map fun b => ((b.length : Nat) : Int)).sum = ((Pa.many p : Nat) : Int) := by
      intro p
      induction p with
      | nil => rfl
      | cons b p ih => simp only [List.map_cons, List.sum_cons, ih, Pa.many]; omega
    rw [e, Int.zero_add] at s
    exact s
  · simp [h0, encP]
  · intro b hb
    refine ⟨_, rfl, fun acc => ⟨?_, by simp⟩⟩
    have e : ((lwipe env [v]).set v (some (encB b)))[v]? = some (some (encB b)) := by simp [lwipe, hv]
    exact l1_ok (var_ok e) (by unfold encB; simp)
  · have := g.l; rw [LIM_eq]; omega
def dbl (b : Bl) : Bl := b.map fun i => 2 * i
def dbl1 (b : Bl) : Bl := b.map fun i => 2 * i + 1
theorem tog_eq (p q : Pt) : Pa.tog p q = p.map dbl ++ q.map dbl1 := rfl
theorem mul2 (i : Nat) (h : LH) : mulV [] (.int 2) (nI i) h = .ok (nI (2 * i)) h := by
  rw [mulV_int (mulOk_l (by decide) (by decide))]
  congr 2
theorem add1 (i : Nat) (h : LH) : addV [] (nI i) (.int 1) h = .ok (nI (i + 1)) h := by
  rw [addV_int]
  congr 2
theorem tog_ok {p q : Pt} {vp vq : LV} (ip : ∀ h, itemsOf vp h = .ok (p.map encB) h) (iq : ∀ h, itemsOf vq h = .ok (q.map encB) h) (lp : p.length ≤ 1000) (lq : q.length ≤ 1000) (bp : ∀ b ∈ p, b.length ≤ 1000) (bq : ∀ b ∈ q, b.length ≤ 1000) (h : LH) :
    M_law_together [vp, vq] h = .ok (.fl ((Pa.tog p q).map encB)) h := by
  refine fnB_run [some vp, some vq, none, none, none] rfl ?_
  have c1 : (eLc false (eIt (eVar 0)) (.nm 3) tYes' (eL fTuple (lCons (eLc false (eIt (eVar 3)) (.nm 4) tYes' (eB (mulV []) (eC (.int 2)) (eVar 4)) [4]) lNil)) [3]) [some vp, some vq, none, none, none] h = .ok (.fl ((p.map dbl).map encB)) h := by
    rw [eLc_map (α := Bl) (h' := h) encB (fun b => encB (dbl b)) p]
    · rw [List.map_map]; rfl
    · simp [ip]
    · intro b hb
      refine ⟨[some vp, some vq, none, some (encB b), none], rfl, fun acc => ⟨?_, encB_nr _⟩⟩
      refine l1_ok (x := .fl ((dbl b).map nI)) (h1 := h ++ [.lst acc]) ?_ rfl
      rw [eLc_map (α := Nat) (h' := h ++ [.lst acc]) nI (fun i => nI (2 * i)) b]
      · unfold dbl; rw [List.map_map]; rfl
      · simp [encB]
      · intro i _
        exact ⟨_, rfl, fun acc => ⟨b_ok rfl rfl (mul2 i _), by simp⟩⟩
      · have := bp b hb; rw [LIM_eq]; omega
    · rw [LIM_eq]; omega
  have c2 : (eLc false (eIt (eVar 1)) (.nm 3) tYes' (eL fTuple (lCons (eLc false (eIt (eVar 3)) (.nm 4) tYes' (eB (addV []) (eB (mulV []) (eC (.int 2)) (eVar 4)) (eC (.int 1))) [4]) lNil)) [3]) [some vp, some vq, some (.fl ((p.map dbl).map encB)), none, none] h = .ok (.fl ((q.map dbl1).map encB)) h := by
    rw [eLc_map (α := Bl) (h' := h) encB (fun b => encB (dbl1 b)) q]
    · rw [List.map_map]; rfl
    · simp [iq]
    · intro b hb
      refine ⟨[some vp, some vq, some (.fl ((p.map dbl).map encB)), some (encB b), none], rfl, fun acc => ⟨?_, encB_nr _⟩⟩
      refine l1_ok (x := .fl ((dbl1 b).map nI)) (h1 := h ++ [.lst acc]) ?_ rfl
      rw [eLc_map (α := Nat) (h' := h ++ [.lst acc]) nI (fun i => nI (2 * i + 1)) b]
      · unfold dbl1; rw [List.map_map]; rfl
      · simp [encB]
      · intro i _
        exact ⟨_, rfl, fun acc => ⟨b_ok (b_ok rfl rfl (mul2 i _)) rfl (add1 _ _), by simp⟩⟩
      · have := bq b hb; rw [LIM_eq]; omega
    · rw [LIM_eq]; omega
  unfold m_law_together
  refine (congrArg (fun z => trimR h.length (endR z)) (sSeq_nx (sSet_ok c1))).trans ?_
  refine end_ret (h1 := h) (b_ok (x := .fl ((p.map dbl).map encB)) rfl c2 (addV_fl (by simp; omega))) ?_ take_self |>.trans ?_
  · rw [noRef_fl, ← List.map_append]
    exact noRefs_iff.2 fun x m => by obtain ⟨b, _, rfl⟩ := List.mem_map.1 m; exact encB_nr b
  · rw [tog_eq, List.map_append]
/-! ### two blocks made one -/
theorem cross_of {p R : Pt} {o : Bl} {a c : Nat} (ha : a ∈ o) (hc : c ∈ o) (hac : a < c) (hj : Pa.canJ p a c = false) : Pa.oCr (Pa.tog p (R ++ [o])) = true := by
  unfold Pa.canJ at hj
  obtain ⟨b, hb, hx⟩ := List.all_eq_false.1 hj
  simp only [Bool.not_eq_true, Bool.not_eq_false', Bool.and_eq_true] at hx
  obtain ⟨h1, h2⟩ := hx
  have e1 : ∀ x y : Nat, (x.blt y = true) = (x < y) := fun x y => Nat.blt_eq
  have e2 : ∀ x y : Nat, (x.ble y = true) = (x ≤ y) := fun x y => Nat.ble_eq
  rw [e1] at h1 h2
  obtain ⟨x, hx⟩ := List.exists_mem_of_length_pos h1
  obtain ⟨xb, xt⟩ := List.mem_filter.1 hx
  rw [Bool.and_eq_true, e1, e2] at xt
  have hy : ∃ y ∈ b, ¬ (a < y ∧ y ≤ c) := by
    refine Classical.byContradiction fun hn => ?_
    have : b.filter (fun x => a.blt x && x.ble c) = b := List.filter_eq_self.2 fun y hy => by
      rw [Bool.and_eq_true, e1, e2]
      exact Classical.byContradiction fun q => hn ⟨y, hy, q⟩
    rw [this] at h2
    exact Nat.lt_irrefl _ h2
  obtain ⟨y, yb, yt⟩ := hy
  have ox : Pa.oX (dbl1 o) (dbl b) = true := by
    refine List.any_eq_true.2 ⟨2 * a + 1, List.mem_map.2 ⟨a, ha, rfl⟩, List.any_eq_true.2 ⟨2 * c + 1, List.mem_map.2 ⟨c, hc, rfl⟩, ?_⟩⟩
    simp only [Bool.and_eq_true, Bool.not_eq_true', List.isEmpty_eq_false_iff]
    rw [e1]
    refine ⟨by omega, List.ne_nil_of_mem (a := 2 * x) (List.mem_filter.2 ⟨List.mem_map.2 ⟨x, xb, rfl⟩, ?_⟩), List.ne_nil_of_mem (a := 2 * y) (List.mem_filter.2 ⟨List.mem_map.2 ⟨y, yb, rfl⟩, ?_⟩)⟩
    · rw [Bool.and_eq_true, e1, e1]; omega
    · rw [Bool.or_eq_true, e1, e1]; omega
  have et : Pa.tog p (R ++ [o]) = (p.map dbl ++ R.map dbl1) ++ [dbl1 o] := by rw [tog_eq, List.map_append, ← List.append_assoc]; rfl
  rw [et]
  generalize hL : p.map dbl ++ R.map dbl1 = L
  refine List.any_eq_true.2 ⟨L.length, List.mem_range.2 (by simp), ?_⟩
  have g1 : (L ++ [dbl1 o]).getD L.length [] = dbl1 o := by simp
  rw [g1, List.take_left]
  refine List.any_eq_true.2 ⟨dbl b, ?_, ox⟩
  rw [← hL]
  exact List.mem_append_left _ (List.mem_map.2 ⟨b, hb, rfl⟩)
/-! ### sorted blocks -/
theorem int_lt {a b : Int} : PyProof.Rows.itemLt (.inl a) (.inl b) = decide (a < b) := rfl
theorem dle_B {a b : Bl} (ha : a ≠ []) (hb : b ≠ []) (hl : Pa.hd a < Pa.hd b) : PySem.W.dataLe false srtD (encB b) (encB a) = false := by
  have e1 : srtD (encB a) = dB a := by unfold srtD; rw [dOf_B]; rfl
  have e2 : srtD (encB b) = dB b := by unfold srtD; rw [dOf_B]; rfl
  rw [PySem.W.dataLe_eq]
  simp only [cond_false, e1, e2]
  cases a with
  | nil => exact absurd rfl ha
  | cons x xs =>
    cases b with
    | nil => exact absurd rfl hb
    | cons y ys =>
      have hxy : x < y := hl
      have k : ∀ (z : Nat) (zs : List Nat), PySem.W.keyToks (dB (z :: zs)) = .inl 1 :: .inl (z : Int) :: PySem.W.keyToksAll (zs.map fun i => PyData.int (i : Nat)) := fun z zs => by
        unfold dB
        simp [PySem.W.keyToks, PySem.W.keyToksAll]
      unfold PySem.W.dataLt
      rw [k, k, PyProof.Rows.lex_cons, PyProof.Rows.lex_cons]
      have l1 : itemOrd.blt (Sum.inl 1) (Sum.inl 1) = false := rfl
      have l2 : itemOrd.blt (Sum.inl (x : Int)) (Sum.inl (y : Int)) = true := decide_eq_true (by omega)
      rw [l1, l2]
      rfl
theorem srtB_B {l : Pt} (hl : ∀ b ∈ l, b ≠ []) : srtB (l.map dB) = true := by
  unfold srtB
  rw [Bool.and_eq_true, Bool.and_eq_true, Bool.or_eq_true]
  refine ⟨?_, .inl ?_, ?_⟩
  · rw [List.all_map, List.all_eq_true]
    intro p _
    show (l.map dB).all _ = true
    rw [List.all_map, List.all_eq_true]
    exact fun q _ => alike_B p q
  · rw [List.all_map, List.all_eq_true]
    intro b m
    cases b with
    | nil => exact absurd rfl (hl [] m)
    | cons x xs => rfl
  · rw [List.all_map, List.all_eq_true]
    intro b _
    obtain ⟨d, h1, _, h3⟩ := shp_d _ _ (shp_B b)
    rw [dOf_B] at h1
    cases h1
    simp only [Function.comp, decide_eq_true_iff]
    omega
theorem sorted_B {l m : Pt} (hl : ∀ b ∈ l, b ≠ []) (p : m.Perm l) (ha : Pa.asc (m.map Pa.hd) = true) (h : LH) : fSorted [.fl (l.map encB)] h = .ok (.fl (m.map encB)) h := by
  refine sorted_is (dOfs_map dOf_B l) (srtB_B hl) (p.map _) ?_ h
  have pw := asc_pw ha
  rw [List.pairwise_map] at pw ⊢
  have hm : ∀ b ∈ m, b ≠ [] := fun b hb => hl b (p.mem_iff.1 hb)
  exact pw.imp_of_mem fun {a b} ma mb hlt => dle_B (hm a ma) (hm b mb) hlt
theorem insB_perm (a : Bl) : ∀ l : Pt, (Pa.insB a l).Perm (a :: l)
  | [] => .refl _
  | b :: r => by
    unfold Pa.insB
    split
    · exact .refl _
    · exact ((insB_perm a r).cons b).trans (.swap a b r)
theorem srtP_perm : ∀ l : Pt, (Pa.srtP l).Perm l
  | [] => .refl _
  | a :: l => (insB_perm a _).trans ((srtP_perm l).cons a)
end K71
end
section
set_option Elab.async false
set_option linter.all false
set_option maxRecDepth 100000
namespace K71
open PySem PySem.Spec PyProof.Rows L2 Lv
/-! ### is_right -/
structure Rg (n : Nat) (p : Pt) : Prop where
  ip : Ip n p
  iq : Ip n (Pa.comp p)
  up : Pa.uncr p = true
  uq : Pa.uncr (Pa.comp p) = true
  nc : Pa.oCr (Pa.tog p (Pa.comp p)) = false
  ln : n = 0 ∨ p.length + (Pa.comp p).length = n + 1
  pr : ∀ i, i < (Pa.comp p).length → ∀ j, j < i → Pa.canJ p (Pa.hd ((Pa.comp p).getD j [])) (Pa.hd ((Pa.comp p).getD i [])) = false
  it : Ip n (Pa.turn n p)
  tn : Pa.comp (Pa.comp p) = Pa.turn n p
theorem rg_of {n : Nat} (hn : n ≤ 8) {p : Pt} (hp : p ∈ Pa.parts n) (hc : Pa.oCr p = false) : Rg n p := by
  have t := Pa.all71 n hn p hp
  have R := rt_of hn hp
  unfold Pa.ok71 Pa.rgt at t
  rw [hc, Bool.false_or] at t
  simp only [Bool.and_eq_true] at t
  obtain ⟨t0, t1, t2, t3, t4, t5, t6, t7⟩ := t
  refine ⟨ip_of t0, ip_of t1, by rw [R.u, hc]; rfl, t2, by simpa using t3, ?_, ?_, ip_of t6, beqP_eq t7⟩
  · rw [Bool.or_eq_true] at t4
    have e : ∀ a b : Nat, (a.beq b = true) = (a = b) := fun a b => Nat.beq_eq
    rwa [e, e] at t4
  · intro i hi j hj
    have := List.all_eq_true.mp (List.all_eq_true.mp t5 i (List.mem_range.2 hi)) j (List.mem_range.2 hj)
    simpa using this
theorem perm_inv {α β : Type} (f : α → β) : ∀ (l : List β) (is : List α), l.Perm (is.map f) → ∃ js : List α, js.Perm is ∧ l = js.map f := by
  intro l is
  induction is generalizing l with
  | nil => intro p; exact ⟨[], .refl _, by simpa using p⟩
  | cons i is ih =>
    intro p
    have m : f i ∈ l := p.mem_iff.2 (by simp)
    obtain ⟨l1, l2, rfl⟩ := List.append_of_mem m
    have p' : (l1 ++ l2).Perm (is.map f) := (List.perm_middle.symm.trans p).cons_inv
    obtain ⟨js, pj, e⟩ := ih _ p'
    obtain ⟨j1, j2, rfl, rfl, rfl⟩ := List.append_eq_map_iff.1 e
    exact ⟨j1 ++ i :: j2, List.perm_middle.trans (pj.cons i), by simp⟩
theorem sortedT_nats {b : List Nat} (hl : 2 ≤ b.length) (h : LH) : ∃ o : List Nat, o.Perm b ∧ fSortedT [.tup (b.map nI)] h = .ok (.fl (o.map nI)) h := by
  obtain ⟨js, pj, e⟩ := sortedT_ints (is := b.map fun i : Nat => (i : Int)) (by simpa using hl) h
  obtain ⟨o, po, rfl⟩ := perm_inv _ _ _ pj
  rw [List.map_map, List.map_map] at e
  exact ⟨o, po, e⟩
theorem shp_P64 (p : Pt) : shp (encP p) 64 = true := by
  unfold encP; rw [shp_tup]
  exact shps_map fun b _ => by
    unfold encB; rw [shp_tup]
    exact shps_map fun i _ => by simp
theorem getD_memP {q : Pt} {i : Nat} (h : i < q.length) : q.getD i [] ∈ q := by
  rw [List.getD_eq_getElem?_getD, List.getElem?_eq_getElem h]; exact List.getElem_mem h
theorem hd_memB {b : Bl} (h : b ≠ []) : Pa.hd b ∈ b := by
  cases b with
  | nil => exact absurd rfl h
  | cons a r => exact List.mem_cons_self ..
theorem hd_lt {q : Pt} (h : Pa.asc (q.map Pa.hd) = true) {i j : Nat} (hi : i < q.length) (hj : j < i) : Pa.hd (q.getD j []) < Pa.hd (q.getD i []) := by
  have pw := List.pairwise_iff_getElem.1 (asc_pw h) j i (by simp; omega) (by simpa using hi) hj
  rw [List.getElem_map, List.getElem_map] at pw
  have e : ∀ k (hk : k < q.length), q.getD k [] = q[k] := fun k hk => by rw [List.getD_eq_getElem?_getD, List.getElem?_eq_getElem hk]; rfl
  rw [e j (by omega), e i hi]
  exact pw
theorem at_getD {q : Pt} {i : Nat} (h : i < q.length) (hh : LH) : fIx (encP q) (nI i) hh = .ok (encB (q.getD i [])) hh := by
  unfold encP
  rw [fIx_tup, Lv.atI_nat (x := encB (q.getD i [])) (by
    rw [List.getElem?_map, List.getElem?_eq_getElem h, List.getD_eq_getElem?_getD, List.getElem?_eq_getElem h]; rfl)]
  rfl
theorem inL2 {a i j : Nat} (h : LH) : inL true (nI a) (.fl [nI i, nI j]) h = .ok (.bl (!(((i : Int) == a) || (((j : Int) == a) || false)))) h := rfl
abbrev irB : Sv := (sSeq (sSet 5 (eL fTuple (lCons (eL fSortedT (lCons (eB (addV []) (eB fIx (eVar 1) (eVar 3)) (eB fIx (eVar 1) (eVar 4))) lNil)) lNil)))
  (sSeq (sSet 6 (eLc false (eEnum (eVar 1)) (.tp [10, 9]) (eTest (eB (inL true) (eVar 10) (eL fFl (lCons (eVar 3) (lCons (eVar 4) lNil))))) (eVar 9) [10, 9]))
  (sIf (tNot' (eTest (eL (fCall 1 M_law_m_is_crossed []) (lCons (eL (fCall 2 M_law_together []) (lCons (eVar 0) (lCons (eB (addV []) (eVar 6) (eL fFl (lCons (eVar 5) lNil))) lNil))) lNil)))) (sRet (eC (.bl false))) sNil)))
abbrev irE (p q : Pt) (n : Nat) (x3 x4 x5 x6 : Option LV) : LE := [some (encP p), some (encP q), some (nI n), x3, x4, x5, x6, none, none, none, none, none]
theorem tog_len {p q : Pt} (hp : ∀ b ∈ p, b.length ≤ 100) (hq : ∀ b ∈ q, b.length ≤ 100) : ∀ b ∈ Pa.tog p q, b.length ≤ 100 := by
  intro b hb
  rw [tog_eq] at hb
  rcases List.mem_append.1 hb with hb | hb <;> obtain ⟨c, hc, rfl⟩ := List.mem_map.1 hb
  · unfold dbl; rw [List.length_map]; exact hp c hc
  · unfold dbl1; rw [List.length_map]; exact hq c hc
theorem irB_ok {n : Nat} (hn : n ≤ 8) {p : Pt} (R : Rg n p) {i j : Nat} (hi : i < (Pa.comp p).length) (hj : j < i) {x5 x6 : Option LV} (h : LH) :
    ∃ y5 y6, irB (irE p (Pa.comp p) n (some (nI i)) (some (nI j)) x5 x6) h = .nx (irE p (Pa.comp p) n (some (nI i)) (some (nI j)) y5 y6) h := by
  generalize eq : Pa.comp p = q at hi
  have gp := R.ip.gd hn
  have Iq := R.iq
  rw [eq] at Iq
  have gq := Iq.gd hn
  have hj' : j < q.length := by omega
  have mi := getD_memP hi
  have mj := getD_memP hj'
  obtain ⟨bi, li⟩ := gq.b _ mi
  obtain ⟨bj, lj⟩ := gq.b _ mj
  have pi := List.length_pos_iff.2 bi
  have pj := List.length_pos_iff.2 bj
  obtain ⟨o, po, so⟩ := sortedT_nats (b := q.getD i [] ++ q.getD j []) (by rw [List.length_append]; omega) h
  have lo := po.length_eq
  rw [List.length_append] at lo
  have s1 : (sSet 5 (eL fTuple (lCons (eL fSortedT (lCons (eB (addV []) (eB fIx (eVar 1) (eVar 3)) (eB fIx (eVar 1) (eVar 4))) lNil)) lNil))) (irE p q n (some (nI i)) (some (nI j)) x5 x6) h = .nx (irE p q n (some (nI i)) (some (nI j)) (some (encB o)) x6) h := by
    refine sSet_ok (l1_ok (l1_ok (b_ok (b_ok rfl rfl (at_getD hi h)) (b_ok rfl rfl (at_getD hj' h)) (r := .ok (.tup ((q.getD i [] ++ q.getD j []).map nI)) h) ?_) so) rfl)
    unfold encB
    rw [addV_tup (by rw [List.length_map, List.length_map, LIM_eq]; omega), List.map_append]
  have c2 : (eLc false (eEnum (eVar 1)) (.tp [10, 9]) (eTest (eB (inL true) (eVar 10) (eL fFl (lCons (eVar 3) (lCons (eVar 4) lNil))))) (eVar 9) [10, 9]) (irE p q n (some (nI i)) (some (nI j)) (some (encB o)) x6) h
      = .ok (.fl ((((q.zip (List.range q.length)).filter fun x => !(((i : Int) == (x.2 : Int)) || (((j : Int) == (x.2 : Int)) || false))).map (·.1)).map encB)) h := by
    rw [List.map_map]
    rw [eLc_pure (α := Bl × Nat) (h' := h) (fun x => LV.tup [nI x.2, encB x.1]) (fun x => !(((i : Int) == (x.2 : Int)) || (((j : Int) == (x.2 : Int)) || false))) (fun x => encB x.1) (q.zip (List.range q.length))]
    · rfl
    · unfold eEnum
      rw [var_ok (v := encP q) rfl, rb_ok]
      unfold encP
      rw [itemsOf_tup, rb_ok, enumL_zip0]
    · rintro ⟨b, k⟩ _
      refine ⟨[some (encP p), some (encP q), some (nI n), some (nI i), some (nI j), some (encB o), x6, none, none, some (encB b), some (nI k), none], rfl, fun acc => ⟨?_, fun _ => ⟨rfl, encB_nr _⟩⟩⟩
      exact test_ok (b_ok rfl (l2_ok rfl rfl rfl) (inL2 _))
    · have := gq.l; rw [List.length_zip, LIM_eq]; omega
  generalize hR : (((q.zip (List.range q.length)).filter fun x => !(((i : Int) == (x.2 : Int)) || (((j : Int) == (x.2 : Int)) || false))).map (·.1)) = R' at c2
  have mR : ∀ b ∈ R', b ∈ q := by
    intro b hb
    rw [← hR] at hb
    obtain ⟨x, hx, rfl⟩ := List.mem_map.1 hb
    exact (List.of_mem_zip (List.mem_filter.1 hx).1).1
  have lR : R'.length ≤ 100 := by
    have h1 := List.length_filter_le (fun x : Bl × Nat => !(((i : Int) == (x.2 : Int)) || (((j : Int) == (x.2 : Int)) || false))) (q.zip (List.range q.length))
    have h2 := gq.l
    rw [← hR, List.length_map]
    rw [List.length_zip] at h1
    omega
  have lens : ∀ b ∈ R' ++ [o], b.length ≤ 200 := by
    intro b hb
    rcases List.mem_append.1 hb with hb | hb
    · have := (gq.b b (mR b hb)).2; omega
    · rw [List.mem_singleton.1 hb]; omega
  have l8 : ∀ b ∈ q, b.length ≤ 8 := fun b hb => by
    have h1 := (len_many q fun b m => (Iq.b b m).1).2 b hb
    have := Iq.m
    omega
  have lens2 : ∀ b ∈ R' ++ [o], b.length ≤ 100 := by
    intro b hb
    rcases List.mem_append.1 hb with hb | hb
    · exact (gq.b b (mR b hb)).2
    · rw [List.mem_singleton.1 hb]
      have := l8 _ mi
      have := l8 _ mj
      omega
  have cx : Pa.oCr (Pa.tog p (R' ++ [o])) = true := by
    have pr := R.pr i (by rw [eq]; exact hi) j hj
    rw [eq] at pr
    exact cross_of (po.mem_iff.2 (List.mem_append_right _ (hd_memB bj))) (po.mem_iff.2 (List.mem_append_left _ (hd_memB bi))) (hd_lt Iq.h hi hj) pr
  have t : (tNot' (eTest (eL (fCall 1 M_law_m_is_crossed []) (lCons (eL (fCall 2 M_law_together []) (lCons (eVar 0) (lCons (eB (addV []) (eVar 6) (eL fFl (lCons (eVar 5) lNil))) lNil))) lNil)))) (irE p q n (some (nI i)) (some (nI j)) (some (encB o)) (some (.fl (R'.map encB)))) h = .ok false h := by
    refine tNot_ok (k := true) (test_ok (call1 (x := .fl ((Pa.tog p (R' ++ [o])).map encB)) (h1 := h) (call2 (x := encP p) (y := .fl ((R' ++ [o]).map encB)) (h1 := h) (h2 := h) rfl (b_ok rfl (l1_ok rfl rfl) (r := .ok (.fl ((R' ++ [o]).map encB)) h) ?_) ?_) ?_))
    · show addV [] (.fl (R'.map encB)) (.fl [encB o]) h = _
      rw [addV_fl (by rw [List.length_map, LIM_eq]; simp; omega), List.map_append]; rfl
    · refine tog_ok (fun h => by unfold encP; rfl) (fun h => rfl) (by have := gp.l; omega) (by simp; omega) (fun b hb => by have := (gp.b b hb).2; omega) (fun b hb => by have := lens b hb; omega) h
    · rw [is_crossed_okR (e := encB) (fun b h => by unfold encB; rfl) (.inr rfl) (tog_len (fun b hb => (gp.b b hb).2) lens2), cx]
  refine ⟨some (encB o), some (.fl (R'.map encB)), ?_⟩
  unfold irB
  rw [sSeq_nx s1, sSeq_nx (sSet_ok c2)]
  exact sIf_no t
theorem irL_ok {n : Nat} (hn : n ≤ 8) {p : Pt} (R : Rg n p) (h : LH) :
    ∃ y3 y4 y5 y6, (sFor (eRng1 (eL fLen (lCons (eVar 1) lNil))) (.nm 3) (sFor (eRng1 (eVar 3)) (.nm 4) irB)) (irE p (Pa.comp p) n none none none none) h = .nx (irE p (Pa.comp p) n y3 y4 y5 y6) h := by
  have gq := R.iq.gd hn
  obtain ⟨e2, h2, el, y3, y4, y5, y6, he, hh⟩ := for_pre (g := .nm 3) (body := sFor (eRng1 (eVar 3)) (.nm 4) irB) nI
    (fun l env hh => ∃ x3 x4 x5 x6, env = irE p (Pa.comp p) n x3 x4 x5 x6 ∧ hh = h)
    (List.range (Pa.comp p).length) (irE p (Pa.comp p) n none none none none) h ⟨_, _, _, _, rfl, rfl⟩ (by
      rintro l i l2 er env hh ⟨x3, x4, x5, x6, rfl, rfl⟩
      obtain ⟨ei, hi⟩ := range_pre er
      refine ⟨irE p (Pa.comp p) n (some (nI i)) x4 x5 x6, rfl, ?_⟩
      obtain ⟨e2, h2, el, y4, y5, y6, he, h2e⟩ := for_pre (g := .nm 4) (body := irB) nI
        (fun l env hh' => ∃ x4 x5 x6, env = irE p (Pa.comp p) n (some (nI i)) x4 x5 x6 ∧ hh' = hh)
        (List.range i) (irE p (Pa.comp p) n (some (nI i)) x4 x5 x6) hh ⟨_, _, _, rfl, rfl⟩ (by
          rintro l' j l2' er' env hh' ⟨x4, x5, x6, rfl, rfl⟩
          obtain ⟨ej, hj⟩ := range_pre er'
          obtain ⟨y5, y6, q⟩ := irB_ok hn R (i := i) (j := j) (by omega) (by omega) (x5 := x5) (x6 := x6) hh'
          exact ⟨irE p (Pa.comp p) n (some (nI i)) (some (nI j)) x5 x6, rfl, _, hh', .inl q, _, _, _, rfl, rfl⟩)
      subst he h2e
      refine ⟨_, h2, .inl ((sFor_run (rng0_ok (m := i) rfl ?_)).trans el), _, _, _, _, rfl, rfl⟩
      have := gq.l
      omega)
  subst he hh
  exact ⟨y3, y4, y5, y6, (sFor_run (rng0_ok (m := (Pa.comp p).length) (l1_ok (x := encP (Pa.comp p)) rfl (by unfold encP; simp)) (by have := gq.l; omega))).trans el⟩
/-! ### turned by one -/
def tnI (n i : Nat) : Nat := if Nat.blt 0 i then i - 1 else n - 1
theorem turn_eq (n : Nat) (p : Pt) : Pa.turn n p = Pa.srtP (p.map fun b => Pa.srtN (b.map (tnI n))) := rfl
theorem sub1 {i : Nat} (hi : 0 < i) (h : LH) : subV [] (nI i) (.int 1) h = .ok (nI (i - 1)) h := by
  rw [subV_int]
  congr 2
  omega
theorem sortedT_fl {xs : List LV} {h : LH} : fSortedT [.fl xs] h = fSorted [.fl xs] h := by
  unfold fSortedT
  rfl
theorem turn_ok {n : Nat} (hn : n ≤ 8) {p q : Pt} (I : Ip n p) (T : Ip n (Pa.turn n p)) {x3 x4 x5 x6 x7 : Option LV} (h : LH) :
    (eL fSortedT (lCons (eLc false (eIt (eVar 0)) (.nm 9) tYes' (eL fTuple (lCons (eL fSortedT (lCons (eLc false (eIt (eVar 9)) (.nm 11) tYes' (eIf (eTest (eB gtV (eVar 11) (eC (.int 0)))) (eB (subV []) (eVar 11) (eC (.int 1))) (eB (subV []) (eVar 2) (eC (.int 1)))) [11]) lNil)) lNil)) [9]) lNil)) [some (encP p), some (encP q), some (nI n), x3, x4, x5, x6, x7, none, none, none, none] h = .ok (.fl ((Pa.turn n p).map encB)) h := by
  have gp := I.gd hn
  have pt : (Pa.turn n p).Perm (p.map fun b => Pa.srtN (b.map (tnI n))) := srtP_perm _
  refine l1_ok (x := .fl ((p.map fun b => Pa.srtN (b.map (tnI n))).map encB)) (h1 := h) ?_ ?_
  · rw [eLc_map (α := Bl) (h' := h) encB (fun b => encB (Pa.srtN (b.map (tnI n)))) p]
    · rw [List.map_map]; rfl
    · simp [encP]
    · intro b hb
      refine ⟨[some (encP p), some (encP q), some (nI n), x3, x4, x5, x6, x7, none, some (encB b), none, none], rfl, fun acc => ⟨?_, encB_nr _⟩⟩
      refine l1_ok (x := .fl ((Pa.srtN (b.map (tnI n))).map nI)) (h1 := h ++ [.lst acc]) (l1_ok (x := .fl ((b.map (tnI n)).map nI)) (h1 := h ++ [.lst acc]) ?_ ?_) rfl
      · rw [eLc_map (α := Nat) (h' := h ++ [.lst acc]) nI (fun i => nI (tnI n i)) b]
        · rw [List.map_map]; rfl
        · simp [encB]
        · intro i hi
          have hin := I.hi b hb i hi
          rw [I.m] at hin
          refine ⟨[some (encP p), some (encP q), some (nI n), x3, x4, x5, x6, x7, none, some (encB b), none, some (nI i)], rfl, fun acc2 => ⟨?_, by simp⟩⟩
          have t := gt_nat (i := i) (j := 0) (ea := eVar 11) (eb := eC (.int 0)) (env := [some (encP p), some (encP q), some (nI n), x3, x4, x5, x6, x7, none, some (encB b), none, some (nI i)]) (h := h ++ [.lst acc] ++ [.lst acc2]) rfl rfl
          unfold tnI
          by_cases h0 : Nat.blt 0 i = true
          · rw [if_pos h0]
            rw [h0] at t
            exact eIf_t t (b_ok rfl rfl (sub1 (by have e : (Nat.blt 0 i = true) = (0 < i) := Nat.blt_eq; rwa [e] at h0) _))
          · rw [if_neg h0]
            rw [Bool.of_not_eq_true h0] at t
            exact eIf_f t (b_ok rfl rfl (sub1 (by omega) _))
        · have := (gp.b b hb).2; rw [LIM_eq]; omega
      · have mt : Pa.srtN (b.map (tnI n)) ∈ Pa.turn n p := pt.mem_iff.2 (List.mem_map.2 ⟨b, hb, rfl⟩)
        have := sorted_ints' (is := (b.map (tnI n)).map fun i : Nat => (i : Int)) (js := (Pa.srtN (b.map (tnI n))).map fun i : Nat => (i : Int)) ((srtN_perm _).map _) (by
          rw [List.pairwise_map]
          exact (asc_pw (T.b _ mt).2).imp fun {a b} h => by omega) (h ++ [.lst acc])
        rw [List.map_map (g := LV.int), List.map_map (g := LV.int)] at this
        rw [sortedT_fl]
        exact this
    · have := gp.l; rw [LIM_eq]; omega
  · rw [sortedT_fl]
    exact sorted_B (fun b hb => (T.b b (pt.mem_iff.2 hb)).1) pt T.h h
theorem is_right_ok {n : Nat} (hn : n ≤ 8) {p : Pt} (R : Rg n p) (h : LH) : M_law_is_right [encP p, encP (Pa.comp p)] h = .ok (.bl true) h := by
  have gp := R.ip.gd hn
  have gq := R.iq.gd hn
  refine fnB_run [some (encP p), some (encP (Pa.comp p)), none, none, none, none, none, none, none, none, none, none] rfl ?_
  unfold m_law_is_right
  have s1 := sSet_ok (i := 2) (many_okI gp (i := 0) (v := 9) (env := [some (encP p), some (encP (Pa.comp p)), none, none, none, none, none, none, none, none, none, none]) h rfl (by simp))
  rw [R.ip.m] at s1
  rw [sSeq_nx s1]
  show trimR h.length (endR (sSeq _ _ (irE p (Pa.comp p) n none none none none) h)) = _
  have m2 := many_okI gq (i := 1) (v := 9) (env := irE p (Pa.comp p) n none none none none) h rfl (by simp)
  rw [R.iq.m] at m2
  have t2 : (tOr' (tNot' (eTest (eL (fCall 1 M_is_parting []) (lCons (eVar 1) lNil)))) (eTest (eB neV' (eL (fSum (withR (addV []) [])) (lCons (eLc false (eIt (eVar 1)) (.nm 9) tYes' (eL fLen (lCons (eVar 9) lNil)) [9]) lNil)) (eVar 2)))) (irE p (Pa.comp p) n none none none none) h = .ok false h :=
    tOr_f (tNot_ok (k := true) (test_ok (call1 rfl (is_parting_ok hn R.iq h)))) (test_ok (b_ok m2 rfl (neV_self (by simp))))
  rw [sSeq_nx (sIf_no t2)]
  have t3 : (tOr' (eTest (eL (fCall 1 M_law_m_is_crossed []) (lCons (eL (fCall 2 M_law_together []) (lCons (eVar 0) (lCons (eVar 1) lNil))) lNil))) (tAnd' (eTest (eB gtV (eVar 2) (eC (.int 0)))) (eTest (eB neV' (eB (addV []) (eL fLen (lCons (eVar 0) lNil)) (eL fLen (lCons (eVar 1) lNil))) (eB (addV []) (eVar 2) (eC (.int 1))))))) (irE p (Pa.comp p) n none none none none) h = .ok false h := by
    refine tOr_f (test_ok (call1 (x := .fl ((Pa.tog p (Pa.comp p)).map encB)) (h1 := h) (call2 (x := encP p) (y := encP (Pa.comp p)) (h1 := h) (h2 := h) rfl rfl (tog_ok (fun h => by unfold encP; rfl) (fun h => by unfold encP; rfl) (by have := gp.l; omega) (by have := gq.l; omega) (fun b hb => by have := (gp.b b hb).2; omega) (fun b hb => by have := (gq.b b hb).2; omega) h)) (by
      rw [is_crossed_okR (e := encB) (fun b h => by unfold encB; rfl) (.inr rfl) (tog_len (fun b hb => (gp.b b hb).2) (fun b hb => (gq.b b hb).2)), R.nc]))) ?_
    have t := gt_nat (i := n) (j := 0) (ea := eVar 2) (eb := eC (.int 0)) (env := irE p (Pa.comp p) n none none none none) (h := h) rfl rfl
    rcases R.ln with e | e
    · subst e; exact tAnd_f t
    · by_cases hz : Nat.blt 0 n = true
      · rw [hz] at t
        refine tAnd_t t (test_ok (b_ok (b_ok (x := nI p.length) (y := nI (Pa.comp p).length) (h1 := h) (h2 := h) (l1_ok rfl (by unfold encP; simp)) (l1_ok rfl (by unfold encP; simp)) (r := .ok (nI (n + 1)) h) ?_) (b_ok rfl rfl (add1 n h)) (neV_self (by simp))))
        rw [addV_int]
        congr 2
        omega
      · rw [Bool.of_not_eq_true hz] at t
        exact tAnd_f t
  rw [sSeq_nx (sIf_no t3)]
  obtain ⟨y3, y4, y5, y6, s4⟩ := irL_ok hn R h
  rw [sSeq_nx s4]
  have s5 : (sSet 7 (eL (fCall 1 M_complement []) (lCons (eVar 1) lNil))) (irE p (Pa.comp p) n y3 y4 y5 y6) h = .nx [some (encP p), some (encP (Pa.comp p)), some (nI n), y3, y4, y5, y6, some (encP (Pa.turn n p)), none, none, none, none] h :=
    sSet_ok (call1 rfl (by rw [← R.tn]; exact comp_ok hn R.iq R.uq h))
  rw [sSeq_nx s5]
  have s6 := sSet_ok (i := 8) (turn_ok hn (q := Pa.comp p) R.ip R.it (x3 := y3) (x4 := y4) (x5 := y5) (x6 := y6) (x7 := some (encP (Pa.turn n p))) h)
  rw [sSeq_nx s6]
  exact end_ret (b_ok rfl (l1_ok rfl rfl) (eqV_self (shp_P64 _))) rfl take_self
end K71
end
section
set_option Elab.async false
set_option linter.all false
set_option maxRecDepth 100000
namespace K71
open PySem PySem.Spec PyProof.Rows L2 Lv
/-! ### the law's first crossing -/
def encD (l : List (Nat × Nat)) : List (Key × LV) := l.map fun kv => ((.inl (kv.1 : Nat) : Key), nI kv.2)
theorem look_D (l : List (Nat × Nat)) (i : Nat) : lookL (encD l) (.inl (i : Nat)) = (Pa.lookN l i).map nI := by
  unfold Pa.lookN
  induction l with
  | nil => rfl
  | cons kv l ih =>
    have e : (kv.1.beq i = true) = (kv.1 = i) := Nat.beq_eq
    by_cases h : kv.1 = i
    · have h' : kv.1.beq i = true := by rw [e]; exact h
      have hk : ((.inl (kv.1 : Nat) : Key)) = .inl (i : Nat) := by rw [h]
      show lookL ((_, _) :: _) _ = _
      rw [hk, lookL_hit, List.find?_cons_of_pos (by exact h')]
      rfl
    · have hk : ((.inl (kv.1 : Nat) : Key)) ≠ .inl (i : Nat) := fun q => by
        have := Sum.inl.inj q
        omega
      show lookL ((_, _) :: _) _ = _
      rw [lookL_miss hk, List.find?_cons_of_neg (by rw [e]; exact h)]
      exact ih
theorem find_any {α : Type} (f : α → Bool) : ∀ l : List α, (l.find? f).isSome = l.any f
  | [] => rfl
  | a :: l => by
    rw [List.find?_cons, List.any_cons]
    cases f a with
    | true => rfl
    | false => rw [Bool.false_or]; exact find_any f l
theorem put_D (l : List (Nat × Nat)) (i k : Nat) : putKL (encD l) (.inl (i : Nat)) (nI k) = encD (Pa.putD l i k) := by
  unfold putKL Pa.putD
  have e : ∀ a : Nat, (a.beq i = true) = (a = i) := fun a => Nat.beq_eq
  have hk : ∀ a : Nat, decide (((.inl (a : Nat) : Key)) = .inl (i : Nat)) = Nat.beq a i := fun a => by
    by_cases h : a = i
    · subst h; simp
    · have h1 : a.beq i = false := by rw [← Bool.not_eq_true, e]; exact h
      rw [h1]
      exact decide_eq_false fun q => by have := Sum.inl.inj q; omega
  have e1 : (lookL (encD l) (.inl (i : Nat))).isSome = l.any fun kv => Nat.beq kv.1 i := by
    rw [look_D]
    unfold Pa.lookN
    rw [Option.isSome_map, Option.isSome_map]
    exact find_any _ l
  rw [e1]
  by_cases h : (l.any fun kv => Nat.beq kv.1 i) = true
  · rw [if_pos h, if_pos h]
    unfold encD
    rw [List.map_map, List.map_map]
    refine List.map_congr_left fun kv _ => ?_
    have := hk kv.1
    by_cases hh : Nat.beq kv.1 i = true
    · rw [hh] at this
      simp only [Function.comp, if_pos hh, if_pos (of_decide_eq_true this)]
    · rw [Bool.of_not_eq_true hh] at this
      simp only [Function.comp, if_neg hh, if_neg (of_decide_eq_false this)]
  · rw [if_neg h, if_neg h]
    unfold encD
    rw [List.map_append]
    rfl
theorem putD_len (l : List (Nat × Nat)) (i k : Nat) : (Pa.putD l i k).length ≤ l.length + 1 := by
  unfold Pa.putD
  split <;> simp
abbrev lf4 : Sv := (sIf (tAnd' (eTest (eB eqV' (eB fIx (eVar 1) (eVar 6)) (eB fIx (eVar 1) (eVar 8)))) (tAnd' (eTest (eB eqV' (eB fIx (eVar 1) (eVar 7)) (eB fIx (eVar 1) (eVar 9)))) (eTest (eB neV' (eB fIx (eVar 1) (eVar 6)) (eB fIx (eVar 1) (eVar 7)))))) (sRet (eL fTup (lCons (eVar 6) (lCons (eVar 7) (lCons (eVar 8) (lCons (eVar 9) lNil)))))) sNil)
abbrev lf3 : Sv := sFor (eRng2 (eB (addV []) (eVar 8) (eC (.int 1))) (eVar 5)) (.nm 9) lf4
abbrev lf2 : Sv := sFor (eRng2 (eB (addV []) (eVar 7) (eC (.int 1))) (eVar 5)) (.nm 8) lf3
abbrev lf1 : Sv := sFor (eRng2 (eB (addV []) (eVar 6) (eC (.int 1))) (eVar 5)) (.nm 7) lf2
section
variable {v0 v2 v3 v4 : Option LV} {D : LV} {H : LH} {n : Nat} {g : Nat → Nat}
abbrev lfE (v0 : Option LV) (D : LV) (v2 v3 v4 : Option LV) (n : Nat) (x6 x7 x8 x9 : Option LV) : LE := [v0, some D, v2, v3, v4, some (nI n), x6, x7, x8, x9]
theorem lf3_ok (hx : ∀ i, i < n → fIx D (nI i) H = .ok (nI (g i)) H) (hn : n ≤ 100) {a b c : Nat} (ha : a < n) (hb : b < n) (hc : c < n) (x9 : Option LV) : (match Pa.lfD g n a b c with
    | some r => lf3 (lfE v0 D v2 v3 v4 n (some (nI a)) (some (nI b)) (some (nI c)) x9) H = .rt (encX r) H
    | none => ∃ y9, lf3 (lfE v0 D v2 v3 v4 n (some (nI a)) (some (nI b)) (some (nI c)) x9) H = .nx (lfE v0 D v2 v3 v4 n (some (nI a)) (some (nI b)) (some (nI c)) y9) H) := by
  have q := for_find (g := .nm 9) (body := lf4) nI (fun env hh => ∃ y9, env = lfE v0 D v2 v3 v4 n (some (nI a)) (some (nI b)) (some (nI c)) y9 ∧ hh = H) encX
    (fun d => if Nat.beq (g a) (g c) && (Nat.beq (g b) (g d) && !Nat.beq (g a) (g b)) then some (a, b, c, d) else none) (Pa.frm (c + 1) n) (lfE v0 D v2 v3 v4 n (some (nI a)) (some (nI b)) (some (nI c)) x9) H ⟨x9, rfl, rfl⟩ H (by
      rintro d m env hh ⟨y9, rfl, rfl⟩
      have hd := frm_lt m
      refine ⟨lfE v0 D v2 v3 v4 n (some (nI a)) (some (nI b)) (some (nI c)) (some (nI d)), rfl, ?_⟩
      have t : (tAnd' (eTest (eB eqV' (eB fIx (eVar 1) (eVar 6)) (eB fIx (eVar 1) (eVar 8)))) (tAnd' (eTest (eB eqV' (eB fIx (eVar 1) (eVar 7)) (eB fIx (eVar 1) (eVar 9)))) (eTest (eB neV' (eB fIx (eVar 1) (eVar 6)) (eB fIx (eVar 1) (eVar 7)))))) (lfE v0 D v2 v3 v4 n (some (nI a)) (some (nI b)) (some (nI c)) (some (nI d))) hh = .ok (Nat.beq (g a) (g c) && (Nat.beq (g b) (g d) && !Nat.beq (g a) (g b))) hh :=
        tAnd_ok (test_ok (b_ok (b_ok rfl rfl (hx a ha)) (b_ok rfl rfl (hx c hc)) (eq_nat _ _ _))) (tAnd_ok (test_ok (b_ok (b_ok rfl rfl (hx b hb)) (b_ok rfl rfl (hx d hd)) (eq_nat _ _ _))) (test_ok (b_ok (b_ok rfl rfl (hx a ha)) (b_ok rfl rfl (hx b hb)) (ne_nat _ _ _))))
      cases e : Nat.beq (g a) (g c) && (Nat.beq (g b) (g d) && !Nat.beq (g a) (g b)) with
      | true =>
        rw [e] at t
        simp only [if_true]
        exact sIf_t t (by simp [encX])
      | false =>
        rw [e] at t
        simp only [Bool.false_eq_true, if_false]
        exact ⟨_, _, .inl (sIf_no t), _, rfl, rfl⟩)
  have r := sFor_run (g := .nm 9) (s := lf4) (frm_ok (ea := eB (addV []) (eVar 8) (eC (.int 1))) (eb := eVar 5) (env := lfE v0 D v2 v3 v4 n (some (nI a)) (some (nI b)) (some (nI c)) x9) (h := H) (a := c) (n := n) rfl rfl (by omega) (by omega))
  unfold lf3
  rw [r]
  unfold Pa.lfD
  revert q
  cases (Pa.frm (c + 1) n).findSome? fun d => if Nat.beq (g a) (g c) && (Nat.beq (g b) (g d) && !Nat.beq (g a) (g b)) then some (a, b, c, d) else none with
  | some r => exact fun q => q
  | none =>
    rintro ⟨e2, h', q, y9, rfl, rfl⟩
    exact ⟨y9, q⟩
theorem lf2_ok (hx : ∀ i, i < n → fIx D (nI i) H = .ok (nI (g i)) H) (hn : n ≤ 100) {a b : Nat} (ha : a < n) (hb : b < n) (x8 x9 : Option LV) : (match Pa.lfC g n a b with
    | some r => lf2 (lfE v0 D v2 v3 v4 n (some (nI a)) (some (nI b)) x8 x9) H = .rt (encX r) H
    | none => ∃ y8 y9, lf2 (lfE v0 D v2 v3 v4 n (some (nI a)) (some (nI b)) x8 x9) H = .nx (lfE v0 D v2 v3 v4 n (some (nI a)) (some (nI b)) y8 y9) H) := by
  have q := for_find (g := .nm 8) (body := lf3) nI (fun env hh => ∃ y8 y9, env = lfE v0 D v2 v3 v4 n (some (nI a)) (some (nI b)) y8 y9 ∧ hh = H) encX
    (fun c => Pa.lfD g n a b c) (Pa.frm (b + 1) n) (lfE v0 D v2 v3 v4 n (some (nI a)) (some (nI b)) x8 x9) H ⟨x8, x9, rfl, rfl⟩ H (by
      rintro c m env hh ⟨y8, y9, rfl, rfl⟩
      have f := lf3_ok (v0 := v0) (v2 := v2) (v3 := v3) (v4 := v4) hx hn ha hb (frm_lt m) y9
      refine ⟨lfE v0 D v2 v3 v4 n (some (nI a)) (some (nI b)) (some (nI c)) y9, rfl, ?_⟩
      revert f
      cases Pa.lfD g n a b c with
      | some r => exact fun q => q
      | none =>
        rintro ⟨z9, q⟩
        exact ⟨_, _, .inl q, _, _, rfl, rfl⟩)
  have r := sFor_run (g := .nm 8) (s := lf3) (frm_ok (ea := eB (addV []) (eVar 7) (eC (.int 1))) (eb := eVar 5) (env := lfE v0 D v2 v3 v4 n (some (nI a)) (some (nI b)) x8 x9) (h := H) (a := b) (n := n) rfl rfl (by omega) (by omega))
  unfold lf2
  rw [r]
  unfold Pa.lfC
  revert q
  cases (Pa.frm (b + 1) n).findSome? fun c => Pa.lfD g n a b c with
  | some r => exact fun q => q
  | none =>
    rintro ⟨e2, h', q, y8, y9, rfl, rfl⟩
    exact ⟨y8, y9, q⟩
theorem lf1_ok (hx : ∀ i, i < n → fIx D (nI i) H = .ok (nI (g i)) H) (hn : n ≤ 100) {a : Nat} (ha : a < n) (x7 x8 x9 : Option LV) : (match Pa.lfB g n a with
    | some r => lf1 (lfE v0 D v2 v3 v4 n (some (nI a)) x7 x8 x9) H = .rt (encX r) H
    | none => ∃ y7 y8 y9, lf1 (lfE v0 D v2 v3 v4 n (some (nI a)) x7 x8 x9) H = .nx (lfE v0 D v2 v3 v4 n (some (nI a)) y7 y8 y9) H) := by
  have q := for_find (g := .nm 7) (body := lf2) nI (fun env hh => ∃ y7 y8 y9, env = lfE v0 D v2 v3 v4 n (some (nI a)) y7 y8 y9 ∧ hh = H) encX
    (fun b => Pa.lfC g n a b) (Pa.frm (a + 1) n) (lfE v0 D v2 v3 v4 n (some (nI a)) x7 x8 x9) H ⟨x7, x8, x9, rfl, rfl⟩ H (by
      rintro b m env hh ⟨y7, y8, y9, rfl, rfl⟩
      have f := lf2_ok (v0 := v0) (v2 := v2) (v3 := v3) (v4 := v4) hx hn ha (frm_lt m) y8 y9
      refine ⟨lfE v0 D v2 v3 v4 n (some (nI a)) (some (nI b)) y8 y9, rfl, ?_⟩
      revert f
      cases Pa.lfC g n a b with
      | some r => exact fun q => q
      | none =>
        rintro ⟨z8, z9, q⟩
        exact ⟨_, _, .inl q, _, _, _, rfl, rfl⟩)
  have r := sFor_run (g := .nm 7) (s := lf2) (frm_ok (ea := eB (addV []) (eVar 6) (eC (.int 1))) (eb := eVar 5) (env := lfE v0 D v2 v3 v4 n (some (nI a)) x7 x8 x9) (h := H) (a := a) (n := n) rfl rfl (by omega) (by omega))
  unfold lf1
  rw [r]
  unfold Pa.lfB
  revert q
  cases (Pa.frm (a + 1) n).findSome? fun b => Pa.lfC g n a b with
  | some r => exact fun q => q
  | none =>
    rintro ⟨e2, h', q, y7, y8, y9, rfl, rfl⟩
    exact ⟨y7, y8, y9, q⟩
theorem lf0_ok (hx : ∀ i, i < n → fIx D (nI i) H = .ok (nI (g i)) H) (hn : n ≤ 100) {r : Nat × Nat × Nat × Nat} (e : Pa.lfA g n = some r) : (sFor (eRng1 (eVar 5)) (.nm 6) lf1) (lfE v0 D v2 v3 v4 n none none none none) H = .rt (encX r) H := by
  have q := for_find (g := .nm 6) (body := lf1) nI (fun env hh => ∃ y6 y7 y8 y9, env = lfE v0 D v2 v3 v4 n y6 y7 y8 y9 ∧ hh = H) encX
    (fun a => Pa.lfB g n a) (List.range n) (lfE v0 D v2 v3 v4 n none none none none) H ⟨none, none, none, none, rfl, rfl⟩ H (by
      rintro a m env hh ⟨y6, y7, y8, y9, rfl, rfl⟩
      have f := lf1_ok (v0 := v0) (v2 := v2) (v3 := v3) (v4 := v4) hx hn (List.mem_range.1 m) y7 y8 y9
      refine ⟨lfE v0 D v2 v3 v4 n (some (nI a)) y7 y8 y9, rfl, ?_⟩
      revert f
      cases Pa.lfB g n a with
      | some r => exact fun q => q
      | none =>
        rintro ⟨z7, z8, z9, q⟩
        exact ⟨_, _, .inl q, _, _, _, _, rfl, rfl⟩)
  rw [sFor_run (rng0_ok (m := n) (h' := H) rfl (by omega))]
  unfold Pa.lfA at e
  rw [e] at q
  exact q
end
theorem foldl_putD_len (k : Nat) : ∀ (b : Bl) (D : List (Nat × Nat)), (b.foldl (fun D i => Pa.putD D i k) D).length ≤ D.length + b.length
  | [], D => by simp
  | i :: b, D => by
    have h1 := foldl_putD_len k b (Pa.putD D i k)
    have h2 := putD_len D i k
    simp only [List.foldl_cons, List.length_cons]
    omega
theorem foldl_putDs_len : ∀ (l : List (Bl × Nat)) (D : List (Nat × Nat)), (∀ x ∈ l, x.1.length ≤ 100) → (l.foldl Pa.putDs D).length ≤ D.length + 100 * l.length
  | [], D, _ => by simp
  | x :: l, D, h => by
    have h1 := foldl_putDs_len l (Pa.putDs D x) fun y m => h y (List.mem_cons_of_mem _ m)
    have h2 := foldl_putD_len x.2 x.1 D
    have h3 := h x (List.mem_cons_self ..)
    have e : (Pa.putDs D x).length = (x.1.foldl (fun D i => Pa.putD D i x.2) D).length := rfl
    simp only [List.foldl_cons, List.length_cons]
    omega
theorem dict_ok {p : Pt} (g : Gd p) (h : LH) : ∃ y2 y3 y4, (sFor (eEnum (eVar 0)) (.tp [2, 3]) (sFor (eIt (eVar 3)) (.nm 4) (sSub (eVar 1) (eVar 4) (eVar 2)))) [some (encP p), some (.ref h.length), none, none, none, none, none, none, none, none] (h ++ [.dct []])
    = .nx [some (encP p), some (.ref h.length), y2, y3, y4, none, none, none, none, none] (h ++ [.dct (encD (Pa.dl p))]) := by
  obtain ⟨e2, h2, el, y2, y3, y4, he, hh⟩ := for_pre (g := .tp [2, 3]) (body := sFor (eIt (eVar 3)) (.nm 4) (sSub (eVar 1) (eVar 4) (eVar 2))) (fun x : Bl × Nat => LV.tup [nI x.2, encB x.1])
    (fun l env hh => ∃ x2 x3 x4, env = [some (encP p), some (.ref h.length), x2, x3, x4, none, none, none, none, none] ∧ hh = h ++ [.dct (encD (l.foldl Pa.putDs []))])
    (p.zip (List.range p.length)) [some (encP p), some (.ref h.length), none, none, none, none, none, none, none, none] (h ++ [.dct []]) ⟨none, none, none, rfl, rfl⟩ (by
      rintro l ⟨b, k⟩ l2 er env hh ⟨x2, x3, x4, rfl, rfl⟩
      refine ⟨[some (encP p), some (.ref h.length), some (nI k), some (encB b), x4, none, none, none, none, none], rfl, ?_⟩
      have hlens : ∀ x ∈ l, x.1.length ≤ 100 := fun x m => (g.b x.1 (List.of_mem_zip (show x ∈ p.zip (List.range p.length) by rw [er]; exact List.mem_append_left _ m)).1).2
      have hll : l.length ≤ 100 := by
        have h1 := congrArg List.length er
        rw [List.length_zip, List.length_append] at h1
        have := g.l
        omega
      have hbl : b.length ≤ 100 := (g.b b (List.of_mem_zip (show (b, k) ∈ p.zip (List.range p.length) by rw [er]; simp)).1).2
      have hD := foldl_putDs_len l [] hlens
      generalize hDe : l.foldl Pa.putDs [] = D at hD
      obtain ⟨e2, h2, el, y4, he, hh⟩ := for_pre (g := .nm 4) (body := sSub (eVar 1) (eVar 4) (eVar 2)) nI
        (fun l' env hh => ∃ x4, env = [some (encP p), some (.ref h.length), some (nI k), some (encB b), x4, none, none, none, none, none] ∧ hh = h ++ [.dct (encD (l'.foldl (fun D i => Pa.putD D i k) D))])
        b [some (encP p), some (.ref h.length), some (nI k), some (encB b), x4, none, none, none, none, none] (h ++ [.dct (encD D)]) ⟨x4, rfl, rfl⟩ (by
          rintro l' i l2' er' env hh ⟨x4, rfl, rfl⟩
          refine ⟨[some (encP p), some (.ref h.length), some (nI k), some (encB b), some (nI i), none, none, none, none, none], rfl, _, h ++ [.dct (encD (Pa.putD (l'.foldl (fun D i => Pa.putD D i k) D) i k))], .inl ?_, some (nI i), rfl, ?_⟩
          · have h1 := foldl_putD_len k l' D
            have hl' : l'.length ≤ 100 := by
              have h1 := congrArg List.length er'
              rw [List.length_append] at h1
              omega
            generalize l'.foldl (fun D i => Pa.putD D i k) D = D' at h1
            have s : subAt (nI k) (.ref h.length) (nI i) [some (encP p), some (.ref h.length), some (nI k), some (encB b), some (nI i), none, none, none, none, none] (h ++ [.dct (encD D')]) = .nx [some (encP p), some (.ref h.length), some (nI k), some (encB b), some (nI i), none, none, none, none, none] (h ++ [.dct (encD (Pa.putD D' i k))]) := by
              unfold subAt
              simp only [getLast_app]
              show (if noRef (nI k) = true ∧ (encD D').length ≤ LIM then _ else _) = _
              rw [if_pos ⟨by simp, by unfold encD; rw [List.length_map, LIM_eq]; simp at hD; omega⟩, put_D, set_last]
            exact s
          · rw [List.foldl_append]; rfl)
      subst he hh
      refine ⟨_, _, .inl ((sFor_run (xs := b.map nI) (h' := h ++ [.dct (encD D)]) (by unfold encB; rfl)).trans el), _, _, _, rfl, ?_⟩
      rw [List.foldl_append, hDe]
      rfl)
  subst he hh
  refine ⟨y2, y3, y4, (sFor_run (xs := (p.zip (List.range p.length)).map fun x => LV.tup [nI x.2, encB x.1]) (h' := h ++ [.dct []]) ?_).trans el⟩
  unfold eEnum
  rw [var_ok (v := encP p) rfl, rb_ok]
  unfold encP
  rw [itemsOf_tup, rb_ok, enumL_zip0]
theorem law_first_ok {n : Nat} (hn : n = 4 ∨ n = 5 ∨ n = 6) {p : Pt} (hp : p ∈ Pa.parts n) (hc : Pa.oCr p = true) (h : LH) : ∃ x, Pa.firstX p = some x ∧ M_law_first [encP p] h = .ok (encX x) h := by
  obtain ⟨x, e1, e2, e3, e4⟩ := Pa.crossX hn hp hc
  have R := rt_of (show n ≤ 8 by omega) hp
  refine ⟨x, e1, fnB_run [some (encP p), none, none, none, none, none, none, none, none, none] rfl ?_⟩
  obtain ⟨y2, y3, y4, d⟩ := dict_ok R.g h
  unfold m_law_first
  have s1 : (sSet 1 eDict0) [some (encP p), none, none, none, none, none, none, none, none, none] h = .nx [some (encP p), some (.ref h.length), none, none, none, none, none, none, none, none] (h ++ [.dct []]) := rfl
  rw [sSeq_nx s1, sSeq_nx d]
  have s5 : (sSet 5 (eL fLen (lCons (eVar 1) lNil))) [some (encP p), some (.ref h.length), y2, y3, y4, none, none, none, none, none] (h ++ [.dct (encD (Pa.dl p))]) = .nx (lfE (some (encP p)) (.ref h.length) y2 y3 y4 n none none none none) (h ++ [.dct (encD (Pa.dl p))]) := by
    refine sSet_ok (l1_ok (x := .ref h.length) (h1 := h ++ [.dct (encD (Pa.dl p))]) rfl ?_)
    unfold fLen seqOf
    simp only [getLast_app]
    rw [show (encD (Pa.dl p)).length = n by unfold encD; rw [List.length_map, e3]]
  rw [sSeq_nx s5]
  have hx : ∀ i, i < n → fIx (.ref h.length) (nI i) (h ++ [.dct (encD (Pa.dl p))]) = .ok (nI ((Pa.blockOf p).getD i 0)) (h ++ [.dct (encD (Pa.dl p))]) := fun i hi => by
    unfold fIx
    simp only [getLast_app]
    show optR (lookL _ (.inl (i : Nat))) _ = _
    rw [look_D, e4 i hi]
    rfl
  have f := lf0_ok (v0 := some (encP p)) (v2 := y2) (v3 := y3) (v4 := y4) hx (by omega) e2
  refine (congrArg (fun z => trimR h.length (endR z)) (sSeq_rt f)).trans ?_
  exact end_rt (s := fun _ _ => .rt (encX x) (h ++ [.dct (encD (Pa.dl p))])) (env := []) (h := h) rfl (by show noRef (LV.tup _) = true; simp) take_app
end K71
end
section
set_option Elab.async false
set_option linter.all false
set_option maxRecDepth 100000
namespace K71
open PySem PySem.Spec PyProof.Rows L2 Lv
/-! ### what is refused -/
theorem is_block_gen {b : Bl} (h0 : b ≠ []) (h1 : b.length ≤ 100) (h : LH) : M_is_block [encB b] h = .ok (.bl ((b.zip b.tail).all fun q => Nat.blt q.1 q.2)) h := by
  refine fnB_run [some (encB b), none, none, none] rfl ?_
  have l1 : (eL fAll (lCons (eLc false (eIt (eVar 0)) (.nm 1) tYes' (eL (fCall 1 M_is_integer []) (lCons (eVar 1) lNil)) [1]) lNil)) [some (encB b), none, none, none] h = .ok (.bl true) h := by
    rw [eL_d, lCons_d, eLc_map (α := Nat) (h' := h) nI (fun _ => .bl true) b]
    · have := map_all (fun _ : Nat => true) b h
      simp only [rb_ok, lNil_d]
      rw [this]
      simp
    · simp [encB]
    · intro i _
      refine ⟨_, rfl, fun acc => ⟨?_, by simp⟩⟩
      exact call1 (x := nI i) (h1 := h ++ [.lst acc]) (by simp [lwipe]) (integer_int _)
    · rw [LIM_eq]; omega
  have c1 : cutL (b.map nI) (some 1) none = b.tail.map nI := by have := cut_from (b.map nI) 1; simpa using this
  have l2 : (eL fAll (lCons (eLc false (eZip2 (eVar 0) (eSlice (eVar 0) (some (eC (.int 1))) none)) (.tp [2, 3]) tYes' (eB ltV (eVar 2) (eVar 3)) [2, 3]) lNil)) [some (encB b), none, none, none] h = .ok (.bl ((b.zip b.tail).all fun q => Nat.blt q.1 q.2)) h := by
    rw [eL_d, lCons_d, eLc_map (α := Nat × Nat) (h' := h) (fun q => LV.tup [nI q.1, nI q.2]) (fun q => .bl (Nat.blt q.1 q.2)) (b.zip b.tail)]
    · have := map_all (fun q : Nat × Nat => Nat.blt q.1 q.2) (b.zip b.tail) h
      simp only [rb_ok, lNil_d]
      rw [this]
    · unfold encB
      simp only [eZip2, eVar_d, eSlice_d, partL_some, partL_none, eC_d, rb_ok, List.getElem?_cons_zero, cutV_tup, c1]
      rw [← zipL_map]
    · rintro ⟨i, j⟩ _
      refine ⟨_, rfl, fun acc => ⟨?_, by simp⟩⟩
      simp only [lwipe, List.set_cons_succ, List.set_cons_zero, asg_tp]
      rw [b_ok (x := nI i) (y := nI j) (h1 := h ++ [.lst acc]) (h2 := h ++ [.lst acc]) (by simp) (by simp) rfl]
      unfold ltV
      rw [ltV_int, dlt]
    · rw [LIM_eq, List.length_zip]; omega
  have e0 := eq_len0 h0 h
  unfold m_is_block
  have t : (tOr' (tNot' (eTest (eU (fIsi tb_is_tuple) (eVar 0)))) (tOr' (eTest (eB eqV' (eL fLen (lCons (eVar 0) lNil)) (eC (.int 0)))) (tNot' (eTest (eL fAll (lCons (eLc false (eIt (eVar 0)) (.nm 1) tYes' (eL (fCall 1 M_is_integer []) (lCons (eVar 1) lNil)) [1]) lNil)))))) [some (encB b), none, none, none] h = .ok false h := by
    refine tOr_f (h1 := h) (tNot_ok (k := true) (test_ok (u_ok (x := encB b) (h1 := h) rfl rfl))) (tOr_f (h1 := h) (test_ok (b_ok (x := nI b.length) (h1 := h) (l1_ok (x := encB b) (h1 := h) rfl (by unfold encB; simp)) rfl e0)) (tNot_ok (k := true) (test_ok l1)))
  refine (congrArg (fun z => trimR h.length (endR z)) (sSeq_nx (sIf_no t))).trans ?_
  exact end_ret l2 (by simp) take_self
/-- a value whose blocks are told apart -/
theorem no_blocks {xs : List LV} {f : LV → Bool} (hf : ∀ x ∈ xs, ∀ h, M_is_block [x] h = .ok (.bl (f x)) h) (hx : xs.all f = false) (hl : xs.length ≤ 100) (h : LH) : M_is_parting [.tup xs] h = .ok (.bl false) h := by
  refine fnB_run [some (.tup xs), none, none, none, none] rfl ?_
  have l1 : (eL fAll (lCons (eLc false (eIt (eVar 0)) (.nm 3) tYes' (eL (fCall 1 M_is_block []) (lCons (eVar 3) lNil)) [3]) lNil)) [some (.tup xs), none, none, none, none] h = .ok (.bl false) h := by
    rw [eL_d, lCons_d, eLc_map (α := LV) (h' := h) id (fun x => .bl (f x)) xs]
    · have := map_all f xs h
      simp only [rb_ok, lNil_d]
      rw [this, hx]
    · simp
    · intro x m
      refine ⟨_, rfl, fun acc => ⟨?_, by simp⟩⟩
      exact call1 (x := x) (h1 := h ++ [.lst acc]) (by simp [lwipe]) (hf x m _)
    · rw [LIM_eq]; omega
  unfold m_is_parting
  have t : (tOr' (tNot' (eTest (eU (fIsi tb_is_tuple) (eVar 0)))) (tNot' (eTest (eL fAll (lCons (eLc false (eIt (eVar 0)) (.nm 3) tYes' (eL (fCall 1 M_is_block []) (lCons (eVar 3) lNil)) [3]) lNil))))) [some (.tup xs), none, none, none, none] h = .ok true h := by
    exact tOr_f (h1 := h) (tNot_ok (k := true) (test_ok (u_ok (x := .tup xs) (h1 := h) rfl rfl))) (tNot_ok (k := false) (test_ok l1))
  refine (congrArg (fun z => trimR h.length (endR z)) (sSeq_rt (sIf_t t (sRet_ok rfl)))).trans ?_
  exact end_rt (s := fun _ _ => .rt (.bl false) h) (env := []) (h := h) rfl (by simp) take_self
theorem no_tuple {v : LV} (hv : fIsi tb_is_tuple v = fun h => .ok (.bl false) h) (h : LH) : M_is_parting [v] h = .ok (.bl false) h := by
  refine fnB_run [some v, none, none, none, none] rfl ?_
  unfold m_is_parting
  have t : (tOr' (tNot' (eTest (eU (fIsi tb_is_tuple) (eVar 0)))) (tNot' (eTest (eL fAll (lCons (eLc false (eIt (eVar 0)) (.nm 3) tYes' (eL (fCall 1 M_is_block []) (lCons (eVar 3) lNil)) [3]) lNil))))) [some v, none, none, none, none] h = .ok true h :=
    tOr_t (tNot_ok (k := false) (test_ok (u_ok (x := v) (h1 := h) rfl (by rw [hv]))))
  refine (congrArg (fun z => trimR h.length (endR z)) (sSeq_rt (sIf_t t (sRet_ok rfl)))).trans ?_
  exact end_rt (s := fun _ _ => .rt (.bl false) h) (env := []) (h := h) rfl (by simp) take_self
/-- blocks that are right, but not together -/
theorem parting_gen {p : Pt} (gb : ∀ b ∈ p, b ≠ [] ∧ b.length ≤ 100 ∧ Pa.asc b = true) (hl : p.length ≤ 100) (h8 : p.flatten.length ≤ 8) {js ks : List Nat} (pj : js.Perm p.flatten) (aj : Pa.asc js = true) (pk : ks.Perm (p.map Pa.hd)) (ak : Pa.asc ks = true)
    (hne : (Pa.beqB js (List.range p.flatten.length) && Pa.beqB (p.map Pa.hd) ks) = false) (h : LH) : M_is_parting [encP p] h = .ok (.bl false) h := by
  refine fnB_run [some (encP p), none, none, none, none] rfl ?_
  have l1 : (eL fAll (lCons (eLc false (eIt (eVar 0)) (.nm 3) tYes' (eL (fCall 1 M_is_block []) (lCons (eVar 3) lNil)) [3]) lNil)) [some (encP p), none, none, none, none] h = .ok (.bl true) h := by
    rw [eL_d, lCons_d, eLc_map (α := Bl) (h' := h) encB (fun _ => .bl true) p]
    · have := map_all (fun _ : Bl => true) p h
      simp only [rb_ok, lNil_d]
      rw [this]
      simp
    · simp [encP]
    · intro b hb
      refine ⟨_, rfl, fun acc => ⟨?_, by simp⟩⟩
      exact call1 (x := encB b) (h1 := h ++ [.lst acc]) (by simp [lwipe]) (is_block_ok (gb b hb).1 (gb b hb).2.1 (gb b hb).2.2 _)
    · rw [LIM_eq]; omega
  have l2 : (eLc2 false (eIt (eVar 0)) (.nm 3) tYes' (eIt (eVar 3)) (.nm 4) tYes' (eVar 4) [3, 4] [4]) [some (encP p), none, none, none, none] h = .ok (.fl (p.flatten.map nI)) h := by
    rw [eLc2_map (α := Bl) (β := Nat) (h' := h) encB nI nI id p]
    · simp [List.flatMap_id]
    · simp [encP]
    · intro b hb
      exact ⟨_, rfl, fun acc => ⟨by simp [lwipe, encB], fun i _ => ⟨_, rfl, fun acc => ⟨by simp [lwipe], by simp⟩⟩⟩⟩
    · rw [List.flatMap_id, LIM_eq]; omega
  have l3 : (eLc false (eIt (eVar 0)) (.nm 3) tYes' (eB fIx (eVar 3) (eC (.int 0))) [3]) [some (encP p), some (.fl (p.flatten.map nI)), none, none, none] h = .ok (.fl ((p.map Pa.hd).map nI)) h := by
    rw [eLc_map (α := Bl) (h' := h) encB (fun b => nI (Pa.hd b)) p]
    · rw [List.map_map]; rfl
    · simp [encP]
    · intro b hb
      refine ⟨_, rfl, fun acc => ⟨?_, by simp⟩⟩
      simp [lwipe, encB, at_hd (gb b hb).1]
    · rw [LIM_eq]; omega
  have srt : ∀ {js l : List Nat}, js.Perm l → Pa.asc js = true → fSorted [.fl (l.map nI)] h = .ok (.fl (js.map nI)) h := fun {js l} pj aj => by
    have := sorted_ints' (is := l.map fun i : Nat => (i : Int)) (js := js.map fun i : Nat => (i : Int)) (pj.map _) (by
      rw [List.pairwise_map]
      exact (asc_pw aj).imp fun {a b} h => by omega) h
    rwa [List.map_map, List.map_map] at this
  have sh : ∀ l : List Nat, shp (.fl (l.map nI)) 64 = true := fun l => by rw [shp_fl]; exact shps_map fun i _ => by simp
  have eqs : ∀ a b : List Nat, eqV' (.fl (a.map nI)) (.fl (b.map nI)) h = .ok (.bl (Pa.beqB a b)) h := fun a b => by rw [eqV_d (sh a) (sh b), eqD_fl, eqDs_B]
  have r1 : (eListR1 false (eL fLen (lCons (eVar 1) lNil))) [some (encP p), some (.fl (p.flatten.map nI)), some (.fl ((p.map Pa.hd).map nI)), none, none] h = .ok (.fl ((List.range p.flatten.length).map nI)) h := by
    have f : (eL fLen (lCons (eVar 1) lNil)) [some (encP p), some (.fl (p.flatten.map nI)), some (.fl ((p.map Pa.hd).map nI)), none, none] h = .ok (nI p.flatten.length) h := by
      exact l1_ok (x := .fl (p.flatten.map nI)) (h1 := h) rfl (by rw [fLen_fl, List.length_map])
    unfold eListR1
    rw [f, rb_ok]
    unfold rgK
    simp only
    rw [if_pos ⟨⟨by decide, by decide⟩, ⟨by omega, by omega⟩, by rw [LIM_eq]; omega⟩]
    unfold mkSq rangeL
    simp only [Bool.false_eq_true, if_false]
    rw [show ((p.flatten.length : Nat) : Int) - 0 = (p.flatten.length : Nat) from by omega, Int.toNat_natCast]
    simp
  unfold m_is_parting
  have t : (tOr' (tNot' (eTest (eU (fIsi tb_is_tuple) (eVar 0)))) (tNot' (eTest (eL fAll (lCons (eLc false (eIt (eVar 0)) (.nm 3) tYes' (eL (fCall 1 M_is_block []) (lCons (eVar 3) lNil)) [3]) lNil))))) [some (encP p), none, none, none, none] h = .ok false h := by
    exact tOr_f (h1 := h) (tNot_ok (k := true) (test_ok (u_ok (x := encP p) (h1 := h) rfl rfl))) (tNot_ok (k := true) (test_ok l1))
  rw [sSeq_nx (sIf_no t)]
  rw [sSeq_nx (env' := [some (encP p), some (.fl (p.flatten.map nI)), none, none, none]) (h' := h) (sSet_ok l2)]
  rw [sSeq_nx (env' := [some (encP p), some (.fl (p.flatten.map nI)), some (.fl ((p.map Pa.hd).map nI)), none, none]) (h' := h) (sSet_ok l3)]
  have hle : decide (((p.flatten.length : Nat) : Int) ≤ 8) = true := decide_eq_true (by omega)
  have b1 : (eB leV (eL fLen (lCons (eVar 1) lNil)) (eC (.int 8))) [some (encP p), some (.fl (p.flatten.map nI)), some (.fl ((p.map Pa.hd).map nI)), none, none] h = .ok (.bl true) h :=
    b_ok (x := nI p.flatten.length) (y := .int 8) (h1 := h) (h2 := h) (l1_ok (x := .fl (p.flatten.map nI)) (h1 := h) rfl (by rw [fLen_fl, List.length_map])) rfl (by unfold leV; rw [leV_int, hle])
  have b2 : (eB eqV' (eL fSorted (lCons (eVar 1) lNil)) (eListR1 false (eL fLen (lCons (eVar 1) lNil)))) [some (encP p), some (.fl (p.flatten.map nI)), some (.fl ((p.map Pa.hd).map nI)), none, none] h = .ok (.bl (Pa.beqB js (List.range p.flatten.length))) h :=
    b_ok (h1 := h) (h2 := h) (l1_ok (h1 := h) rfl (srt pj aj)) r1 (eqs _ _)
  have b3 : (eB eqV' (eVar 2) (eL fSorted (lCons (eVar 2) lNil))) [some (encP p), some (.fl (p.flatten.map nI)), some (.fl ((p.map Pa.hd).map nI)), none, none] h = .ok (.bl (Pa.beqB (p.map Pa.hd) ks)) h :=
    b_ok (h1 := h) (h2 := h) rfl (l1_ok (h1 := h) rfl (srt pk ak)) (eqs _ _)
  refine end_ret (v := .bl false) (h1 := h) (eAnd_t (h1 := h) b1 ?_) (by simp) take_self
  cases e : Pa.beqB js (List.range p.flatten.length) with
  | false =>
    rw [e] at b2
    exact eAnd_f b2
  | true =>
    rw [e] at b2 hne
    rw [Bool.true_and] at hne
    rw [hne] at b3
    exact eAnd_t b2 b3
def ODP : List LV := [.non, .int 3, .str "0", .fl [], .fl [.tup [.int 0]], .tup [.tup []], .tup [.tup [.int 1], .tup [.int 0]], .tup [.tup [.int 1, .int 0]], .tup [.tup [.int 0, .int 2]], .tup [.tup [.bl true]]]
theorem blk_nil (h : LH) : M_is_block [.tup []] h = .ok (.bl false) h := by
  refine fnB_run [some (.tup []), none, none, none] rfl ?_
  unfold m_is_block
  have t : (tOr' (tNot' (eTest (eU (fIsi tb_is_tuple) (eVar 0)))) (tOr' (eTest (eB eqV' (eL fLen (lCons (eVar 0) lNil)) (eC (.int 0)))) (tNot' (eTest (eL fAll (lCons (eLc false (eIt (eVar 0)) (.nm 1) tYes' (eL (fCall 1 M_is_integer []) (lCons (eVar 1) lNil)) [1]) lNil)))))) [some (.tup []), none, none, none] h = .ok true h :=
    tOr_f (h1 := h) (tNot_ok (k := true) (test_ok (u_ok (x := .tup []) (h1 := h) rfl rfl))) (tOr_t (test_ok (b_ok (x := .int 0) (h1 := h) (l1_ok (x := .tup []) (h1 := h) rfl (by simp)) rfl (by rw [eqV_int]; rfl))))
  refine (congrArg (fun z => trimR h.length (endR z)) (sSeq_rt (sIf_t t (sRet_ok rfl)))).trans ?_
  exact end_rt (s := fun _ _ => .rt (.bl false) h) (env := []) (h := h) rfl (by simp) take_self
theorem blk_bl (h : LH) : M_is_block [.tup [.bl true]] h = .ok (.bl false) h := by
  refine fnB_run [some (.tup [.bl true]), none, none, none] rfl ?_
  unfold m_is_block
  have l1 : (eL fAll (lCons (eLc false (eIt (eVar 0)) (.nm 1) tYes' (eL (fCall 1 M_is_integer []) (lCons (eVar 1) lNil)) [1]) lNil)) [some (.tup [.bl true]), none, none, none] h = .ok (.bl false) h := by
    rw [eL_d, lCons_d, eLc_map (α := LV) (h' := h) id (fun _ => .bl false) [.bl true]]
    · rfl
    · simp
    · intro x m
      rw [List.mem_singleton.1 m]
      refine ⟨_, rfl, fun acc => ⟨?_, by simp⟩⟩
      exact call1 (x := .bl true) (h1 := h ++ [.lst acc]) (by simp [lwipe]) (integer_bl _)
    · rw [LIM_eq]; decide
  have t : (tOr' (tNot' (eTest (eU (fIsi tb_is_tuple) (eVar 0)))) (tOr' (eTest (eB eqV' (eL fLen (lCons (eVar 0) lNil)) (eC (.int 0)))) (tNot' (eTest (eL fAll (lCons (eLc false (eIt (eVar 0)) (.nm 1) tYes' (eL (fCall 1 M_is_integer []) (lCons (eVar 1) lNil)) [1]) lNil)))))) [some (.tup [.bl true]), none, none, none] h = .ok true h :=
    tOr_f (h1 := h) (tNot_ok (k := true) (test_ok (u_ok (x := .tup [.bl true]) (h1 := h) rfl rfl))) (tOr_f (test_ok (b_ok (x := .int 1) (h1 := h) (l1_ok (x := .tup [.bl true]) (h1 := h) rfl (by simp)) rfl (by rw [eqV_int]; rfl))) (tNot_ok (k := false) (test_ok l1)))
  refine (congrArg (fun z => trimR h.length (endR z)) (sSeq_rt (sIf_t t (sRet_ok rfl)))).trans ?_
  exact end_rt (s := fun _ _ => .rt (.bl false) h) (env := []) (h := h) rfl (by simp) take_self
theorem odd_no : ∀ v ∈ ODP, ∀ h, M_is_parting [v] h = .ok (.bl false) h := fun v m h => by
  simp only [ODP, List.mem_cons, List.not_mem_nil, or_false] at m
  rcases m with rfl | rfl | rfl | rfl | rfl | rfl | rfl | rfl | rfl | rfl
  · exact no_tuple rfl h
  · exact no_tuple rfl h
  · exact no_tuple rfl h
  · exact no_tuple rfl h
  · exact no_tuple rfl h
  · exact no_blocks (f := fun _ => false) (fun x m h => by rw [List.mem_singleton.1 m]; exact blk_nil h) rfl (by decide) h
  · exact parting_gen (p := [[1], [0]]) (js := [0, 1]) (ks := [0, 1]) (by decide) (by decide) (by decide) (.swap 1 0 []) rfl (.swap 1 0 []) rfl rfl h
  · exact no_blocks (f := fun _ => false) (fun x m h => by rw [List.mem_singleton.1 m]; exact is_block_gen (b := [1, 0]) (by decide) (by decide) h) rfl (by decide) h
  · exact parting_gen (p := [[0, 2]]) (js := [0, 2]) (ks := [0]) (by decide) (by decide) (by decide) (.refl _) rfl (.refl _) rfl rfl h
  · exact no_blocks (f := fun _ => false) (fun x m h => by rw [List.mem_singleton.1 m]; exact blk_bl h) rfl (by decide) h
/-! ### told -/
def RG (v : LV) : Prop := (rpOk v = true ∧ (rp v).cps.all (· < 0x110000) = true) ∧ noRef v = true
theorem shp_s {x : Str} (h : x.cps.all (· < 0x110000) = true) (n : Nat) : shp (.str x) n = true := by simpa only [shp] using h
theorem rg_odp : ∀ v ∈ ODP, RG v := fun v m => by
  simp only [ODP, List.mem_cons, List.not_mem_nil, or_false] at m
  rcases m with rfl | rfl | rfl | rfl | rfl | rfl | rfl | rfl | rfl | rfl <;> exact ⟨⟨by decide +kernel, by decide +kernel⟩, by simp⟩
section
variable {b : Ev} {env : LE} {h h' : LH} {v : LV}
theorem caught_part (e : b env h = .exn 6 [("value", v)] h') (r : RG v) : eLam "told" b HL_law_m_caught env h = .ok (.tup [.str "parting", .str (rp v)]) h' :=
  eLam_exn (o := some 1) (g := xTup [xC (.str "parting"), xR (xF "value")]) e (by rfl) (by
    have l : List.lookup ("value" : Str) [(("value" : Str), v)] = some v := rfl
    simp [xTup, xItems, xC, xR, xF, l, repr_ok r.1.1])
abbrev crF (x : Nat × Nat × Nat × Nat) : List (Str × LV) := [("d", nI x.2.2.2), ("c", nI x.2.2.1), ("b", nI x.2.1), ("a", nI x.1)]
theorem caught_cr {x : Nat × Nat × Nat × Nat} (e : b env h = .exn 8 (crF x) h') : eLam "told" b HL_law_m_caught env h = .ok (.tup [.str "crossed", nI x.1, nI x.2.1, nI x.2.2.1, nI x.2.2.2]) h' :=
  eLam_exn (o := some 1) (g := xTup [xC (.str "crossed"), xF "a", xF "b", xF "c", xF "d"]) e (by rfl) (by
    have l1 : List.lookup ("a" : Str) (crF x) = some (nI x.1) := rfl
    have l2 : List.lookup ("b" : Str) (crF x) = some (nI x.2.1) := rfl
    have l3 : List.lookup ("c" : Str) (crF x) = some (nI x.2.2.1) := rfl
    have l4 : List.lookup ("d" : Str) (crF x) = some (nI x.2.2.2) := rfl
    simp [xTup, xItems, xC, xF, l1, l2, l3, l4])
end
theorem comp_odd {v : LV} (hv : v ∈ ODP) (h : LH) : M_complement [v] h = .exn 6 [("value", v)] h := by
  have nr := (rg_odp v hv).2
  have n : M_need_parting [v] h = .exn 6 [("value", v)] h := by
    refine fnB_run [some v] rfl ?_
    unfold m_need_parting
    have t : (tNot' (eTest (eL (fCall 1 M_is_parting []) (lCons (eVar 0) lNil)))) [some v] h = .ok true h := tNot_ok (k := false) (test_ok (call1 rfl (odd_no v hv h)))
    exact end_exn (sIf_t t rfl) (by simp [nr]) take_self
  refine fnB_run [some v, none, none, none, none, none, none] rfl ?_
  unfold m_complement
  have s1 : (sExpr (eL (fCall 1 M_need_parting []) (lCons (eVar 0) lNil))) [some v, none, none, none, none, none, none] h = .exn 6 [("value", v)] [some v, none, none, none, none, none, none] h := by
    rw [sExpr_d, call1 rfl n]
    rfl
  exact end_exn (sSeq_exn s1) (by simp [nr]) take_self
theorem comp_cr {n : Nat} (hn : n = 4 ∨ n = 5 ∨ n = 6) {p : Pt} (hp : p ∈ Pa.parts n) {x : Nat × Nat × Nat × Nat} (e : Pa.firstX p = some x) (h : LH) : M_complement [encP p] h = .exn 8 (crF x) h := by
  have hn8 : n ≤ 8 := by omega
  have t := Pa.all71 n hn8 p hp
  unfold Pa.ok71 at t
  rw [Bool.and_eq_true] at t
  have I := ip_of t.1
  have g := I.gd hn8
  refine fnB_run [some (encP p), none, none, none, none, none, none] rfl ?_
  unfold m_complement
  have s1 : (sExpr (eL (fCall 1 M_need_parting []) (lCons (eVar 0) lNil))) [some (encP p), none, none, none, none, none, none] h = .nx [some (encP p), none, none, none, none, none, none] h := sExpr_ok (call1 rfl (need_ok hn8 I h))
  have s2 : (sSet 1 (eL (fCall 1 M_first_crossing []) (lCons (eVar 0) lNil))) [some (encP p), none, none, none, none, none, none] h = .nx [some (encP p), some (encX x), none, none, none, none, none] h := sSet_ok (call1 rfl (by
    have := first_ok g I.hi h
    rw [e] at this
    exact this))
  have s3 : (eTest (eB notNon (eVar 1) (eC .non))) [some (encP p), some (encX x), none, none, none, none, none] h = .ok true h := test_ok (b_ok rfl rfl rfl)
  have s4 : (sRaise 8 ["a", "b", "c", "d"] (lCons (eB fIx (eVar 1) (eC (.int 0))) (lCons (eB fIx (eVar 1) (eC (.int 1))) (lCons (eB fIx (eVar 1) (eC (.int 2))) (lCons (eB fIx (eVar 1) (eC (.int 3))) lNil))))) [some (encP p), some (encX x), none, none, none, none, none] h = .exn 8 (crF x) [some (encP p), some (encX x), none, none, none, none, none] h := rfl
  rw [sSeq_nx s1, sSeq_nx s2]
  exact end_exn (sSeq_exn (sIf_t s3 s4)) (by simp) take_self
end K71
end
section
set_option Elab.async false
set_option linter.all false
set_option maxRecDepth 100000
namespace K71
open PySem PySem.Spec PyProof.Rows L2 Lv
/-! ### two lists of partings, sorted -/
theorem beqB_rfl : ∀ a : List Nat, Pa.beqB a a = true
  | [] => rfl
  | a :: r => by simp [Pa.beqB, beqB_rfl r]
theorem beqP_rfl : ∀ a : Pt, Pa.beqP a a = true
  | [] => rfl
  | a :: r => by simp [Pa.beqP, beqB_rfl a, beqP_rfl r]
theorem encP_e (p : Pt) : encP p = Pa.ePt p := by unfold encP Pa.ePt; rfl
theorem noTwo_nd : ∀ {l : List Pt}, Pa.noTwo l = true → l.Pairwise (· ≠ ·)
  | [], _ => .nil
  | p :: r, h => by
    simp only [Pa.noTwo, Bool.and_eq_true, Bool.not_eq_true'] at h
    rw [List.pairwise_cons]
    refine ⟨fun q m e => ?_, noTwo_nd h.2⟩
    subst e
    have := List.any_eq_false.1 h.1 p m
    exact this (beqP_rfl p)
theorem remP_perm {p : Pt} : ∀ {l l' : List Pt}, Pa.remP p l = some l' → l.Perm (p :: l')
  | [], _, h => by simp [Pa.remP] at h
  | q :: r, l', h => by
    unfold Pa.remP at h
    by_cases e : Pa.beqP p q = true
    · rw [if_pos e] at h
      cases h
      rw [beqP_eq e]
    · rw [if_neg e] at h
      cases e2 : Pa.remP p r with
      | none => rw [e2] at h; cases h
      | some r' =>
        rw [e2] at h
        cases h
        exact ((remP_perm e2).cons q).trans (.swap p q r')
theorem permP_perm : ∀ {a l : List Pt}, Pa.permP a l = true → a.Perm l
  | [], l, h => by
    have : l = [] := List.isEmpty_iff.1 h
    rw [this]
  | p :: r, l, h => by
    unfold Pa.permP at h
    cases e : Pa.remP p l with
    | none => rw [e] at h; cases h
    | some l' =>
      rw [e] at h
      exact ((permP_perm h).cons p).trans (remP_perm e).symm
theorem sorted_pw {qs : List Pt} (hq : ∀ p ∈ qs, p ≠ [] ∨ qs.length ≤ 1) (h : LH) : ∃ ps : List Pt, ps.Perm qs ∧ ps.Pairwise (fun a b => PySem.W.dataLe false srtD (encP a) (encP b) = true) ∧ fSorted [.fl (qs.map encP)] h = .ok (.fl (ps.map encP)) h := by
  by_cases c : qs.length ≤ 1
  · refine ⟨qs, .refl _, ?_, ?_⟩
    · match qs, c with
      | [], _ => exact .nil
      | [q], _ => exact List.pairwise_singleton _ _
    · unfold fSorted
      simp only [lstOf]
      rw [if_pos (by simpa using c)]
  · have e1 := dOfs_map dOf_P qs
    have ne : ∀ p ∈ qs, p ≠ [] := fun p m => (hq p m).resolve_right c
    have e2 : srtB (qs.map dP) = true := by
      unfold srtB
      rw [Bool.and_eq_true, Bool.and_eq_true, Bool.or_eq_true]
      refine ⟨?_, .inl ?_, ?_⟩
      · rw [List.all_map, List.all_eq_true]
        intro p _
        show (qs.map dP).all _ = true
        rw [List.all_map, List.all_eq_true]
        exact fun q _ => alike_P p q
      · rw [List.all_map, List.all_eq_true]
        intro p m
        cases p with
        | nil => exact absurd rfl (ne [] m)
        | cons b p => rfl
      · rw [List.all_map, List.all_eq_true]
        intro p _
        obtain ⟨d, h1, _, h3⟩ := shp_d _ _ (shp_P p)
        rw [dOf_P] at h1
        cases h1
        simp only [Function.comp, decide_eq_true_iff]
        omega
    obtain ⟨ps, h1, h2⟩ := perm_map qs (srtL (qs.map encP)) (List.mergeSort_perm _ _)
    refine ⟨ps, h2, ?_, ?_⟩
    · have := srtL_pw (qs.map encP)
      rw [h1, List.pairwise_map] at this
      exact this
    · unfold fSorted
      simp only [lstOf]
      rw [if_neg (by simpa using c), e1]
      simp only
      rw [if_pos e2, h1]
/-- two orders of the same partings, sorted, are one -/
theorem sorted_two {U as bs : List Pt} (nt : ∀ p ∈ U, ∀ q ∈ U, p ≠ q → PySem.W.dataLe false srtD (encP p) (encP q) = true → PySem.W.dataLe false srtD (encP q) (encP p) = false) (nd : U.Pairwise (· ≠ ·))
    (pa : as.Perm U) (pb : bs.Perm U) (ha : as.Pairwise fun a b => PySem.W.dataLe false srtD (encP a) (encP b) = true) (hb : bs.Pairwise fun a b => PySem.W.dataLe false srtD (encP a) (encP b) = true) : as = bs := by
  refine uniq (le := fun a b => PySem.W.dataLe false srtD (encP a) (encP b)) (pa.trans pb.symm) ha ?_
  have ndb : bs.Pairwise (· ≠ ·) := pb.symm.pairwise nd fun {a b} h e => h e.symm
  exact (hb.and ndb).imp_of_mem fun {a b} ma mb h => nt a (pb.mem_iff.1 ma) b (pb.mem_iff.1 mb) h.2 h.1
theorem tie_of {n : Nat} (t : Pa.noTie n = true) : ∀ p ∈ Pa.uncs n, ∀ q ∈ Pa.uncs n, p ≠ q → PySem.W.dataLe false srtD (encP p) (encP q) = true → PySem.W.dataLe false srtD (encP q) (encP p) = false := by
  intro p hp q hq hne h
  have := List.all_eq_true.mp (List.all_eq_true.mp t p hp) q hq
  rw [← encP_e, ← encP_e, Bool.or_eq_true] at this
  rcases this with e | e
  · exact absurd (beqP_eq e) hne
  · rw [h, Bool.true_and] at e
    simpa using e
theorem uncs_ok {n : Nat} (hn : n ≤ 5) : Pa.noTie n = true ∧ Pa.cPerm n = true := by
  have h : n = 0 ∨ n = 1 ∨ n = 2 ∨ n = 3 ∨ n = 4 ∨ n = 5 := by omega
  rcases h with rfl | rfl | rfl | rfl | rfl | rfl
  · exact ⟨Pa.nt0, Pa.cp0⟩
  · exact ⟨Pa.nt1, Pa.cp1⟩
  · exact ⟨Pa.nt2, Pa.cp2⟩
  · exact ⟨Pa.nt3, Pa.cp3⟩
  · exact ⟨Pa.nt4, Pa.cp4⟩
  · exact ⟨Pa.nt5, Pa.cp5⟩
theorem parts_0 : Pa.parts 0 = [[]] := rfl
theorem uncs_ne {n : Nat} (hn : n ≤ 5) : ∀ p ∈ Pa.uncs n, p ≠ [] ∨ (Pa.uncs n).length ≤ 1 := fun p hp => by
  have hp' := (List.mem_filter.1 hp).1
  rcases nil_parts (by omega) hp' with h | h
  · exact .inl h
  · subst h
    refine .inr (Nat.le_trans (List.length_filter_le _ _) ?_)
    rw [parts_0]; decide
/-- what the law lists twice -/
theorem both_sorted {n : Nat} (hn : n ≤ 5) {qs : List Pt} (hq : qs.Perm (Pa.uncs n)) (h : LH) : ∃ v, shp v 64 = true ∧ fSorted [.fl ((qs.map Pa.comp).map encP)] h = .ok v h ∧ fSorted [.fl ((Pa.uncs n).map encP)] h = .ok v h := by
  obtain ⟨t, c⟩ := uncs_ok hn
  unfold Pa.cPerm at c
  rw [Bool.and_eq_true] at c
  have pc : (qs.map Pa.comp).Perm (Pa.uncs n) := (hq.map _).trans (permP_perm c.2)
  have hne := uncs_ne hn
  obtain ⟨as, pa, wa, ea⟩ := sorted_pw (qs := qs.map Pa.comp) (fun p m => by
    rw [pc.length_eq]
    exact hne p (pc.mem_iff.1 m)) h
  obtain ⟨bs, pb, wb, eb⟩ := sorted_pw hne h
  have e := sorted_two (tie_of t) (noTwo_nd c.1) (pa.trans pc) pb wa wb
  subst e
  refine ⟨_, ?_, ea, eb⟩
  rw [shp_fl]
  exact shps_map fun p _ => by
    unfold encP; rw [shp_tup]
    exact shps_map fun b _ => by
      unfold encB; rw [shp_tup]
      exact shps_map fun i _ => by simp
end K71
end
section
set_option Elab.async false
set_option linter.all false
set_option maxRecDepth 100000
namespace K71
open PySem PySem.Spec PyProof.Rows L2 Lv
/-! ### the law -/
theorem chk {a c : Ev} {env : LE} {h : LH} {v w : LV} {S : Sv} (ha : a env h = .ok v h) (hc : c env h = .ok w h) (hne : neV' v w h = .ok (.bl false) h) : sIf (eTest (eB neV' a c)) S sNil env h = .nx env h := by
  rw [sIf_d, eTest_d, eB_d, ha, rb_ok, hc, rb_ok, hne]
  rfl
theorem draw_nat {q : Pen} {k : Nat} (hq : q.Ok (k + 1)) {many : Nat} (h0 : 0 < many) (h1 : many < 1000) (r : LH) : ∃ d q', d < many ∧ q'.Ok k ∧ M_law_draw [.ref 0, .int (many : Nat)] (penO q :: r) = .ok (nI d) (penO q' :: r) := by
  obtain ⟨d, q', g0, g1, g2, g3⟩ := draw hq (many := (many : Nat)) (by omega) (by omega) r
  refine ⟨d.toNat, q', by omega, g2, ?_⟩
  rw [g3]
  congr 2
  omega
theorem ofS_unc : ofS "uncrossed" = fun p => !Pa.oCr p := by
  funext p
  unfold ofS
  rw [if_neg (by decide), if_neg (by decide), if_neg (by decide), if_neg (by decide), decide_eq_true rfl]
  simp
abbrev lapR : Sv := (sSeq (sSet 3 (eL (fCall 2 M_law_some_uncrossed []) (lCons (eVar 1) (lCons (eL (fCall 2 M_law_draw []) (lCons (eVar 1) (lCons (eC (.int 9)) lNil))) lNil))))
  (sIf (tNot' (eTest (eL (fCall 2 M_law_is_right []) (lCons (eVar 3) (lCons (eL (fCall 1 M_complement []) (lCons (eVar 3) lNil)) lNil))))) (sRet (eC (.bl false))) sNil))
theorem lapR_ok {q : Pen} {k : Nat} (hq : q.Ok (k + 20)) {s0 x2 x3 : Option LV} : ∃ y3 q', q'.Ok k ∧ lapR [s0, some (.ref 0), x2, x3, none, none, none, none] [penO q] = .nx [s0, some (.ref 0), x2, y3, none, none, none, none] [penO q'] := by
  obtain ⟨n, q1, hn, hq1, e1⟩ := draw_nat (k := k + 18) (hq.mono (by omega)) (many := 9) (by decide) (by decide) []
  obtain ⟨p, q2, hp, hc, hq2, e2⟩ := some_ok (k := k) (n := n) (by omega) (hq1.mono (by omega)) []
  have R := rg_of (by omega : n ≤ 8) hp hc
  refine ⟨some (encP p), q2, hq2, ?_⟩
  have s1 : (sSet 3 (eL (fCall 2 M_law_some_uncrossed []) (lCons (eVar 1) (lCons (eL (fCall 2 M_law_draw []) (lCons (eVar 1) (lCons (eC (.int 9)) lNil))) lNil)))) [s0, some (.ref 0), x2, x3, none, none, none, none] [penO q] = .nx [s0, some (.ref 0), x2, some (encP p), none, none, none, none] [penO q2] :=
    sSet_ok (call2 rfl (call2 rfl rfl e1) e2)
  unfold lapR
  rw [sSeq_nx s1]
  exact sIf_no (tNot_ok (k := true) (test_ok (call2 rfl (call1 rfl (comp_ok (by omega) R.ip R.up _)) (is_right_ok (by omega) R _))))
theorem lapsR_ok {q : Pen} {k : Nat} (hq : q.Ok (k + 60)) {s0 : Option LV} : ∃ y2 y3 q', q'.Ok k ∧ (sFor (eRng1 (eC (.int 3))) (.nm 2) lapR) [s0, some (.ref 0), none, none, none, none, none, none] [penO q] = .nx [s0, some (.ref 0), y2, y3, none, none, none, none] [penO q'] := by
  obtain ⟨e2, h2, el, y2, y3, q', he, hh, hq'⟩ := for_pre (g := .nm 2) (body := lapR) nI
    (fun l env hh => ∃ x2 x3 q', env = [s0, some (.ref 0), x2, x3, none, none, none, none] ∧ hh = [penO q'] ∧ q'.Ok (k + 20 * (3 - l.length)))
    (List.range 3) [s0, some (.ref 0), none, none, none, none, none, none] [penO q] ⟨_, _, q, rfl, rfl, hq⟩ (by
      rintro l i l2 er env hh ⟨x2, x3, q', rfl, rfl, hq'⟩
      obtain ⟨_, hl⟩ := range_pre er
      obtain ⟨y3, q2, h2, e⟩ := lapR_ok (q := q') (k := k + 20 * (3 - (l.length + 1))) (hq'.mono (by omega)) (s0 := s0) (x2 := some (nI i)) (x3 := x3)
      exact ⟨_, rfl, _, _, .inl e, _, _, q2, rfl, rfl, by rw [List.length_append, List.length_singleton]; exact h2⟩)
  subst he hh
  exact ⟨y2, y3, q', hq'.mono (by omega), (sFor_run (rng0_ok (m := 3) (h' := [penO q]) rfl (by decide))).trans el⟩
section
variable {s0 x2 x3 x5 x6 : Option LV} {h : LH}
theorem told_ok {n : Nat} (hn : n ≤ 5) (h : LH) : ∃ qs : List Pt, qs.Perm (Pa.uncs n) ∧ (eLc false (eIt (eL (fCall 2 M_partings []) (lCons (eVar 4) (lCons (eC (.str "uncrossed")) lNil)))) (.nm 3) tYes' (eL (fCall 1 M_complement []) (lCons (eVar 3) lNil)) [3]) [s0, some (.ref 0), x2, x3, some (nI n), none, none, none] h = .ok (.fl ((qs.map Pa.comp).map encP)) h := by
  obtain ⟨qs, pq, e⟩ := partings_ok (n := n) (by omega) (s := "uncrossed") (by simp [sorts]) h
  rw [ofS_unc] at pq
  refine ⟨qs, pq, ?_⟩
  have hm : ∀ p ∈ qs, p ∈ Pa.parts n ∧ Pa.oCr p = false := fun p m => by
    have := List.mem_filter.1 (pq.mem_iff.1 m)
    exact ⟨this.1, by simpa using this.2⟩
  rw [eLc_map (α := Pt) (h' := h) encP (fun p => encP (Pa.comp p)) qs]
  · rw [List.map_map]; rfl
  · rw [eIt_d, call2 (x := nI n) (y := .str "uncrossed") (h1 := h) (h2 := h) rfl rfl e, rb_ok, itemsOf_tup]
  · intro p m
    obtain ⟨hp, hc⟩ := hm p m
    have R := rg_of (by omega : n ≤ 8) hp hc
    exact ⟨[s0, some (.ref 0), x2, some (encP p), some (nI n), none, none, none], rfl, fun acc => ⟨call1 rfl (comp_ok (by omega) R.ip R.up _), encP_nr _⟩⟩
  · have h1 := pq.length_eq
    have h2 := List.length_filter_le (fun p => !Pa.oCr p) (Pa.parts n)
    have h3 := parts_len n (by omega)
    rw [LIM_eq]
    omega
theorem crossed_sec {p : Pt} (R : Gd p) (env : LE) (e : env[3]? = some (some (encP p))) (h : LH) : eTest (eL (fCall 1 M_law_m_is_crossed []) (lCons (eVar 3) lNil)) env h = .ok (Pa.oCr p) h := test_ok (call1 (var_ok e) (is_crossed_ok R h))
theorem second_ok {n : Nat} (hn : n ≤ 5) (h : LH) : (eLc false (eIt (eL (fCall 1 M_law_m_partings []) (lCons (eVar 4) lNil))) (.nm 3) (tNot' (eTest (eL (fCall 1 M_law_m_is_crossed []) (lCons (eVar 3) lNil)))) (eVar 3) [3]) [s0, some (.ref 0), x2, x3, some (nI n), x5, none, none] h = .ok (.fl ((Pa.uncs n).map encP)) h := by
  rw [eLc_pure (α := Pt) (h' := h) encP (fun p => !Pa.oCr p) encP (Pa.parts n)]
  · rfl
  · rw [eIt_d, call1 (x := nI n) (h1 := h) rfl (own_partings_ok (by omega) h), rb_ok, itemsOf_fl]
  · intro p hp
    have R := rt_of (by omega : n ≤ 8) hp
    exact ⟨[s0, some (.ref 0), x2, some (encP p), some (nI n), x5, none, none], rfl, fun acc => ⟨tNot_ok (crossed_sec R.g _ rfl _), fun _ => ⟨rfl, encP_nr _⟩⟩⟩
  · have h3 := parts_len n (by omega)
    rw [LIM_eq]; omega
theorem crlist_ok {q : Pen} {k : Nat} (hq : q.Ok (k + 1)) {x4 : Option LV} : ∃ m q', (m = 4 ∨ m = 5 ∨ m = 6) ∧ q'.Ok k ∧ (eLc false (eIt (eL (fCall 1 M_law_m_partings []) (lCons (eB (addV []) (eC (.int 4)) (eL (fCall 2 M_law_draw []) (lCons (eVar 1) (lCons (eC (.int 3)) lNil)))) lNil))) (.nm 3) (eTest (eL (fCall 1 M_law_m_is_crossed []) (lCons (eVar 3) lNil))) (eVar 3) [3]) [s0, some (.ref 0), x2, x3, x4, x5, none, none] [penO q] = .ok (.fl (((Pa.parts m).filter Pa.oCr).map encP)) [penO q'] := by
  obtain ⟨d, q1, hd, hq1, e1⟩ := draw_nat hq (many := 3) (by decide) (by decide) []
  refine ⟨4 + d, q1, by omega, hq1, ?_⟩
  rw [eLc_pure (α := Pt) (h' := [penO q1]) encP Pa.oCr encP (Pa.parts (4 + d))]
  · rw [eIt_d, call1 (x := nI (4 + d)) (h1 := [penO q1]) (b_ok (x := .int 4) (y := nI d) (h1 := [penO q]) (h2 := [penO q1]) rfl (call2 rfl rfl e1) (by rw [addV_int]; congr 2)) (own_partings_ok (by omega) _), rb_ok, itemsOf_fl]
  · intro p hp
    have R := rt_of (by omega : 4 + d ≤ 8) hp
    exact ⟨[s0, some (.ref 0), x2, some (encP p), x4, x5, none, none], rfl, fun acc => ⟨crossed_sec R.g _ rfl _, fun _ => ⟨rfl, encP_nr _⟩⟩⟩
  · have h3 := parts_len (4 + d) (by omega)
    rw [LIM_eq]; omega
theorem cr_any {m : Nat} (hm : m = 4 ∨ m = 5 ∨ m = 6) : (Pa.parts m).filter Pa.oCr ≠ [] := by
  have c := Pa.crossed_some
  simp only [Bool.and_eq_true] at c
  have : (Pa.parts m).any Pa.oCr = true := by
    rcases hm with rfl | rfl | rfl
    · exact c.1.1
    · exact c.1.2
    · exact c.2
  obtain ⟨p, hp, h⟩ := List.any_eq_true.1 this
  exact List.ne_nil_of_mem (List.mem_filter.2 ⟨hp, h⟩)
end
theorem plain (ns : List Int) (hn : ns.length ≤ 63) : ∃ lh', M_law [.sl (ns.map .int)] [] = .ok (.bl true) lh' := by
  obtain ⟨q, hq, ep⟩ := pen_ok (ns := ns)
  obtain ⟨y2, y3, q1, hq1, lp⟩ := lapsR_ok (s0 := some (.sl (ns.map .int))) (k := 1000) (hq.mono (by decide))
  obtain ⟨n, q2, hn5, hq2, e2⟩ := draw_nat (k := 900) (hq1.mono (by decide)) (many := 6) (by decide) (by decide) []
  obtain ⟨qs, pq, e3⟩ := told_ok (s0 := some (.sl (ns.map .int))) (x2 := y2) (x3 := y3) (n := n) (by omega) [penO q2]
  obtain ⟨v, sv, f1, f2⟩ := both_sorted (n := n) (by omega) pq [penO q2]
  obtain ⟨m, q3, hm, hq3, e4⟩ := crlist_ok (s0 := some (.sl (ns.map .int))) (x2 := y2) (x3 := y3) (x5 := some (.fl ((qs.map Pa.comp).map encP))) (x4 := some (nI n)) (k := 800) (hq2.mono (by decide))
  have nrs : noRefs (((Pa.parts m).filter Pa.oCr).map encP) = true := noRefs_iff.2 fun x hx => by
    obtain ⟨p, _, rfl⟩ := List.mem_map.1 hx
    exact encP_nr p
  obtain ⟨x, q4, hx, hq4, e5⟩ := pick_ok (k := 700) (hq3.mono (by decide)) (xs := ((Pa.parts m).filter Pa.oCr).map encP) (by simpa using cr_any hm) (by
    have h2 := List.length_filter_le Pa.oCr (Pa.parts m)
    have h3 := parts_len m (by omega)
    rw [List.length_map]
    omega) nrs []
  obtain ⟨p, hp, rfl⟩ := List.mem_map.1 hx
  obtain ⟨hpp, hpc⟩ := List.mem_filter.1 hp
  obtain ⟨od, q5, hod, hq5, e6⟩ := pick_ok (k := 600) (hq4.mono (by decide)) (xs := ODP) (by simp [ODP]) (by simp [ODP]) (by decide +kernel) []
  obtain ⟨X, eX, lf⟩ := law_first_ok hm hpp hpc [penO q4]
  have god := rg_odp od hod
  refine ⟨[], fnB_run [some (.sl (ns.map .int)), none, none, none, none, none, none, none] rfl ?_⟩
  unfold m_law
  have s1 : (sSet 1 (eL (fCall 1 M_law_pen []) (lCons (eVar 0) lNil))) [some (.sl (ns.map .int)), none, none, none, none, none, none, none] [] = .nx [some (.sl (ns.map .int)), some (.ref 0), none, none, none, none, none, none] [penO q] := sSet_ok (call1 rfl ep)
  rw [sSeq_nx s1, sSeq_nx lp]
  generalize some (LV.sl (ns.map .int)) = s0 at e3 e4
  have s2 : (sSet 4 (eL (fCall 2 M_law_draw []) (lCons (eVar 1) (lCons (eC (.int 6)) lNil)))) [s0, some (.ref 0), y2, y3, none, none, none, none] [penO q1] = .nx [s0, some (.ref 0), y2, y3, some (nI n), none, none, none] [penO q2] := sSet_ok (call2 rfl rfl e2)
  rw [sSeq_nx s2]
  have s3 := sSet_ok (i := 5) e3
  rw [sSeq_nx (env' := [s0, some (.ref 0), y2, y3, some (nI n), some (.fl ((qs.map Pa.comp).map encP)), none, none]) (h' := [penO q2]) s3]
  have s4 : (sIf (eTest (eB neV' (eL fSorted (lCons (eVar 5) lNil)) (eL fSorted (lCons (eLc false (eIt (eL (fCall 1 M_law_m_partings []) (lCons (eVar 4) lNil))) (.nm 3) (tNot' (eTest (eL (fCall 1 M_law_m_is_crossed []) (lCons (eVar 3) lNil)))) (eVar 3) [3]) lNil)))) (sRet (eC (.bl false))) sNil) [s0, some (.ref 0), y2, y3, some (nI n), some (.fl ((qs.map Pa.comp).map encP)), none, none] [penO q2] = .nx [s0, some (.ref 0), y2, y3, some (nI n), some (.fl ((qs.map Pa.comp).map encP)), none, none] [penO q2] :=
    chk (l1_ok rfl f1) (l1_ok (second_ok (by omega) _) f2) (neV_self sv)
  rw [sSeq_nx s4]
  have s5 := sSet_ok (i := 6) e4
  rw [sSeq_nx (env' := [s0, some (.ref 0), y2, y3, some (nI n), some (.fl ((qs.map Pa.comp).map encP)), some (.fl (((Pa.parts m).filter Pa.oCr).map encP)), none]) (h' := [penO q3]) s5]
  generalize some (LV.fl ((qs.map Pa.comp).map encP)) = s55
  have s6 : (sSet 3 (eL (fCall 2 M_law_pick []) (lCons (eVar 1) (lCons (eVar 6) lNil)))) [s0, some (.ref 0), y2, y3, some (nI n), s55, some (.fl (((Pa.parts m).filter Pa.oCr).map encP)), none] [penO q3] = .nx [s0, some (.ref 0), y2, some (encP p), some (nI n), s55, some (.fl (((Pa.parts m).filter Pa.oCr).map encP)), none] [penO q4] := sSet_ok (call2 rfl rfl e5)
  rw [sSeq_nx s6]
  generalize some (LV.fl (((Pa.parts m).filter Pa.oCr).map encP)) = s66
  have s7 : (sIf (eTest (eB neV' (eLam "told" (eL (fCall 1 M_complement []) (lCons (eVar 3) lNil)) HL_law_m_caught) (eB (addV []) (eL fTup (lCons (eC (.str "crossed")) lNil)) (eL (fCall 1 M_law_first []) (lCons (eVar 3) lNil))))) (sRet (eC (.bl false))) sNil) [s0, some (.ref 0), y2, some (encP p), some (nI n), s55, s66, none] [penO q4] = .nx [s0, some (.ref 0), y2, some (encP p), some (nI n), s55, s66, none] [penO q4] := by
    refine chk (v := .tup [.str "crossed", nI X.1, nI X.2.1, nI X.2.2.1, nI X.2.2.2]) (w := .tup [.str "crossed", nI X.1, nI X.2.1, nI X.2.2.1, nI X.2.2.2]) (caught_cr (call1 rfl (comp_cr hm hpp eX _))) (b_ok (x := .tup [.str "crossed"]) (y := encX X) (h1 := [penO q4]) (h2 := [penO q4]) (l1_ok rfl rfl) (call1 rfl lf) ?_) ?_
    · unfold encX
      rw [addV_tup (by rw [LIM_eq]; simp)]
      rfl
    · refine neV_self ?_
      rw [shp_tup]
      simp [shp_s (show ("crossed" : Str).cps.all (· < 0x110000) = true by decide +kernel)]
  rw [sSeq_nx s7]
  have nl : (eL fFl (lCons (eC .non) (lCons (eC (.int 3)) (lCons (eC (.str "0")) (lCons (eL fFl lNil) (lCons (eL fFl (lCons (eL fTup (lCons (eC (.int 0)) lNil)) lNil)) (lCons (eL fTup (lCons (eL fTup lNil) lNil)) (lCons (eL fTup (lCons (eL fTup (lCons (eC (.int 1)) lNil)) (lCons (eL fTup (lCons (eC (.int 0)) lNil)) lNil))) (lCons (eL fTup (lCons (eL fTup (lCons (eC (.int 1)) (lCons (eC (.int 0)) lNil))) lNil)) (lCons (eL fTup (lCons (eL fTup (lCons (eC (.int 0)) (lCons (eC (.int 2)) lNil))) lNil)) (lCons (eL fTup (lCons (eL fTup (lCons (eC (.bl true)) lNil)) lNil)) lNil))))))))))) [s0, some (.ref 0), y2, some (encP p), some (nI n), s55, s66, none] [penO q4] = .ok (.fl ODP) [penO q4] := by
    simp [ODP]
  have s8 : (sSet 7 (eL (fCall 2 M_law_pick []) (lCons (eVar 1) (lCons (eL fFl (lCons (eC .non) (lCons (eC (.int 3)) (lCons (eC (.str "0")) (lCons (eL fFl lNil) (lCons (eL fFl (lCons (eL fTup (lCons (eC (.int 0)) lNil)) lNil)) (lCons (eL fTup (lCons (eL fTup lNil) lNil)) (lCons (eL fTup (lCons (eL fTup (lCons (eC (.int 1)) lNil)) (lCons (eL fTup (lCons (eC (.int 0)) lNil)) lNil))) (lCons (eL fTup (lCons (eL fTup (lCons (eC (.int 1)) (lCons (eC (.int 0)) lNil))) lNil)) (lCons (eL fTup (lCons (eL fTup (lCons (eC (.int 0)) (lCons (eC (.int 2)) lNil))) lNil)) (lCons (eL fTup (lCons (eL fTup (lCons (eC (.bl true)) lNil)) lNil)) lNil))))))))))) lNil)))) [s0, some (.ref 0), y2, some (encP p), some (nI n), s55, s66, none] [penO q4] = .nx [s0, some (.ref 0), y2, some (encP p), some (nI n), s55, s66, some od] [penO q5] := sSet_ok (call2 rfl nl e6)
  rw [sSeq_nx s8]
  refine end_ret (h1 := [penO q5]) (b_ok (x := .tup [.str "parting", .str (rp od)]) (y := .tup [.str "parting", .str (rp od)]) (h1 := [penO q5]) (h2 := [penO q5]) (caught_part (call1 rfl (comp_odd hod _)) god) (l2_ok rfl (l1_ok rfl (repr_ok god.1.1)) rfl) (eqV_self ?_)) (by simp) rfl
  rw [shp_tup]
  simp [shp_s (show ("parting" : Str).cps.all (· < 0x110000) = true by decide +kernel), shp_s god.1.2]
end K71
end
section
set_option Elab.async false
set_option linter.all false
set_option maxRecDepth 100000
set_option maxHeartbeats 0
open PySem PySem.W PySem.Calls PyProof.Rows in
theorem PySem.Challenge.cw_leverheaps_k71_whole_complements_holds : PySem.Challenge.rw_leverheaps_k71_whole_complements.Holds := by
  w_on; o_law
  km_head
  case hw => w_witness2
  case hc =>
    refine K71.fin (by rfl) (by rfl) (fun P => Lv.says_km ?_ ?_ ?_ ?_ ?_ ?_) (fun ns hn hb => K71.plain ns hn)
    · kernel_rfl
    · refine (Lv.all_split 25 ?_ (Lv.all_split 25 ?_ (Lv.all_split 25 ?_ (Lv.all_split 25 ?_ (Lv.all_split 25 ?_ ?_)))))
      all_goals kernel_rfl
    · refine (Lv.all_split 25 ?_ ?_)
      all_goals kernel_rfl
    · kernel_rfl
    · refine (Lv.map_split 25 ?_ ?_)
      all_goals kernel_rfl
    · kernel_rfl
end
