import PyProof.Rows.All
import Wide.All
import OpenK.AllK
import Wide.FinOn
import KE.KStateDown
import HandS.ForMost
import HandS.ForExc
import HandS.Defaults
import HandS.Property
import HandS.Wide
import KE.RegMulBits
import HandS.Conv
import HandS.IsInst
import HandS.Star
import HandS.Style
import HandS.Dict
import HandS.More
import HandS.Iter
import HandS.DictComp
import HandS.OwnEq
import PyProof.NeKinds
import HandS.TupAny
import HandS.Text
import HandS.ClsMeth
import HandS.TryOnly
import HandS.Strs
import HandS.Zip
import HandS.RaiseMore
import KE.KEqDict
import PyProof.Rows.Range3
import HandS.Head0
import HandS.Head1
import HandS.Head2
import HandS.HeadEnd
import HandS.HeadHook1
import HandS.HeadHook2
import HandS.EndBits
import HandS.ListItems
import KE.KDictList
import KE.GoesEnum
import HandS.TupMul
import PyProof.EqKinds
import HandS.GenList
import KE.KTupSum
import HandS.FStr
import HandS.Replace
import HandS.ReplaceLit
import PyProof.StrOps2
import PyProof.SliceStr2
import PyProof.SliceSyntax
import PyProof.Rows.StrStep
import PyProof.CollectIter
import KE.KUnpack
import HandS.Flow
import PySem.Challenge.RW_roundplaces_k39_promises
set_option Elab.async false
set_option linter.all false
set_option maxRecDepth 100000
set_option maxHeartbeats 4000000
namespace Dl
open PySem PySem.Spec L2
open PyProof.Rows hiding St
def fN {α : Type} (n : Nat) (k : Nat → α) : α := match n with
  | 0 => k 0
  | m + 1 => k (m + 1)
theorem fN_eq {α : Type} (n : Nat) (k : Nat → α) : fN n k = k n := by cases n <;> rfl
end Dl
namespace Dl
open PySem PySem.Spec L2
open PyProof.Rows hiding St
def okC (c c' : Nat) : Bool := Nat.beq c c'
end Dl
namespace Dl
open PySem PySem.Spec L2
open PyProof.Rows hiding St
inductive BT where
  | int | bool | str | list | tuple | dict
def BT.nm : BT → String
  | .int => "int" | .bool => "bool" | .str => "str" | .list => "list" | .tuple => "tuple" | .dict => "dict"
def primNs : List String := ["NoneType", "bool", "int", "str", "tuple", "list", "dict"]
end Dl
namespace Dl
open PySem PySem.Spec L2
open PyProof.Rows hiding St
def fLs : List Addr → (List Addr → α) → α
  | [], k => k []
  | a :: r, k => fN a fun a => fLs r fun r => k (a :: r)
theorem fLs_eq {α : Type} : ∀ (l : List Addr) (k : List Addr → α), fLs l k = k l
  | [], k => rfl
  | a :: r, k => by
    show fN a (fun a => fLs r fun r => k (a :: r)) = k (a :: r)
    rw [fN_eq]
    exact fLs_eq r fun r => k (a :: r)
def fOb {α : Type} (o : Obj) (k : Obj → α) : α := match o with
  | ⟨c, d, dt, sl⟩ => k ⟨c, d, dt, sl⟩
/-- the objects at these places, in turn -/
def fPart {α : Type} (g : Addr → Option Obj) : List Addr → (PySem.W.Frag → α) → α
  | [], k => k []
  | a :: r, k => match g a with
    | some o => fOb o fun o => fPart g r fun r => k ((a, o) :: r)
    | none => fPart g r k
theorem fPart_eq {α : Type} (g : Addr → Option Obj) : ∀ (as : List Addr) (k : PySem.W.Frag → α), fPart g as k = k (He.frG g as)
  | [], k => rfl
  | a :: r, k => by
    show (match g a with | some o => fOb o (fun o => fPart g r fun r => k ((a, o) :: r)) | none => fPart g r k) = _
    unfold He.frG
    rw [List.filterMap_cons]
    cases e : g a with
    | none => exact fPart_eq g r k
    | some o => exact fPart_eq g r fun r => k ((a, o) :: r)
def refs1 (o : Obj) : List Addr := match o.data with
  | .seq its _ => its.toList.flatMap He.refV
  | .dict es _ => es.toList.flatMap fun e => He.refV e.val
  | .func fd => He.refV fd.code ++ (He.refV fd.defaults ++ He.refV fd.kwdefaults)
  | .cls cd => [cd.ns]
  | .fields vs => vs.toList.flatMap He.refV
  | _ => []
def level (g : Addr → Option Obj) (as : List Addr) : List Addr := as.flatMap fun a => match g a with
  | some o => refs1 o
  | none => []
/-- mainGlobals, and five steps on -/
def places {α : Type} (g : Addr → Option Obj) (k : List Addr → α) : α :=
  fLs (level g [mainGlobals]) fun l1 => fLs (level g l1) fun l2 => fLs (level g l2) fun l3 => fLs (level g l3) fun l4 => fLs (level g l4) fun l5 => k (mainGlobals :: cStatics :: (l1 ++ (l2 ++ (l3 ++ (l4 ++ l5)))))
theorem places_eq {α : Type} (g : Addr → Option Obj) (k : List Addr → α) : places g k = k (places g id) := by
  unfold places
  simp only [fLs_eq, id]
inductive Pth where
  | glo (x : Str)
  | meth (C m : Str)
  | prop (C m : Str)
  | clsm (C m : Str)
def Pth.at_ (K : PySem.W.Frag) : Pth → Addr
  | .glo x => He.ga K x
  | .meth C m => He.ma K (He.ga K C) m
  | .prop C m => (match PySem.W.recIn K (He.ma K (He.ga K C) m) "property" with
    | some (.ref g :: _) => g
    | _ => 0)
  | .clsm C m => (match PySem.W.recIn K (He.ma K (He.ga K C) m) "classmethod" with
    | some (.ref g :: _) => g
    | _ => 0)
inductive Ck where
  | na (c : Nat) (f : Str) | cl (c : Nat) | me (c : Nat) (m : Str) (j : Nat) | mk (c j : Nat) | ne (c : Nat) | mro (c : Nat) | sf (c : Nat) | si (c : Nat) | sc (c c2 : Nat) | orf (c : Nat) (nm : String) | oni (c c2 : Nat) (nm : String)
  | oi (c : Nat) (op : String) | ot (c c2 : Nat) (op : String) | pr (c : Nat) (m : Str) (j : Nat) | co (c j : Nat) | cc (c : Nat) (f z : Str) | cr (c : Nat) (m : Str) (j : Nat)
  | inf (n : Nat) | isc (n c : Nat) (subs : List Nat)
  | fr (x : Str) | g (x : Str) (j : Nat) | gc (x : Str) (c : Nat) | gi (x : Str) (i : Int) | gs (x z : Str) | gt (x : Str) (zs : List Str)
  | ex (c : Nat) | em (x : Nat) (hits pass : List Nat) | kd (j : Nat) (y : Str) | ss (cs : List Nat)
def eqOO (a b : Option (Option Value)) : Bool := decide (a = b)
def eqO1 (a b : Option Value) : Bool := decide (a = b)
def eqOB (a b : Option Bool) : Bool := match a, b with
  | some x, some y => x == y
  | none, none => true
  | _, _ => false
def noneOrRef (r : Option (Option Value)) : Bool := match r with
  | some none => true
  | some (some (.ref _)) => true
  | _ => false
def plainO (r : Option (Option Value)) : Bool := match r with
  | some (some fo) => !isSeqSlot (some fo)
  | _ => false
def plainO1 (r : Option (Option Value)) : Bool := match r with
  | some (some _) => true
  | _ => false
def isSomeO (r : Option (Option Value)) : Bool := match r with
  | some _ => true
  | none => false
def isRefO (r : Option (Option Value)) : Bool := match r with
  | some (some (.ref _)) => true
  | _ => false
def clB (K : PySem.W.Frag) (C : Addr) : Bool := PySem.W.plainGet K C Str.empty && (PySem.W.hasDictIn K C && (PySem.W.plainOver K C && eqOO (PySem.W.findIn K (.ref C) "__setattr__") (some (some (.builtin "object.__setattr__")))))
def meB (K : PySem.W.Frag) (C : Addr) (m : Str) (f : Addr) : Bool := eqOO (PySem.W.findIn K (.ref C) m) (some (some (.ref f))) && (PySem.W.isFn K (.ref f) && PySem.W.keepIn K (.ref f))
def headRef (r : Option (List Value)) (g : Addr) : Bool := match r with
  | some (.ref a :: _) => Nat.beq a g
  | _ => false
def infB (K : PySem.W.Frag) (C : Addr) : Bool := clB K C && (eqOO (PySem.W.findIn K (.ref C) "__class__") (some (some (.builtin "object.__class__"))) && (eqOO (PySem.W.specialIn K (.builtin "object.__class__") "__get__") (some (some (.builtin "getset_descriptor.__get__"))) &&
  (eqOB (PySem.W.takesIn K (.builtin "object.__class__")) (some true) && (eqOB (PySem.W.mroIn K C (.type "object")) (some true) &&
    ([BT.int, .bool, .str, .list, .tuple, .dict].all fun b => eqOB (PySem.W.kitOne K (.ref C) (.type b.nm)) (some false))))))
def nullB (K : PySem.W.Frag) (a : Addr) : Bool := match K.lookup a with
  | some ⟨.type c, _, .seq its _, _⟩ => decide (c = "tuple") && decide (its.toList = [])
  | _ => false
def kdV (K : PySem.W.Frag) (y : Str) (kV : Value) : Bool := match kV with
  | .ref D => (match PySem.W.nsIn K D y with
    | some (some (.ref a)) => nullB K a
    | _ => false)
  | _ => false
/-- the default of the def's keyword-only y is the empty tuple -/
def kdB (K : PySem.W.Frag) (f : Addr) (y : Str) : Bool := match K.lookup f with
  | some ⟨_, _, .func fd, _⟩ => kdV K y fd.kwdefaults
  | _ => false
def nsMain (K : PySem.W.Frag) (x : Str) : Option (Option Value) := PySem.W.nsIn K mainGlobals x
def Ck.ok (K : PySem.W.Frag) (ca fa : Nat → Addr) : Ck → Bool
  | .na c f => eqOO (PySem.W.findIn K (.ref (ca c)) f) (some none)
  | .cl c => clB K (ca c)
  | .me c m j => meB K (ca c) m (fa j)
  | .mk c j => PySem.W.makesIn K (ca c) && (eqOO (PySem.W.findIn K (.ref (ca c)) "__init__") (some (some (.ref (fa j)))) && (PySem.W.isFn K (.ref (fa j)) && PySem.W.keepIn K (.ref (ca c))))
  | .ne c => eqOO (PySem.W.findIn K (.ref (ca c)) "__ne__") (some (some (.builtin "object.__ne__")))
  | .mro c => eqOB (PySem.W.mroIn K (ca c) (.type "object")) (some true)
  | .sf c => PySem.W.selfFirst K (ca c)
  | .si c => eqOB (PySem.W.subIn K (.type "int") (.ref (ca c))) (some false)
  | .sc c c2 => eqOB (PySem.W.subIn K (.ref (ca c2)) (.ref (ca c))) (some false)
  | .oni c c2 nm => !(Nat.beq (ca c2) (ca c)) && (PySem.W.selfFirst K (ca c2) && (noneOrRef (PySem.W.findIn K (.ref (ca c)) (PySem.dunderR nm)) && (isRefO (PySem.W.findIn K (.ref (ca c2)) (PySem.dunder nm)) && eqOB (PySem.W.subIn K (.ref (ca c2)) (.ref (ca c))) (some false))))
  | .orf c nm => isRefO (PySem.W.findIn K (.ref (ca c)) (PySem.dunder nm)) && (plainO (PySem.W.findIn K (.type "int") (PySem.dunder nm)) && (plainO1 (PySem.W.findIn K (.type "int") (PySem.dunderR nm)) && eqOB (PySem.W.subIn K (.ref (ca c)) (.type "int")) (some false)))
  | .oi c op => noneOrRef (PySem.W.findIn K (.ref (ca c)) (PySem.dunderR op)) && (isSomeO (PySem.W.findIn K (.type "int") (PySem.dunder op)) && (isSomeO (PySem.W.findIn K (.type "int") (PySem.dunderR op)) && eqOB (PySem.W.subIn K (.type "int") (.ref (ca c))) (some false)))
  | .ot c c2 op => !(Nat.beq (ca c2) (ca c)) && (PySem.W.selfFirst K (ca c2) && (noneOrRef (PySem.W.findIn K (.ref (ca c)) (PySem.dunderR op)) && (isRefO (PySem.W.findIn K (.ref (ca c2)) (PySem.dunder op)) &&
    (noneOrRef (PySem.W.findIn K (.ref (ca c2)) (PySem.dunderR op)) && eqOB (PySem.W.subIn K (.ref (ca c2)) (.ref (ca c))) (some false)))))
  | .pr c m j => eqOO (PySem.W.findIn K (.ref (ca c)) m) (some (some (.ref (He.ma K (ca c) m)))) && (eqOO (PySem.W.specialIn K (.ref (He.ma K (ca c) m)) "__get__") (some (some (.builtin "property.__get__"))) && (eqOB (PySem.W.takesIn K (.ref (He.ma K (ca c) m))) (some true) && headRef (PySem.W.recIn K (He.ma K (ca c) m) "property") (fa j)))
  | .co c j => eqOO (PySem.W.findIn K (.ref (ca c)) "__call__") (some (some (.ref (fa j)))) && (PySem.W.isFn K (.ref (fa j)) && PySem.W.fnIn K (fa j))
  | .cc c f z => (match PySem.W.findIn K (.ref (ca c)) f with
    | some (some u) => He.relB (.str z) u && (eqOO (PySem.W.specialIn K u "__get__") (some none) && !(PySem.W.copiedNames.contains f))
    | _ => false)
  | .cr c m j => PySem.W.readsIn K (ca c) (.type "type") && (eqOO (PySem.W.specialIn K (.ref (ca c)) "__getattribute__") (some (some (.builtin "type.__getattribute__"))) && ((match PySem.W.findCls K (.ref (ca c)) (.type "type") m with
    | some (.get gg (.ref p) o t) => decide (gg = .builtin "classmethod.__get__") && (decide (o = .none) && (decide (t = .ref (ca c)) && headRef (PySem.W.recIn K p "classmethod") (fa j)))
    | _ => false) && PySem.W.fnIn K (fa j)))
  | .inf n => (List.range n).all fun c => infB K (ca c)
  | .isc n c subs => (primNs.all fun a => eqOB (PySem.W.kitOne K (.type a) (.ref (ca c))) (some false)) && (List.range n).all fun c' => eqOB (PySem.W.kitOne K (.ref (ca c')) (.ref (ca c))) (some (subs.any fun x => okC c' x))
  | .fr x => eqOO (nsMain K x) (some none)
  | .g x j => eqOO (nsMain K x) (some (some (.ref (fa j))))
  | .gc x c => eqOO (nsMain K x) (some (some (.ref (ca c))))
  | .gi x i => (match nsMain K x with
    | some (some (.int j _)) => decide (j = i)
    | _ => false)
  | .gs x z => (match nsMain K x with
    | some (some (.str y _)) => decide (y = z)
    | _ => false)
  | .gt x zs => (match nsMain K x with
    | some (some (.ref a)) => (match K.lookup a with
      | some ⟨.type c, _, .seq its _, _⟩ => decide (c = "tuple") && (decide (its.size ≤ sizeLine) && He.relAll (zs.map V.str) its.toList)
      | _ => false)
    | _ => false)
  | .ex c => PySem.W.excIn K (ca c) He.veBase "ValueError.__new__" && (PySem.W.keepIn K (.ref (ca c)) && (eqOB (PySem.W.subIn K (.ref (ca c)) (.type "BaseException")) (some true) && eqO1 (PySem.W.typeIn K (.ref (ca c))) (some (.type "type"))))
  | .em x hits pass => hits.all (fun c => eqOB (PySem.W.exmOne K (.ref (ca c)) (.ref (ca x))) (some true)) && pass.all (fun c => eqOB (PySem.W.exmOne K (.ref (ca c)) (.ref (ca x))) (some false))
  | .kd j y => kdB K (fa j) y
  | .ss cs => cs.all fun c => eqOB (PySem.W.subIn K (.ref (ca c)) (.type "StopIteration")) (some false)
structure DefP where
  name : Str
  qual : Str
  params : Arguments
  body : List Stmt
  scope : Scope
  dfl : List V := []
  kwd : List (Str × V) := []
def fnAt (K : PySem.W.Frag) (a : Addr) : He.FnW := match K.lookup a with
  | some ⟨_, _, .func fd, _⟩ => some (fd.name, fd.qualname, fd.params, fd.body, fd.scope, fd.globals, fd.closure, fd.builtins)
  | _ => none
def DefP.val (d : DefP) : He.FnW := some (d.name, d.qual, d.params, .stmts d.body, d.scope, mainGlobals, [], builtinsNs)
def DefP.ok (K : PySem.W.Frag) (a : Addr) (d : DefP) : Bool := PySem.W.keepIn K (.ref a) && (match K.lookup a with
  | some ⟨_, _, .func fd, _⟩ => PySem.W.codeIn K fd.code d.qual && (He.dflB K fd.defaults d.dfl && He.kwdB K fd.kwdefaults d.kwd)
  | _ => false)
structure HeadP where
  cls : List Pth
  fns : List Pth
  cks : List Ck
  defs : List DefP
def atL (l : List Addr) (i : Nat) : Addr := l.getD i 0
def allDefs (K : PySem.W.Frag) : List Addr → List DefP → Bool
  | a :: as, d :: ds => d.ok K a && allDefs K as ds
  | _, _ => true
abbrev AlP : Type := Bool × List He.FnW
def lookP (hp : HeadP) (K : PySem.W.Frag) (cl fl : List Addr) : AlP := ((hp.cks.all fun c => c.ok K (atL cl) (atL fl)) && allDefs K fl hp.defs, (fl.take hp.defs.length).map fun a => fnAt K a)
def obsP (hp : HeadP) (g : Addr → Option Obj) : AlP := places g fun as => fPart g as fun K => fLs (hp.cls.map fun p => p.at_ K) fun cl => fLs (hp.fns.map fun p => p.at_ K) fun fl => lookP hp K cl fl
def valP (hp : HeadP) : AlP := (true, hp.defs.map DefP.val)
def SaysP (hp : HeadP) (K : PySem.W.Frag) (cl fl : List Addr) : Prop := lookP hp K cl fl = valP hp
def hookP (hp : HeadP) : PySem.W.Hook where
  α := AlP
  obs := fun s => obsP hp s.heap.get?
  val := fun _ => valP hp
  says := fun _ h => ∃ (K : PySem.W.Frag) (cl fl : List Addr), K.In h ∧ SaysP hp K cl fl
  of := fun w s e => by
    unfold obsP at e
    rw [places_eq, fPart_eq, fLs_eq, fLs_eq] at e
    exact ⟨_, _, _, He.frG_in, e⟩
  keeps := fun _ _ _ ⟨K, cl, fl, hK, c⟩ k => ⟨K, cl, fl, PySem.W.Frag.In.keeps hK k, c⟩
end Dl
namespace Dl.k39
open PySem PySem.Spec L2 Dl
open PyProof.Rows hiding St
def noS : Stmt := .Pass ⟨0, 0, 0, 0⟩
def top (i : Nat) : Stmt := PySem.Challenge.pw_roundplaces_k39_promises.main.body.getD i noS
def clsB : Stmt → List Stmt
  | .ClassDef (body := b) .. => b
  | _ => []
abbrev st0 : Stmt := top 0
abbrev st1 : Stmt := (clsB (top 6)).getD 0 noS
abbrev st2 : Stmt := top 14
abbrev st3 : Stmt := top 15
abbrev st4 : Stmt := top 16
abbrev st5 : Stmt := top 17
abbrev st6 : Stmt := (clsB (top 18)).getD 0 noS
abbrev st7 : Stmt := (clsB (top 18)).getD 1 noS
abbrev st8 : Stmt := (clsB (top 18)).getD 2 noS
abbrev st9 : Stmt := (clsB (top 18)).getD 3 noS
abbrev st10 : Stmt := (clsB (top 18)).getD 4 noS
abbrev st11 : Stmt := (clsB (top 18)).getD 5 noS
abbrev st12 : Stmt := (clsB (top 18)).getD 6 noS
abbrev st13 : Stmt := (clsB (top 18)).getD 7 noS
abbrev st14 : Stmt := (clsB (top 18)).getD 8 noS
abbrev st15 : Stmt := (clsB (top 18)).getD 9 noS
abbrev st16 : Stmt := (clsB (top 18)).getD 10 noS
abbrev st17 : Stmt := (clsB (top 18)).getD 11 noS
abbrev st18 : Stmt := (clsB (top 18)).getD 12 noS
abbrev st19 : Stmt := (clsB (top 18)).getD 13 noS
abbrev st20 : Stmt := (clsB (top 18)).getD 14 noS
abbrev st21 : Stmt := (clsB (top 18)).getD 15 noS
abbrev st22 : Stmt := (clsB (top 18)).getD 16 noS
abbrev st23 : Stmt := top 19
abbrev st24 : Stmt := top 23
abbrev st25 : Stmt := top 24
abbrev st26 : Stmt := (clsB (top 25)).getD 0 noS
abbrev st27 : Stmt := (clsB (top 25)).getD 1 noS
abbrev st28 : Stmt := (clsB (top 25)).getD 2 noS
abbrev st29 : Stmt := (clsB (top 25)).getD 3 noS
abbrev st30 : Stmt := (clsB (top 25)).getD 4 noS
abbrev st31 : Stmt := (clsB (top 25)).getD 5 noS
abbrev st32 : Stmt := (clsB (top 25)).getD 6 noS
abbrev st33 : Stmt := (clsB (top 25)).getD 7 noS
abbrev st34 : Stmt := (clsB (top 25)).getD 8 noS
abbrev st35 : Stmt := (clsB (top 25)).getD 9 noS
abbrev st36 : Stmt := (clsB (top 25)).getD 10 noS
abbrev st37 : Stmt := (clsB (top 25)).getD 11 noS
abbrev st38 : Stmt := (clsB (top 25)).getD 12 noS
abbrev st39 : Stmt := top 26
abbrev st40 : Stmt := top 27
abbrev st41 : Stmt := top 28
abbrev st42 : Stmt := top 29
abbrev st43 : Stmt := top 33
abbrev st44 : Stmt := (clsB (top 34)).getD 0 noS
abbrev st45 : Stmt := (clsB (top 34)).getD 1 noS
abbrev st46 : Stmt := (clsB (top 34)).getD 2 noS
abbrev st47 : Stmt := (clsB (top 34)).getD 3 noS
abbrev st48 : Stmt := (clsB (top 34)).getD 4 noS
abbrev st49 : Stmt := (clsB (top 34)).getD 5 noS
abbrev st50 : Stmt := top 43
abbrev st51 : Stmt := top 44
abbrev st52 : Stmt := top 45
abbrev st53 : Stmt := top 46
abbrev st54 : Stmt := (clsB (top 47)).getD 0 noS
abbrev st55 : Stmt := (clsB (top 47)).getD 1 noS
abbrev st56 : Stmt := (clsB (top 47)).getD 2 noS
abbrev st57 : Stmt := (clsB (top 47)).getD 3 noS
abbrev st58 : Stmt := (clsB (top 47)).getD 4 noS
abbrev st59 : Stmt := (clsB (top 47)).getD 5 noS
abbrev st60 : Stmt := (clsB (top 47)).getD 6 noS
abbrev st61 : Stmt := (clsB (top 47)).getD 7 noS
abbrev st62 : Stmt := (clsB (top 47)).getD 8 noS
abbrev st63 : Stmt := (clsB (top 47)).getD 9 noS
abbrev st64 : Stmt := (clsB (top 47)).getD 10 noS
abbrev st65 : Stmt := top 48
abbrev st66 : Stmt := top 49
abbrev st67 : Stmt := top 50
abbrev st68 : Stmt := top 51
abbrev st69 : Stmt := top 52
abbrev st70 : Stmt := top 53
abbrev st71 : Stmt := top 54
abbrev st72 : Stmt := top 55
abbrev st73 : Stmt := top 56
abbrev st74 : Stmt := top 57
abbrev st75 : Stmt := (clsB (top 59)).getD 1 noS
abbrev st76 : Stmt := (clsB (top 59)).getD 2 noS
abbrev st77 : Stmt := (clsB (top 61)).getD 1 noS
abbrev st78 : Stmt := (clsB (top 61)).getD 2 noS
abbrev st79 : Stmt := (clsB (top 61)).getD 3 noS
abbrev st80 : Stmt := top 62
abbrev st81 : Stmt := top 63
abbrev st82 : Stmt := top 64
abbrev st83 : Stmt := top 65
abbrev st84 : Stmt := top 67
abbrev st85 : Stmt := top 68
abbrev st86 : Stmt := (clsB (top 71)).getD 1 noS
abbrev st87 : Stmt := (clsB (top 71)).getD 2 noS
abbrev st88 : Stmt := (clsB (top 71)).getD 3 noS
abbrev st89 : Stmt := top 72
abbrev st90 : Stmt := top 73
abbrev st91 : Stmt := top 74
abbrev st92 : Stmt := top 75
abbrev st93 : Stmt := top 76
abbrev st94 : Stmt := top 77
abbrev st95 : Stmt := (clsB (top 79)).getD 0 noS
abbrev st96 : Stmt := (clsB (top 79)).getD 1 noS
abbrev st97 : Stmt := (clsB (top 79)).getD 2 noS
abbrev st98 : Stmt := (clsB (top 79)).getD 3 noS
abbrev st99 : Stmt := top 80
abbrev st100 : Stmt := top 82
abbrev st101 : Stmt := top 83
abbrev st102 : Stmt := top 84
def dp0 : DefP := ⟨"_wall", "_wall", defArgs st0, defBody st0, defScope st0, [], []⟩
def dp1 : DefP := ⟨"__init__", "InvalidBill.__init__", defArgs st1, defBody st1, defScope st1, [], []⟩
def dp2 : DefP := ⟨"is_integer", "is_integer", defArgs st2, defBody st2, defScope st2, [], []⟩
def dp3 : DefP := ⟨"is_whole", "is_whole", defArgs st3, defBody st3, defScope st3, [], []⟩
def dp4 : DefP := ⟨"divisor", "divisor", defArgs st4, defBody st4, defScope st4, [], []⟩
def dp5 : DefP := ⟨"multiple", "multiple", defArgs st5, defBody st5, defScope st5, [], []⟩
def dp6 : DefP := ⟨"__init__", "Amount.__init__", defArgs st6, defBody st6, defScope st6, [.int 1], []⟩
def dp7 : DefP := ⟨"top", "Amount.top", defArgs st7, defBody st7, defScope st7, [], []⟩
def dp8 : DefP := ⟨"bottom", "Amount.bottom", defArgs st8, defBody st8, defScope st8, [], []⟩
def dp9 : DefP := ⟨"__eq__", "Amount.__eq__", defArgs st9, defBody st9, defScope st9, [], []⟩
def dp10 : DefP := ⟨"__add__", "Amount.__add__", defArgs st10, defBody st10, defScope st10, [], []⟩
def dp11 : DefP := ⟨"__radd__", "Amount.__radd__", defArgs st11, defBody st11, defScope st11, [], []⟩
def dp12 : DefP := ⟨"__sub__", "Amount.__sub__", defArgs st12, defBody st12, defScope st12, [], []⟩
def dp13 : DefP := ⟨"__rsub__", "Amount.__rsub__", defArgs st13, defBody st13, defScope st13, [], []⟩
def dp14 : DefP := ⟨"__mul__", "Amount.__mul__", defArgs st14, defBody st14, defScope st14, [], []⟩
def dp15 : DefP := ⟨"__rmul__", "Amount.__rmul__", defArgs st15, defBody st15, defScope st15, [], []⟩
def dp16 : DefP := ⟨"__neg__", "Amount.__neg__", defArgs st16, defBody st16, defScope st16, [], []⟩
def dp17 : DefP := ⟨"__abs__", "Amount.__abs__", defArgs st17, defBody st17, defScope st17, [], []⟩
def dp18 : DefP := ⟨"__bool__", "Amount.__bool__", defArgs st18, defBody st18, defScope st18, [], []⟩
def dp19 : DefP := ⟨"__lt__", "Amount.__lt__", defArgs st19, defBody st19, defScope st19, [], []⟩
def dp20 : DefP := ⟨"__le__", "Amount.__le__", defArgs st20, defBody st20, defScope st20, [], []⟩
def dp21 : DefP := ⟨"__gt__", "Amount.__gt__", defArgs st21, defBody st21, defScope st21, [], []⟩
def dp22 : DefP := ⟨"__ge__", "Amount.__ge__", defArgs st22, defBody st22, defScope st22, [], []⟩
def dp23 : DefP := ⟨"pair_of", "pair_of", defArgs st23, defBody st23, defScope st23, [], []⟩
def dp24 : DefP := ⟨"is_name", "is_name", defArgs st24, defBody st24, defScope st24, [], []⟩
def dp25 : DefP := ⟨"is_term", "is_term", defArgs st25, defBody st25, defScope st25, [], []⟩
def dp26 : DefP := ⟨"__init__", "Line.__init__", defArgs st26, defBody st26, defScope st26, [], []⟩
def dp27 : DefP := ⟨"of", "Line.of", defArgs st27, defBody st27, defScope st27, [], []⟩
def dp28 : DefP := ⟨"terms", "Line.terms", defArgs st28, defBody st28, defScope st28, [], []⟩
def dp29 : DefP := ⟨"rest", "Line.rest", defArgs st29, defBody st29, defScope st29, [], []⟩
def dp30 : DefP := ⟨"factor", "Line.factor", defArgs st30, defBody st30, defScope st30, [], []⟩
def dp31 : DefP := ⟨"__eq__", "Line.__eq__", defArgs st31, defBody st31, defScope st31, [], []⟩
def dp32 : DefP := ⟨"__add__", "Line.__add__", defArgs st32, defBody st32, defScope st32, [], []⟩
def dp33 : DefP := ⟨"__radd__", "Line.__radd__", defArgs st33, defBody st33, defScope st33, [], []⟩
def dp34 : DefP := ⟨"__sub__", "Line.__sub__", defArgs st34, defBody st34, defScope st34, [], []⟩
def dp35 : DefP := ⟨"__rsub__", "Line.__rsub__", defArgs st35, defBody st35, defScope st35, [], []⟩
def dp36 : DefP := ⟨"__mul__", "Line.__mul__", defArgs st36, defBody st36, defScope st36, [], []⟩
def dp37 : DefP := ⟨"__rmul__", "Line.__rmul__", defArgs st37, defBody st37, defScope st37, [], []⟩
def dp38 : DefP := ⟨"__neg__", "Line.__neg__", defArgs st38, defBody st38, defScope st38, [], []⟩
def dp39 : DefP := ⟨"line_of", "line_of", defArgs st39, defBody st39, defScope st39, [], []⟩
def dp40 : DefP := ⟨"factor_in", "factor_in", defArgs st40, defBody st40, defScope st40, [], []⟩
def dp41 : DefP := ⟨"times", "times", defArgs st41, defBody st41, defScope st41, [], []⟩
def dp42 : DefP := ⟨"joined", "joined", defArgs st42, defBody st42, defScope st42, [], []⟩
def dp43 : DefP := ⟨"rounded", "rounded", defArgs st43, defBody st43, defScope st43, [], []⟩
def dp44 : DefP := ⟨"__init__", "Rule.__init__", defArgs st44, defBody st44, defScope st44, [], []⟩
def dp45 : DefP := ⟨"unit", "Rule.unit", defArgs st45, defBody st45, defScope st45, [], []⟩
def dp46 : DefP := ⟨"mode", "Rule.mode", defArgs st46, defBody st46, defScope st46, [], []⟩
def dp47 : DefP := ⟨"__eq__", "Rule.__eq__", defArgs st47, defBody st47, defScope st47, [], []⟩
def dp48 : DefP := ⟨"__call__", "Rule.__call__", defArgs st48, defBody st48, defScope st48, [], []⟩
def dp49 : DefP := ⟨"step", "Rule.step", defArgs st49, defBody st49, defScope st49, [], []⟩
def dp50 : DefP := ⟨"are_inputs", "are_inputs", defArgs st50, defBody st50, defScope st50, [], []⟩
def dp51 : DefP := ⟨"is_small", "is_small", defArgs st51, defBody st51, defScope st51, [], []⟩
def dp52 : DefP := ⟨"is_step", "is_step", defArgs st52, defBody st52, defScope st52, [], []⟩
def dp53 : DefP := ⟨"are_outputs", "are_outputs", defArgs st53, defBody st53, defScope st53, [], []⟩
def dp54 : DefP := ⟨"__init__", "Bill.__init__", defArgs st54, defBody st54, defScope st54, [], []⟩
def dp55 : DefP := ⟨"inputs", "Bill.inputs", defArgs st55, defBody st55, defScope st55, [], []⟩
def dp56 : DefP := ⟨"names", "Bill.names", defArgs st56, defBody st56, defScope st56, [], []⟩
def dp57 : DefP := ⟨"outputs", "Bill.outputs", defArgs st57, defBody st57, defScope st57, [], []⟩
def dp58 : DefP := ⟨"periods", "Bill.periods", defArgs st58, defBody st58, defScope st58, [], []⟩
def dp59 : DefP := ⟨"__len__", "Bill.__len__", defArgs st59, defBody st59, defScope st59, [], []⟩
def dp60 : DefP := ⟨"__contains__", "Bill.__contains__", defArgs st60, defBody st60, defScope st60, [], []⟩
def dp61 : DefP := ⟨"__getitem__", "Bill.__getitem__", defArgs st61, defBody st61, defScope st61, [], []⟩
def dp62 : DefP := ⟨"__iter__", "Bill.__iter__", defArgs st62, defBody st62, defScope st62, [], []⟩
def dp63 : DefP := ⟨"__eq__", "Bill.__eq__", defArgs st63, defBody st63, defScope st63, [], []⟩
def dp64 : DefP := ⟨"amounts", "Bill.amounts", defArgs st64, defBody st64, defScope st64, [], []⟩
def dp65 : DefP := ⟨"scale_of", "scale_of", defArgs st65, defBody st65, defScope st65, [], []⟩
def dp66 : DefP := ⟨"exact_factors", "exact_factors", defArgs st66, defBody st66, defScope st66, [], []⟩
def dp67 : DefP := ⟨"periods_of", "periods_of", defArgs st67, defBody st67, defScope st67, [], []⟩
def dp68 : DefP := ⟨"scaled_values", "scaled_values", defArgs st68, defBody st68, defScope st68, [], []⟩
def dp69 : DefP := ⟨"points_of", "points_of", defArgs st69, defBody st69, defScope st69, [], []⟩
def dp70 : DefP := ⟨"check_bill", "check_bill", defArgs st70, defBody st70, defScope st70, [], []⟩
def dp71 : DefP := ⟨"check_numbers", "check_numbers", defArgs st71, defBody st71, defScope st71, [], []⟩
def dp72 : DefP := ⟨"are_numbers", "are_numbers", defArgs st72, defBody st72, defScope st72, [], []⟩
def dp73 : DefP := ⟨"check_set", "check_set", defArgs st73, defBody st73, defScope st73, [], []⟩
def dp74 : DefP := ⟨"sets_of", "sets_of", defArgs st74, defBody st74, defScope st74, [], []⟩
def dp75 : DefP := ⟨"fields", "Evidence.fields", defArgs st75, defBody st75, defScope st75, [], []⟩
def dp76 : DefP := ⟨"__eq__", "Evidence.__eq__", defArgs st76, defBody st76, defScope st76, [], []⟩
def dp77 : DefP := ⟨"__init__", "Far.__init__", defArgs st77, defBody st77, defScope st77, [], []⟩
def dp78 : DefP := ⟨"fields", "Far.fields", defArgs st78, defBody st78, defScope st78, [], []⟩
def dp79 : DefP := ⟨"is_correct", "Far.is_correct", defArgs st79, defBody st79, defScope st79, [], []⟩
def dp80 : DefP := ⟨"check_tolerance", "check_tolerance", defArgs st80, defBody st80, defScope st80, [], []⟩
def dp81 : DefP := ⟨"check_question", "check_question", defArgs st81, defBody st81, defScope st81, [], []⟩
def dp82 : DefP := ⟨"differences_of", "differences_of", defArgs st82, defBody st82, defScope st82, [], []⟩
def dp83 : DefP := ⟨"first_far", "first_far", defArgs st83, defBody st83, defScope st83, [], []⟩
def dp84 : DefP := ⟨"is_refuted", "is_refuted", defArgs st84, defBody st84, defScope st84, [], []⟩
def dp85 : DefP := ⟨"is_within", "is_within", defArgs st85, defBody st85, defScope st85, [], []⟩
def dp86 : DefP := ⟨"__init__", "Choice.__init__", defArgs st86, defBody st86, defScope st86, [], []⟩
def dp87 : DefP := ⟨"fields", "Choice.fields", defArgs st87, defBody st87, defScope st87, [], []⟩
def dp88 : DefP := ⟨"is_correct", "Choice.is_correct", defArgs st88, defBody st88, defScope st88, [], []⟩
def dp89 : DefP := ⟨"check_prices", "check_prices", defArgs st89, defBody st89, defScope st89, [], []⟩
def dp90 : DefP := ⟨"check_asked", "check_asked", defArgs st90, defBody st90, defScope st90, [], []⟩
def dp91 : DefP := ⟨"cost_of", "cost_of", defArgs st91, defBody st91, defScope st91, [], []⟩
def dp92 : DefP := ⟨"ranked", "ranked", defArgs st92, defBody st92, defScope st92, [], []⟩
def dp93 : DefP := ⟨"chosen", "chosen", defArgs st93, defBody st93, defScope st93, [], []⟩
def dp94 : DefP := ⟨"choose", "choose", defArgs st94, defBody st94, defScope st94, [], []⟩
def dp95 : DefP := ⟨"__init__", "Carry.__init__", defArgs st95, defBody st95, defScope st95, [], []⟩
def dp96 : DefP := ⟨"rest", "Carry.rest", defArgs st96, defBody st96, defScope st96, [], []⟩
def dp97 : DefP := ⟨"__call__", "Carry.__call__", defArgs st97, defBody st97, defScope st97, [], []⟩
def dp98 : DefP := ⟨"reset", "Carry.reset", defArgs st98, defBody st98, defScope st98, [], []⟩
def dp99 : DefP := ⟨"all_carried", "all_carried", defArgs st99, defBody st99, defScope st99, [], []⟩
def dp100 : DefP := ⟨"_law_ties_right", "_law_ties_right", defArgs st100, defBody st100, defScope st100, [], []⟩
def dp101 : DefP := ⟨"_law_before", "_law_before", defArgs st101, defBody st101, defScope st101, [], []⟩
def dp102 : DefP := ⟨"law", "law", defArgs st102, defBody st102, defScope st102, [], []⟩
def hp : HeadP := ⟨[.glo "Amount", .glo "Line", .glo "Rule", .glo "Bill", .glo "Evidence", .glo "Far", .glo "Choice", .glo "Carry", .glo "RoundError", .glo "InvalidAmount", .glo "InvalidRule", .glo "InvalidLine", .glo "InvalidBill", .glo "InvalidName", .glo "InvalidNumbers", .glo "InvalidSet", .glo "InvalidTolerance", .glo "TooLarge", .glo "InvalidPrices"], [.glo "_wall", .meth "InvalidBill" "__init__", .glo "is_integer", .glo "is_whole", .glo "divisor", .glo "multiple", .meth "Amount" "__init__", .prop "Amount" "top", .prop "Amount" "bottom", .meth "Amount" "__eq__", .meth "Amount" "__add__", .meth "Amount" "__radd__", .meth "Amount" "__sub__", .meth "Amount" "__rsub__", .meth "Amount" "__mul__", .meth "Amount" "__rmul__", .meth "Amount" "__neg__", .meth "Amount" "__abs__", .meth "Amount" "__bool__", .meth "Amount" "__lt__", .meth "Amount" "__le__", .meth "Amount" "__gt__", .meth "Amount" "__ge__", .glo "pair_of", .glo "is_name", .glo "is_term", .meth "Line" "__init__", .clsm "Line" "of", .prop "Line" "terms", .prop "Line" "rest", .meth "Line" "factor", .meth "Line" "__eq__", .meth "Line" "__add__", .meth "Line" "__radd__", .meth "Line" "__sub__", .meth "Line" "__rsub__", .meth "Line" "__mul__", .meth "Line" "__rmul__", .meth "Line" "__neg__", .glo "line_of", .glo "factor_in", .glo "times", .glo "joined", .glo "rounded", .meth "Rule" "__init__", .prop "Rule" "unit", .prop "Rule" "mode", .meth "Rule" "__eq__", .meth "Rule" "__call__", .meth "Rule" "step", .glo "are_inputs", .glo "is_small", .glo "is_step", .glo "are_outputs", .meth "Bill" "__init__", .prop "Bill" "inputs", .prop "Bill" "names", .prop "Bill" "outputs", .prop "Bill" "periods", .meth "Bill" "__len__", .meth "Bill" "__contains__", .meth "Bill" "__getitem__", .meth "Bill" "__iter__", .meth "Bill" "__eq__", .meth "Bill" "amounts", .glo "scale_of", .glo "exact_factors", .glo "periods_of", .glo "scaled_values", .glo "points_of", .glo "check_bill", .glo "check_numbers", .glo "are_numbers", .glo "check_set", .glo "sets_of", .prop "Evidence" "fields", .meth "Evidence" "__eq__", .meth "Far" "__init__", .prop "Far" "fields", .meth "Far" "is_correct", .glo "check_tolerance", .glo "check_question", .glo "differences_of", .glo "first_far", .glo "is_refuted", .glo "is_within", .meth "Choice" "__init__", .prop "Choice" "fields", .meth "Choice" "is_correct", .glo "check_prices", .glo "check_asked", .glo "cost_of", .glo "ranked", .glo "chosen", .glo "choose", .meth "Carry" "__init__", .prop "Carry" "rest", .meth "Carry" "__call__", .meth "Carry" "reset", .glo "all_carried", .glo "_law_ties_right", .glo "_law_before", .glo "law"],
 [.fr "isinstance", .fr "int", .inf 8, .fr "bool", .fr "abs", .g "divisor" 4, .g "is_whole" 3, .ex 9, .gc "InvalidAmount" 9, .cl 0, .na 0 "high", .na 0 "low", .isc 8 0 [0], .gc "Amount" 0, .g "pair_of" 23, .mk 0 6, .fr "str", .fr "len", .gi "MAX_NAME" 8, .gs "LETTERS" "abcdefghijklmnopqrstuvwxyz", .fr "all", .fr "tuple", .g "is_name" 24, .g "is_term" 25, .ex 11, .gc "InvalidLine" 11, .fr "set", .fr "sorted", .g "factor_in" 40, .me 0 "__bool__" 18, .cl 1, .na 1 "parts", .na 1 "added", .mk 1 26, .ex 13, .gc "InvalidName" 13, .isc 8 1 [1], .gc "Line" 1, .me 0 "__eq__" 9, .g "line_of" 39, .sf 0, .me 0 "__add__" 10, .g "joined" 42, .me 0 "__sub__" 12, .g "times" 41, .me 0 "__mul__" 14, .oi 0 (Operator.info .Mult).2, .gi "MAX_UNIT" 100, .g "is_integer" 2, .gt "MODES" ["floor", "ceiling", "half", "even"], .ex 10, .gc "InvalidRule" 10, .cl 2, .na 2 "size", .na 2 "word", .isc 8 2 [2], .gc "Rule" 2, .g "rounded" 43, .gi "MAX_INPUTS" 3, .pr 0 "top" 7, .pr 0 "bottom" 8, .gi "MAX_BOTTOM" 24, .gi "MAX_ADDED" 9999, .pr 1 "rest" 29, .g "is_small" 51, .pr 1 "terms" 28, .gi "MAX_TOP" 99, .gi "MAX_OUTPUTS" 3, .fr "list", .g "are_inputs" 50, .fr "dict", .gi "MAX_STEPS" 6, .g "is_step" 52, .g "are_outputs" 53, .cl 3, .na 3 "given", .na 3 "rows", .na 3 "shown", .g "scale_of" 65, .na 3 "scale", .g "periods_of" 67, .na 3 "cycle", .isc 8 3 [3], .gc "Bill" 3, .me 1 "__eq__" 31, .me 2 "__eq__" 47, .g "check_numbers" 71, .g "check_set" 73, .g "scaled_values" 68, .g "multiple" 5, .g "exact_factors" 66, .me 2 "step" 49, .fr "zip", .pr 2 "mode" 46, .pr 2 "unit" 45, .gi "MAX_POINTS" 1000, .ex 17, .gc "TooLarge" 17, .fr "range", .g "are_numbers" 72, .ex 14, .gc "InvalidNumbers" 14, .ex 15, .gc "InvalidSet" 15, .isc 8 4 [4, 5, 6], .gc "Evidence" 4, .cc 6 "NAME" "choice", .cl 6, .cc 4 "NAME" "evidence", .cl 4, .cc 5 "NAME" "far", .cl 5, .pr 6 "fields" 87, .pr 4 "fields" 75, .pr 5 "fields" 78, .na 5 "numbers", .na 5 "output", .na 5 "difference", .g "check_question" 81, .pr 3 "outputs" 57, .g "differences_of" 82, .me 0 "__gt__" 21, .me 0 "__abs__" 17, .me 0 "__lt__" 19, .si 0, .ex 16, .gc "InvalidTolerance" 16, .g "check_bill" 70, .g "check_tolerance" 80, .g "points_of" 69, .mk 5 77, .gc "Far" 5, .fr "any", .na 6 "found", .na 6 "doubts", .g "check_asked" 90, .g "chosen" 93, .g "ranked" 92, .g "cost_of" 91, .g "is_refuted" 84, .me 3 "__len__" 59, .ex 18, .gc "InvalidPrices" 18, .pr 3 "names" 56, .gi "MAX_PRICE" 99, .g "check_prices" 89, .fr "sum", .g "sets_of" 74, .g "is_within" 85, .fr "enumerate", .g "first_far" 83, .mk 6 86, .gc "Choice" 6, .cl 7, .na 7 "rule", .na 7 "left", .oi 0 (Operator.info .Add).2, .co 2 48, .g "_wall" 0, .mk 7 95, .gc "Carry" 7, .co 7 97, .sf 1, .me 1 "__add__" 32, .oi 1 (Operator.info .Add).2, .me 1 "__mul__" 36, .ot 1 0 (Operator.info .Mult).2, .cr 1 "of" 27, .mk 2 44, .mk 3 54, .g "choose" 94, .me 6 "is_correct" 88, .ss [8, 9, 10, 11, 12, 13, 14, 15, 16, 17, 18], .g "all_carried" 99, .em 9 [9] [8, 10, 11, 12, 13, 14, 15, 16, 17, 18], .g "_law_before" 101, .g "_law_ties_right" 100, .g "law" 102],
 [dp0, dp1, dp2, dp3, dp4, dp5, dp6, dp7, dp8, dp9, dp10, dp11, dp12, dp13, dp14, dp15, dp16, dp17, dp18, dp19, dp20, dp21, dp22, dp23, dp24, dp25, dp26, dp27, dp28, dp29, dp30, dp31, dp32, dp33, dp34, dp35, dp36, dp37, dp38, dp39, dp40, dp41, dp42, dp43, dp44, dp45, dp46, dp47, dp48, dp49, dp50, dp51, dp52, dp53, dp54, dp55, dp56, dp57, dp58, dp59, dp60, dp61, dp62, dp63, dp64, dp65, dp66, dp67, dp68, dp69, dp70, dp71, dp72, dp73, dp74, dp75, dp76, dp77, dp78, dp79, dp80, dp81, dp82, dp83, dp84, dp85, dp86, dp87, dp88, dp89, dp90, dp91, dp92, dp93, dp94, dp95, dp96, dp97, dp98, dp99, dp100, dp101, dp102]⟩
def ls0 : List Str := ["_wall", "RoundError", "InvalidAmount", "InvalidRule", "InvalidLine", "InvalidBill", "InvalidName", "InvalidNumbers", "InvalidSet", "InvalidTolerance", "TooLarge", "InvalidPrices", "is_integer", "is_whole", "divisor", "multiple", "Amount", "pair_of", "LETTERS", "MAX_NAME", "is_name", "is_term", "Line", "line_of", "factor_in", "times", "joined", "MAX_UNIT", "MODES", "rounded"]
def ls1 : List Str := ["Rule", "MAX_INPUTS", "MAX_STEPS", "MAX_OUTPUTS", "MAX_TOP", "MAX_BOTTOM", "MAX_ADDED", "MAX_POINTS", "are_inputs", "is_small", "is_step", "are_outputs", "Bill", "scale_of", "exact_factors", "periods_of", "scaled_values", "points_of", "check_bill", "check_numbers", "are_numbers", "check_set", "sets_of", "Evidence", "Far", "check_tolerance", "check_question", "differences_of", "first_far", "is_refuted"]
def ls2 : List Str := ["is_within", "MAX_PRICE", "Choice", "check_prices", "check_asked", "cost_of", "ranked", "chosen", "choose", "Carry", "all_carried", "_law_ties_right", "_law_before"]
def loose : List Str := ls0 ++ ls1 ++ ls2
abbrev R : PySem.W.OpenRow := PySem.W.OpenLaw.row PySem.Challenge.rw_roundplaces_k39_promises
def ob (s : PySem.W.SharedT) : AlP := obsP hp (HandSHeadRun.getT s)
end Dl.k39
/-RUN-/
namespace Dl.k39
open PySem PySem.Spec L2 Dl
open PyProof.Rows hiding St
set_option maxHeartbeats 0
theorem run (w : World) : HandSHeadRun.RunEq R (PySem.W.view R.prog [84]) (hookP hp) ob 9000 loose w := by
  intro os
  kernel_rfl
end Dl.k39
set_option maxHeartbeats 4000000
/-! Data of the program's values, and how they lie in the heap. -/
namespace Dl
open PySem PySem.Spec L2
open PyProof.Rows hiding St
inductive D where
  | non | bl (b : Bool) | int (i : Int) | str (s : Str)
  | tup (xs : List D) | lst (xs : List D) | frl (xs : List D)
  | dic (ks : List Key) (vs : List D)
  | obj (c : Nat) (fs : List D)
  | cls (c : Nat)
  deriving Inhabited
structure Gam where
  K : PySem.W.Frag
  ca : Nat → Addr
  fs : Nat → List Str
def KT (K : PySem.W.Frag) (a : Addr) (xs : List V) : Prop :=
  ∃ (o : Obj) (its : Array Value) (n : Nat), K.lookup a = some o ∧ o.cls = .type "tuple" ∧ o.data = .seq its n ∧ its.size ≤ sizeLine ∧ Vals xs its.toList
def KL (K : PySem.W.Frag) (a : Addr) (xs : List V) : Prop :=
  ∃ (o : Obj) (its : Array Value) (n : Nat), K.lookup a = some o ∧ o.cls = .type "list" ∧ o.dict = none ∧ o.data = .seq its n ∧ its.size ≤ sizeLine ∧ Vals xs its.toList
mutual
def Rep (G : Gam) (S : Addr → Prop) (H : Hp) : D → V → Prop
  | .non, v => v = .non
  | .bl b, v => v = .bl b
  | .int i, v => v = .int i
  | .str x, v => v = .str x
  | .cls c, v => v = .ref (G.ca c)
  | .tup ds, v => ∃ p vs, v = .ref p ∧ ((¬ S p ∧ Rd H p (.tup vs)) ∨ KT G.K p vs) ∧ Reps G S H ds vs
  | .lst ds, v => ∃ p vs, v = .ref p ∧ ¬ S p ∧ H p = some (.lst vs) ∧ Reps G S H ds vs
  | .frl ds, v => ∃ p vs, v = .ref p ∧ ((¬ S p ∧ Rd H p (.lst vs)) ∨ KL G.K p vs) ∧ Reps G S H ds vs
  | .dic ks ds, v => ∃ p kvs, v = .ref p ∧ ¬ S p ∧ Rd H p (.dK kvs) ∧ kvs.map (·.1) = ks ∧ Reps G S H ds (kvs.map (·.2))
  | .obj c ds, v => ∃ p dx fs, v = .ref p ∧ ¬ S p ∧ H p = some (.ins (G.ca c) dx fs) ∧ fs.map (·.1) = (G.fs c).take ds.length ∧ Reps G S H ds (fs.map (·.2))
def Reps (G : Gam) (S : Addr → Prop) (H : Hp) : List D → List V → Prop
  | [], vs => vs = []
  | d :: ds, vs => ∃ v r, vs = v :: r ∧ Rep G S H d v ∧ Reps G S H ds r
end
/-- all but dicts stand as they are -/
def notD : HO → Prop
  | .dK _ => False
  | .frz _ (.dK _) => False
  | _ => True
/-- what stands and is not avoided goes on standing, not avoided -/
structure Tr (S : Addr → Prop) (H : Hp) (S' : Addr → Prop) (H' : Hp) : Prop where
  rd : ∀ a u, ¬ S a → (∀ o z, u ≠ .frz o z) → Rd H a u → Rd H' a u
  eq : ∀ a o, ¬ S a → H a = some o → notD o → H' a = some o
  av : ∀ a o, ¬ S a → H a = some o → ¬ S' a
theorem Tr.of {S S' : Addr → Prop} {H H' : Hp} (t : ∀ a o, ¬ S a → H a = some o → H' a = some o ∧ ¬ S' a) : Tr S H S' H' where
  rd := fun a u n _ r => by
    rcases r with r | ⟨o, r⟩
    · exact .inl (t _ _ n r).1
    · exact .inr ⟨o, (t _ _ n r).1⟩
  eq := fun a o n e _ => (t a o n e).1
  av := fun a o n e => (t a o n e).2
theorem Rd.there {H : Hp} {p : Addr} {u : HO} (r : Rd H p u) : ∃ o, H p = some o := by
  rcases r with r | ⟨o, r⟩
  · exact ⟨_, r⟩
  · exact ⟨_, r⟩
theorem Tr.rd' {S S' : Addr → Prop} {H H' : Hp} (t : Tr S H S' H') {p : Addr} {u : HO} (n : ¬ S p) (r : Rd H p u) (nf : ∀ o z, u ≠ .frz o z := by intro _ _ z; cases z) : ¬ S' p ∧ Rd H' p u := by
  obtain ⟨o, e⟩ := Rd.there r
  exact ⟨t.av _ _ n e, t.rd _ _ n nf r⟩
section
variable {G : Gam} {S S' : Addr → Prop} {H H' : Hp}
mutual
theorem Rep.tr (t : Tr S H S' H') : ∀ (d : D) (v : V), Rep G S H d v → Rep G S' H' d v
  | .non, v, h => h
  | .bl _, v, h => h
  | .int _, v, h => h
  | .str _, v, h => h
  | .cls _, v, h => h
  | .tup ds, v, h => by
    obtain ⟨p, vs, e, k, r⟩ := h
    refine ⟨p, vs, e, ?_, Reps.tr t ds vs r⟩
    rcases k with ⟨n, k⟩ | k
    · exact .inl (t.rd' n k)
    · exact .inr k
  | .lst ds, v, h => by
    obtain ⟨p, vs, e, n, k, r⟩ := h
    exact ⟨p, vs, e, t.av _ _ n k, t.eq _ _ n k True.intro, Reps.tr t ds vs r⟩
  | .frl ds, v, h => by
    obtain ⟨p, vs, e, k, r⟩ := h
    refine ⟨p, vs, e, ?_, Reps.tr t ds vs r⟩
    rcases k with ⟨n, k⟩ | k
    · exact .inl (t.rd' n k)
    · exact .inr k
  | .dic ks ds, v, h => by
    obtain ⟨p, kvs, e, n, k, q, r⟩ := h
    exact ⟨p, kvs, e, (t.rd' n k).1, (t.rd' n k).2, q, Reps.tr t ds _ r⟩
  | .obj c ds, v, h => by
    obtain ⟨p, dx, fs, e, n, k, q, r⟩ := h
    exact ⟨p, dx, fs, e, t.av _ _ n k, t.eq _ _ n k True.intro, q, Reps.tr t ds _ r⟩
theorem Reps.tr (t : Tr S H S' H') : ∀ (ds : List D) (vs : List V), Reps G S H ds vs → Reps G S' H' ds vs
  | [], vs, h => h
  | d :: ds, vs, h => by
    obtain ⟨v, r, e, h1, h2⟩ := h
    exact ⟨v, r, e, Rep.tr t d v h1, Reps.tr t ds r h2⟩
end
theorem Reps.len : ∀ {ds : List D} {vs : List V}, Reps G S H ds vs → vs.length = ds.length
  | [], vs, h => by cases h; rfl
  | d :: ds, vs, h => by
    obtain ⟨v, r, e, h1, h2⟩ := h
    subst e
    rw [List.length_cons, List.length_cons, Reps.len h2]
theorem Reps.get : ∀ {ds : List D} {vs : List V} {i : Nat} {d : D}, Reps G S H ds vs → ds[i]? = some d → ∃ v, vs[i]? = some v ∧ Rep G S H d v
  | [], vs, i, d, h, e => by simp at e
  | d0 :: ds, vs, 0, d, h, e => by
    obtain ⟨v, r, q, h1, h2⟩ := h
    subst q
    have e' : d0 = d := Option.some.inj e
    subst e'
    exact ⟨v, rfl, h1⟩
  | d0 :: ds, vs, i + 1, d, h, e => by
    obtain ⟨v, r, q, h1, h2⟩ := h
    subst q
    obtain ⟨v', e', r'⟩ := Reps.get (i := i) h2 (by simpa using e)
    exact ⟨v', by simpa using e', r'⟩
theorem Reps.nil : Reps G S H [] [] := by unfold Reps; rfl
theorem Reps.cons {d : D} {ds : List D} {v : V} {vs : List V} (h : Rep G S H d v) (r : Reps G S H ds vs) : Reps G S H (d :: ds) (v :: vs) := by
  unfold Reps
  exact ⟨v, vs, rfl, h, r⟩
theorem Reps.append : ∀ {ds es : List D} {vs us : List V}, Reps G S H ds vs → Reps G S H es us → Reps G S H (ds ++ es) (vs ++ us)
  | [], es, vs, us, h, r => by cases h; exact r
  | d :: ds, es, vs, us, h, r => by
    obtain ⟨v, q, e, h1, h2⟩ := h
    subst e
    exact Reps.cons h1 (Reps.append h2 r)
theorem Reps.set : ∀ {ds : List D} {vs : List V} {i : Nat} {d : D} {v : V}, Reps G S H ds vs → Rep G S H d v → Reps G S H (ds.set i d) (vs.set i v)
  | [], vs, i, d, v, h, r => by cases h; exact Reps.nil
  | d0 :: ds, vs, 0, d, v, h, r => by
    obtain ⟨v0, q, e, h1, h2⟩ := h
    subst e
    exact Reps.cons r h2
  | d0 :: ds, vs, i + 1, d, v, h, r => by
    obtain ⟨v0, q, e, h1, h2⟩ := h
    subst e
    exact Reps.cons h1 (Reps.set h2 r)
theorem Reps.take : ∀ {ds : List D} {vs : List V} (n : Nat), Reps G S H ds vs → Reps G S H (ds.take n) (vs.take n)
  | ds, vs, 0, h => Reps.nil
  | [], vs, n + 1, h => by cases h; exact Reps.nil
  | d0 :: ds, vs, n + 1, h => by
    obtain ⟨v0, q, e, h1, h2⟩ := h
    subst e
    exact Reps.cons h1 (Reps.take n h2)
theorem Reps.drop : ∀ {ds : List D} {vs : List V} (n : Nat), Reps G S H ds vs → Reps G S H (ds.drop n) (vs.drop n)
  | ds, vs, 0, h => h
  | [], vs, n + 1, h => by cases h; exact Reps.nil
  | d0 :: ds, vs, n + 1, h => by
    obtain ⟨v0, q, e, h1, h2⟩ := h
    subst e
    exact Reps.drop n h2
end
/-! ### slots -/
inductive Sl where
  | none | val (d : D) | own (d : D) | self (d : D)
  deriving Inhabited
abbrev Env := List Sl
abbrev Ent := Option V × Sl
def OwnAt (G : Gam) (S : Addr → Prop) (H : Hp) (p : Addr) : D → Prop
  | .lst ds => ∃ vs, H p = some (.lst vs) ∧ Reps G S H ds vs
  | .dic ks ds => ∃ kvs, H p = some (.dK kvs) ∧ kvs.map (·.1) = ks ∧ Reps G S H ds (kvs.map (·.2))
  | .obj c ds => ∃ dx fs, H p = some (.ins (G.ca c) dx fs) ∧ fs.map (·.1) = (G.fs c).take ds.length ∧ Reps G S H ds (fs.map (·.2))
  | _ => False
/-- P: the pinned object (a method's own self) -/
def Holds (G : Gam) (P : Addr) (S : Addr → Prop) (H : Hp) : Ent → Prop
  | (_, .none) => True
  | (v, .val d) => ∃ u, v = some u ∧ Rep G S H d u
  | (v, .own d) => ∃ p, v = some (.ref p) ∧ OwnAt G S H p d
  | (v, .self d) => v = some (.ref P) ∧ OwnAt G S H P d
def ownOf : Ent → Option Addr
  | (some (.ref p), .own _) => some p
  | (some (.ref p), .self _) => some p
  | _ => Option.none
abbrev owns (L : List Ent) : List Addr := L.filterMap ownOf
def avoid (S0 : Addr → Prop) (L : List Ent) : Addr → Prop := fun a => S0 a ∨ a ∈ owns L
structure RE (G : Gam) (P : Addr) (S0 : Addr → Prop) (H0 : Hp) (L : List Ent) (H : Hp) : Prop where
  same : Same H0 H
  inb : ∀ p, S0 p → ∃ o, H0 p = some o
  nd : (owns L).Nodup
  new : ∀ p, p ∈ owns L → H0 p = Option.none
  all : ∀ e, e ∈ L → Holds G P (avoid S0 L) H e
theorem OwnAt.there {G : Gam} {S : Addr → Prop} {H : Hp} {p : Addr} {d : D} (h : OwnAt G S H p d) : ∃ o, H p = some o := by
  cases d with
  | lst ds => obtain ⟨vs, e, _⟩ := h; exact ⟨_, e⟩
  | dic ks ds => obtain ⟨vs, e, _⟩ := h; exact ⟨_, e⟩
  | obj c ds => obtain ⟨dx, vs, e, _⟩ := h; exact ⟨_, e⟩
  | _ => exact h.elim
theorem OwnAt.tr {G : Gam} {S S' : Addr → Prop} {H H' : Hp} {p : Addr} {d : D} (t : Tr S H S' H') (e : H' p = H p) (h : OwnAt G S H p d) : OwnAt G S' H' p d := by
  cases d with
  | lst ds => obtain ⟨vs, q, r⟩ := h; exact ⟨vs, e.trans q, r.tr t⟩
  | dic ks ds => obtain ⟨vs, q, m, r⟩ := h; exact ⟨vs, e.trans q, m, r.tr t⟩
  | obj c ds => obtain ⟨dx, vs, q, m, r⟩ := h; exact ⟨dx, vs, e.trans q, m, r.tr t⟩
  | _ => exact h.elim
section
variable {G : Gam} {P : Addr} {S0 : Addr → Prop} {H0 H H' : Hp} {A A' B L L' : List Ent}
theorem owns_append : owns (A ++ B) = owns A ++ owns B := List.filterMap_append
theorem mem_owns {p : Addr} : p ∈ owns L ↔ ∃ e ∈ L, ownOf e = some p := List.mem_filterMap
theorem Holds.own_there {S : Addr → Prop} {e : Ent} {p : Addr} (h : Holds G P S H e) (q : ownOf e = some p) : ∃ o, H p = some o := by
  obtain ⟨v, s⟩ := e
  cases s with
  | none => cases v with
    | none => cases q
    | some u => cases u <;> cases q
  | val d => cases v with
    | none => cases q
    | some u => cases u <;> cases q
  | own d =>
    obtain ⟨p', e, o⟩ := h
    subst e
    cases q
    exact o.there
  | self d =>
    obtain ⟨e, o⟩ := h
    have e' : v = some (V.ref P) := e
    subst e'
    cases q
    exact o.there
theorem RE.there (R : RE G P S0 H0 L H) {p : Addr} (h : p ∈ owns L) : ∃ o, H p = some o := by
  obtain ⟨e, he, q⟩ := mem_owns.mp h
  exact (R.all e he).own_there q
theorem RE.s0 (R : RE G P S0 H0 L H) {p : Addr} (h : S0 p) : ∃ o, H p = some o := by
  obtain ⟨o, e⟩ := R.inb p h
  exact ⟨o, R.same _ _ e⟩
theorem Holds.tr {S S' : Addr → Prop} {e : Ent} (t : Tr S H S' H') (k : ∀ p, ownOf e = some p → H' p = H p) (h : Holds G P S H e) : Holds G P S' H' e := by
  obtain ⟨v, s⟩ := e
  cases s with
  | none => exact h
  | val d =>
    obtain ⟨u, q, r⟩ := h
    exact ⟨u, q, r.tr t⟩
  | own d =>
    obtain ⟨p, q, r⟩ := h
    subst q
    exact ⟨p, rfl, r.tr t (k p rfl)⟩
  | self d =>
    obtain ⟨q, r⟩ := h
    have q' : v = some (V.ref P) := q
    subst q'
    exact ⟨rfl, r.tr t (k P rfl)⟩
/-- THE STEP: the entries A become A', the others stay -/
theorem RE.next (R : RE G P S0 H0 (A ++ B) H) (same : Same H0 H') (nd : (owns A').Nodup) (new : ∀ p, p ∈ owns A' → H0 p = Option.none)
    (dj : ∀ p, p ∈ owns A' → p ∉ owns B) (fresh : ∀ p o, p ∈ owns A' → H p = some o → p ∈ owns A)
    (kept : ∀ a o, H a = some o → a ∉ owns A → H' a = some o)
    (all : ∀ e, e ∈ A' → Holds G P (avoid S0 (A' ++ B)) H' e) : RE G P S0 H0 (A' ++ B) H' := by
  have ndB : (owns B).Nodup := by
    have := R.nd
    rw [owns_append] at this
    exact (List.nodup_append.mp this).2.1
  have djA : ∀ p, p ∈ owns A → p ∉ owns B := fun p h1 h2 => by
    have := R.nd
    rw [owns_append] at this
    exact (List.nodup_append.mp this).2.2 p h1 p h2 rfl
  refine ⟨same, R.inb, ?_, ?_, ?_⟩
  · rw [owns_append]
    exact List.nodup_append.mpr ⟨nd, ndB, fun a h1 b h2 e => dj a h1 (e ▸ h2)⟩
  · intro p h
    rw [owns_append] at h
    rcases List.mem_append.mp h with h | h
    · exact new p h
    · exact R.new p (by rw [owns_append]; exact List.mem_append_right _ h)
  · intro e he
    rcases List.mem_append.mp he with h | h
    · exact all e h
    · refine (R.all e (List.mem_append_right _ h)).tr (Tr.of fun a o hs hh => ?_) fun p q => ?_
      · have ha : a ∉ owns A := fun z => hs (.inr (by rw [owns_append]; exact List.mem_append_left _ z))
        have hb : a ∉ owns B := fun z => hs (.inr (by rw [owns_append]; exact List.mem_append_right _ z))
        refine ⟨kept a o hh ha, fun z => ?_⟩
        rcases z with z | z
        · exact hs (.inl z)
        · rw [owns_append] at z
          rcases List.mem_append.mp z with z | z
          · exact ha (fresh a o z hh)
          · exact hb z
      · have hp : p ∈ owns B := mem_owns.mpr ⟨e, h, q⟩
        obtain ⟨o, ho⟩ := (R.all e (List.mem_append_right _ h)).own_there q
        rw [ho]
        exact kept p o ho fun z => djA p z hp
theorem avoid_perm (h : L.Perm L') : avoid S0 L = avoid S0 L' := by
  funext a
  have : a ∈ owns L ↔ a ∈ owns L' := (h.filterMap ownOf).mem_iff
  exact propext (or_congr Iff.rfl this)
theorem RE.perm (R : RE G P S0 H0 L H) (h : L.Perm L') : RE G P S0 H0 L' H := by
  have hp := h.filterMap ownOf
  refine ⟨R.same, R.inb, hp.nodup_iff.mp R.nd, fun p q => R.new p (hp.mem_iff.mpr q), fun e he => ?_⟩
  rw [← avoid_perm h]
  exact R.all e (h.mem_iff.mpr he)
/-- entries dropped -/
theorem RE.drop (R : RE G P S0 H0 (A ++ B) H) : RE G P S0 H0 B H :=
  RE.next (A' := []) R R.same List.nodup_nil (fun _ h => nomatch h) (fun _ h => nomatch h) (fun _ _ h => nomatch h) (fun _ _ h _ => h) (fun _ h => nomatch h)
theorem OwnAt.rep {S : Addr → Prop} {p : Addr} {d : D} (h : OwnAt G S H p d) (n : ¬ S p) : Rep G S H d (.ref p) := by
  cases d with
  | lst ds =>
    obtain ⟨vs, e, r⟩ := h
    unfold Rep
    exact ⟨p, vs, rfl, n, e, r⟩
  | dic ks ds =>
    obtain ⟨vs, e, m, r⟩ := h
    unfold Rep
    exact ⟨p, vs, rfl, n, .inl e, m, r⟩
  | obj c ds =>
    obtain ⟨dx, vs, e, m, r⟩ := h
    unfold Rep
    exact ⟨p, dx, vs, rfl, n, e, m, r⟩
  | _ => exact h.elim
theorem owns_val {v : Option V} {d : D} : owns ((v, Sl.val d) :: B) = owns B := by
  show List.filterMap ownOf ((v, Sl.val d) :: B) = _
  rw [List.filterMap_cons]
  cases v with
  | none => rfl
  | some u => cases u <;> rfl
theorem owns_none {v : Option V} : owns ((v, Sl.none) :: B) = owns B := by
  show List.filterMap ownOf ((v, Sl.none) :: B) = _
  rw [List.filterMap_cons]
  cases v with
  | none => rfl
  | some u => cases u <;> rfl
theorem owns_own {p : Addr} {d : D} : owns ((some (.ref p), Sl.own d) :: B) = p :: owns B := rfl
theorem owns_self {p : Addr} {d : D} : owns ((some (.ref p), Sl.self d) :: B) = p :: owns B := rfl
/-- ownership given up -/
theorem RE.share {v : Option V} {d : D} (R : RE G P S0 H0 ((v, .own d) :: B) H) : RE G P S0 H0 ((v, .val d) :: B) H := by
  obtain ⟨p, e, o⟩ := R.all _ (List.mem_cons_self)
  subst e
  have nd := R.nd
  rw [owns_own] at nd
  have np : p ∉ owns B := (List.nodup_cons.mp nd).1
  have nS : ¬ S0 p := fun z => by
    obtain ⟨o, e⟩ := R.inb p z
    rw [R.new p (by rw [owns_own]; exact List.mem_cons_self)] at e
    cases e
  refine RE.next (A := [(some (.ref p), .own d)]) (A' := [(some (.ref p), .val d)]) (B := B) R R.same List.nodup_nil (fun _ h => nomatch h) (fun _ h => nomatch h) (fun _ _ h => nomatch h) (fun _ _ h _ => h) fun e he => ?_
  have e' : e = (some (.ref p), .val d) := by simpa using he
  subst e'
  refine ⟨_, rfl, OwnAt.rep (S := avoid S0 ([(some (V.ref p), Sl.val d)] ++ B)) (OwnAt.tr (Tr.of fun a o' hs hh => ⟨hh, fun z => hs ?_⟩) rfl o) fun z => ?_⟩
  · rcases z with z | z
    · exact .inl z
    · exact .inr (by rw [owns_own]; exact List.mem_cons_of_mem _ (by simpa [owns_val] using z))
  · rcases z with z | z
    · exact nS z
    · exact np (by simpa [owns_val] using z)
/-- a val entry may be added where it holds -/
theorem RE.addVal {v : V} {d : D} (R : RE G P S0 H0 B H) (h : Rep G (avoid S0 B) H d v) : RE G P S0 H0 ((some v, .val d) :: B) H := by
  have eo : owns [(some v, Sl.val d)] = [] := owns_val
  refine RE.next (A := []) (A' := [(some v, .val d)]) (B := B) R R.same (by rw [eo]; exact List.nodup_nil) (by rw [eo]; exact fun _ h => nomatch h) (by rw [eo]; exact fun _ h => nomatch h) (by rw [eo]; exact fun _ _ h => nomatch h) (fun _ _ h _ => h) fun e he => ?_
  have e' : e = (some v, .val d) := by simpa using he
  subst e'
  refine ⟨v, rfl, ?_⟩
  have ea : avoid S0 ([(some v, Sl.val d)] ++ B) = avoid S0 B := by
    funext a
    unfold avoid
    rw [show [(some v, Sl.val d)] ++ B = (some v, Sl.val d) :: B from rfl, owns_val]
  rw [ea]
  exact h
theorem RE.addNone {v : Option V} (R : RE G P S0 H0 B H) : RE G P S0 H0 ((v, .none) :: B) H := by
  refine RE.next (A := []) (A' := [(v, .none)]) (B := B) R R.same ?_ ?_ ?_ ?_ (fun _ _ h _ => h) fun e he => ?_
  · rw [owns_none]; exact List.nodup_nil
  · rw [owns_none]; exact fun _ h => nomatch h
  · rw [owns_none]; exact fun _ h => nomatch h
  · rw [owns_none]; exact fun _ _ h => nomatch h
  · have e' : e = (v, .none) := by simpa using he
    subst e'
    exact True.intro
/-- what a val entry tells -/
theorem RE.val {v : Option V} {d : D} (R : RE G P S0 H0 L H) (h : (v, Sl.val d) ∈ L) : ∃ u, v = some u ∧ Rep G (avoid S0 L) H d u := R.all _ h
end
end Dl
namespace Dl
open PySem PySem.Spec L2
open PyProof.Rows hiding St
abbrev ents (σ : St) (ρ : Env) : List Ent := σ.zip ρ
structure Fm where
  P : Addr
  S0 : Addr → Prop
  H0 : Hp
structure RS (G : Gam) (M : Fm) (ρ : Env) (τ : List Ent) (σ : St) (H : Hp) : Prop where
  len : ρ.length = σ.length
  re : RE G M.P M.S0 M.H0 (ents σ ρ ++ τ) H
inductive Res (α : Type) where
  | ok (a : α) | exc (c : Nat) (fs : List D) (ρ : Env) | stuck
def Res.bind {α β : Type} (r : Res α) (k : α → Res β) : Res β := match r with
  | .ok a => k a
  | .exc c fs ρ => .exc c fs ρ
  | .stuck => .stuck
abbrev FE := Env → Res (Sl × Env)
/-- an exception of the class c with its fields -/
def RX (G : Gam) (c : Nat) (fs : List D) (dd : Option Addr) (vs : List V) (H : Hp) : Prop :=
  (fs = [] ∧ dd = none ∧ vs = []) ∨ (∃ d0 d v n, dd = some d0 ∧ fs = [d] ∧ vs = [v] ∧ G.fs c = [n] ∧ H d0 = some (.xd [(n, v)]))
def xents (vs : List V) (fs : List D) : List Ent := (vs.map some).zip (fs.map Sl.val)
def post (G : Gam) (Wt : WX) (M : Fm) (τ : List Ent) (σ : St) (r : Res (Sl × Env)) (Q : V → Hp → Prop) : Prop := match r with
  | .ok (w, ρ') => ∀ v H', RS G M ρ' ((some v, w) :: τ) σ H' → Q v H'
  | .exc c fs ρ' => ∀ dd vs H', RX G c fs dd vs H' → RS G M ρ' (xents vs fs ++ τ) σ H' → Wt (.ref (G.ca c)) dd σ H'
  | .stuck => False
def tE (G : Gam) (Wt : WX) (F : FE) : TE := fun σ H Q => ∃ M ρ τ, RS G M ρ τ σ H ∧ post G Wt M τ σ (F ρ) Q
theorem _root_.L2.PE.weak {X : Cx} {e : Expr} {t t' : TE} (h : PE X e t) (k : ∀ σ H Q, t' σ H Q → t σ H Q) : PE X e t' := ⟨fun pins s σ H Q I q => h.run pins s σ H Q I (k σ H Q q)⟩
theorem _root_.L2.PT.weak {X : Cx} {e : Expr} {t t' : TT} (h : PT X e t) (k : ∀ σ H Q, t' σ H Q → t σ H Q) : PT X e t' := ⟨fun pins s σ H Q I q => h.run pins s σ H Q I (k σ H Q q)⟩
theorem _root_.L2.PA.weak {X : Cx} {e : List Expr} {t t' : TA} (h : PA X e t) (k : ∀ σ H Q, t' σ H Q → t σ H Q) : PA X e t' := ⟨fun pos pins s σ H Q I q => h.run pos pins s σ H Q I (k σ H Q q)⟩
theorem _root_.L2.PS.weak {X : Cx} {e : Stmt} {t t' : TS} (h : PS X e t) (k : ∀ D σ H, t' D σ H → t D σ H) : PS X e t' := ⟨fun pins s σ H D I q => h.run pins s σ H D I (k D σ H q)⟩
theorem _root_.L2.PSs.weak {X : Cx} {e : List Stmt} {t t' : TS} (h : PSs X e t) (k : ∀ D σ H, t' D σ H → t D σ H) : PSs X e t' := ⟨fun pins s σ H D I q => h.run pins s σ H D I (k D σ H q)⟩
theorem perm_at {α : Type} : ∀ {l : List α} {i : Nat} {a : α}, l[i]? = some a → l.Perm (a :: l.eraseIdx i)
  | [], i, a, h => by simp at h
  | b :: l, 0, a, h => by
    have e : b = a := Option.some.inj h
    subst e
    exact .refl _
  | b :: l, i + 1, a, h => by
    have ih := perm_at (l := l) (i := i) (a := a) (by simpa using h)
    rw [List.eraseIdx_cons_succ]
    exact (List.Perm.cons b ih).trans (List.Perm.swap a b _)
theorem perm_set {α : Type} : ∀ {l : List α} {i : Nat} (b : α), i < l.length → (l.set i b).Perm (b :: l.eraseIdx i)
  | [], i, b, h => by simp at h
  | c :: l, 0, b, h => .refl _
  | c :: l, i + 1, b, h => by
    have ih := perm_set (l := l) (i := i) b (by simpa using h)
    rw [List.eraseIdx_cons_succ, List.set_cons_succ]
    exact (List.Perm.cons c ih).trans (List.Perm.swap b c _)
theorem zip_set : ∀ {σ : St} {ρ : Env} {i : Nat} (v : Option V) (w : Sl), ents (σ.set i v) (ρ.set i w) = (ents σ ρ).set i (v, w)
  | [], ρ, i, v, w => by simp [ents]
  | x :: σ, [], i, v, w => by cases i <;> simp [ents]
  | x :: σ, y :: ρ, 0, v, w => rfl
  | x :: σ, y :: ρ, i + 1, v, w => by
    show (x, y) :: ents (σ.set i v) (ρ.set i w) = (x, y) :: (ents σ ρ).set i (v, w)
    rw [zip_set]
theorem zip_set1 {σ : St} {ρ : Env} {i : Nat} {v : Option V} (w : Sl) (h : σ[i]? = some v) : ents σ (ρ.set i w) = (ents σ ρ).set i (v, w) := by
  have e : σ.set i v = σ := by
    apply List.ext_getElem?
    intro j
    rw [List.getElem?_set]
    split
    · rename_i q
      subst q
      split
      · exact h.symm
      · rename_i q2
        rw [List.getElem?_eq_none (Nat.le_of_not_lt q2)] at h
        cases h
    · rfl
  have z := zip_set (σ := σ) (ρ := ρ) (i := i) v w
  rw [e] at z
  exact z
section
variable {G : Gam} {Wt : WX} {M : Fm} {ρ : Env} {τ τ' : List Ent} {σ : St} {H H' : Hp} {i : Nat} {w w' : Sl}
theorem RS.at_ (R : RS G M ρ τ σ H) (h : ρ[i]? = some w) : ∃ v, σ[i]? = some v ∧ (ents σ ρ)[i]? = some (v, w) := by
  have hi : i < σ.length := by rw [← R.len]; exact (List.getElem?_eq_some_iff.mp h).1
  refine ⟨σ[i], List.getElem?_eq_getElem hi, ?_⟩
  rw [List.getElem?_zip_eq_some]
  exact ⟨List.getElem?_eq_getElem hi, h⟩
theorem ents_perm {v : Option V} (h : (ents σ ρ)[i]? = some (v, w)) : (ents σ ρ ++ τ).Perm ((v, w) :: ((ents σ ρ).eraseIdx i ++ τ)) := (perm_at h).append_right τ
theorem ents_perm_set {v v' : Option V} (h : (ents σ ρ)[i]? = some (v, w)) : (ents (σ.set i v') (ρ.set i w') ++ τ).Perm ((v', w') :: ((ents σ ρ).eraseIdx i ++ τ)) := by
  rw [zip_set]
  exact (perm_set _ (List.getElem?_eq_some_iff.mp h).1).append_right τ
theorem ents_perm_set1 {v : Option V} (h0 : σ[i]? = some v) (h : (ents σ ρ)[i]? = some (v, w)) : (ents σ (ρ.set i w') ++ τ).Perm ((v, w') :: ((ents σ ρ).eraseIdx i ++ τ)) := by
  rw [zip_set1 w' h0]
  exact (perm_set _ (List.getElem?_eq_some_iff.mp h).1).append_right τ
theorem RS.perm (R : RS G M ρ τ σ H) (h : τ.Perm τ') : RS G M ρ τ' σ H := ⟨R.len, R.re.perm (h.append_left _)⟩
theorem RS.front (R : RS G M ρ (τ' ++ τ) σ H) : RE G M.P M.S0 M.H0 (τ' ++ (ents σ ρ ++ τ)) H := by
  refine R.re.perm ?_
  rw [← List.append_assoc, ← List.append_assoc]
  exact List.perm_append_comm.append_right τ
theorem RS.unfront (len : ρ.length = σ.length) (R : RE G M.P M.S0 M.H0 (τ' ++ (ents σ ρ ++ τ)) H) : RS G M ρ (τ' ++ τ) σ H := by
  refine ⟨len, R.perm ?_⟩
  rw [← List.append_assoc, ← List.append_assoc]
  exact List.perm_append_comm.append_right τ
theorem RS.drop (R : RS G M ρ (τ' ++ τ) σ H) : RS G M ρ τ σ H := ⟨R.len, R.front.drop⟩
theorem RS.drop1 {e : Ent} (R : RS G M ρ (e :: τ) σ H) : RS G M ρ τ σ H := RS.drop (τ' := [e]) R
theorem RS.val (R : RS G M ρ τ σ H) {v : Option V} {d : D} (h : (v, Sl.val d) ∈ τ) : ∃ u, v = some u ∧ Rep G (avoid M.S0 (ents σ ρ ++ τ)) H d u := R.re.val (List.mem_append_right _ h)
theorem RS.addVal {v : V} {d : D} (R : RS G M ρ τ σ H) (h : Rep G (avoid M.S0 (ents σ ρ ++ τ)) H d v) : RS G M ρ ((some v, .val d) :: τ) σ H :=
  RS.unfront (τ' := [_]) R.len (R.re.addVal h)
theorem RS.share {v : Option V} {d : D} (R : RS G M ρ ((v, .own d) :: τ) σ H) : RS G M ρ ((v, .val d) :: τ) σ H :=
  RS.unfront (τ' := [_]) R.len (RS.front (τ' := [_]) R).share
/-- flat data -/
def flat : D → Option V
  | .non => some .non
  | .bl b => some (.bl b)
  | .int i => some (.int i)
  | .str s => some (.str s)
  | _ => none
theorem flat_rep {S : Addr → Prop} {d : D} {v u : V} (f : flat d = some v) : Rep G S H d u ↔ u = v := by
  cases d with
  | non => cases f; exact Iff.rfl
  | bl b => cases f; exact Iff.rfl
  | int b => cases f; exact Iff.rfl
  | str b => cases f; exact Iff.rfl
  | _ => cases f
theorem RS.addFlat {v : V} {d : D} (R : RS G M ρ τ σ H) (f : flat d = some v) : RS G M ρ ((some v, .val d) :: τ) σ H := R.addVal ((flat_rep f).mpr rfl)
theorem RS.flat {v : Option V} {d : D} {u : V} (R : RS G M ρ τ σ H) (h : (v, Sl.val d) ∈ τ) (f : flat d = some u) : v = some u := by
  obtain ⟨u', e, r⟩ := R.re.val (List.mem_append_right _ h)
  rw [e, (flat_rep f).mp r]
/-- a new object -/
theorem RS.alloc {p : Addr} {o : HO} {d : D} (R : RS G M ρ τ σ H) (hp : H p = none) (ho : OwnAt G (avoid M.S0 (ents σ ρ ++ ((some (.ref p), .own d) :: τ))) (upd H p o) p d) :
    RS G M ρ ((some (.ref p), .own d) :: τ) σ (upd H p o) := by
  have kept : ∀ a u, H a = some u → upd H p o a = some u := fun a u e => by rw [upd_ne (ne_of_none e hp)]; exact e
  have h0 : M.H0 p = none := Same.free R.re.same hp
  refine RS.unfront (τ' := [_]) R.len (RE.next (A := []) (B := ents σ ρ ++ τ) R.re (R.re.same.trans kept) (by simp [ownOf]) ?_ ?_ ?_ (fun a u e _ => kept a u e) fun e he => ?_)
  · intro q hq
    have e : q = p := by simpa [ownOf] using hq
    rw [e]; exact h0
  · intro q hq z
    have e : q = p := by simpa [ownOf] using hq
    obtain ⟨u, hu⟩ := R.re.there z
    rw [e, hp] at hu; cases hu
  · intro q u hq hu
    have e : q = p := by simpa [ownOf] using hq
    rw [e, hp] at hu; cases hu
  · have e' : e = (some (.ref p), .own d) := by simpa using he
    subst e'
    refine ⟨p, rfl, ?_⟩
    have ea : avoid M.S0 ([(some (V.ref p), Sl.own d)] ++ (ents σ ρ ++ τ)) = avoid M.S0 (ents σ ρ ++ ((some (.ref p), .own d) :: τ)) :=
      avoid_perm (show ([(some (V.ref p), Sl.own d)] ++ (ents σ ρ ++ τ)).Perm (ents σ ρ ++ ((some (.ref p), .own d) :: τ)) from (List.perm_middle (a := ((some (V.ref p), Sl.own d) : Ent)) (l₁ := ents σ ρ) (l₂ := τ)).symm)
    rw [ea]
    exact ho
/-- representations go over to a heap with one object more -/
theorem tr_alloc {p : Addr} {o : HO} {S : Addr → Prop} {L : List Ent} (hp : H p = none) {S0 : Addr → Prop} {e : Ent} (he : ownOf e = some p ∨ ownOf e = none) : Tr (avoid S0 L) H (avoid S0 (e :: L)) (upd H p o) := by
  refine Tr.of fun a u n h => ?_
  refine ⟨by rw [upd_ne (ne_of_none h hp)]; exact h, fun z => ?_⟩
  rcases z with z | z
  · exact n (.inl z)
  · unfold owns at z
    rw [List.filterMap_cons] at z
    rcases he with q | q
    · rw [q] at z
      rcases List.mem_cons.mp z with z | z
      · rw [z, hp] at h; cases h
      · exact n (.inr z)
    · rw [q] at z
      exact n (.inr z)
theorem RS.avoid_mid {e : Ent} : avoid M.S0 (ents σ ρ ++ (e :: τ)) = avoid M.S0 (e :: (ents σ ρ ++ τ)) := avoid_perm List.perm_middle
theorem post_bind {r : Res (Sl × Env)} {k : Sl × Env → Res (Sl × Env)} {Q R : V → Hp → Prop} {τ1 : List Ent} (h : post G Wt M τ1 σ (r.bind k) Q) (hx : ∀ vs fs ρ' H', RS G M ρ' (xents vs fs ++ τ) σ H' → RS G M ρ' (xents vs fs ++ τ1) σ H')
    (hr : ∀ w ρ' v H', r = .ok (w, ρ') → RS G M ρ' ((some v, w) :: τ) σ H' → post G Wt M τ1 σ (k (w, ρ')) Q → R v H') : post G Wt M τ σ r R := by
  cases r with
  | ok a =>
    obtain ⟨w, ρ'⟩ := a
    exact fun v H' z => hr w ρ' v H' rfl z h
  | exc c fs ρ' => exact fun dd vs H' x z => h dd vs H' x (hx _ _ _ _ z)
  | stuck => exact h
theorem post_bind0 {r : Res (Sl × Env)} {k : Sl × Env → Res (Sl × Env)} {Q R : V → Hp → Prop} (h : post G Wt M τ σ (r.bind k) Q)
    (hr : ∀ w ρ' v H', r = .ok (w, ρ') → RS G M ρ' ((some v, w) :: τ) σ H' → post G Wt M τ σ (k (w, ρ')) Q → R v H') : post G Wt M τ σ r R := post_bind h (fun _ _ _ _ z => z) hr
theorem post_mono {r : Res (Sl × Env)} {Q R : V → Hp → Prop} (h : post G Wt M τ σ r Q) (hq : ∀ v H, Q v H → R v H) : post G Wt M τ σ r R := by
  cases r with
  | ok a => obtain ⟨w, ρ'⟩ := a; exact fun v H' z => hq _ _ (h v H' z)
  | exc c fs ρ' => exact h
  | stuck => exact h
theorem xe_drop {e : Ent} {vs : List V} {fs : List D} (R : RS G M ρ (xents vs fs ++ (e :: τ)) σ H) : RS G M ρ (xents vs fs ++ τ) σ H :=
  RS.drop1 (e := e) (R.perm List.perm_middle)
end
/-! ### values read -/
def cVar (i : Nat) : FE := fun ρ => match ρ[i]? with
  | some (.val d) => .ok (.val d, ρ)
  | some (.own d) => .ok (.val d, ρ.set i (.val d))
  | _ => .stuck
/-- the last use: the slot is given up -/
def cMove (i : Nat) : FE := fun ρ => match ρ[i]? with
  | some (.val d) => .ok (.val d, ρ)
  | some (.own d) => .ok (.own d, ρ.set i .none)
  | _ => .stuck
section
variable {X : Cx} {G : Gam} {Wt : WX} {i : Nat} {x : Str} {pos : Pos}
theorem e_var (hN : X.N[i]? = some x) (hv : Vis X.env.scope x) (hd : (x == ("__debug__" : Str)) = false := by decide) (hcd : (x == ("__classdict__" : Str)) = false := by decide) : PE X (.Name x pos) (tE G Wt (cVar i)) := by
  refine (pe_var hN hv hd hcd).weak fun σ H Q h => ?_
  obtain ⟨M, ρ, τ, R, h⟩ := h
  unfold cVar at h
  split at h
  · rename_i d e
    obtain ⟨v, e1, e2⟩ := R.at_ e
    have hm : (v, Sl.val d) ∈ ents σ ρ ++ τ := List.mem_append_left _ (List.mem_of_getElem? e2)
    obtain ⟨u, rfl, r⟩ := R.re.val hm
    exact ⟨u, e1, h u H (R.addVal r)⟩
  · rename_i d e
    obtain ⟨v, e1, e2⟩ := R.at_ e
    have R1 : RE G M.P M.S0 M.H0 ((v, .val d) :: ((ents σ ρ).eraseIdx i ++ τ)) H := (R.re.perm (ents_perm e2)).share
    have R2 : RS G M (ρ.set i (.val d)) τ σ H := ⟨by rw [List.length_set]; exact R.len, R1.perm (ents_perm_set1 e1 e2).symm⟩
    obtain ⟨u, rfl, r⟩ := R1.val List.mem_cons_self
    refine ⟨u, e1, h u H (R2.addVal ?_)⟩
    rw [avoid_perm (ents_perm_set1 e1 e2)]
    exact r
  · exact h.elim
theorem e_move (hN : X.N[i]? = some x) (hv : Vis X.env.scope x) (hd : (x == ("__debug__" : Str)) = false := by decide) (hcd : (x == ("__classdict__" : Str)) = false := by decide) : PE X (.Name x pos) (tE G Wt (cMove i)) := by
  refine (pe_var hN hv hd hcd).weak fun σ H Q h => ?_
  obtain ⟨M, ρ, τ, R, h⟩ := h
  unfold cMove at h
  split at h
  · rename_i d e
    obtain ⟨v, e1, e2⟩ := R.at_ e
    have hm : (v, Sl.val d) ∈ ents σ ρ ++ τ := List.mem_append_left _ (List.mem_of_getElem? e2)
    obtain ⟨u, rfl, r⟩ := R.re.val hm
    exact ⟨u, e1, h u H (R.addVal r)⟩
  · rename_i d e
    obtain ⟨v, e1, e2⟩ := R.at_ e
    have R1 : RE G M.P M.S0 M.H0 ((v, .own d) :: ((ents σ ρ).eraseIdx i ++ τ)) H := R.re.perm (ents_perm e2)
    obtain ⟨p, hp, _⟩ := R1.all _ List.mem_cons_self
    subst hp
    refine ⟨_, e1, h _ H ?_⟩
    -- the slot is emptied, the value comes beside
    have R2 : RE G M.P M.S0 M.H0 ((some (V.ref p), Sl.none) :: (some (V.ref p), .own d) :: ((ents σ ρ).eraseIdx i ++ τ)) H := R1.addNone
    refine ⟨by rw [List.length_set]; exact R.len, R2.perm ?_⟩
    refine (((List.Perm.swap _ _ _).trans (List.Perm.cons _ (ents_perm_set1 e1 e2).symm)).trans ?_)
    exact List.perm_middle.symm
  · exact h.elim
/-! ### constants -/
def cD (d : D) : FE := fun ρ => .ok (.val d, ρ)
theorem e_flat {e : Expr} {d : D} {v : V} (h : PE X e (tC v)) (f : flat d = some v) : PE X e (tE G Wt (cD d)) := by
  refine h.weak fun σ H Q h => ?_
  obtain ⟨M, ρ, τ, R, h⟩ := h
  exact h v H (R.addFlat f)
theorem e_int {i j pos} : PE X (.Constant (.int i) j pos) (tE G Wt (cD (.int i))) := e_flat pe_int rfl
theorem e_bl {i j pos} : PE X (.Constant (.bool i) j pos) (tE G Wt (cD (.bl i))) := e_flat pe_bl rfl
theorem e_str {i j pos} : PE X (.Constant (.str i) j pos) (tE G Wt (cD (.str i))) := e_flat pe_str rfl
theorem e_non {j pos} : PE X (.Constant .none j pos) (tE G Wt (cD .non)) := e_flat pe_non rfl
theorem e_globI {i : Int} {t : Tok} {pos : Pos} (hg : Gl X x) (hm : X.mg x = some (.int i t)) (hd : (x == ("__debug__" : Str)) = false := by decide) : PE X (.Name x pos) (tE G Wt (cD (.int i))) := e_flat (pe_glob (v := .int i) hg hm ⟨_, rfl⟩ hd) rfl
theorem e_globS {i : Str} {t : Tok} {pos : Pos} (hg : Gl X x) (hm : X.mg x = some (.str i t)) (hd : (x == ("__debug__" : Str)) = false := by decide) : PE X (.Name x pos) (tE G Wt (cD (.str i))) := e_flat (pe_glob (v := .str i) hg hm ⟨_, rfl⟩ hd) rfl
/-- a tuple of flat values of the module -/
theorem e_globT {ds : List D} {vs : List V} {a : Addr} {pos : Pos} (hK : X.K = G.K) (hg : Gl X x) (hm : X.mg x = some (.ref a)) (hk : KT G.K a vs) (hf : ∀ S H, Reps G S H ds vs) (hd : (x == ("__debug__" : Str)) = false := by decide) : PE X (.Name x pos) (tE G Wt (cD (.tup ds))) := by
  refine (pe_glob (v := .ref a) hg hm rfl hd).weak fun σ H Q h => ?_
  obtain ⟨M, ρ, τ, R, h⟩ := h
  refine h _ H (R.addVal ?_)
  unfold Rep
  exact ⟨a, vs, rfl, .inr hk, hf _ _⟩
end
end Dl
namespace Dl
open PySem PySem.Spec L2
open PyProof.Rows hiding St
/-! ### evaluated early -/
def fI {α : Type} (i : Int) (k : Int → α) : α := match i with
  | .ofNat n => fN n fun n => k (.ofNat n)
  | .negSucc n => fN n fun n => k (.negSucc n)
theorem fI_eq {α : Type} (i : Int) (k : Int → α) : fI i k = k i := by
  cases i with
  | ofNat n => exact fN_eq n fun n => k (.ofNat n)
  | negSucc n => exact fN_eq n fun n => k (.negSucc n)
def fB {α : Type} (b : Bool) (k : Bool → α) : α := match b with
  | true => k true
  | false => k false
theorem fB_eq {α : Type} (b : Bool) (k : Bool → α) : fB b k = k b := by cases b <;> rfl
/-- a result of values alone -/
abbrev RD := Res Sl
def okI (i : Int) : RD := fI i fun i => .ok (.val (.int i))
def okB (b : Bool) : RD := fB b fun b => .ok (.val (.bl b))
theorem okI_eq (i : Int) : okI i = .ok (.val (.int i)) := fI_eq i _
theorem okB_eq (b : Bool) : okB b = .ok (.val (.bl b)) := fB_eq b _
def liftD (r : RD) (ρ : Env) : Res (Sl × Env) := match r with
  | .ok w => .ok (w, ρ)
  | .exc c fs _ => .exc c fs ρ
  | .stuck => .stuck
/-- a two-place operation by data -/
def OpD (G : Gam) (Wt : WX) (X : Cx) (fn : Value → Value → Sem Value) (f : Sl → Sl → RD) : Prop :=
  ∀ (pins : List (Addr × Obj)) (s : Shared) (σ : St) (H : Hp) (x y : V) (v u : Value) (Q : VK) (M : Fm) (ρ : Env) (τ : List Ent) (wa wb : Sl), Inv X pins σ H s → RelV x v → RelV y u →
    RS G M ρ ((some y, wb) :: (some x, wa) :: τ) σ H → post G Wt M τ σ (liftD (f wa wb) ρ) Q → wpAny (model X.prog X.w) X.A (fn v u) (EP X pins σ Q) X.xe s
def UnD (G : Gam) (Wt : WX) (X : Cx) (fn : Value → Sem Value) (f : Sl → RD) : Prop :=
  ∀ (pins : List (Addr × Obj)) (s : Shared) (σ : St) (H : Hp) (x : V) (v : Value) (Q : VK) (M : Fm) (ρ : Env) (τ : List Ent) (wa : Sl), Inv X pins σ H s → RelV x v →
    RS G M ρ ((some x, wa) :: τ) σ H → post G Wt M τ σ (liftD (f wa) ρ) Q → wpAny (model X.prog X.w) X.A (fn v) (EP X pins σ Q) X.xe s
/-- a value's truth by data (the heap may grow) -/
def TruD (G : Gam) (Wt : WX) (X : Cx) (f : Sl → Res Bool) : Prop :=
  ∀ (pins : List (Addr × Obj)) (s : Shared) (σ : St) (H : Hp) (x : V) (v : Value) (Q : Bool → Hp → Prop) (M : Fm) (ρ : Env) (τ : List Ent) (wa : Sl) (b : Bool), Inv X pins σ H s → RelV x v →
    RS G M ρ ((some x, wa) :: τ) σ H → f wa = .ok b → (∀ H', RS G M ρ τ σ H' → Q b H') → wpAny (model X.prog X.w) X.A (truthy v) (TP X pins σ Q) X.xe s
def cBin (f : Sl → Sl → RD) (Fa Fb : FE) : FE := fun ρ => (Fa ρ).bind fun (wa, ρ1) => (Fb ρ1).bind fun (wb, ρ2) => liftD (f wa wb) ρ2
def cUn (f : Sl → RD) (Fa : FE) : FE := fun ρ => (Fa ρ).bind fun (wa, ρ1) => liftD (f wa) ρ1
section
variable {X : Cx} {G : Gam} {Wt : WX} {a b : Expr} {Fa Fb : FE} {pos : Pos} {f : Sl → Sl → RD} {g : Sl → RD}
/-- two expressions in a row, then an operation -/
theorem bin_run (ha : PE X a (tE G Wt Fa)) (hb : PE X b (tE G Wt Fb)) {pins : List (Addr × Obj)} {s : Shared} {σ : St} {H : Hp} {Q : VK} {fn : Value → Value → Sem Value} (op : OpD G Wt X fn f) (I : Inv X pins σ H s) (h : tE G Wt (cBin f Fa Fb) σ H Q) :
    wpAny (model X.prog X.w) X.A (eval a X.env) (fun v s₁ => wpAny (model X.prog X.w) X.A (eval b X.env) (fun u s₂ => wpAny (model X.prog X.w) X.A (fn v u) (EP X pins σ Q) X.xe s₂) X.xe s₁) X.xe s := by
  obtain ⟨M, ρ, τ, R, h⟩ := h
  refine thn (ha.run pins s σ H (fun x H1 => ∃ wa ρ1, RS G M ρ1 ((some x, wa) :: τ) σ H1 ∧ post G Wt M τ σ ((Fb ρ1).bind fun (wb, ρ2) => liftD (f wa wb) ρ2) Q) I ⟨M, ρ, τ, R, post_bind0 h fun w ρ1 v H1 _ R1 p => ⟨w, ρ1, R1, p⟩⟩) fun v s1 ⟨x, H1, I1, r1, wa, ρ1, R1, p1⟩ => ?_
  refine thn (hb.run pins s1 σ H1 (fun y H2 => ∃ wb ρ2, RS G M ρ2 ((some y, wb) :: (some x, wa) :: τ) σ H2 ∧ post G Wt M τ σ (liftD (f wa wb) ρ2) Q) I1 ⟨M, ρ1, _, R1, post_bind p1 (fun _ _ _ _ z => xe_drop z) fun w ρ2 u H2 _ R2 p => ⟨w, ρ2, R2, p⟩⟩) fun u s2 ⟨y, H2, I2, r2, wb, ρ2, R2, p2⟩ => ?_
  exact op pins s2 σ H2 x y v u Q M ρ2 τ wa wb I2 r1 r2 R2 p2
theorem e_bin {op : Operator} (ho : OpD G Wt X (binaryOp op) f) (ha : PE X a (tE G Wt Fa)) (hb : PE X b (tE G Wt Fb)) : PE X (.BinOp a op b pos) (tE G Wt (cBin f Fa Fb)) :=
  ⟨fun pins s σ H Q I h => wpAny_BinOp (bin_run ha hb ho I h)⟩
theorem e_cmp {op : CmpOp} (ho : OpD G Wt X (compareOp op) f) (ha : PE X a (tE G Wt Fa)) (hb : PE X b (tE G Wt Fb)) (h1 : behindInMarks op b = false) : PE X (.Compare a [op] [b] pos) (tE G Wt (cBin f Fa Fb)) :=
  ⟨fun pins s σ H Q I h => wpAny_Compare1 (bin_run ha hb ho I h) h1⟩
theorem e_un {op : UnaryOp} (ho : UnD G Wt X (unaryOp op) g) (ha : PE X a (tE G Wt Fa)) : PE X (.UnaryOp op a pos) (tE G Wt (cUn g Fa)) := by
  refine ⟨fun pins s σ H Q I h => ?_⟩
  obtain ⟨M, ρ, τ, R, h⟩ := h
  refine UnaryOp_ (thn (ha.run pins s σ H (fun x H1 => ∃ wa ρ1, RS G M ρ1 ((some x, wa) :: τ) σ H1 ∧ post G Wt M τ σ (liftD (g wa) ρ1) Q) I ⟨M, ρ, τ, R, post_bind0 h fun w ρ1 v H1 _ R1 p => ⟨w, ρ1, R1, p⟩⟩) fun v s1 ⟨x, H1, I1, r1, wa, ρ1, R1, p1⟩ => ?_)
  exact ho pins s1 σ H1 x v Q M ρ1 τ wa I1 r1 R1 p1
/-! ### operations on flat data, from the layer's -/
theorem opD_fop {fn : Value → Value → Sem Value} {r : R2} {f : Sl → Sl → RD} (hr : OpR X fn r) (hf : ∀ da db w, f (.val da) (.val db) = .ok w → ∃ x y d z, flat da = some x ∧ flat db = some y ∧ w = .val d ∧ flat d = some z ∧ ∀ H (Q : VK), Q z H → r x y H Q)
    (hn : ∀ wa wb w, f wa wb = .ok w → ∃ da db, wa = .val da ∧ wb = .val db) (hx : ∀ wa wb, (∃ w, f wa wb = .ok w) ∨ f wa wb = .stuck) : OpD G Wt X fn f := by
  intro pins s σ H x y v u Q M ρ τ wa wb I rx ry R p
  rcases hx wa wb with ⟨w, e⟩ | e
  · obtain ⟨da, db, rfl, rfl⟩ := hn _ _ _ e
    obtain ⟨xx, yy, d, z, fa, fb, rfl, fd, hq⟩ := hf _ _ _ e
    have ex : x = xx := Option.some.inj (R.flat (v := some x) (d := da) (List.mem_cons_of_mem _ List.mem_cons_self) fa)
    have ey : y = yy := Option.some.inj (R.flat (v := some y) (d := db) List.mem_cons_self fb)
    subst ex; subst ey
    rw [e] at p
    exact hr pins s σ H x y v u Q I rx ry (hq H Q (p z H (R.drop1.drop1.addFlat fd)))
  · rw [e] at p
    exact p.elim
end
/-- ints to an int, under a condition -/
def dII (C : Int → Int → Bool) (g : Int → Int → Int) : Sl → Sl → RD := fun wa wb => match wa, wb with
  | .val (.int i), .val (.int j) => (match C i j with
    | true => okI (g i j)
    | false => .stuck)
  | _, _ => .stuck
def dIB (g : Int → Int → Bool) : Sl → Sl → RD := fun wa wb => match wa, wb with
  | .val (.int i), .val (.int j) => okB (g i j)
  | _, _ => .stuck
theorem dII_ok {C : Int → Int → Bool} {g : Int → Int → Int} {wa wb w : Sl} (h : dII C g wa wb = .ok w) : ∃ i j, wa = .val (.int i) ∧ wb = .val (.int j) ∧ C i j = true ∧ w = .val (.int (g i j)) := by
  unfold dII at h
  split at h
  · split at h
    · rw [okI_eq] at h
      cases h
      exact ⟨_, _, rfl, rfl, by assumption, rfl⟩
    · cases h
  · cases h
theorem dII_or {C : Int → Int → Bool} {g : Int → Int → Int} (wa wb : Sl) : (∃ w, dII C g wa wb = .ok w) ∨ dII C g wa wb = .stuck := by
  unfold dII
  split
  · split
    · rw [okI_eq]; exact .inl ⟨_, rfl⟩
    · exact .inr rfl
  · exact .inr rfl
theorem dIB_ok {g : Int → Int → Bool} {wa wb w : Sl} (h : dIB g wa wb = .ok w) : ∃ i j, wa = .val (.int i) ∧ wb = .val (.int j) ∧ w = .val (.bl (g i j)) := by
  unfold dIB at h
  split at h
  · rw [okB_eq] at h
    cases h
    exact ⟨_, _, rfl, rfl, rfl⟩
  · cases h
theorem dIB_or {g : Int → Int → Bool} (wa wb : Sl) : (∃ w, dIB g wa wb = .ok w) ∨ dIB g wa wb = .stuck := by
  unfold dIB
  split
  · rw [okB_eq]; exact .inl ⟨_, rfl⟩
  · exact .inr rfl
section
variable {X : Cx} {G : Gam} {Wt : WX}
theorem opD_II {fn : Value → Value → Sem Value} {C : Int → Int → Bool} {CP : Int → Int → Prop} {g : Int → Int → Int} (hr : OpR X fn (rI CP fun i j => .int (g i j))) (hc : ∀ i j, C i j = true → CP i j) : OpD G Wt X fn (dII C g) := by
  refine opD_fop hr (fun da db w h => ?_) (fun wa wb w h => ?_) dII_or
  · obtain ⟨i, j, e1, e2, c, rfl⟩ := dII_ok h
    cases e1; cases e2
    exact ⟨.int i, .int j, _, .int (g i j), rfl, rfl, rfl, rfl, fun H Q q => ⟨i, j, rfl, rfl, hc i j c, q⟩⟩
  · obtain ⟨i, j, e1, e2, _⟩ := dII_ok h
    exact ⟨_, _, e1, e2⟩
theorem opD_II0 {fn : Value → Value → Sem Value} {g : Int → Int → Int} (hr : OpR X fn (rI0 fun i j => .int (g i j))) : OpD G Wt X fn (dII (fun _ _ => true) g) := by
  refine opD_fop hr (fun da db w h => ?_) (fun wa wb w h => ?_) dII_or
  · obtain ⟨i, j, e1, e2, c, rfl⟩ := dII_ok h
    cases e1; cases e2
    exact ⟨.int i, .int j, _, .int (g i j), rfl, rfl, rfl, rfl, fun H Q q => ⟨i, j, rfl, rfl, q⟩⟩
  · obtain ⟨i, j, e1, e2, _⟩ := dII_ok h
    exact ⟨_, _, e1, e2⟩
theorem opD_IB {fn : Value → Value → Sem Value} {g : Int → Int → Bool} (hr : OpR X fn (rI0 fun i j => .bl (g i j))) : OpD G Wt X fn (dIB g) := by
  refine opD_fop hr (fun da db w h => ?_) (fun wa wb w h => ?_) dIB_or
  · obtain ⟨i, j, e1, e2, rfl⟩ := dIB_ok h
    cases e1; cases e2
    exact ⟨.int i, .int j, _, .bl (g i j), rfl, rfl, rfl, rfl, fun H Q q => ⟨i, j, rfl, rfl, q⟩⟩
  · obtain ⟨i, j, e1, e2, _⟩ := dIB_ok h
    exact ⟨_, _, e1, e2⟩
end
end Dl
namespace Dl
open PySem PySem.Spec L2
open PyProof.Rows hiding St
/-! ### tests -/
abbrev FT := Env → Res (Bool × Env)
def postT (G : Gam) (Wt : WX) (M : Fm) (τ : List Ent) (σ : St) (r : Res (Bool × Env)) (Q : Bool → Hp → Prop) : Prop := match r with
  | .ok (b, ρ') => ∀ H', RS G M ρ' τ σ H' → Q b H'
  | .exc c fs ρ' => ∀ dd vs H', RX G c fs dd vs H' → RS G M ρ' (xents vs fs ++ τ) σ H' → Wt (.ref (G.ca c)) dd σ H'
  | .stuck => False
def tT (G : Gam) (Wt : WX) (F : FT) : TT := fun σ H Q => ∃ M ρ τ, RS G M ρ τ σ H ∧ postT G Wt M τ σ (F ρ) Q
section
variable {G : Gam} {Wt : WX} {M : Fm} {ρ : Env} {τ τ' : List Ent} {σ : St} {H H' : Hp} {i : Nat} {w w' : Sl}
/-- behind an expression, into a test -/
theorem postT_bind {r : Res (Sl × Env)} {k : Sl × Env → Res (Bool × Env)} {Q : Bool → Hp → Prop} {R : V → Hp → Prop} {τ1 : List Ent} (h : postT G Wt M τ1 σ (r.bind k) Q) (hx : ∀ vs fs ρ' H', RS G M ρ' (xents vs fs ++ τ) σ H' → RS G M ρ' (xents vs fs ++ τ1) σ H')
    (hr : ∀ w ρ' v H', RS G M ρ' ((some v, w) :: τ) σ H' → postT G Wt M τ1 σ (k (w, ρ')) Q → R v H') : post G Wt M τ σ r R := by
  cases r with
  | ok a =>
    obtain ⟨w, ρ'⟩ := a
    exact fun v H' z => hr w ρ' v H' z h
  | exc c fs ρ' => exact fun dd vs H' x z => h dd vs H' x (hx _ _ _ _ z)
  | stuck => exact h
theorem postTT_bind {r : Res (Bool × Env)} {k : Bool × Env → Res (Bool × Env)} {Q R : Bool → Hp → Prop} (h : postT G Wt M τ σ (r.bind k) Q)
    (hr : ∀ w ρ' H', RS G M ρ' τ σ H' → postT G Wt M τ σ (k (w, ρ')) Q → R w H') : postT G Wt M τ σ r R := by
  cases r with
  | ok a =>
    obtain ⟨w, ρ'⟩ := a
    exact fun H' z => hr w ρ' H' z h
  | exc c fs ρ' => exact fun dd vs H' x z => h dd vs H' x z
  | stuck => exact h
theorem postTE_bind {r : Res (Bool × Env)} {k : Bool × Env → Res (Sl × Env)} {Q : V → Hp → Prop} {R : Bool → Hp → Prop} (h : post G Wt M τ σ (r.bind k) Q)
    (hr : ∀ w ρ' H', RS G M ρ' τ σ H' → post G Wt M τ σ (k (w, ρ')) Q → R w H') : postT G Wt M τ σ r R := by
  cases r with
  | ok a =>
    obtain ⟨w, ρ'⟩ := a
    exact fun H' z => hr w ρ' H' z h
  | exc c fs ρ' => exact fun dd vs H' x z => h dd vs H' x z
  | stuck => exact h
end
def bTst (w : Sl × Env) : Res (Bool × Env) := match w with
  | (.val (.bl b), ρ) => .ok (b, ρ)
  | _ => .stuck
def cTst (F : FE) : FT := fun ρ => (F ρ).bind bTst
def cNot (F : FT) : FT := fun ρ => (F ρ).bind fun (b, ρ1) => .ok (!b, ρ1)
def cAndT (F F' : FT) : FT := fun ρ => (F ρ).bind fun (b, ρ1) => match b with
  | true => F' ρ1
  | false => .ok (false, ρ1)
def cOrT (F F' : FT) : FT := fun ρ => (F ρ).bind fun (b, ρ1) => match b with
  | true => .ok (true, ρ1)
  | false => F' ρ1
def cAnd (F F' : FE) : FE := fun ρ => ((F ρ).bind bTst).bind fun (b, ρ1) => match b with
  | true => F' ρ1
  | false => .ok (.val (.bl false), ρ1)
def cOr (F F' : FE) : FE := fun ρ => ((F ρ).bind bTst).bind fun (b, ρ1) => match b with
  | true => .ok (.val (.bl true), ρ1)
  | false => F' ρ1
def cNotE (F : FT) : FE := fun ρ => (F ρ).bind fun (b, ρ1) => liftD (okB !b) ρ1
def cIf (F : FT) (Fa Fb : FE) : FE := fun ρ => (F ρ).bind fun (b, ρ1) => match b with
  | true => Fa ρ1
  | false => Fb ρ1
def cTru (f : Sl → Res Bool) (F : FE) : FT := fun ρ => (F ρ).bind fun (w, ρ1) => match f w with
  | .ok b => .ok (b, ρ1)
  | _ => .stuck
section
variable {X : Cx} {G : Gam} {Wt : WX} {a b c : Expr} {Fa Fb Fc : FE} {Ta Tb : FT} {pos : Pos} {f : Sl → Sl → RD} {rest : List Expr}
theorem bTst_post {M : Fm} {τ : List Ent} {σ : St} {ρ : Env} {w : Sl} {v : V} {H : Hp} {Q : Bool → Hp → Prop} (R : RS G M ρ ((some v, w) :: τ) σ H) (h : postT G Wt M τ σ (bTst (w, ρ)) Q) : ∃ k, v = .bl k ∧ Q k H := by
  unfold bTst at h
  split at h
  · rename_i b ρ' e
    cases e
    have ev := R.flat (v := some v) (d := .bl b) List.mem_cons_self rfl
    exact ⟨b, Option.some.inj ev, h H R.drop1⟩
  · exact h.elim
theorem t_val {e : Expr} {F : FE} (h : PE X e (tE G Wt F)) (he : ∀ whole, isTrue e X.env whole = (do let v ← whole; standAt e.pos; holding [v] (truthy v)) := by intro _; rfl) : PT X e (tT G Wt (cTst F)) := by
  refine (pt_val h he).weak fun σ H Q q => ?_
  obtain ⟨M, ρ, τ, R, q⟩ := q
  exact ⟨M, ρ, τ, R, postT_bind q (fun _ _ _ _ z => z) fun w ρ' v H' R1 p => bTst_post R1 p⟩
theorem t_cmp {op : CmpOp} (ho : OpD G Wt X (compareOp op) f) (ha : PE X a (tE G Wt Fa)) (hb : PE X b (tE G Wt Fb)) (h1 : behindInMarks op b = false) : PT X (.Compare a [op] [b] pos) (tT G Wt (cTst (cBin f Fa Fb))) := by
  refine ⟨fun pins s σ H Q I q => ?_⟩
  obtain ⟨M, ρ, τ, R, q⟩ := q
  have q' : tE G Wt (cBin f Fa Fb) σ H (fun v H' => ∃ k, v = .bl k ∧ Q k H') := ⟨M, ρ, τ, R, postT_bind q (fun _ _ _ _ z => z) fun w ρ' v H' R1 p => bTst_post R1 p⟩
  refine wpAny_isTrue_Compare1 (wpAny_mono (bin_run ha hb ho I q') (fun v s1 h1 => thn h1 fun u s2 h2 => thn h2 fun d s3 ⟨z, H3, I3, r3, k, e, q3⟩ => ?_) fun _ _ z => z) h1
  subst e
  cases r3
  exact wpAny_truthy_bool ⟨H3, I3, q3⟩
theorem t_tru {g : Sl → Res Bool} (ht : TruD G Wt X g) (ha : PE X a (tE G Wt Fa)) (he : ∀ whole, isTrue a X.env whole = (do let v ← whole; standAt a.pos; holding [v] (truthy v)) := by intro _; rfl) : PT X a (tT G Wt (cTru g Fa)) := by
  refine ⟨fun pins s σ H Q I q => ?_⟩
  obtain ⟨M, ρ, τ, R, q⟩ := q
  refine isTrue_plain (thn (ha.run pins s σ H (fun x H1 => ∃ w ρ1 b, RS G M ρ1 ((some x, w) :: τ) σ H1 ∧ g w = .ok b ∧ ∀ H', RS G M ρ1 τ σ H' → Q b H') I ⟨M, ρ, τ, R, postT_bind q (fun _ _ _ _ z => z) fun w ρ1 v H1 R1 p => ?_⟩) fun v s1 ⟨x, H1, I1, r1, w, ρ1, b, R1, e, hq⟩ => ?_) (he _)
  · dsimp only at p
    split at p
    · rename_i b e
      exact ⟨w, ρ1, b, R1, e, p⟩
    · exact p.elim
  · exact ht pins s1 σ H1 x v Q M ρ1 τ w b I1 r1 R1 e hq
theorem t_not (ha : PT X a (tT G Wt Ta)) : PT X (.UnaryOp .Not a pos) (tT G Wt (cNot Ta)) := by
  refine (pt_not ha).weak fun σ H Q q => ?_
  obtain ⟨M, ρ, τ, R, q⟩ := q
  exact ⟨M, ρ, τ, R, postTT_bind q fun w ρ' H' R1 p => p H' R1⟩
theorem t_and1 (ha : PT X a (tT G Wt Ta)) : PW X (.BoolOp .And [a] pos) (tT G Wt Ta) := pw_and1 ha
theorem t_or1 (ha : PT X a (tT G Wt Ta)) : PW X (.BoolOp .Or [a] pos) (tT G Wt Ta) := pw_or1 ha
theorem _root_.L2.PW.weak {X : Cx} {e : Expr} {t t' : TT} (h : PW X e t) (k : ∀ σ H Q, t' σ H Q → t σ H Q) : PW X e t' := ⟨fun wh pins s σ H Q I q => h.run wh pins s σ H Q I (k σ H Q q)⟩
theorem t_and (ha : PT X a (tT G Wt Ta)) (hb : PW X (.BoolOp .And (b :: rest) pos) (tT G Wt Tb)) : PW X (.BoolOp .And (a :: b :: rest) pos) (tT G Wt (cAndT Ta Tb)) := by
  refine (pw_and ha hb).weak fun σ H Q q => ?_
  obtain ⟨M, ρ, τ, R, q⟩ := q
  refine ⟨M, ρ, τ, R, postTT_bind q fun w ρ' H' R1 p => ?_⟩
  cases w with
  | true => exact iteT ⟨M, ρ', τ, R1, p⟩
  | false => exact iteF (p H' R1)
theorem t_or (ha : PT X a (tT G Wt Ta)) (hb : PW X (.BoolOp .Or (b :: rest) pos) (tT G Wt Tb)) : PW X (.BoolOp .Or (a :: b :: rest) pos) (tT G Wt (cOrT Ta Tb)) := by
  refine (pw_or ha hb).weak fun σ H Q q => ?_
  obtain ⟨M, ρ, τ, R, q⟩ := q
  refine ⟨M, ρ, τ, R, postTT_bind q fun w ρ' H' R1 p => ?_⟩
  cases w with
  | true => exact iteT (p H' R1)
  | false => exact iteF ⟨M, ρ', τ, R1, p⟩
theorem e_one {op} (h : PE X a (tE G Wt Fa)) : PE X (.BoolOp op [a] pos) (tE G Wt Fa) := pe_one h
theorem post_assoc {M : Fm} {τ : List Ent} {σ : St} {r : Res (Sl × Env)} {k : Bool × Env → Res (Sl × Env)} {Q : V → Hp → Prop} {R : V → Hp → Prop} (h : post G Wt M τ σ ((r.bind bTst).bind k) Q)
    (hr : ∀ b ρ' H', RS G M ρ' τ σ H' → post G Wt M τ σ (k (b, ρ')) Q → R (.bl b) H') : post G Wt M τ σ r R := by
  cases r with
  | ok a =>
    obtain ⟨w, ρ'⟩ := a
    intro v H' z
    have h' : post G Wt M τ σ ((bTst (w, ρ')).bind k) Q := h
    unfold bTst at h'
    split at h'
    · rename_i b ρ2 e
      cases e
      have ev := z.flat (v := some v) (d := .bl b) List.mem_cons_self rfl
      cases Option.some.inj ev
      exact hr b ρ' H' z.drop1 h'
    · exact h'.elim
  | exc c fs ρ' => exact fun dd vs H' x z => h dd vs H' x z
  | stuck => exact h
theorem e_and (ha : PE X a (tE G Wt Fa)) (hb : PE X (.BoolOp .And (b :: rest) pos) (tE G Wt Fb)) : PE X (.BoolOp .And (a :: b :: rest) pos) (tE G Wt (cAnd Fa Fb)) := by
  refine (pe_and ha hb).weak fun σ H Q q => ?_
  obtain ⟨M, ρ, τ, R, q⟩ := q
  refine ⟨M, ρ, τ, R, post_assoc q fun b ρ' H' R1 p => ⟨b, rfl, ?_⟩⟩
  cases b with
  | true => exact iteT ⟨M, ρ', τ, R1, p⟩
  | false => exact iteF (p _ H' (R1.addFlat rfl))
theorem e_or (ha : PE X a (tE G Wt Fa)) (hb : PE X (.BoolOp .Or (b :: rest) pos) (tE G Wt Fb)) : PE X (.BoolOp .Or (a :: b :: rest) pos) (tE G Wt (cOr Fa Fb)) := by
  refine (pe_or ha hb).weak fun σ H Q q => ?_
  obtain ⟨M, ρ, τ, R, q⟩ := q
  refine ⟨M, ρ, τ, R, post_assoc q fun b ρ' H' R1 p => ⟨b, rfl, ?_⟩⟩
  cases b with
  | true => exact iteT (p _ H' (R1.addFlat rfl))
  | false => exact iteF ⟨M, ρ', τ, R1, p⟩
/-- not e, as a value, e a bool -/
theorem e_not (ha : PE X a (tE G Wt Fa)) : PE X (.UnaryOp .Not a pos) (tE G Wt (cNotE (cTst Fa))) := by
  refine (pe_not ha).weak fun σ H Q q => ?_
  obtain ⟨M, ρ, τ, R, q⟩ := q
  refine ⟨M, ρ, τ, R, post_assoc q fun b ρ' H' R1 p => ⟨b, rfl, ?_⟩⟩
  dsimp only at p
  rw [okB_eq] at p
  exact p _ H' (R1.addFlat rfl)
theorem e_if (hc : PT X c (tT G Wt Ta)) (ha : PE X a (tE G Wt Fa)) (hb : PE X b (tE G Wt Fb)) : PE X (.IfExp c a b pos) (tE G Wt (cIf Ta Fa Fb)) := by
  refine (pe_ifExp hc ha hb).weak fun σ H Q q => ?_
  obtain ⟨M, ρ, τ, R, q⟩ := q
  refine ⟨M, ρ, τ, R, postTE_bind q fun w ρ' H' R1 p => ?_⟩
  cases w with
  | true => exact iteT ⟨M, ρ', τ, R1, p⟩
  | false => exact iteF ⟨M, ρ', τ, R1, p⟩
end
/-- a op1 b op2 c of ints -/
def cChain (g g' : Int → Int → Bool) (Fa Fb Fc : FE) : FE := fun ρ => (Fa ρ).bind fun (wa, ρ1) => (Fb ρ1).bind fun (wb, ρ2) => match wa, wb with
  | .val (.int i), .val (.int j) => (match g i j with
    | true => (Fc ρ2).bind fun (wc, ρ3) => liftD (dIB g' wb wc) ρ3
    | false => .ok (.val (.bl false), ρ2))
  | _, _ => .stuck
section
variable {X : Cx} {G : Gam} {Wt : WX} {a b c : Expr} {Fa Fb Fc : FE} {pos : Pos}
theorem chain_imp {g g' : Int → Int → Bool} {σ : St} {H : Hp} {Q : VK} {r r' : R2} (er : r = rI0 fun i j => .bl (g i j)) (er' : r' = rI0 fun i j => .bl (g' i j)) (q : tE G Wt (cChain g g' Fa Fb Fc) σ H Q) : tChain r r' (tE G Wt Fa) (tE G Wt Fb) (tE G Wt Fc) σ H Q := by
  subst er er'
  obtain ⟨M, ρ, τ, R, q⟩ := q
  refine ⟨M, ρ, τ, R, post_bind0 q fun wa ρ1 x H1 _ R1 q1 => ⟨M, ρ1, _, R1, post_bind q1 (fun _ _ _ _ z => xe_drop z) fun wb ρ2 y H2 _ R2 q2 => ?_⟩⟩
  dsimp only at q2
  split at q2
  · rename_i i j _ _
    have ex := Option.some.inj (R2.flat (v := some x) (d := .int i) (List.mem_cons_of_mem _ List.mem_cons_self) rfl)
    have ey := Option.some.inj (R2.flat (v := some y) (d := .int j) List.mem_cons_self rfl)
    subst ex; subst ey
    have R3 := R2.drop1.drop1
    refine ⟨i, j, rfl, rfl, _, rfl, ?_⟩
    split at q2
    · rename_i e
      rw [e]
      refine iteT ⟨M, ρ2, τ, R3, post_bind0 q2 fun wc ρ3 z H3 _ R4 q3 => ?_⟩
      rcases dIB_or (g := g') (Sl.val (.int j)) wc with ⟨w, e2⟩ | e2
      · obtain ⟨i', j', e3, e4, e5⟩ := dIB_ok e2
        cases e3
        subst e4 e5
        have ez := Option.some.inj (R4.flat (v := some z) (d := .int j') List.mem_cons_self rfl)
        subst ez
        rw [e2] at q3
        exact ⟨j, j', rfl, rfl, q3 _ H3 (R4.drop1.addFlat rfl)⟩
      · rw [e2] at q3
        exact q3.elim
    · rename_i e
      rw [e]
      exact iteF (q2 _ H2 (R3.addFlat rfl))
  · exact q2.elim
theorem e_chain {op op' : CmpOp} {g g' : Int → Int → Bool} (ho : OpR X (compareOp op) (rI0 fun i j => .bl (g i j))) (ho' : OpR X (compareOp op') (rI0 fun i j => .bl (g' i j))) (ha : PE X a (tE G Wt Fa)) (hb : PE X b (tE G Wt Fb)) (hc : PE X c (tE G Wt Fc))
    (hm : lastMarks [op, op'] [b, c] = false := by with_unfolding_all rfl) : PE X (.Compare a [op, op'] [b, c] pos) (tE G Wt (cChain g g' Fa Fb Fc)) := by
  exact (pe_chain ho ho' ha hb hc hm).weak fun σ H Q q => chain_imp rfl rfl q
end
/-! ### statements -/
inductive Fl where
  | nx | bk | ct | rt (w : Sl)
abbrev FS := Env → Res (Fl × Env)
def postS (G : Gam) (Wt : WX) (M : Fm) (τ : List Ent) (r : Res (Fl × Env)) (D : Ends) : Prop := match r with
  | .ok (.nx, ρ') => ∀ σ' H', RS G M ρ' τ σ' H' → D.nx σ' H'
  | .ok (.bk, ρ') => ∀ σ' H', RS G M ρ' τ σ' H' → D.bk σ' H'
  | .ok (.ct, ρ') => ∀ σ' H', RS G M ρ' τ σ' H' → D.ct σ' H'
  | .ok (.rt w, ρ') => ∀ v σ' H', RS G M ρ' ((some v, w) :: τ) σ' H' → D.rt v H'
  | .exc c fs ρ' => ∀ dd vs σ' H', RX G c fs dd vs H' → RS G M ρ' (xents vs fs ++ τ) σ' H' → Wt (.ref (G.ca c)) dd σ' H'
  | .stuck => False
def tS (G : Gam) (Wt : WX) (F : FS) : TS := fun D σ H => ∃ M ρ τ, RS G M ρ τ σ H ∧ postS G Wt M τ (F ρ) D
section
variable {G : Gam} {Wt : WX} {M : Fm} {ρ : Env} {τ τ' : List Ent} {σ : St} {H H' : Hp} {i : Nat} {w w' : Sl} {D D' : Ends}
theorem postES_bind {r : Res (Sl × Env)} {k : Sl × Env → Res (Fl × Env)} {R : V → Hp → Prop} (h : postS G Wt M τ (r.bind k) D)
    (hr : ∀ w ρ' v H', RS G M ρ' ((some v, w) :: τ) σ H' → postS G Wt M τ (k (w, ρ')) D → R v H') : post G Wt M τ σ r R := by
  cases r with
  | ok a =>
    obtain ⟨w, ρ'⟩ := a
    exact fun v H' z => hr w ρ' v H' z h
  | exc c fs ρ' => exact fun dd vs H' x z => h dd vs σ H' x z
  | stuck => exact h
theorem postTS_bind {r : Res (Bool × Env)} {k : Bool × Env → Res (Fl × Env)} {R : Bool → Hp → Prop} (h : postS G Wt M τ (r.bind k) D)
    (hr : ∀ w ρ' H', RS G M ρ' τ σ H' → postS G Wt M τ (k (w, ρ')) D → R w H') : postT G Wt M τ σ r R := by
  cases r with
  | ok a =>
    obtain ⟨w, ρ'⟩ := a
    exact fun H' z => hr w ρ' H' z h
  | exc c fs ρ' => exact fun dd vs H' x z => h dd vs σ H' x z
  | stuck => exact h
end
def cNil : FS := fun ρ => .ok (.nx, ρ)
def cSeq (F F' : FS) : FS := fun ρ => (F ρ).bind fun (f, ρ1) => match f with
  | .nx => F' ρ1
  | f => .ok (f, ρ1)
def cRet (F : FE) : FS := fun ρ => (F ρ).bind fun (w, ρ1) => .ok (.rt w, ρ1)
def cExpr (F : FE) : FS := fun ρ => (F ρ).bind fun (_, ρ1) => .ok (.nx, ρ1)
def cIfS (T : FT) (F F' : FS) : FS := fun ρ => (T ρ).bind fun (b, ρ1) => match b with
  | true => F ρ1
  | false => F' ρ1
def cStuck : FS := fun _ => .stuck
/-- a slot is set (never a pinned one) -/
def setSl (i : Nat) (w : Sl) (ρ : Env) : Option Env := match ρ[i]? with
  | some (.self _) => none
  | some _ => some (ρ.set i w)
  | none => none
/-- a target by data -/
abbrev FG := Sl → Env → Option Env
def tG (G : Gam) (A : FG) : TG := fun v σ H Q => ∃ M ρ τ w ρ', RS G M ρ ((some v, w) :: τ) σ H ∧ A w ρ = some ρ' ∧ ∀ σ' H', RS G M ρ' τ σ' H' → Q σ' H'
def gSet (i : Nat) : FG := fun w ρ => setSl i w ρ
/-- a, b = a tuple (a list) -/
def gTwo (A B : FG) : FG := fun w ρ => match w with
  | .val (.tup [x, y]) => (A (.val x) ρ).bind (B (.val y))
  | _ => none
def cAsg (F : FE) (A : FG) : FS := fun ρ => (F ρ).bind fun (w, ρ1) => match A w ρ1 with
  | some ρ2 => .ok (.nx, ρ2)
  | none => .stuck
def cWhile (T : FT) (F : FS) : Nat → FS
  | 0, _ => .stuck
  | n + 1, ρ => (T ρ).bind fun (b, ρ1) => match b with
    | true => (F ρ1).bind fun (f, ρ2) => match f with
      | .nx => cWhile T F n ρ2
      | .ct => cWhile T F n ρ2
      | .bk => .ok (.nx, ρ2)
      | .rt w => .ok (.rt w, ρ2)
    | false => .ok (.nx, ρ1)
def forD (A : FG) (F : FS) : List D → FS
  | [], ρ => .ok (.nx, ρ)
  | d :: ds, ρ => match A (.val d) ρ with
    | some ρ1 => (F ρ1).bind fun (f, ρ2) => match f with
      | .nx => forD A F ds ρ2
      | .ct => forD A F ds ρ2
      | .bk => .ok (.nx, ρ2)
      | .rt w => .ok (.rt w, ρ2)
    | none => .stuck
section
variable {X : Cx} {G : Gam} {Wt : WX} {st : Stmt} {rest : List Stmt} {F F' : FS} {Fa : FE} {T : FT} {e c : Expr} {pos : Pos} {A B : FG}
theorem s_nil : PSs X [] (tS G Wt cNil) := pss_nil.weak fun D σ H ⟨M, ρ, τ, R, q⟩ => q σ H R
theorem s_cons (h1 : PS X st (tS G Wt F)) (h2 : PSs X rest (tS G Wt F')) : PSs X (st :: rest) (tS G Wt (cSeq F F')) := by
  refine (pss_cons h1 h2).weak fun D σ H ⟨M, ρ, τ, R, q⟩ => ⟨M, ρ, τ, R, ?_⟩
  unfold cSeq at q
  cases e : F ρ with
  | ok a =>
    obtain ⟨f, ρ1⟩ := a
    rw [e] at q
    cases f with
    | nx => exact fun σ' H' R' => ⟨M, ρ1, τ, R', q⟩
    | bk => exact q
    | ct => exact q
    | rt w => exact q
  | exc c fs ρ' => rw [e] at q; exact q
  | stuck => rw [e] at q; exact q
theorem s_one (h1 : PS X st (tS G Wt F)) : PSs X [st] (tS G Wt F) := pss_one h1
theorem s_ret (h : PE X e (tE G Wt Fa)) : PS X (.Return (some e) pos) (tS G Wt (cRet Fa)) := by
  refine (ps_ret h).weak fun D σ H ⟨M, ρ, τ, R, q⟩ => ⟨M, ρ, τ, R, postES_bind q fun w ρ' v H' R1 p => p v σ H' R1⟩
theorem s_expr (h : PE X e (tE G Wt Fa)) (hs : swapsWith e none pos.line X.env = pure false := by rfl) : PS X (.Expr e pos) (tS G Wt (cExpr Fa)) := by
  refine (ps_expr h hs).weak fun D σ H ⟨M, ρ, τ, R, q⟩ => ⟨M, ρ, τ, R, postES_bind q fun w ρ' v H' R1 p => p σ H' R1.drop1⟩
theorem s_if {ss es : List Stmt} (hc : PT X c (tT G Wt T)) (ha : PSs X ss (tS G Wt F)) (hb : PSs X es (tS G Wt F')) : PS X (.If c ss es pos) (tS G Wt (cIfS T F F')) := by
  refine (ps_if hc ha hb).weak fun D σ H ⟨M, ρ, τ, R, q⟩ => ⟨M, ρ, τ, R, postTS_bind q fun w ρ' H' R1 p => ?_⟩
  cases w with
  | true => exact iteT ⟨M, ρ', τ, R1, p⟩
  | false => exact iteF ⟨M, ρ', τ, R1, p⟩
theorem s_stuck : PS X st (tS G Wt cStuck) := ps_never.weak fun D σ H ⟨M, ρ, τ, R, q⟩ => q.elim
theorem s_cont : PS X (.Continue pos) (tS G Wt fun ρ => .ok (.ct, ρ)) := ps_continue.weak fun D σ H ⟨M, ρ, τ, R, q⟩ => q σ H R
theorem _root_.L2.PG.weak {X : Cx} {e : Expr} {t t' : TG} (h : PG X e t) (k : ∀ v σ H Q, t' v σ H Q → t v σ H Q) : PG X e t' := ⟨fun pins s σ H v u Q I r q => h.run pins s σ H v u Q I r (k v σ H Q q)⟩
/-- the value goes into the slot -/
theorem RS.put {M : Fm} {ρ : Env} {τ : List Ent} {σ : St} {H : Hp} {i : Nat} {w : Sl} {v : Option V} {ρ' : Env} (R : RS G M ρ ((v, w) :: τ) σ H) (h : setSl i w ρ = some ρ') : RS G M ρ' τ (σ.set i v) H := by
  unfold setSl at h
  split at h
  · cases h
  · rename_i w0 _ e
    cases h
    obtain ⟨v0, e1, e2⟩ := R.at_ e
    refine ⟨by rw [List.length_set, List.length_set]; exact R.len, ?_⟩
    have R1 := RS.front (τ' := [(v, w)]) R
    have R2 : RE G M.P M.S0 M.H0 ((v0, w0) :: ((v, w) :: ((ents σ ρ).eraseIdx i ++ τ))) H :=
      R1.perm ((List.Perm.cons _ (ents_perm e2)).trans (List.Perm.swap _ _ _))
    exact (RE.drop (A := [(v0, w0)]) R2).perm (ents_perm_set e2).symm
  · cases h
theorem g_name {i : Nat} {x : Str} (hN : X.N.Nodup) (hi : X.N[i]? = some x) (hx : Loc X.env.scope x) (hf : X.fn x = true ∨ X.env.scope.names.lookup x = some .local := by first | exact .inl rfl | exact .inr rfl | assumption) : PG X (.Name x pos) (tG G (gSet i)) := by
  refine (pg_name hN hi hx hf).weak fun v σ H Q ⟨M, ρ, τ, w, ρ', R, e, q⟩ => ?_
  exact q _ H (R.put e)
theorem g_two {k : Nat} {t1 t2 : Expr} (hc : X.calm = true) (hK : X.K = G.K) (h1 : PG X t1 (tG G A)) (h2 : PG X t2 (tG G B)) (hs1 : (assignEach [t1, t2] X.env).map (·.2) = assign t1 X.env :: (assignEach [t2] X.env).map (·.2) := by rfl) (hs2 : (assignEach [t2] X.env).map (·.2) = assign t2 X.env :: (assignEach [] X.env).map (·.2) := by rfl)
    (hn : (assignEach [t1, t2] X.env).length = 2 := by rfl) (hst : (assignEach [t1, t2] X.env).findIdx? (·.1) = none := by rfl) : PG X (.Tuple [t1, t2] k pos) (tG G (gTwo A B)) := by
  refine (pg_tup hc (pgs_cons h1 (pgs_cons h2 pgs_nil hs2) hs1) hn hst).weak fun v σ H Q ⟨M, ρ, τ, w, ρ', R, e, q⟩ => ?_
  unfold gTwo at e
  split at e
  · rename_i x y
    obtain ⟨u, ev, r⟩ := R.val List.mem_cons_self
    cases ev
    unfold Rep at r
    obtain ⟨p, vs, rfl, hp, r⟩ := r
    unfold Reps at r
    obtain ⟨v1, r1, rfl, h1, r⟩ := r
    unfold Reps at r
    obtain ⟨v2, r2, rfl, h2, r⟩ := r
    unfold Reps at r
    subst r
    have hq : SqT X.K H p [v1, v2] := by
      rw [hK]
      rcases hp with ⟨_, hp⟩ | hp
      · exact .inl hp
      · exact .inr hp
    cases ea : A (.val x) ρ with
    | none => rw [ea] at e; cases e
    | some ρ1 =>
      rw [ea] at e
      have eB : B (.val y) ρ1 = some ρ' := e
      have Ra : RS G M ρ ((some v1, .val x) :: (some v2, .val y) :: τ) σ H := by
        have Rb := (R.addVal (v := v2) (d := y) h2)
        have Rc := Rb.addVal (v := v1) (d := x) (by
          have ea2 : avoid M.S0 (ents σ ρ ++ ((some v2, Sl.val y) :: (some (V.ref p), Sl.val (.tup [x, y])) :: τ)) = avoid M.S0 (ents σ ρ ++ ((some (V.ref p), Sl.val (.tup [x, y])) :: τ)) := by
            rw [RS.avoid_mid]
            funext b
            unfold avoid
            rw [owns_val]
          rw [ea2]
          exact h1)
        have Rd : RS G M ρ ((some (V.ref p), .val (.tup [x, y])) :: (some v1, .val x) :: (some v2, .val y) :: τ) σ H := Rc.perm (((List.Perm.swap _ _ _).trans (List.Perm.cons _ (List.Perm.swap _ _ _))).trans ((List.Perm.swap _ _ _).trans (List.Perm.cons _ (List.Perm.swap _ _ _))))
        exact Rd.drop1
      refine ⟨p, [v1, v2], rfl, hq, rfl, v1, [v2], rfl, M, ρ, _, _, ρ1, Ra, ea, fun σ1 H1 R1 => ⟨v2, [], rfl, M, ρ1, τ, _, ρ', R1, eB, fun σ2 H2 R2 => ⟨rfl, q σ2 H2 R2⟩⟩⟩
  · cases e
theorem s_asg {tg : Expr} (he : PE X e (tE G Wt Fa)) (hg : PG X tg (tG G A)) (hs : swapsWithSole [tg] e pos.line X.env = pure false := by rfl) (hw : swappedStores [tg] e X.env = pure none := by rfl)
    (h1 : (assignEach [tg] X.env).map (·.2) = [assign tg X.env] := by rfl) : PS X (.Assign [tg] e pos) (tS G Wt (cAsg Fa A)) := by
  refine (ps_asg he hg hs hw h1).weak fun D σ H ⟨M, ρ, τ, R, q⟩ => ⟨M, ρ, τ, R, postES_bind q fun w ρ' v H' R1 p => ?_⟩
  dsimp only at p
  split at p
  · rename_i ρ2 e2
    exact ⟨M, ρ', τ, w, ρ2, R1, e2, p⟩
  · exact p.elim
theorem s_set {i : Nat} {x : Str} {pos' : Pos} (hN : X.N.Nodup) (hi : X.N[i]? = some x) (hx : Loc X.env.scope x) (he : PE X e (tE G Wt Fa)) (hs : swapsWith e (some (.Name x pos')) pos.line X.env = pure false := by rfl) (hf : X.fn x = true ∨ X.env.scope.names.lookup x = some .local := by first | exact .inl rfl | exact .inr rfl | assumption) :
    PS X (.Assign [.Name x pos'] e pos) (tS G Wt (cAsg Fa (gSet i))) := by
  refine (ps_set hN hi hx he hs hf).weak fun D σ H ⟨M, ρ, τ, R, q⟩ => ⟨M, ρ, τ, R, postES_bind q fun w ρ' v H' R1 p => ?_⟩
  dsimp only at p
  split at p
  · rename_i ρ2 e2
    exact p _ H' (R1.put e2)
  · exact p.elim
theorem s_while {body : List Stmt} (n : Env → Nat) (hp : PassesOwn (model X.prog X.w) X.A X.env X.xe) (hc : PT X c (tT G Wt T)) (hb : PSs X body (tS G Wt F)) : PS X (.While c body [] pos) (tS G Wt fun ρ => cWhile T F (n ρ) ρ) := by
  refine (ps_while hp hc hb).weak fun D σ H ⟨M, ρ, τ, R, q⟩ => ?_
  refine ⟨fun m σ H => ∃ ρ, RS G M ρ τ σ H ∧ postS G Wt M τ (cWhile T F m ρ) D, ⟨n ρ, ρ, R, q⟩, ?_⟩
  rintro m σ H ⟨ρ, R, q⟩
  cases m with
  | zero => exact q.elim
  | succ m =>
    refine ⟨M, ρ, τ, R, postTS_bind q fun b ρ1 H1 R1 p => ?_⟩
    cases b with
    | false => exact iteF (p σ H1 R1)
    | true =>
      refine iteT ⟨fun σ' H' => ∃ ρ2, RS G M ρ2 τ σ' H' ∧ postS G Wt M τ (cWhile T F m ρ2) D, fun σ' H' ⟨ρ2, R2, p2⟩ => ⟨m, Nat.lt_succ_self m, ρ2, R2, p2⟩, M, ρ1, τ, R1, ?_⟩
      dsimp only at p
      cases e : F ρ1 with
      | ok a =>
        obtain ⟨f, ρ2⟩ := a
        rw [e] at p
        cases f with
        | nx => exact fun σ' H' R2 => ⟨ρ2, R2, p⟩
        | ct => exact fun σ' H' R2 => ⟨ρ2, R2, p⟩
        | bk => exact fun σ' H' R2 => p σ' H' R2
        | rt w => exact p
      | exc c fs ρ' => rw [e] at p; exact p
      | stuck => rw [e] at p; exact p
end
end Dl
namespace Dl
open PySem PySem.Spec L2
open PyProof.Rows hiding St
abbrev FF := List Sl → Res (Sl × Env)
def selfE (P : Addr) (ρ : Env) : List Ent := match ρ with
  | .self d :: _ => [(some (.ref P), .self d)]
  | _ => []
def aents (vs : List V) (ws : List Sl) : List Ent := (vs.map some).zip ws
/-- what a def promises: its function of the data -/
def spF (G : Gam) (n : Nat) (F : FF) : Sp := fun vs H Q E => vs.length = n ∧ ∃ (M : Fm) (ws : List Sl), ws.length = n ∧ RE G M.P M.S0 M.H0 (aents vs ws) H ∧ match F ws with
  | .ok (w, ρ') => ∀ v H', RE G M.P M.S0 M.H0 ((some v, w) :: selfE M.P ρ') H' → Q v H'
  | .exc c fs ρ' => ∀ dd us H', RX G c fs dd us H' → RE G M.P M.S0 M.H0 (xents us fs ++ selfE M.P ρ') H' → E (.ref (G.ca c)) dd H'
  | .stuck => False
/-- a body as a function: k more slots -/
def runF (k : Nat) (F : FS) : FF := fun ws => match F (ws ++ List.replicate k .none) with
  | .ok (.rt w, ρ) => .ok (w, ρ)
  | .ok (.nx, ρ) => .ok (.val .non, ρ)
  | .exc c fs ρ => .exc c fs ρ
  | _ => .stuck
theorem avoid_app {S0 : Addr → Prop} {A B : List Ent} : avoid (avoid S0 B) A = avoid S0 (A ++ B) := by
  funext b
  unfold avoid
  rw [owns_append (A := A) (B := B)]
  apply propext
  constructor
  · rintro ((h | h) | h)
    · exact .inl h
    · exact .inr (List.mem_append_right _ h)
    · exact .inr (List.mem_append_left _ h)
  · rintro (h | h)
    · exact .inl (.inl h)
    · rcases List.mem_append.mp h with h | h
      · exact .inr h
      · exact .inl (.inr h)
section
variable {G : Gam} {M : Fm} {ρ : Env} {τ : List Ent} {σ : St} {H : Hp}
theorem RE.nones {P : Addr} {S0 : Addr → Prop} {H0 : Hp} {L : List Ent} : ∀ {l : List (Option V)} {k : Nat}, RE G P S0 H0 L H → RE G P S0 H0 (l.zip (List.replicate k Sl.none) ++ L) H
  | [], k, R => by simpa using R
  | x :: l, 0, R => by simpa using R
  | x :: l, k + 1, R => by
    rw [List.replicate_succ]
    exact (RE.nones (l := l) (k := k) R).addNone
theorem start_rs {N : List Str} {vs : List V} {ws : List Sl} (hl : ws.length = vs.length) (R : RE G M.P M.S0 M.H0 (aents vs ws) H) : RS G M (ws ++ List.replicate (N.length - vs.length) .none) [] (L2.start N vs) H := by
  unfold L2.start
  refine ⟨by simp [hl], ?_⟩
  have e : ents (vs.map some ++ List.replicate (N.length - vs.length) none) (ws ++ List.replicate (N.length - vs.length) Sl.none) = aents vs ws ++ (List.replicate (N.length - vs.length) (none : Option V)).zip (List.replicate (N.length - vs.length) Sl.none) := by
    unfold ents aents
    exact List.zip_append (by simp [hl])
  rw [e, List.append_nil]
  exact (RE.nones R).perm List.perm_append_comm
/-- of the slots only the pinned one is kept -/
theorem RS.selfs (R : RS G M ρ τ σ H) : RE G M.P M.S0 M.H0 (τ ++ selfE M.P ρ) H := by
  have R1 : RE G M.P M.S0 M.H0 (ents σ ρ ++ τ) H := R.re
  unfold selfE
  split
  · rename_i d r
    obtain ⟨v, e1, e2⟩ := R.at_ (i := 0) (w := .self d) rfl
    have R2 := R1.perm (ents_perm (τ := τ) e2)
    obtain ⟨ev, _⟩ := R2.all _ List.mem_cons_self
    have ev' : v = some (V.ref M.P) := ev
    subst ev'
    have R3 : RE G M.P M.S0 M.H0 ((ents σ (Sl.self d :: r)).eraseIdx 0 ++ ((some (V.ref M.P), Sl.self d) :: τ)) H := R2.perm (List.perm_middle.symm)
    exact (R3.drop).perm (by
      show ((some (V.ref M.P), Sl.self d) :: τ).Perm (τ ++ [(some (V.ref M.P), Sl.self d)])
      exact (List.perm_append_singleton _ _).symm)
  · rw [List.append_nil]
    exact R1.drop
end
section
variable {P : Program} {w : World} {K : PySem.W.Frag} {mg : Str → Option Value} {base : Heap} {x qual : Str} {params : Arguments} {body : List Stmt} {scope : Scope} {dvs : List V} {kws : List (Str × V)} {f : Addr} {fd : FuncData} {G : Gam}
theorem fn_ok {N ps : List Str} {k : Nat} {Fb : FS} (F : FunD K x qual params body scope dvs kws f fd) (S : FnScope N ps scope) {n : Nat} (hn : ps.length = n)
    (hb : ∀ (cdv : Value) (A : Around) (outer : List PySem.Env) (s : Shared) (H : Hp) (E : XK), Room k (A.deeper (envOfC qual scope s.heap.objs.size f cdv)) →
      PSs (cxOf (L2.CX P w) P w K mg base N qual scope f cdv A outer s H E) body (tS G (fun cls d _ H => E cls d H) Fb)) :
    FnOk P w K mg base (L2.CX P w) (k + 1) f fd ps (spF G n (runF (N.length - n) Fb)) := by
  subst hn
  refine F.ok S (fun vs H Q E h => h.1) (fun cdv A outer s H vs Q E hr h => ⟨_, hb cdv A outer s H E hr, ?_⟩)
  obtain ⟨hl, M, ws, hw, R, h⟩ := h
  have R1 := start_rs (N := N) (hw.trans hl.symm) R
  refine ⟨M, _, [], R1, ?_⟩
  unfold runF at h
  rw [hl]
  cases e : Fb (ws ++ List.replicate (N.length - ps.length) Sl.none) with
  | ok a =>
    obtain ⟨fl, ρ'⟩ := a
    rw [e] at h
    cases fl with
    | nx => exact fun σ' H' R' => h _ H' (by
        have := (R'.addFlat (d := .non) rfl).selfs
        exact this)
    | rt w => exact fun v σ' H' R' => h v H' R'.selfs
    | bk => exact h.elim
    | ct => exact h.elim
  | exc c fs ρ' =>
    rw [e] at h
    exact fun dd us σ' H' hx R' => h dd us H' hx (by
      have := R'.selfs
      rwa [List.append_nil] at this)
  | stuck => rw [e] at h; exact h.elim
end
/-! ### arguments -/
abbrev FA := Env → Res (List Sl × Env)
def postA (G : Gam) (Wt : WX) (M : Fm) (τ : List Ent) (σ : St) (r : Res (List Sl × Env)) (Q : List V → Hp → Prop) : Prop := match r with
  | .ok (ws, ρ') => ∀ vs H', ws.length = vs.length → RS G M ρ' (aents vs ws ++ τ) σ H' → Q vs H'
  | .exc c fs ρ' => ∀ dd vs H', RX G c fs dd vs H' → RS G M ρ' (xents vs fs ++ τ) σ H' → Wt (.ref (G.ca c)) dd σ H'
  | .stuck => False
def tA (G : Gam) (Wt : WX) (F : FA) : TA := fun σ H Q => ∃ M ρ τ, RS G M ρ τ σ H ∧ postA G Wt M τ σ (F ρ) Q
def cANil : FA := fun ρ => .ok ([], ρ)
def cACons (F : FE) (Fs : FA) : FA := fun ρ => (F ρ).bind fun (w, ρ1) => (Fs ρ1).bind fun (ws, ρ2) => .ok (w :: ws, ρ2)
section
variable {X : Cx} {G : Gam} {Wt : WX} {e : Expr} {es : List Expr} {Fa : FE} {Fs : FA} {pos : Pos}
theorem postA_bindE {M : Fm} {τ : List Ent} {σ : St} {r : Res (Sl × Env)} {k : Sl × Env → Res (List Sl × Env)} {Q : List V → Hp → Prop} {R : V → Hp → Prop} (h : postA G Wt M τ σ (r.bind k) Q)
    (hr : ∀ w ρ' v H', RS G M ρ' ((some v, w) :: τ) σ H' → postA G Wt M τ σ (k (w, ρ')) Q → R v H') : post G Wt M τ σ r R := by
  cases r with
  | ok a =>
    obtain ⟨w, ρ'⟩ := a
    exact fun v H' z => hr w ρ' v H' z h
  | exc c fs ρ' => exact fun dd vs H' x z => h dd vs H' x z
  | stuck => exact h
theorem a_nil : PA X [] (tA G Wt cANil) := pa_nil.weak fun σ H Q ⟨M, ρ, τ, R, q⟩ => q [] H rfl R
theorem a_cons (he : PE X e (tE G Wt Fa)) (hs : PA X es (tA G Wt Fs)) (h1 : starEach (e :: es) X.env = (false, eval e X.env) :: starEach es X.env := by rfl) : PA X (e :: es) (tA G Wt (cACons Fa Fs)) := by
  refine PA.weak (pa_cons he hs h1) fun σ H Q ⟨M, ρ, τ, R, q⟩ => ⟨M, ρ, τ, R, postA_bindE q fun w ρ1 v H1 R1 p => ?_⟩
  refine ⟨M, ρ1, (some v, w) :: τ, R1, ?_⟩
  dsimp only at p
  cases e2 : Fs ρ1 with
  | ok a =>
    obtain ⟨ws, ρ2⟩ := a
    rw [e2] at p
    exact fun vs H2 hl R2 => p (v :: vs) H2 (by simp [hl]) (R2.perm List.perm_middle)
  | exc c fs ρ' =>
    rw [e2] at p
    exact fun dd vs H2 x R2 => p dd vs H2 x (xe_drop R2)
  | stuck => rw [e2] at p; exact p
end
/-- what is given out is no longer owned -/
def shr : Sl → Sl
  | .own d => .val d
  | w => w
def isVal : Sl → Bool
  | .val _ => true
  | _ => false
def resCall (r : Res (Sl × Env)) (ρ : Env) : Res (Sl × Env) := match r with
  | .ok (.val d, _) => .ok (.val d, ρ)
  | .ok (.own d, _) => .ok (.own d, ρ)
  | .ok _ => .stuck
  | .exc c fs _ => .exc c fs ρ
  | .stuck => .stuck
def callF (F : FF) (ws : List Sl) (ρ : Env) : Res (Sl × Env) := match (ws.map shr).all isVal with
  | true => resCall (F (ws.map shr)) ρ
  | false => .stuck
section
variable {X : Cx} {G : Gam} {Wt : WX} {M : Fm} {ρ : Env} {τ : List Ent} {σ : St} {H : Hp}
theorem RS.shrAll : ∀ {vs : List V} {ws : List Sl} {τ : List Ent}, RS G M ρ (aents vs ws ++ τ) σ H → RS G M ρ (aents vs (ws.map shr) ++ τ) σ H
  | [], ws, τ, R => R
  | v :: vs, [], τ, R => R
  | v :: vs, w :: ws, τ, R => by
    have R0 : RS G M ρ ((some v, w) :: (aents vs ws ++ τ)) σ H := R
    have R1 : RS G M ρ ((some v, shr w) :: (aents vs ws ++ τ)) σ H := by
      cases w with
      | own d => exact R0.share
      | _ => exact R0
    have R2 : RS G M ρ (aents vs ws ++ ((some v, shr w) :: τ)) σ H := R1.perm List.perm_middle.symm
    have R3 : RS G M ρ (aents vs (ws.map shr) ++ ((some v, shr w) :: τ)) σ H := RS.shrAll R2
    exact R3.perm List.perm_middle
theorem owns_vals : ∀ {vs : List V} {ws : List Sl}, ws.all isVal = true → owns (aents vs ws) = []
  | [], ws, h => rfl
  | v :: vs, [], h => rfl
  | v :: vs, w :: ws, h => by
    rw [List.all_cons, Bool.and_eq_true] at h
    obtain ⟨h1, h2⟩ := h
    cases w with
    | val d =>
      show owns ((some v, Sl.val d) :: aents vs ws) = []
      rw [owns_val]
      exact owns_vals h2
    | _ => cases h1
/-- the callee's frame: everything stands -/
theorem RS.callee {vs : List V} {ws : List Sl} (R : RS G M ρ (aents vs ws ++ τ) σ H) (hv : ws.all isVal = true) (P : Addr) : RE G P (avoid M.S0 (ents σ ρ ++ τ)) H (aents vs ws) H := by
  have R1 := R.front
  have eo : owns (aents vs ws) = [] := owns_vals hv
  have ea : avoid M.S0 (aents vs ws ++ (ents σ ρ ++ τ)) = avoid (avoid M.S0 (ents σ ρ ++ τ)) (aents vs ws) := avoid_app.symm
  refine ⟨Same.refl H, fun p h => ?_, by rw [eo]; exact List.nodup_nil, (by rw [eo]; exact fun _ h => nomatch h), fun e he => ?_⟩
  · rcases h with h | h
    · exact R1.s0 h
    · exact (R.drop.re).there h
  · rw [← ea]
    have hh := R1.all e (List.mem_append_left _ he)
    obtain ⟨v, w⟩ := e
    have hw : isVal w = true := List.all_eq_true.mp hv w (List.of_mem_zip he).2
    cases w with
    | val d => exact hh
    | _ => cases hw
/-- behind the call -/
theorem RS.back {v : V} {w : Sl} {P : Addr} {H' : Hp} (hw : ∀ d, w ≠ .self d) (R : RS G M ρ τ σ H) (B : RE G P (avoid M.S0 (ents σ ρ ++ τ)) H [(some v, w)] H') : RS G M ρ ((some v, w) :: τ) σ H' := by
  refine RS.unfront (τ' := [_]) R.len (RE.next (A := []) (B := ents σ ρ ++ τ) R.re (R.re.same.trans B.same) B.nd (fun p h => Same.free R.re.same (B.new p h)) (fun p h z => ?_) (fun p o h z => ?_) (fun a o h _ => B.same a o h) fun e he => ?_)
  · obtain ⟨o, e⟩ := R.re.there z
    rw [B.new p h] at e
    cases e
  · rw [B.new p h] at z
    cases z
  · have hh := B.all e he
    have e' : e = (some v, w) := by simpa using he
    subst e'
    have ea : avoid (avoid M.S0 (ents σ ρ ++ τ)) [(some v, w)] = avoid M.S0 ([(some v, w)] ++ (ents σ ρ ++ τ)) := avoid_app
    rw [← ea]
    cases w with
    | self d => exact absurd rfl (hw d)
    | none => exact hh
    | val d => exact hh
    | own d => exact hh
/-- the exception's fields behind the call -/
theorem RS.backX {us : List V} {fs : List D} {P : Addr} {H' : Hp} (R : RS G M ρ τ σ H) (B : RE G P (avoid M.S0 (ents σ ρ ++ τ)) H (xents us fs) H') : RS G M ρ (xents us fs ++ τ) σ H' := by
  have eo : owns (xents us fs) = [] := owns_vals (by simp [isVal])
  refine RS.unfront R.len (RE.next (A := []) (B := ents σ ρ ++ τ) R.re (R.re.same.trans B.same) B.nd (by rw [eo]; exact fun _ h => nomatch h) (by rw [eo]; exact fun _ h => nomatch h) (by rw [eo]; exact fun _ _ h => nomatch h) (fun a o h _ => B.same a o h) fun e he => ?_)
  have hh := B.all e he
  have ea : avoid (avoid M.S0 (ents σ ρ ++ τ)) (xents us fs) = avoid M.S0 (xents us fs ++ (ents σ ρ ++ τ)) := avoid_app
  rw [← ea]
  obtain ⟨v, w⟩ := e
  have hw : w ∈ fs.map Sl.val := (List.of_mem_zip he).2
  obtain ⟨d, _, rfl⟩ := List.mem_map.mp hw
  exact hh
/-- drop what a callee without a pinned self says of it -/
theorem RE.noself {P : Addr} {S0 : Addr → Prop} {H0 : Hp} {L : List Ent} {ρ' : Env} (R : RE G P S0 H0 (L ++ selfE P ρ') H) : RE G P S0 H0 L H := (R.perm List.perm_append_comm).drop
/-- a call of a def with values: what its promise wants -/
theorem sp_callG {n : Nat} {Ff : FF} {vs : List V} {ws : List Sl} {Q : VK} {E : XK} (hl : ws.length = vs.length) (hn : vs.length = n) (R : RS G M ρ (aents vs ws ++ τ) σ H) (h : post G Wt M τ σ (callF Ff ws ρ) Q) (hE : E = WE Wt σ ∨ ∀ c fs ρ', callF Ff ws ρ ≠ .exc c fs ρ') : spF G n Ff vs H Q E := by
  unfold callF at h hE
  split at h
  · rename_i hv
    rw [hv] at hE
    have R1 := R.shrAll
    have C := R1.callee hv 0
    have R2 := R1.drop
    refine ⟨hn, ⟨0, avoid M.S0 (ents σ ρ ++ τ), H⟩, ws.map shr, by rw [List.length_map, hl, hn], C, ?_⟩
    unfold resCall at h hE
    cases e : Ff (ws.map shr) with
    | ok a =>
      obtain ⟨w, ρ'⟩ := a
      rw [e] at h
      cases w with
      | val d => exact fun v H' B => h v H' (R2.back (fun _ z => nomatch z) (RE.noself (L := [_]) B))
      | own d => exact fun v H' B => h v H' (R2.back (fun _ z => nomatch z) (RE.noself (L := [_]) B))
      | none => exact h.elim
      | self d => exact h.elim
    | exc c fs ρ' =>
      rw [e] at h hE
      rcases hE with hE | hE
      · subst hE
        exact fun dd us H' hx B => h dd us H' hx (R2.backX (RE.noself B))
      · exact absurd rfl (hE c fs ρ)
    | stuck => rw [e] at h; exact h.elim
  · exact h.elim
theorem sp_call {n : Nat} {Ff : FF} {vs : List V} {ws : List Sl} {Q : VK} (hl : ws.length = vs.length) (hn : vs.length = n) (R : RS G M ρ (aents vs ws ++ τ) σ H) (h : post G Wt M τ σ (callF Ff ws ρ) Q) : spF G n Ff vs H Q (WE Wt σ) := sp_callG hl hn R h (.inl rfl)
end
def cCall (Ff : FF) (Fs : FA) : FE := fun ρ => (Fs ρ).bind fun (ws, ρ1) => callF Ff ws ρ1
/-- defaults behind the arguments -/
def cDfl (ds : List D) (Fs : FA) : FA := fun ρ => (Fs ρ).bind fun (ws, ρ1) => .ok (ws ++ ds.map Sl.val, ρ1)
section
variable {X : Cx} {G : Gam} {Wt : WX} {k n : Nat} {f C : Addr} {fd : FuncData} {ps : List Str} {Ff : FF} {x m : Str} {p pos apos : Pos} {e o : Expr} {es : List Expr} {Fa : FE} {Fs : FA} {dvs : List V} {ds : List Value} {dds : List D}
/-- f(e, ..), all parameters written -/
theorem e_call (F : FnOk X.prog X.w X.K X.mg X.base (L2.CX X.prog X.w) k f fd ps (spF G n Ff)) (hr : Room k X.A) (hg : Gl X x) (hm : X.mg x = some (.ref f)) (hk : PySem.W.keepIn X.K (.ref f) = true) (hb : Binds X.K fd ps []) (hps : ps.length = n) (tk : Takes X Wt)
    (ha : PA X (e :: es) (tA G Wt Fs)) (hn : ∀ ρ ws ρ', Fs ρ = .ok (ws, ρ') → ws.length = n) (hdb : (x == ("__debug__" : Str)) = false := by decide) (he : starEach (e :: es) X.env = (false, eval e X.env) :: starEach es X.env := by rfl) (hpl : (backTo pos (starEach es X.env)).any (·.1) = false := by rfl) :
    PE X (.Call (.Name x p) (e :: es) [] pos) (tE G Wt (cCall Ff Fs)) := by
  refine (pe_callS (E := WE Wt) F hr hg hm hk hb (fun σ => passAt tk σ) ha hdb he hpl).weak fun σ H Q ⟨M, ρ, τ, R, q⟩ => ?_
  refine ⟨M, ρ, τ, R, ?_⟩
  cases e1 : Fs ρ with
  | ok a =>
    obtain ⟨ws, ρ1⟩ := a
    unfold cCall at q
    rw [e1] at q
    exact fun vs H1 l R1 => sp_call l (l.symm.trans (hn _ _ _ e1)) R1 q
  | exc c fs ρ' =>
    unfold cCall at q
    rw [e1] at q
    exact q
  | stuck =>
    unfold cCall at q
    rw [e1] at q
    exact q
end
end Dl
namespace Dl
open PySem PySem.Spec L2
open PyProof.Rows hiding St
def fIx (names : List Str) (f : Str) : Nat := names.findIdx (· == f)
theorem lookup_ix : ∀ {names : List Str} {fs : List (Str × V)} {n : Nat} {f : Str} {v : V}, fs.map (·.1) = names.take n → (fs.map (·.2))[fIx names f]? = some v → fs.lookup f = some v
  | [], fs, n, f, v, h, e => by
    have : fs = [] := by simpa using h
    subst this
    simp at e
  | a :: r, fs, 0, f, v, h, e => by
    have : fs = [] := by simpa using h
    subst this
    simp at e
  | a :: r, [], n + 1, f, v, h, e => by simp at e
  | a :: r, (b, x) :: fs, n + 1, f, v, h, e => by
    rw [List.map_cons, List.take_succ_cons] at h
    injection h with h1 h2
    have h1' : b = a := h1
    subst h1'
    unfold fIx at e
    rw [List.findIdx_cons] at e
    by_cases q : b = f
    · subst q
      rw [show (b == b) = true by simp] at e
      have e' : x = v := by simpa using e
      subst e'
      simp [List.lookup]
    · have q1 : (b == f) = false := by simpa using q
      have q2 : (f == b) = false := by simpa using (fun z : f = b => q z.symm)
      rw [q1] at e
      have e' : (fs.map (·.2))[fIx r f]? = some v := by simpa [fIx] using e
      have := lookup_ix (f := f) h2 e'
      simp only [List.lookup, q2]
      exact this
theorem lookup_no : ∀ {names : List Str} {fs : List (Str × V)} {n : Nat} {f : Str}, fs.map (·.1) = names.take n → names.all (fun g => !(g == f)) = true → fs.lookup f = none
  | names, [], n, f, h, e => rfl
  | [], (b, x) :: fs, n, f, h, e => by simp at h
  | a :: r, (b, x) :: fs, 0, f, h, e => by simp at h
  | a :: r, (b, x) :: fs, n + 1, f, h, e => by
    rw [List.map_cons, List.take_succ_cons] at h
    injection h with h1 h2
    have h1' : b = a := h1
    subst h1'
    rw [List.all_cons, Bool.and_eq_true] at e
    have q1 : ¬ (b == f) = true := by simpa using e.1
    have q2 : (f == b) = false := by
      cases q : (f == b) with
      | false => rfl
      | true => exact absurd (by simpa using (eq_of_beq q).symm) q1
    simp only [List.lookup, q2]
    exact lookup_no h2 e.2
/-- the fields behind a store at the place k -/
def putD (k : Nat) (d : D) (ds : List D) : Option (List D) := match Nat.blt k ds.length with
  | true => some (ds.set k d)
  | false => match Nat.beq k ds.length with
    | true => some (ds ++ [d])
    | false => none
theorem putF_ix : ∀ {names : List Str} {fs : List (Str × V)} {n : Nat} {f : Str} {y : V}, names.Nodup → fs.map (·.1) = names.take n → fs.length = n → fIx names f < names.length → fIx names f ≤ n →
    (putF f y fs).map (·.1) = names.take (if fIx names f < n then n else n + 1) ∧ (putF f y fs).map (·.2) = if fIx names f < n then (fs.map (·.2)).set (fIx names f) y else fs.map (·.2) ++ [y]
  | [], fs, n, f, y, hn, h, hl, e, e2 => by simp at e
  | a :: r, [], n, f, y, hn, h, hl, e, e2 => by
    have hl' : n = 0 := by simpa using hl.symm
    subst hl'
    have e0 : fIx (a :: r) f = 0 := by omega
    rw [e0]
    unfold fIx at e0
    rw [List.findIdx_cons] at e0
    have q : (a == f) = true := by
      cases z : (a == f) with
      | true => rfl
      | false => rw [z] at e0; simp at e0
    have q' : a = f := eq_of_beq q
    subst q'
    simp [putF]
  | a :: r, (b, x) :: fs, 0, f, y, hn, h, hl, e, e2 => by simp at hl
  | a :: r, (b, x) :: fs, n + 1, f, y, hn, h, hl, e, e2 => by
    rw [List.map_cons, List.take_succ_cons] at h
    injection h with h1 h2
    have h1' : b = a := h1
    subst h1'
    unfold fIx at e e2 ⊢
    rw [List.findIdx_cons] at e e2 ⊢
    by_cases q : b = f
    · subst q
      simp [putF, h2]
    · have q1 : (b == f) = false := by simpa using q
      rw [q1] at e e2 ⊢
      have hl' : fs.length = n := by simpa using hl
      have ih := putF_ix (y := y) (List.nodup_cons.mp hn).2 h2 hl' (f := f) (by simpa [fIx] using e) (by simpa [fIx] using e2)
      unfold fIx at ih
      rw [show putF f y ((b, x) :: fs) = (if b = f then (b, y) :: fs else (b, x) :: putF f y fs) from rfl, if_neg q]
      rw [List.map_cons, List.map_cons, ih.1, ih.2]
      by_cases c : List.findIdx (fun x => x == f) r < n
      · have c' : List.findIdx (fun x => x == f) r + 1 < n + 1 := by omega
        simp [c]
      · have c' : ¬ List.findIdx (fun x => x == f) r + 1 < n + 1 := by omega
        simp [c]
theorem okC_eq {c c' : Nat} (h : okC c c' = true) : c = c' := Nat.eq_of_beq_eq_true h
/-- a field of data -/
def fldD (c k : Nat) : D → Option D
  | .obj c' ds => (match okC c c' with
    | true => ds[k]?
    | false => none)
  | _ => none
theorem fldD_eq {c k : Nat} {d e : D} (h : fldD c k d = some e) : ∃ ds, d = .obj c ds ∧ ds[k]? = some e := by
  cases d with
  | obj c' ds =>
    have h' : (match okC c c' with
    | true => ds[k]?
    | false => none) = some e := h
    split at h'
    · rename_i q
      exact ⟨ds, by rw [okC_eq q], h'⟩
    · cases h'
  | _ => cases h
def retD (o : Option D) (ρ : Env) : Res (Sl × Env) := match o with
  | some d => .ok (.val d, ρ)
  | none => .stuck
section
variable {X : Cx} {G : Gam} {Wt : WX} {M : Fm} {ρ : Env} {τ : List Ent} {σ : St} {H : Hp}
theorem RS.shr1 {v : Option V} {w : Sl} (R : RS G M ρ ((v, w) :: τ) σ H) : RS G M ρ ((v, shr w) :: τ) σ H := by
  cases w with
  | own d => exact R.share
  | _ => exact R
theorem Rep.obj_at {S : Addr → Prop} {c : Nat} {ds : List D} {v : V} (h : Rep G S H (.obj c ds) v) : ∃ p dx fs, v = .ref p ∧ H p = some (.ins (G.ca c) dx fs) ∧ fs.map (·.1) = (G.fs c).take ds.length ∧ Reps G S H ds (fs.map (·.2)) := by
  unfold Rep at h
  obtain ⟨p, dx, fs, e, _, k, q, r⟩ := h
  exact ⟨p, dx, fs, e, k, q, r⟩
end
/-- e.f -/
def cFld (c k : Nat) (F : FE) : FE := fun ρ => (F ρ).bind fun (w, ρ1) => match shr w with
  | .val d => retD (fldD c k d) ρ1
  | _ => .stuck
/-- x.f, x a name: what is owned stays owned -/
def slD : Sl → Option D
  | .val d => some d
  | .own d => some d
  | .self d => some d
  | .none => none
def cSFld (i c k : Nat) : FE := fun ρ => match ρ[i]? with
  | some w => (match slD w with
    | some d => retD (fldD c k d) ρ
    | none => .stuck)
  | none => .stuck
section
variable {X : Cx} {G : Gam} {Wt : WX} {e o : Expr} {es : List Expr} {Fa : FE} {Fs : FA} {f m x : Str} {pos apos p : Pos} {c k n : Nat}
theorem e_fld (hK : X.K = G.K) (cl : Cls G.K (G.ca c)) (na : NoAttr G.K (G.ca c) f) (hk : fIx (G.fs c) f = k) (he : PE X e (tE G Wt Fa)) (hb : attributeBase e f X.env (eval e X.env) = eval e X.env := by rfl) : PE X (.Attribute e f pos) (tE G Wt (cFld c k Fa)) := by
  subst hk
  refine (pe_fld he hb).weak fun σ H Q ⟨M, ρ, τ, R, q⟩ => ⟨M, ρ, τ, R, post_bind0 q fun w ρ1 v H1 _ R1 p => ?_⟩
  dsimp only at p
  have R2 := R1.shr1
  split at p
  · rename_i d ew
    rw [ew] at R2
    cases ef : fldD c (fIx (G.fs c) f) d with
    | none => rw [ef] at p; exact p.elim
    | some d' =>
      rw [ef] at p
      obtain ⟨ds, rfl, hd⟩ := fldD_eq ef
      obtain ⟨u, eu, r⟩ := R2.val List.mem_cons_self
      cases eu
      obtain ⟨a, dx, fs, rfl, ha, hn, r⟩ := r.obj_at
      obtain ⟨y, hy, ry⟩ := r.get hd
      rw [hK]
      refine ⟨a, _, dx, fs, y, rfl, ha, cl, na, lookup_ix hn hy, p y H1 ?_⟩
      have R3 : RS G M ρ1 ((some (V.ref a), Sl.val (.obj c ds)) :: τ) σ H1 := R2
      have R4 := R3.addVal (v := y) (d := d') ry
      exact RS.drop1 (R4.perm (List.Perm.swap _ _ _))
  · exact p.elim
theorem Holds.obj {P : Addr} {S : Addr → Prop} {H : Hp} {v : Option V} {w : Sl} {ds : List D} (h : Holds G P S H (v, w)) (e : slD w = some (.obj c ds)) : ∃ p dx fs, v = some (.ref p) ∧ H p = some (.ins (G.ca c) dx fs) ∧ fs.map (·.1) = (G.fs c).take ds.length ∧ Reps G S H ds (fs.map (·.2)) := by
  cases w with
  | none => cases e
  | val d =>
    cases e
    obtain ⟨u, rfl, r⟩ := h
    obtain ⟨p, dx, fs, rfl, r2⟩ := r.obj_at
    exact ⟨p, dx, fs, rfl, r2⟩
  | own d =>
    cases e
    obtain ⟨p, rfl, dx, fs, r⟩ := h
    exact ⟨p, dx, fs, rfl, r⟩
  | self d =>
    cases e
    obtain ⟨e, dx, fs, r⟩ := h
    exact ⟨P, dx, fs, e, r⟩
theorem e_sfld {i : Nat} {p2 : Pos} (hK : X.K = G.K) (cl : Cls G.K (G.ca c)) (na : NoAttr G.K (G.ca c) f) (hk : fIx (G.fs c) f = k) (hN : X.N[i]? = some x) (hv : Vis X.env.scope x) (hb : attributeBase (.Name x p2) f X.env (eval (.Name x p2) X.env) = eval (.Name x p2) X.env := by rfl)
    (hd : (x == ("__debug__" : Str)) = false := by decide) (hcd : (x == ("__classdict__" : Str)) = false := by decide) : PE X (.Attribute (.Name x p2) f pos) (tE G Wt (cSFld i c k)) := by
  subst hk
  refine (pe_fld (pe_var hN hv hd hcd) hb).weak fun σ H Q ⟨M, ρ, τ, R, p⟩ => ?_
  unfold cSFld at p
  split at p
  · rename_i w ew
    split at p
    · rename_i d ed
      cases ef : fldD c (fIx (G.fs c) f) d with
      | none => rw [ef] at p; exact p.elim
      | some d' =>
        rw [ef] at p
        obtain ⟨ds, rfl, hd⟩ := fldD_eq ef
        obtain ⟨v, e1, e2⟩ := R.at_ ew
        have hm : (v, w) ∈ ents σ ρ ++ τ := List.mem_append_left _ (List.mem_of_getElem? e2)
        obtain ⟨a, dx, fs, rfl, ha, hn, r⟩ := (R.re.all _ hm).obj ed
        obtain ⟨y, hy, ry⟩ := r.get hd
        refine ⟨_, e1, a, _, dx, fs, y, rfl, ha, by rw [hK]; exact cl, by rw [hK]; exact na, lookup_ix hn hy, p y H (R.addVal ry)⟩
    · exact p.elim
  · exact p.elim
end
/-! ### calls on objects -/
def callF0 (F : FF) (ws : List Sl) (ρ : Env) : Res (Sl × Env) := match callF F ws ρ with
  | .ok a => .ok a
  | _ => .stuck
/-- the receiver is an object of the class c -/
def isObjC (c : Nat) : Sl → Bool
  | .val (.obj c' _) => okC c c'
  | _ => false
theorem isObjC_eq {c : Nat} {w : Sl} (h : isObjC c w = true) : ∃ ds, w = .val (.obj c ds) := by
  unfold isObjC at h
  split at h
  · exact ⟨_, by rw [okC_eq h]⟩
  · cases h
def cProp (c : Nat) (Fg : FF) (F : FE) : FE := fun ρ => (F ρ).bind fun (w, ρ1) => match isObjC c (shr w) with
  | true => callF0 Fg [shr w] ρ1
  | false => .stuck
def cMeth (c : Nat) (Ff : FF) (F : FE) (Fs : FA) : FE := fun ρ => (F ρ).bind fun (w, ρ1) => match isObjC c (shr w) with
  | true => (Fs ρ1).bind fun (ws, ρ2) => callF Ff (shr w :: ws) ρ2
  | false => .stuck
section
variable {X : Cx} {G : Gam} {Wt : WX} {M : Fm} {ρ : Env} {τ : List Ent} {σ : St} {H : Hp} {e o : Expr} {es : List Expr} {Fa : FE} {Fs : FA} {Fg Ff : FF} {f m x : Str} {pos apos p : Pos} {c k n : Nat} {g pr fa : Addr} {fd : FuncData} {ps : List Str}
theorem sp_call0 {vs : List V} {ws : List Sl} {Q : VK} {E : XK} (hl : ws.length = vs.length) (hn : vs.length = n) (R : RS G M ρ (aents vs ws ++ τ) σ H) (h : post G Wt M τ σ (callF0 Ff ws ρ) Q) : spF G n Ff vs H Q E := by
  unfold callF0 at h
  cases q : callF Ff ws ρ with
  | ok a =>
    rw [q] at h
    exact sp_callG hl hn R (by rw [q]; exact h) (.inr fun c fs ρ' z => by rw [q] at z; cases z)
  | exc c fs ρ' => rw [q] at h; exact h.elim
  | stuck => rw [q] at h; exact h.elim
/-- a property read -/
theorem e_prop (hK : X.K = G.K) (cl : Cls G.K (G.ca c)) (hp : PropOf G.K (G.ca c) f pr g) (F : FnOk X.prog X.w X.K X.mg X.base (L2.CX X.prog X.w) k g fd ps (spF G 1 Fg)) (hr : Room (k + 1) X.A) (hb : Binds X.K fd ps []) (he : PE X e (tE G Wt Fa)) (hab : attributeBase e f X.env (eval e X.env) = eval e X.env := by rfl) : PE X (.Attribute e f pos) (tE G Wt (cProp c Fg Fa)) := by
  refine (pe_prop (C := G.ca c) (E := E0) he (by rw [hK]; exact cl) (by rw [hK]; exact hp) F hr hb .nil passL hab).weak fun σ H Q ⟨M, ρ, τ, R, q⟩ => ⟨M, ρ, τ, R, post_bind0 q fun w ρ1 v H1 _ R1 p => ?_⟩
  dsimp only at p
  have R2 := R1.shr1
  split at p
  · rename_i ew
    obtain ⟨ds, ed⟩ := isObjC_eq ew
    rw [ed] at R2 p
    obtain ⟨u, eu, r⟩ := R2.val List.mem_cons_self
    cases eu
    obtain ⟨a, dx, fs, rfl, ha, hn, r⟩ := r.obj_at
    exact ⟨a, dx, fs, rfl, ha, sp_call0 (vs := [.ref a]) rfl rfl R2 p⟩
  · exact p.elim
/-- o.m(e, ..), by values -/
theorem pe_methS {E : St → XK} {C : Addr} {sp : Sp} {ta : TE} {t : TA} {pl : Sem Bool} (he : PE X o ta) (cl : Cls X.K C) (hm : Meth X.K C m fa) (F : FnOk X.prog X.w X.K X.mg X.base (L2.CX X.prog X.w) k fa fd ps sp) (hr : Room k X.A) (hb : Binds X.K fd ps []) (hx : ∀ σ, PassesAt (L2.CX X.prog X.w) X σ (E σ)) (ha : PA X (e :: es) t)
    (hst : starEach (e :: es) X.env = (false, eval e X.env) :: starEach es X.env := by rfl) (hpl : (backTo pos (starEach es X.env)).any (·.1) = false := by rfl)
    (ht : eval (.Call (.Attribute o m apos) (e :: es) [] pos) X.env = (do
      let ov ← eval o X.env
      standAt apos.atName
      let (f, first) ← holding [ov] (getMethod ov m pl)
      callWith pos f first (backTo pos (starEach (e :: es) X.env)) (backToKw pos (keywordEach [] X.env))) := by rfl) :
    PE X (.Call (.Attribute o m apos) (e :: es) [] pos) (fun σ H Q => ta σ H fun x H1 => ∃ a dx fs, x = .ref a ∧ H1 a = some (.ins C dx fs) ∧ fs.lookup m = none ∧ t σ H1 fun vs H2 => sp (x :: vs) H2 Q (E σ)) := by
  refine ⟨fun pins s σ H Q I h => ?_⟩
  refine PySem.W.methodCall_KW (pl := pl) (thn (he.run pins s σ H _ I h) fun u s1 ⟨x, H1, I1, rx, a, dx, fs, ex, ea, l, q⟩ => ?_) ht
  subst ex
  obtain rfl : u = Value.ref a := rx
  refine getmeth_ok I1 ea cl hm l ?_
  refine PySem.W.callWith_K (first := [.ref a]) (h₀ := X.base) I.ok.mod.kin hm.kp (thn (ha.run pos pins s1 σ H1 _ I1 q) fun us s2 ⟨vs, H2, I2, r, q2⟩ => ⟨I2.kIn, ?_⟩) hst hpl
  exact run_fnS (us := .ref a :: us) (vs := .ref a :: vs) F hr hb (hx σ) I2 (.cons rfl r) q2
theorem pe_meth0S {E : St → XK} {C : Addr} {sp : Sp} {ta : TE} {pl : Sem Bool} (he : PE X o ta) (cl : Cls X.K C) (hm : Meth X.K C m fa) (F : FnOk X.prog X.w X.K X.mg X.base (L2.CX X.prog X.w) k fa fd ps sp) (hr : Room k X.A) (hb : Binds X.K fd ps []) (hx : ∀ σ, PassesAt (L2.CX X.prog X.w) X σ (E σ))
    (ht : eval (.Call (.Attribute o m apos) [] [] pos) X.env = (do
      let ov ← eval o X.env
      standAt apos.atName
      let (f, first) ← holding [ov] (getMethod ov m pl)
      callWith pos f first (backTo pos (starEach [] X.env)) (backToKw pos (keywordEach [] X.env))) := by rfl) :
    PE X (.Call (.Attribute o m apos) [] [] pos) (fun σ H Q => ta σ H fun x H1 => ∃ a dx fs, x = .ref a ∧ H1 a = some (.ins C dx fs) ∧ fs.lookup m = none ∧ sp [x] H1 Q (E σ)) := by
  refine ⟨fun pins s σ H Q I h => ?_⟩
  refine PySem.W.methodCall_KW (pl := pl) (thn (he.run pins s σ H _ I h) fun u s1 ⟨x, H1, I1, rx, a, dx, fs, ex, ea, l, q⟩ => ?_) ht
  subst ex
  obtain rfl : u = Value.ref a := rx
  refine getmeth_ok I1 ea cl hm l ?_
  exact PySem.W.callWith_K0 (first := [.ref a]) I1.kIn hm.kp (run_fnS (us := [.ref a]) (vs := [.ref a]) F hr hb (hx σ) I1 (.cons rfl .nil) q)
theorem post_bindA {r : Res (List Sl × Env)} {k : List Sl × Env → Res (Sl × Env)} {Q : VK} {R : List V → Hp → Prop} {τ1 : List Ent} (h : post G Wt M τ1 σ (r.bind k) Q) (hx : ∀ vs fs ρ' H', RS G M ρ' (xents vs fs ++ τ) σ H' → RS G M ρ' (xents vs fs ++ τ1) σ H')
    (hr : ∀ ws ρ' vs H', r = .ok (ws, ρ') → ws.length = vs.length → RS G M ρ' (aents vs ws ++ τ) σ H' → post G Wt M τ1 σ (k (ws, ρ')) Q → R vs H') : postA G Wt M τ σ r R := by
  cases r with
  | ok a =>
    obtain ⟨ws, ρ'⟩ := a
    exact fun vs H' l z => hr ws ρ' vs H' rfl l z h
  | exc c fs ρ' => exact fun dd vs H' x z => h dd vs H' x (hx _ _ _ _ z)
  | stuck => exact h
theorem e_meth {pl : Sem Bool} (hK : X.K = G.K) (cl : Cls G.K (G.ca c)) (hm : Meth G.K (G.ca c) m fa) (hno : (G.fs c).all (fun g => !(g == m)) = true) (F : FnOk X.prog X.w X.K X.mg X.base (L2.CX X.prog X.w) k fa fd ps (spF G n Ff)) (hr : Room k X.A) (hb : Binds X.K fd ps []) (tk : Takes X Wt) (ho : PE X o (tE G Wt Fa)) (ha : PA X (e :: es) (tA G Wt Fs)) (hn : ∀ ρ ws ρ', Fs ρ = .ok (ws, ρ') → ws.length + 1 = n)
    (hst : starEach (e :: es) X.env = (false, eval e X.env) :: starEach es X.env := by rfl) (hpl : (backTo pos (starEach es X.env)).any (·.1) = false := by rfl)
    (ht : eval (.Call (.Attribute o m apos) (e :: es) [] pos) X.env = (do
      let ov ← eval o X.env
      standAt apos.atName
      let (f, first) ← holding [ov] (getMethod ov m pl)
      callWith pos f first (backTo pos (starEach (e :: es) X.env)) (backToKw pos (keywordEach [] X.env))) := by rfl) :
    PE X (.Call (.Attribute o m apos) (e :: es) [] pos) (tE G Wt (cMeth c Ff Fa Fs)) := by
  refine (pe_methS (E := WE Wt) (C := G.ca c) ho (by rw [hK]; exact cl) (by rw [hK]; exact hm) F hr hb (fun σ => passAt tk σ) ha hst hpl ht).weak fun σ H Q ⟨M, ρ, τ, R, q⟩ => ⟨M, ρ, τ, R, post_bind0 q fun w ρ1 v H1 _ R1 p => ?_⟩
  dsimp only at p
  have R2 := R1.shr1
  split at p
  · rename_i ew
    obtain ⟨ds, ed⟩ := isObjC_eq ew
    rw [ed] at R2 p
    obtain ⟨u, eu, r⟩ := R2.val List.mem_cons_self
    cases eu
    obtain ⟨a, dx, fs, rfl, ha, hnn, r⟩ := r.obj_at
    refine ⟨a, dx, fs, rfl, ha, lookup_no hnn hno, M, ρ1, _, R2, post_bindA p (fun _ _ _ _ z => xe_drop z) fun ws ρ2 vs H2 e1 l R3 p2 => ?_⟩
    exact sp_call (vs := .ref a :: vs) (by simp [l]) (by have := hn _ _ _ e1; simp [← l]; omega) (R3.perm List.perm_middle) p2
  · exact p.elim
end
end Dl
namespace Dl
open PySem PySem.Spec L2
open PyProof.Rows hiding St
def cMeth0 (c : Nat) (Ff : FF) (F : FE) : FE := fun ρ => (F ρ).bind fun (w, ρ1) => match isObjC c (shr w) with
  | true => callF Ff [shr w] ρ1
  | false => .stuck
/-- C(..): the __init__ over a new object -/
def makeF (c : Nat) (Fi : FF) (ws : List Sl) (ρ : Env) : Res (Sl × Env) := match (ws.map shr).all isVal with
  | true => (match Fi (.self (.obj c []) :: ws.map shr) with
    | .ok (.val .non, .self d :: _) => .ok (.own d, ρ)
    | .exc c fs _ => .exc c fs ρ
    | _ => .stuck)
  | false => .stuck
def cMake (c : Nat) (Fi : FF) (Fs : FA) : FE := fun ρ => (Fs ρ).bind fun (ws, ρ1) => makeF c Fi ws ρ1
/-- x.f = e -/
def cSetF (i c k : Nat) (F : FE) : FS := fun ρ => (F ρ).bind fun (w, ρ1) => match shr w, ρ1[i]? with
  | .val d, some (.self (.obj c' ds)) => (match okC c c', putD k d ds with
    | true, some ds' => .ok (.nx, ρ1.set i (.self (.obj c ds')))
    | _, _ => .stuck)
  | .val d, some (.own (.obj c' ds)) => (match okC c c', putD k d ds with
    | true, some ds' => .ok (.nx, ρ1.set i (.own (.obj c ds')))
    | _, _ => .stuck)
  | _, _ => .stuck
section
variable {X : Cx} {G : Gam} {Wt : WX} {M : Fm} {ρ : Env} {τ : List Ent} {σ : St} {H : Hp} {e o : Expr} {es : List Expr} {Fa : FE} {Fs : FA} {Ff Fi : FF} {f m x : Str} {pos apos p : Pos} {c k n : Nat} {fa : Addr} {fd : FuncData} {ps : List Str}
theorem e_meth0 {pl : Sem Bool} (hK : X.K = G.K) (cl : Cls G.K (G.ca c)) (hm : Meth G.K (G.ca c) m fa) (hno : (G.fs c).all (fun g => !(g == m)) = true) (F : FnOk X.prog X.w X.K X.mg X.base (L2.CX X.prog X.w) k fa fd ps (spF G 1 Ff)) (hr : Room k X.A) (hb : Binds X.K fd ps []) (tk : Takes X Wt) (ho : PE X o (tE G Wt Fa))
    (ht : eval (.Call (.Attribute o m apos) [] [] pos) X.env = (do
      let ov ← eval o X.env
      standAt apos.atName
      let (f, first) ← holding [ov] (getMethod ov m pl)
      callWith pos f first (backTo pos (starEach [] X.env)) (backToKw pos (keywordEach [] X.env))) := by rfl) :
    PE X (.Call (.Attribute o m apos) [] [] pos) (tE G Wt (cMeth0 c Ff Fa)) := by
  refine (pe_meth0S (E := WE Wt) (C := G.ca c) ho (by rw [hK]; exact cl) (by rw [hK]; exact hm) F hr hb (fun σ => passAt tk σ) ht).weak fun σ H Q ⟨M, ρ, τ, R, q⟩ => ⟨M, ρ, τ, R, post_bind0 q fun w ρ1 v H1 _ R1 p => ?_⟩
  dsimp only at p
  have R2 := R1.shr1
  split at p
  · rename_i ew
    obtain ⟨ds, ed⟩ := isObjC_eq ew
    rw [ed] at R2 p
    obtain ⟨u, eu, r⟩ := R2.val List.mem_cons_self
    cases eu
    obtain ⟨a, dx, fs, rfl, ha, hnn, r⟩ := r.obj_at
    exact ⟨a, dx, fs, rfl, ha, lookup_no hnn hno, sp_call (vs := [.ref a]) rfl rfl R2 p⟩
  · exact p.elim
/-- C(e, ..), by values, what leaves told at the slots -/
theorem pe_makeS {E : St → XK} {C : Addr} {sp : Sp} {t : TA} (Mk1 : Mk X.K C fa) (F : FnOk X.prog X.w X.K X.mg X.base (L2.CX X.prog X.w) k fa fd ps sp) (hr : Room (k + 1) X.A) (hg : Gl X x) (hm : X.mg x = some (.ref C)) {dvs : List V} {ds : List Value} (hb : Binds X.K fd ps ds) (hd : Vals dvs ds) (hx : ∀ σ, PassesAt (L2.CX X.prog X.w) X σ (E σ))
    (ha : PA X (e :: es) t) (hdb : (x == ("__debug__" : Str)) = false := by decide) (he : starEach (e :: es) X.env = (false, eval e X.env) :: starEach es X.env := by rfl) (hpl : (backTo pos (starEach es X.env)).any (·.1) = false := by rfl) :
    PE X (.Call (.Name x p) (e :: es) [] pos) (fun σ H Q => t σ H fun vs H1 => ∀ x dx, H1 x = none → H1 dx = none → dx ≠ x →
      sp (.ref x :: (vs ++ dvs)) (upd (upd H1 dx (.own x)) x (.ins C dx [])) (fun v H2 => v = .non ∧ Q (.ref x) H2) (E σ)) := by
  refine ⟨fun pins s σ H Q I h => ?_⟩
  refine wpAny_Call_Name_kw (ld_glob I hg hm ?_ hdb)
  refine PySem.W.callWith_K (h₀ := X.base) I.ok.mod.kin Mk1.kp (thn (ha.run pos pins s σ H _ I h) fun us s1 ⟨vs, H1, I1, r, q⟩ => ⟨I1.kIn, ?_⟩) he hpl
  show wpAny (model X.prog X.w) X.A (call (.ref C) us) (EP X pins σ Q) X.xe s1
  have hq := q (s1.heap.objs.size + 1) s1.heap.objs.size (I1.hok.fresh (Nat.le_succ _)) (I1.hok.fresh (Nat.le_refl _)) (Nat.ne_of_lt (Nat.lt_succ_self _))
  have I2 := Inv.made (C := C) I1
  have r2 : Vals (V.ref (s1.heap.objs.size + 1) :: (vs ++ dvs)) (Value.ref (s1.heap.objs.size + 1) :: (us ++ ds)) := .cons rfl (r.append hd)
  have hl : (Value.ref (s1.heap.objs.size + 1) :: us ++ ds).length = ps.length := by
    have e := r2.length
    rw [F.len _ _ _ _ hq] at e
    exact e.symm
  refine wpAny_call (make_map (f := fa) I1.kIn Mk1.makes Mk1.init (beq_iff_eq.mp Mk1.fn) (codeAny_mono (F.run _ X.stack _ _ ⟨Value.ref (s1.heap.objs.size + 1) :: us, []⟩ (Value.ref (s1.heap.objs.size + 1) :: (us ++ ds)) _ _ (E σ) (hr.make C us [])
    (I2.env0.make C us []) (hb _ (Value.ref (s1.heap.objs.size + 1) :: us) I2.kIn hl) r2 hq) fun r s' hq' => ?_))
  cases r with
  | error e => exact hx σ pins _ _ e s' I2 hq'
  | ok fl =>
    cases fl with
    | ret u =>
      obtain ⟨v, H', I3, rv, ev, q3⟩ := I2.after hq'
      subst ev
      exact ⟨rv, ⟨V.ref (s1.heap.objs.size + 1), H', I3, rfl, q3⟩⟩
    | next => exact False.elim hq'
    | brk => exact False.elim hq'
    | cont => exact False.elim hq'
/-- the promise of __init__ at a new object -/
theorem sp_make {vs : List V} {ws : List Sl} {Q : VK} {a dx : Addr} (hl : ws.length = vs.length) (hn : vs.length + 1 = n) (R : RS G M ρ (aents vs ws ++ τ) σ H) (ha : H a = none) (hdx : H dx = none) (hne : dx ≠ a) (h : post G Wt M τ σ (makeF c Fi ws ρ) Q) :
    spF G n Fi (.ref a :: vs) (upd (upd H dx (.own a)) a (.ins (G.ca c) dx [])) (fun v H2 => v = .non ∧ Q (.ref a) H2) (WE Wt σ) := by
  unfold makeF at h
  split at h
  · rename_i hv
    have R1 := R.shrAll
    have C := R1.callee hv a
    have R2 := R1.drop
    have kept : ∀ b o, H b = some o → upd (upd H dx (.own a)) a (.ins (G.ca c) dx []) b = some o := fun b o e => by rw [upd_ne (ne_of_none e ha), upd_ne (ne_of_none e hdx)]; exact e
    have C2 : RE G a (avoid M.S0 (ents σ ρ ++ τ)) H ((some (.ref a), .self (.obj c [])) :: aents vs (ws.map shr)) (upd (upd H dx (.own a)) a (.ins (G.ca c) dx [])) := by
      refine RE.next (A := []) (A' := [(some (.ref a), .self (.obj c []))]) (B := aents vs (ws.map shr)) C kept (by simp [ownOf]) (fun p hp => ?_) (fun p hp => ?_) (fun p o hp ho => ?_) (fun b o e _ => kept b o e) fun e he => ?_
      · have e : p = a := by simpa [ownOf] using hp
        rw [e]; exact ha
      · rw [owns_vals hv]; exact fun z => nomatch z
      · have e : p = a := by simpa [ownOf] using hp
        rw [e, ha] at ho; cases ho
      · have e' : e = (some (.ref a), .self (.obj c [])) := by simpa using he
        subst e'
        exact ⟨rfl, dx, [], upd_same, rfl, Reps.nil⟩
    refine ⟨hn, ⟨a, avoid M.S0 (ents σ ρ ++ τ), H⟩, .self (.obj c []) :: ws.map shr, by rw [List.length_cons, List.length_map, hl, hn], C2, ?_⟩
    split at h
    · rename_i d r e
      rw [e]
      intro v H' B
      have B2 : RE G a (avoid M.S0 (ents σ ρ ++ τ)) H ((some v, .val .non) :: [(some (.ref a), .self d)]) H' := B
      have ev : v = .non := by
        obtain ⟨u, eu, r⟩ := B2.val List.mem_cons_self
        cases eu
        exact r
      have B3 : RE G a (avoid M.S0 (ents σ ρ ++ τ)) H [(some (.ref a), .self d)] H' := RE.drop (A := [_]) B2
      have B4 : RE G a (avoid M.S0 (ents σ ρ ++ τ)) H [(some (.ref a), .own d)] H' := ⟨B3.same, B3.inb, B3.nd, B3.new, fun e he => by
        have e' : e = (some (.ref a), .own d) := by simpa using he
        subst e'
        obtain ⟨_, o⟩ := B3.all _ List.mem_cons_self
        exact ⟨a, rfl, o⟩⟩
      exact ⟨ev, h _ H' (R2.back (fun _ z => nomatch z) B4)⟩
    · rename_i c' fs ρ' e
      rw [e]
      exact fun dd us H' hx B => h dd us H' hx (R2.backX (RE.noself B))
    · exact h.elim
  · exact h.elim
theorem e_make (hK : X.K = G.K) (Mk1 : Mk G.K (G.ca c) fa) (F : FnOk X.prog X.w X.K X.mg X.base (L2.CX X.prog X.w) k fa fd ps (spF G n Fi)) (hr : Room (k + 1) X.A) (hg : Gl X x) (hm : X.mg x = some (.ref (G.ca c))) (hb : Binds X.K fd ps []) (tk : Takes X Wt)
    (ha : PA X (e :: es) (tA G Wt Fs)) (hn : ∀ ρ ws ρ', Fs ρ = .ok (ws, ρ') → ws.length + 1 = n) (hdb : (x == ("__debug__" : Str)) = false := by decide) (he : starEach (e :: es) X.env = (false, eval e X.env) :: starEach es X.env := by rfl) (hpl : (backTo pos (starEach es X.env)).any (·.1) = false := by rfl) :
    PE X (.Call (.Name x p) (e :: es) [] pos) (tE G Wt (cMake c Fi Fs)) := by
  refine (pe_makeS (E := WE Wt) (C := G.ca c) (by rw [hK]; exact Mk1) F hr hg hm hb .nil (fun σ => passAt tk σ) ha hdb he hpl).weak fun σ H Q ⟨M, ρ, τ, R, q⟩ => ⟨M, ρ, τ, R, post_bindA q (fun _ _ _ _ z => z) fun ws ρ1 vs H1 e1 l R1 p => ?_⟩
  intro a dx h1 h2 h3
  have this := sp_make (n := n) l (by have := hn _ _ _ e1; omega) R1 h1 h2 h3 p
  rw [List.append_nil]
  exact this
/-- C(e, ..), flat defaults behind -/
theorem e_makeD {dvs : List V} {dvals : List Value} {dds : List D} (hK : X.K = G.K) (Mk1 : Mk G.K (G.ca c) fa) (F : FnOk X.prog X.w X.K X.mg X.base (L2.CX X.prog X.w) k fa fd ps (spF G n Fi)) (hr : Room (k + 1) X.A) (hg : Gl X x) (hm : X.mg x = some (.ref (G.ca c))) (hb : Binds X.K fd ps dvals) (hd : Vals dvs dvals) (hf : dds.map flat = dvs.map some) (tk : Takes X Wt)
    (ha : PA X (e :: es) (tA G Wt Fs)) (hn : ∀ ρ ws ρ', Fs ρ = .ok (ws, ρ') → ws.length + dds.length + 1 = n) (hdb : (x == ("__debug__" : Str)) = false := by decide) (he : starEach (e :: es) X.env = (false, eval e X.env) :: starEach es X.env := by rfl) (hpl : (backTo pos (starEach es X.env)).any (·.1) = false := by rfl) :
    PE X (.Call (.Name x p) (e :: es) [] pos) (tE G Wt (cMake c Fi (cDfl dds Fs))) := by
  refine (pe_makeS (E := WE Wt) (C := G.ca c) (by rw [hK]; exact Mk1) F hr hg hm hb hd (fun σ => passAt tk σ) ha hdb he hpl).weak fun σ H Q ⟨M, ρ, τ, R, q⟩ => ⟨M, ρ, τ, R, ?_⟩
  have q' : post G Wt M τ σ ((Fs ρ).bind fun (ws, ρ1) => makeF c Fi (ws ++ dds.map Sl.val) ρ1) Q := by
    unfold cMake cDfl at q
    cases e1 : Fs ρ with
    | ok a => obtain ⟨ws, ρ1⟩ := a; rw [e1] at q; exact q
    | exc c fs ρ' => rw [e1] at q; exact q
    | stuck => rw [e1] at q; exact q
  refine post_bindA q' (fun _ _ _ _ z => z) fun ws ρ1 vs H1 e1 l R1 p => ?_
  intro a dx h1 h2 h3
  have add : ∀ (dds : List D) (dvs : List V), dds.map flat = dvs.map some → ∀ {τ : List Ent}, RS G M ρ1 τ σ H1 → RS G M ρ1 (aents dvs (dds.map Sl.val) ++ τ) σ H1 := by
    intro dds
    induction dds with
    | nil => intro dvs h τ R; have : dvs = [] := by simpa using h.symm
             subst this; exact R
    | cons d r ih =>
      intro dvs h τ R
      cases dvs with
      | nil => cases h
      | cons v vs' =>
        rw [List.map_cons, List.map_cons] at h
        injection h with h1 h2
        exact (ih vs' h2 R).addFlat h1
  have ln : dds.length = dvs.length := by have := congrArg List.length hf; simpa using this
  have R2 : RS G M ρ1 (aents (vs ++ dvs) (ws ++ dds.map Sl.val) ++ τ) σ H1 := by
    have e2 : aents (vs ++ dvs) (ws ++ dds.map Sl.val) = aents vs ws ++ aents dvs (dds.map Sl.val) := by
      unfold aents
      rw [List.map_append, List.zip_append (by simp [l])]
    rw [e2]
    refine (add dds dvs hf R1).perm ?_
    rw [← List.append_assoc]
    exact List.perm_append_comm.append_right τ
  exact sp_make (by simp [l, ln]) (by have := hn _ _ _ e1; simp; omega) R2 h1 h2 h3 p
/-- x.f = e -/
theorem s_setf {i : Nat} {p2 pos' : Pos} (hK : X.K = G.K) (cl : Cls G.K (G.ca c)) (na : NoAttr G.K (G.ca c) f) (hk : fIx (G.fs c) f = k) (hlt : k < (G.fs c).length) (hsm : (G.fs c).length < 1000) (hnd : (G.fs c).Nodup) (hN : X.N[i]? = some x) (hv : Vis X.env.scope x) (he : PE X e (tE G Wt Fa))
    (hs : swapsWith e (some (.Attribute (.Name x p2) f pos')) pos.line X.env = pure false := by rfl) (hd : (x == ("__debug__" : Str)) = false := by decide) (hcd : (x == ("__classdict__" : Str)) = false := by decide) :
    PS X (.Assign [.Attribute (.Name x p2) f pos'] e pos) (tS G Wt (cSetF i c k Fa)) := by
  subst hk
  refine (ps_fld (pe_var hN hv hd hcd) he hs).weak fun DD σ H ⟨M, ρ, τ, R, q⟩ => ⟨M, ρ, τ, R, postES_bind q fun w ρ1 v H1 R1 p => ?_⟩
  dsimp only at p
  have R2 := R1.shr1
  have go : ∀ (d : D) (ds ds' : List D) (s0 s1 : Sl), shr w = .val d → ρ1[i]? = some s0 → ((s0 = .self (.obj c ds) ∧ s1 = .self (.obj c ds')) ∨ (s0 = .own (.obj c ds) ∧ s1 = .own (.obj c ds'))) → putD (fIx (G.fs c) f) d ds = some ds' → postS G Wt M τ (.ok (.nx, ρ1.set i s1)) DD →
      ∃ v0, σ[i]? = some (some v0) ∧ ∃ a C dx fs, v0 = .ref a ∧ H1 a = some (.ins C dx fs) ∧ Cls X.K C ∧ NoAttr X.K C f ∧ fs.length < 1000 ∧ DD.nx σ (upd H1 a (.ins C dx (putF f v fs))) := by
    intro d ds ds' s0 s1 hw hs0 hss hp p
    rw [hw] at R2
    obtain ⟨v0, e1, e2⟩ := R2.at_ hs0
    have hm : (v0, s0) ∈ ents σ ρ1 ++ ((some v, Sl.val d) :: τ) := List.mem_append_left _ (List.mem_of_getElem? e2)
    have hso : slD s0 = some (.obj c ds) := by rcases hss with ⟨a, _⟩ | ⟨a, _⟩ <;> (rw [a]; rfl)
    obtain ⟨a, dx, fs, rfl, ha, hn, r⟩ := (R2.re.all _ hm).obj hso
    have hlen : fs.length = ds.length := by have := r.len; simpa using this
    have hle : ds.length ≤ (G.fs c).length := by
      have := congrArg List.length hn
      rw [List.length_map, List.length_take] at this
      omega
    obtain ⟨y, ey, ry⟩ := R2.val List.mem_cons_self
    cases ey
    have hput : (fIx (G.fs c) f < ds.length ∧ ds' = ds.set (fIx (G.fs c) f) d) ∨ (fIx (G.fs c) f = ds.length ∧ ds' = ds ++ [d]) := by
      unfold putD at hp
      split at hp
      · rename_i q
        exact .inl ⟨Nat.le_of_ble_eq_true q, by cases hp; rfl⟩
      · split at hp
        · rename_i q
          exact .inr ⟨Nat.eq_of_beq_eq_true q, by cases hp; rfl⟩
        · cases hp
    have hix : fIx (G.fs c) f ≤ ds.length := by rcases hput with ⟨a, _⟩ | ⟨a, _⟩ <;> omega
    obtain ⟨n1, n2⟩ := putF_ix (y := v) hnd hn hlen hlt hix
    refine ⟨_, e1, a, _, dx, fs, rfl, ha, by rw [hK]; exact cl, by rw [hK]; exact na, by omega, p σ _ ?_⟩
    -- the state behind the store
    have own0 : ownOf (some (V.ref a), s0) = some a ∧ ownOf (some (V.ref a), s1) = some a := by rcases hss with ⟨a, b⟩ | ⟨a, b⟩ <;> (rw [a, b]; exact ⟨rfl, rfl⟩)
    have Rp : RE G M.P M.S0 M.H0 ([(some (V.ref a), s0), (some v, Sl.val d)] ++ ((ents σ ρ1).eraseIdx i ++ τ)) H1 := by
      refine R2.re.perm ((ents_perm e2).trans ?_)
      exact List.Perm.cons _ List.perm_middle
    have ow : owns [(some (V.ref a), s0), (some v, Sl.val d)] = [a] := by
      unfold owns
      rw [List.filterMap_cons, own0.1]
      show a :: owns [(some v, Sl.val d)] = [a]
      rw [owns_val]
      rfl
    have ow1 : owns [(some (V.ref a), s1)] = [a] := by
      unfold owns
      rw [List.filterMap_cons, own0.2]
      rfl
    have ndw := Rp.nd
    rw [owns_append, ow] at ndw
    have nB : a ∉ owns ((ents σ ρ1).eraseIdx i ++ τ) := (List.nodup_cons.mp ndw).1
    have h0a : M.H0 a = none := Rp.new a (by rw [owns_append, ow]; exact List.mem_cons_self)
    have R3 : RE G M.P M.S0 M.H0 ([(some (V.ref a), s1)] ++ ((ents σ ρ1).eraseIdx i ++ τ)) (upd H1 a (.ins (G.ca c) dx (putF f v fs))) := by
      refine RE.next Rp (fun b o e => ?_) (by rw [ow1]; simp) (by rw [ow1]; intro p hp; have : p = a := by simpa using hp
                                                                  rw [this]; exact h0a) (by rw [ow1]; intro p hp; have : p = a := by simpa using hp
                                                                                            rw [this]; exact nB) (by rw [ow1, ow]; exact fun p _ hp _ => hp) (fun b o e hb => ?_) fun e he => ?_
      · rw [upd_ne (ne_of_none e h0a)]
        exact R2.re.same b o e
      · rw [ow] at hb
        rw [upd_ne (fun z => hb (by rw [z]; exact List.mem_cons_self))]
        exact e
      · have e' : e = (some (V.ref a), s1) := by simpa using he
        subst e'
        have av : avoid M.S0 ([(some (V.ref a), s1)] ++ ((ents σ ρ1).eraseIdx i ++ τ)) = avoid M.S0 (ents σ ρ1 ++ ((some v, Sl.val d) :: τ)) := by
          have : avoid M.S0 ([(some (V.ref a), s0), (some v, Sl.val d)] ++ ((ents σ ρ1).eraseIdx i ++ τ)) = avoid M.S0 (ents σ ρ1 ++ ((some v, Sl.val d) :: τ)) := avoid_perm ((ents_perm e2).trans (List.Perm.cons _ List.perm_middle)).symm
          rw [← this]
          funext b
          unfold avoid
          rw [owns_append, owns_append (A := [(some (V.ref a), s0), (some v, Sl.val d)]), ow, ow1]
        have ina : avoid M.S0 (ents σ ρ1 ++ ((some v, Sl.val d) :: τ)) a := .inr (mem_owns.mpr ⟨_, hm, own0.1⟩)
        have tr : Tr (avoid M.S0 (ents σ ρ1 ++ ((some v, Sl.val d) :: τ))) H1 (avoid M.S0 (ents σ ρ1 ++ ((some v, Sl.val d) :: τ))) (upd H1 a (.ins (G.ca c) dx (putF f v fs))) := Tr.of fun b o nb e => ⟨by rw [upd_ne (fun z => nb (by rw [z]; exact ina))]; exact e, nb⟩
        have ob : OwnAt G (avoid M.S0 ([(some (V.ref a), s1)] ++ ((ents σ ρ1).eraseIdx i ++ τ))) (upd H1 a (.ins (G.ca c) dx (putF f v fs))) a (.obj c ds') := by
          rw [av]
          refine ⟨dx, putF f v fs, upd_same, ?_, ?_⟩
          · rw [n1]
            rcases hput with ⟨q1, q2⟩ | ⟨q1, q2⟩
            · rw [if_pos q1, q2, List.length_set]
            · rw [if_neg (by omega), q2, List.length_append]
              rfl
          · rw [n2]
            rcases hput with ⟨q1, q2⟩ | ⟨q1, q2⟩
            · rw [if_pos q1, q2]
              exact (r.tr tr).set (ry.tr tr)
            · rw [if_neg (by omega), q2]
              exact (r.tr tr).append (Reps.cons (ry.tr tr) Reps.nil)
        rcases hss with ⟨q1, q2⟩ | ⟨q1, q2⟩
        · subst q2
          have hh := R2.re.all _ hm
          rw [q1] at hh
          obtain ⟨ep, _⟩ := hh
          have ep' : a = M.P := by cases ep; rfl
          subst ep'
          exact ⟨rfl, ob⟩
        · subst q2
          exact ⟨a, rfl, ob⟩
    exact ⟨by rw [List.length_set]; exact R2.len, R3.perm (ents_perm_set1 e1 e2).symm⟩
  split at p
  · rename_i d c' ds hw hi
    split at p
    · rename_i ds' hc hp
      have := okC_eq hc
      subst this
      exact go d ds ds' _ _ hw hi (.inl ⟨rfl, rfl⟩) hp p
    · exact p.elim
  · rename_i d c' ds hw hi
    split at p
    · rename_i ds' hc hp
      have := okC_eq hc
      subst this
      exact go d ds ds' _ _ hw hi (.inr ⟨rfl, rfl⟩) hp p
    · exact p.elim
  · exact p.elim
end
end Dl
namespace Dl
open PySem PySem.Spec L2
open PyProof.Rows hiding St
open PySem.W (InstAt findIn isFn selfFirst typeIn subIn)
/-! ### the model's own words -/
section
variable {prog : Program} {w : World} {M : Model} {A : Around} {E : Value → Shared → Prop} {s : Shared} {K : PySem.W.Frag} {x C C2 L f : Addr} {h₀ : Heap} {m : Str → Option Value} {ox : Obj} {od : Option Obj}
open PySem.W in
theorem own_two {op : Operator} {b : Value} {f2 : Addr} {rc : Option Value} {Q : Value → Shared → Prop} (X : K.In s.heap) (I : InstAt s.heap x ox C od) (hb : Looks (model prog w) s.heap (typeOf b) (.ref C2)) (hne : C2 ≠ C) (hc : selfFirst K C = true) (hc2 : selfFirst K C2 = true)
    (hs : findIn K (.ref C) (PySem.dunder op.info.2) = some (some (.ref f))) (hf : isFn K (.ref f) = true) (hr : findIn K (.ref C) (dunderR op.info.2) = some rc) (hp : rc = none ∨ ∃ g : Addr, rc = some (.ref g))
    (hs2 : findIn K (.ref C2) (PySem.dunder op.info.2) = some (some (.ref f2))) {rc2 : Option Value} (hr2 : findIn K (.ref C2) (dunderR op.info.2) = some rc2) (hp2 : rc2 = none ∨ ∃ g : Addr, rc2 = some (.ref g)) (hsub : subIn K (.ref C2) (.ref C) = some false)
    (h : wpAny (model prog w) A (call (.ref f) [.ref x, b]) (PySem.W.CmpBack Q) E s) : wpAny (model prog w) A (binaryOp op (.ref x) b) Q E s := by
  obtain ⟨cd, rest, hcd, hm⟩ := ksp_first hc
  obtain ⟨cd2, rest2, hcd2, hm2⟩ := ksp_first hc2
  rcases hi : op.info with ⟨sym, nm'⟩
  rw [hi] at hs hr hs2 hr2
  dsimp only at hs hr hs2 hr2
  have one := ksp_try X I hs hf h
  obtain ⟨hh, g, d, tt, os⟩ := s
  have L1 : Looks (model prog w) hh (typeOf (.ref x)) (.ref C) := I.type
  have L2 : Looks (model prog w) hh (typeOf b) (.ref C2) := hb
  have L3 : Looks (model prog w) hh (fillsNumberSlot (.ref C) nm') true := fills_K X hcd hm hs
  have L4 : Looks (model prog w) hh (fillsNumberSlot (.ref C2) nm') true := fills_K X hcd2 hm2 hs2
  have L5 : Looks (model prog w) hh (isSubtype (.ref C2) (.ref C)) false := looks_subIn X hsub
  have L6 : Looks (model prog w) hh (numberSlotInPython (.ref C) nm') true := ksp_inPy X hs hr hp
  have L7 : Looks (model prog w) hh (numberSlotInPython (.ref C2) nm') true := ksp_inPy X hs2 hr2 hp2
  have hne : (Value.ref C == Value.ref C2) = false := Bool.eq_false_iff.mpr fun q => by
    have := beq_iff_eq.mp q
    injection this with e
    exact hne e.symm
  simp only [binaryOp, hi]
  refine wpAny_holding (wpAny_bind ?_)
  unfold binaryOp1
  refine wpAny_bind (L1.at (wpAny_bind (L2.at (wpAny_bind (L3.at ?_)))))
  simp only [hne, Bool.false_eq_true, if_false]
  ksp_lk
  refine wpAny_mono one (fun r s' hr' => ?_) fun _ _ e => e
  obtain ⟨v, rfl, hq⟩ := hr'
  ksp_lk
  exact hq
open PySem.W in
theorem abs_K {Q : Value → Shared → Prop} (X : K.In s.heap) (I : InstAt s.heap x ox C od) (hs : findIn K (.ref C) "__abs__" = some (some (.ref f))) (hf : isFn K (.ref f) = true)
    (h : wpAny (model prog w) A.in1 (call (.ref f) [.ref x]) Q E s) : wpAny (model prog w) A (call (.builtin "abs") [.ref x]) Q E s := by
  refine Calls.call_function_entry PyProof.Rows.kind_abs PyProof.Rows.plain_abs PyProof.Rows.entry_abs (PyProof.Rows.args_abs _) ?_
  unfold Builtin.«abs»
  refine wpAny_bind (m := oneArg "abs" _) (wpAny_pure ?_)
  refine wpAny_bind (m := callSpecial? (.ref x) (Str.ofString "__abs__")) (special_fn X I hs (beq_iff_eq.mp hf) (wpAny_mono h (fun r s' hr => ?_) fun _ _ y => y))
  exact wpAny_pure ⟨_, rfl, hr⟩
end
/-! ### by data -/
def dCall (F : FF) (ws : List Sl) : RD := match callF F ws [] with
  | .ok (w, _) => .ok w
  | .exc c fs _ => .exc c fs []
  | .stuck => .stuck
theorem liftD_dCall (F : FF) (ws : List Sl) (ρ : Env) : liftD (dCall F ws) ρ = callF F ws ρ := by
  unfold dCall callF
  cases hv : (ws.map shr).all isVal with
  | false => rfl
  | true =>
    dsimp only
    unfold resCall
    cases e : F (ws.map shr) with
    | ok a =>
      obtain ⟨w, ρ'⟩ := a
      cases w <;> rfl
    | exc c fs ρ' => rfl
    | stuck => rfl
def dOwn (c : Nat) (okR : Sl → Bool) (Ff : FF) (wa wb : Sl) : RD := match isObjC c (shr wa), okR (shr wb) with
  | true, true => dCall Ff [wa, wb]
  | _, _ => .stuck
def isIntS : Sl → Bool
  | .val (.int _) => true
  | _ => false
/-- where the first is stuck, the second -/
def dAlt (f g : Sl → Sl → RD) (wa wb : Sl) : RD := match f wa wb with
  | .stuck => g wa wb
  | r => r
def dNot (f : Sl → Sl → RD) (wa wb : Sl) : RD := match f wa wb with
  | .ok (.val (.bl b)) => okB (!b)
  | _ => .stuck
section
variable {X : Cx} {G : Gam} {Wt : WX} {c c2 k : Nat} {Ff : FF} {fa fb : Addr} {fd : FuncData} {ps : List Str} {f g : Sl → Sl → RD} {fn : Value → Value → Sem Value}
theorem opD_alt (h1 : OpD G Wt X fn f) (h2 : OpD G Wt X fn g) : OpD G Wt X fn (dAlt f g) := by
  intro pins s σ H x y v u Q M ρ τ wa wb I rx ry R p
  unfold dAlt at p
  split at p
  · exact h2 pins s σ H x y v u Q M ρ τ wa wb I rx ry R p
  · exact h1 pins s σ H x y v u Q M ρ τ wa wb I rx ry R p
theorem cmpBack {pins : List (Addr × Obj)} {σ : St} {Q : VK} {u : Value} {s' : Shared} (h : EP X pins σ Q u s') : PySem.W.CmpBack (EP X pins σ Q) u s' := by
  obtain ⟨v, H', I, r, q⟩ := h
  cases v with
  | non => cases r; exact ⟨.non, H', I, rfl, q⟩
  | bl b => cases r; exact ⟨.bl b, H', I, rfl, q⟩
  | int b => obtain ⟨t, rfl⟩ := r; exact ⟨.int b, H', I, ⟨_, rfl⟩, q⟩
  | str b => obtain ⟨t, rfl⟩ := r; exact ⟨.str b, H', I, ⟨_, rfl⟩, q⟩
  | byt b => obtain ⟨t, rfl⟩ := r; exact ⟨.byt b, H', I, ⟨_, rfl⟩, q⟩
  | flt b => obtain ⟨t, rfl⟩ := r; exact ⟨.flt b, H', I, ⟨_, rfl⟩, q⟩
  | ref a => cases r; exact ⟨.ref a, H', I, rfl, q⟩
  | ty n => cases r; exact ⟨.ty n, H', I, rfl, q⟩
theorem inst_of {pins : List (Addr × Obj)} {σ : St} {H : Hp} {s : Shared} {a C dx : Addr} {fs : List (Str × V)} (I : Inv X pins σ H s) (h : H a = some (.ins C dx fs)) : ∃ ox od, InstAt s.heap a ox C od := by
  obtain ⟨mA, O, _⟩ := ins_get I.hok h
  obtain ⟨od, J, _⟩ := O.look
  exact ⟨_, _, J⟩
/-- the two operands of an own operation -/
theorem two_ops {M : Fm} {ρ : Env} {τ : List Ent} {σ : St} {H : Hp} {x y : V} {wa wb : Sl} {okR : Sl → Bool} {Q : VK} (R : RS G M ρ ((some y, wb) :: (some x, wa) :: τ) σ H) (p : post G Wt M τ σ (liftD (dOwn c okR Ff wa wb) ρ) Q) :
    ∃ ds a dx fs, shr wa = .val (.obj c ds) ∧ okR (shr wb) = true ∧ x = .ref a ∧ H a = some (.ins (G.ca c) dx fs) ∧ spF G 2 Ff [x, y] H Q (WE Wt σ) := by
  unfold dOwn at p
  split at p
  · rename_i e1 e2
    obtain ⟨ds, ed⟩ := isObjC_eq e1
    have R1 : RS G M ρ (aents [x, y] [wa, wb] ++ τ) σ H := R.perm (List.Perm.swap _ _ _)
    have R2 : RS G M ρ ((some x, shr wa) :: (some y, wb) :: τ) σ H := RS.shr1 (R.perm (List.Perm.swap _ _ _))
    rw [ed] at R2
    obtain ⟨u, eu, r⟩ := R2.val List.mem_cons_self
    cases eu
    obtain ⟨a, dx, fs, rfl, ha, hn, r⟩ := r.obj_at
    rw [liftD_dCall] at p
    exact ⟨ds, a, dx, fs, ed, e2, rfl, ha, sp_call rfl rfl R1 p⟩
  · exact p.elim
theorem snd_obj {M : Fm} {ρ : Env} {τ : List Ent} {σ : St} {H : Hp} {y : V} {w : Sl} (R : RS G M ρ ((some y, w) :: τ) σ H) (h : isObjC c (shr w) = true) : ∃ a dx fs, y = .ref a ∧ H a = some (.ins (G.ca c) dx fs) := by
  have R2 := R.shr1
  obtain ⟨ds, ed⟩ := isObjC_eq h
  rw [ed] at R2
  obtain ⟨u, eu, r⟩ := R2.val List.mem_cons_self
  cases eu
  obtain ⟨a, dx, fs, rfl, ha, hn, r⟩ := r.obj_at
  exact ⟨a, dx, fs, rfl, ha⟩
theorem snd_int {M : Fm} {ρ : Env} {τ : List Ent} {σ : St} {H : Hp} {y : V} {w : Sl} (R : RS G M ρ ((some y, w) :: τ) σ H) (h : isIntS (shr w) = true) : ∃ i, y = .int i := by
  have R2 := R.shr1
  unfold isIntS at h
  split at h
  · rename_i i e
    rw [e] at R2
    exact ⟨i, Option.some.inj (R2.flat (v := some y) (d := .int i) List.mem_cons_self rfl)⟩
  · cases h
variable {op : Operator} {cop : CmpOp}
theorem opD_same (hK : X.K = G.K) (hc : selfFirst G.K (G.ca c) = true) (hm : Meth G.K (G.ca c) (PySem.dunder op.info.2) fa) (F : FnOk X.prog X.w X.K X.mg X.base (L2.CX X.prog X.w) k fa fd ps (spF G 2 Ff)) (hr : Room k X.A) (hb : Binds X.K fd ps []) (tk : Takes X Wt) :
    OpD G Wt X (binaryOp op) (dOwn c (isObjC c) Ff) := by
  intro pins s σ H x y v u Q M ρ τ wa wb I rx ry R p
  obtain ⟨ds, a, dx, fs, ed, e2, rfl, ha, sp⟩ := two_ops R p
  obtain ⟨b, dy, gs, rfl, hb2⟩ := snd_obj R e2
  cases rx; cases ry
  obtain ⟨ox, od, J⟩ := inst_of I ha
  obtain ⟨oy, oe, J2⟩ := inst_of I hb2
  obtain ⟨mm, hF⟩ := I.fr
  have run := run_fnS (us := [Value.ref a, Value.ref b]) (vs := [V.ref a, V.ref b]) F hr hb (passAt tk σ) I (.cons rfl (.cons rfl .nil)) sp
  exact PySem.W.binop_K hF I.ok.mod.kin J J2.type (by rw [hK]; exact hc) (by rw [hK]; exact hm.at_) (by rw [hK]; exact hm.fn) (wpAny_mono run (fun _ _ z => cmpBack z) fun _ _ z => z)
/-- what is asked of a class for an operation with an int on the right -/
structure OpI (K : PySem.W.Frag) (C : Addr) (nm : String) : Prop where
  r : ∃ rc, findIn K (.ref C) (PySem.dunderR nm) = some rc ∧ (rc = none ∨ ∃ g : Addr, rc = some (.ref g))
  i1 : ∃ fo, findIn K (.type "int") (PySem.dunder nm) = some fo
  i2 : ∃ fo, findIn K (.type "int") (PySem.dunderR nm) = some fo
  sub : subIn K (.type "int") (.ref C) = some false
theorem opD_int (hK : X.K = G.K) (hc : selfFirst G.K (G.ca c) = true) (hm : Meth G.K (G.ca c) (PySem.dunder op.info.2) fa) (oi : OpI G.K (G.ca c) op.info.2) (F : FnOk X.prog X.w X.K X.mg X.base (L2.CX X.prog X.w) k fa fd ps (spF G 2 Ff)) (hr : Room k X.A) (hb : Binds X.K fd ps []) (tk : Takes X Wt) :
    OpD G Wt X (binaryOp op) (dOwn c isIntS Ff) := by
  intro pins s σ H x y v u Q M ρ τ wa wb I rx ry R p
  obtain ⟨ds, a, dx, fs, ed, e2, rfl, ha, sp⟩ := two_ops R p
  obtain ⟨i, rfl⟩ := snd_int R e2
  cases rx
  obtain ⟨t, rfl⟩ := ry
  obtain ⟨ox, od, J⟩ := inst_of I ha
  obtain ⟨mm, hF⟩ := I.fr
  have run := run_fnS (us := [Value.ref a, Value.int i t]) (vs := [V.ref a, V.int i]) F hr hb (passAt tk σ) I (.cons rfl (.cons ⟨t, rfl⟩ .nil)) sp
  obtain ⟨rc, hrc, hp⟩ := oi.r
  obtain ⟨f1, h1⟩ := oi.i1
  obtain ⟨f2, h2⟩ := oi.i2
  exact PySem.W.ksp_binT (T := "int") hF I.ok.mod.kin J rfl (by rw [hK]; exact hc) (by rw [hK]; exact hm.at_) (by rw [hK]; exact hm.fn) (by rw [hK]; exact hrc) hp (by rw [hK]; exact h1) (by rw [hK]; exact h2) (by rw [hK]; exact oi.sub) (wpAny_mono run (fun _ _ z => cmpBack z) fun _ _ z => z)
/-- .. with an object of another class on the right -/
structure OpT (K : PySem.W.Frag) (C C2 : Addr) (nm : String) : Prop where
  ne : C2 ≠ C
  sf : selfFirst K C2 = true
  r : ∃ rc, findIn K (.ref C) (PySem.dunderR nm) = some rc ∧ (rc = none ∨ ∃ g : Addr, rc = some (.ref g))
  o : ∃ g2 : Addr, findIn K (.ref C2) (PySem.dunder nm) = some (some (.ref g2))
  r2 : ∃ rc, findIn K (.ref C2) (PySem.dunderR nm) = some rc ∧ (rc = none ∨ ∃ g : Addr, rc = some (.ref g))
  sub : subIn K (.ref C2) (.ref C) = some false
theorem opD_two (hK : X.K = G.K) (hc : selfFirst G.K (G.ca c) = true) (hm : Meth G.K (G.ca c) (PySem.dunder op.info.2) fa) (oi : OpT G.K (G.ca c) (G.ca c2) op.info.2) (F : FnOk X.prog X.w X.K X.mg X.base (L2.CX X.prog X.w) k fa fd ps (spF G 2 Ff)) (hr : Room k X.A) (hb : Binds X.K fd ps []) (tk : Takes X Wt) :
    OpD G Wt X (binaryOp op) (dOwn c (isObjC c2) Ff) := by
  intro pins s σ H x y v u Q M ρ τ wa wb I rx ry R p
  obtain ⟨ds, a, dx, fs, ed, e2, rfl, ha, sp⟩ := two_ops R p
  obtain ⟨b, dy, gs, rfl, hb2⟩ := snd_obj R e2
  cases rx; cases ry
  obtain ⟨ox, od, J⟩ := inst_of I ha
  obtain ⟨oy, oe, J2⟩ := inst_of I hb2
  have run := run_fnS (us := [Value.ref a, Value.ref b]) (vs := [V.ref a, V.ref b]) F hr hb (passAt tk σ) I (.cons rfl (.cons rfl .nil)) sp
  obtain ⟨rc, hrc, hp⟩ := oi.r
  obtain ⟨g2, ho⟩ := oi.o
  obtain ⟨rc2, hrc2, hp2⟩ := oi.r2
  exact own_two I.kIn J J2.type oi.ne (by rw [hK]; exact hc) (by rw [hK]; exact oi.sf) (by rw [hK]; exact hm.at_) (by rw [hK]; exact hm.fn) (by rw [hK]; exact hrc) hp (by rw [hK]; exact ho) (by rw [hK]; exact hrc2) hp2 (by rw [hK]; exact oi.sub) (wpAny_mono run (fun _ _ z => cmpBack z) fun _ _ z => z)
/-- comparisons: <, <=, >, >=, == -/
theorem opD_cmp (hop : ∀ a b : Value, compareOp cop a b = richCompare cop a b) (hK : X.K = G.K) (hm : Meth G.K (G.ca c) (cmpInfo cop).2.1 fa) (F : FnOk X.prog X.w X.K X.mg X.base (L2.CX X.prog X.w) k fa fd ps (spF G 2 Ff)) (hr : Room k X.A) (hu : X.A.units < cLine) (hb : Binds X.K fd ps []) (tk : Takes X Wt) :
    OpD G Wt X (compareOp cop) (dOwn c (isObjC c) Ff) := by
  intro pins s σ H x y v u Q M ρ τ wa wb I rx ry R p
  obtain ⟨ds, a, dx, fs, ed, e2, rfl, ha, sp⟩ := two_ops R p
  obtain ⟨b, dy, gs, rfl, hb2⟩ := snd_obj R e2
  cases rx; cases ry
  obtain ⟨ox, od, J⟩ := inst_of I ha
  obtain ⟨oy, oe, J2⟩ := inst_of I hb2
  obtain ⟨mm, hF⟩ := I.fr
  have run := run_fnS (us := [Value.ref a, Value.ref b]) (vs := [V.ref a, V.ref b]) F hr hb (passAt tk σ) I (.cons rfl (.cons rfl .nil)) sp
  rw [hop]
  exact PySem.W.cmp_K hu hF I.ok.mod.kin J J2.type (by simp [PySem.W.notFirst]) (by rw [hK]; exact hm.at_) (by rw [hK]; exact hm.fn) (wpAny_mono run (fun _ _ z => cmpBack z) fun _ _ z => z)
theorem opD_cmpI (hop : ∀ a b : Value, compareOp cop a b = richCompare cop a b) (hK : X.K = G.K) (hm : Meth G.K (G.ca c) (cmpInfo cop).2.1 fa) (hsub : subIn G.K (.type "int") (.ref (G.ca c)) = some false) (F : FnOk X.prog X.w X.K X.mg X.base (L2.CX X.prog X.w) k fa fd ps (spF G 2 Ff)) (hr : Room k X.A) (hu : X.A.units < cLine) (hb : Binds X.K fd ps []) (tk : Takes X Wt) :
    OpD G Wt X (compareOp cop) (dOwn c isIntS Ff) := by
  intro pins s σ H x y v u Q M ρ τ wa wb I rx ry R p
  obtain ⟨ds, a, dx, fs, ed, e2, rfl, ha, sp⟩ := two_ops R p
  obtain ⟨i, rfl⟩ := snd_int R e2
  cases rx
  obtain ⟨t, rfl⟩ := ry
  obtain ⟨ox, od, J⟩ := inst_of I ha
  obtain ⟨mm, hF⟩ := I.fr
  have run := run_fnS (us := [Value.ref a, Value.int i t]) (vs := [V.ref a, V.int i]) F hr hb (passAt tk σ) I (.cons rfl (.cons ⟨t, rfl⟩ .nil)) sp
  rw [hop]
  exact PySem.W.cmp_K (tb := .type "int") hu hF I.ok.mod.kin J (PySem.W.Looks.of_pure rfl) (by rw [hK]; simp [PySem.W.notFirst, hsub]) (by rw [hK]; exact hm.at_) (by rw [hK]; exact hm.fn) (wpAny_mono run (fun _ _ z => cmpBack z) fun _ _ z => z)
theorem bind_not {M : Fm} {ρ : Env} {τ : List Ent} {σ : St} {Q : VK} {wa wb : Sl} {f : Sl → Sl → RD} (p : post G Wt M τ σ (liftD (dNot f wa wb) ρ) Q) : ∃ b, f wa wb = .ok (.val (.bl b)) ∧ ∀ H', RS G M ρ τ σ H' → Q (.bl (!b)) H' := by
  unfold dNot at p
  split at p
  · rename_i b e
    rw [okB_eq] at p
    exact ⟨b, e, fun H' R => p _ H' (R.addFlat rfl)⟩
  · exact p.elim
end
end Dl
namespace Dl
open PySem PySem.Spec L2
open PyProof.Rows hiding St
open PySem.W (InstAt findIn isFn selfFirst typeIn subIn)
/-! ### truth, minus, abs of own objects -/
def tOwn (c : Nat) (Ff : FF) (w : Sl) : Res Bool := match isObjC c (shr w) with
  | true => (match dCall Ff [w] with
    | .ok (.val (.bl b)) => .ok b
    | _ => .stuck)
  | false => .stuck
def uOwn (c : Nat) (Ff : FF) (w : Sl) : RD := match isObjC c (shr w) with
  | true => dCall Ff [w]
  | false => .stuck
def uNeg (w : Sl) : RD := match w with
  | .val (.int i) => okI (-i)
  | _ => .stuck
section
variable {X : Cx} {G : Gam} {Wt : WX} {c k n : Nat} {Ff : FF} {fa : Addr} {fd : FuncData} {ps : List Str} {f g : Sl → RD} {fn : Value → Sem Value}
theorem one_op {M : Fm} {ρ : Env} {τ : List Ent} {σ : St} {H : Hp} {x : V} {wa : Sl} {Q : VK} (R : RS G M ρ ((some x, wa) :: τ) σ H) (p : post G Wt M τ σ (liftD (uOwn c Ff wa) ρ) Q) :
    ∃ a dx fs, x = .ref a ∧ H a = some (.ins (G.ca c) dx fs) ∧ spF G 1 Ff [x] H Q (WE Wt σ) := by
  unfold uOwn at p
  split at p
  · rename_i e1
    obtain ⟨a, dx, fs, rfl, ha⟩ := snd_obj R e1
    rw [liftD_dCall] at p
    exact ⟨a, dx, fs, rfl, ha, sp_call (vs := [.ref a]) (ws := [wa]) rfl rfl R p⟩
  · exact p.elim
theorem unD_neg : UnD G Wt X (unaryOp .USub) uNeg := by
  intro pins s σ H x v Q M ρ τ wa I rx R p
  unfold uNeg at p
  split at p
  · rename_i i
    rw [okI_eq] at p
    have ex := Option.some.inj (R.flat (v := some x) (d := .int i) List.mem_cons_self rfl)
    exact un_neg pins s σ H x v Q I rx ⟨i, ex, p _ H (R.drop1.addFlat rfl)⟩
  · exact p.elim
theorem truD_own (hK : X.K = G.K) (hm : Meth G.K (G.ca c) "__bool__" fa) (F : FnOk X.prog X.w X.K X.mg X.base (L2.CX X.prog X.w) k fa fd ps (spF G 1 Ff)) (hr : Room k X.A) (hb : Binds X.K fd ps []) : TruD G Wt X (tOwn c Ff) := by
  intro pins s σ H x v Q M ρ τ wa b I rx R e hq
  unfold tOwn at e
  split at e
  · rename_i e1
    split at e
    · rename_i b' e2
      cases e
      have p : post G (fun _ _ _ _ => False) M τ σ (liftD (uOwn c Ff wa) ρ) (fun v H' => v = .bl b ∧ Q b H') := by
        unfold uOwn
        rw [e1]
        dsimp only
        rw [e2]
        exact fun v H' R' => ⟨Option.some.inj (R'.flat (v := some v) (d := .bl b) List.mem_cons_self rfl), hq H' R'.drop1⟩
      obtain ⟨a, dx, fs, rfl, ha, sp⟩ := one_op R p
      cases rx
      obtain ⟨ox, od, J⟩ := inst_of I ha
      obtain ⟨mm, hF⟩ := I.fr
      have sp' : spF G 1 Ff [.ref a] H (fun v H' => v = .bl b ∧ Q b H') (WE (fun _ _ _ _ => False) σ) := sp
      have run := run_fnS (E := fun σ => WE (fun _ _ _ _ => False) σ) (us := [Value.ref a]) (vs := [V.ref a]) F hr hb (fun pins' H' s' e s'' I' cx => by
        obtain ⟨_, _, _, _, _, _, _, _, _, _, _, _, z⟩ := cx
        exact z.elim) I (.cons rfl .nil) sp'
      refine PySem.W.truthy_K hF I.ok.mod.kin J (by rw [hK]; exact hm.at_) (by rw [hK]; exact hm.fn) (wpAny_mono run (fun u s' ⟨v, H', I', r, ev, q⟩ => ?_) fun _ _ z => z)
      subst ev
      cases r
      exact ⟨H', I', q⟩
    · cases e
  · cases e
end
/-! ### ints, wide -/
def wMul (i j : Int) : Bool := Nat.blt (i.natAbs.log2 + j.natAbs.log2) 100000000
def wDiv (i j : Int) : Bool := match j with
  | .ofNat n => Nat.blt 0 n && Nat.blt n.log2 9000
  | .negSucc n => Nat.blt (n + 1) 1073741824
def wMod (_ j : Int) : Bool := match j with
  | .ofNat n => Nat.blt 0 n
  | .negSucc _ => true
section
variable {X : Cx} {G : Gam} {Wt : WX}
theorem op_fdivA : OpR X (binaryOp .FloorDiv) (rI (fun i j => wDiv i j = true) fun i j => .int (i.fdiv j)) := by
  intro pins s σ H x y v u Q I rx ry ⟨i, j, e1, e2, hc, q⟩
  cases j with
  | ofNat n =>
    have hc' : (Nat.blt 0 n && Nat.blt n.log2 9000) = true := hc
    rw [Bool.and_eq_true] at hc'
    have h0 : 0 < n := Nat.le_of_ble_eq_true hc'.1
    have h9 : n.log2 < 9000 := Nat.le_of_ble_eq_true hc'.2
    refine op_fdivW pins s σ H x y v u Q I rx ry ⟨i, _, e1, e2, ⟨by simp; omega, h9⟩, ?_⟩
    have e : i.fdiv (Int.ofNat n) = i / Int.ofNat n := Int.fdiv_eq_ediv_of_nonneg i (Int.natCast_nonneg n)
    show Q (V.int (i / Int.ofNat n)) H
    rw [← e]
    exact q
  | negSucc n =>
    have hc' : Nat.blt (n + 1) 1073741824 = true := hc
    have h0 : n + 1 < 1073741824 := Nat.le_of_ble_eq_true hc'
    exact op_fdivN pins s σ H x y v u Q I rx ry ⟨i, _, e1, e2, ⟨(fun z => by cases z), h0⟩, q⟩
theorem opD_add : OpD G Wt X (binaryOp .Add) (dII (fun _ _ => true) fun i j => i + j) := opD_II0 op_add
theorem opD_sub : OpD G Wt X (binaryOp .Sub) (dII (fun _ _ => true) fun i j => i - j) := opD_II0 op_sub
theorem bits_log (x : Int) : Builtin.Int.intBits x ≤ x.natAbs.log2 + 1 := by
  unfold Builtin.Int.intBits
  split
  · exact Nat.zero_le _
  · exact Nat.le_refl _
theorem op_mulB : OpR X (binaryOp .Mult) (rI (fun i j => i.natAbs.log2 + j.natAbs.log2 < 100000000) fun i j => .int (i * j)) := opI fun i j _ _ _ _ _ hc q => mul_int q (PyProof.Rows.mulOk_of_bits (bits_log i) (bits_log j) (by omega))
theorem opD_mul : OpD G Wt X (binaryOp .Mult) (dII wMul fun i j => i * j) := opD_II op_mulB fun i j h => Nat.le_of_ble_eq_true h
theorem opD_fdiv : OpD G Wt X (binaryOp .FloorDiv) (dII wDiv fun i j => i.fdiv j) := opD_II op_fdivA fun i j h => h
theorem opD_mod : OpD G Wt X (binaryOp .Mod) (dII wMod fun i j => i.fmod j) := opD_II op_modN fun i j h => by
  cases j with
  | ofNat n =>
    have : 0 < n := Nat.le_of_ble_eq_true h
    simp; omega
  | negSucc n => intro z; cases z
theorem opD_and : OpD G Wt X (binaryOp .BitAnd) (dII (fun _ _ => true) fun i j => Builtin.bitAnd i j) := opD_II0 op_and
theorem opD_lt : OpD G Wt X (compareOp .Lt) (dIB fun i j => decide (i < j)) := opD_IB op_lt
theorem opD_le : OpD G Wt X (compareOp .LtE) (dIB fun i j => decide (i ≤ j)) := opD_IB op_le
theorem opD_gt : OpD G Wt X (compareOp .Gt) (dIB fun i j => decide (j < i)) := opD_IB op_gt
theorem opD_ge : OpD G Wt X (compareOp .GtE) (dIB fun i j => decide (j ≤ i)) := opD_IB op_ge
end
/-! ### == of flat values -/
def strEq (a b : Str) : Bool := decide (a = b)
def eqFl : D → D → Option Bool
  | .non, .non => some true
  | .non, .int _ => some false
  | .int _, .non => some false
  | .non, .bl _ => some false
  | .bl _, .non => some false
  | .non, .str _ => some false
  | .str _, .non => some false
  | .int i, .int j => some (decide (i = j))
  | .bl i, .bl j => some (i == j)
  | .str i, .str j => some (strEq i j)
  | .int _, .str _ => some false
  | .str _, .int _ => some false
  | .bl _, .str _ => some false
  | .str _, .bl _ => some false
  | _, _ => none
theorem eqFl_ok {a b : D} {k : Bool} (h : eqFl a b = some k) : ∃ x y, flat a = some x ∧ flat b = some y ∧ scal x y = true ∧ decide (x = y) = k := by
  cases a <;> cases b <;> simp only [eqFl, Option.some.injEq, reduceCtorEq] at h <;> subst h <;>
    first
    | (refine ⟨_, _, rfl, rfl, rfl, ?_⟩; simp [strEq]; done)
    | (refine ⟨_, _, rfl, rfl, rfl, ?_⟩; rename_i p q; cases p <;> cases q <;> rfl)
def dEqF (wa wb : Sl) : RD := match wa, wb with
  | .val a, .val b => (match eqFl a b with
    | some k => okB k
    | none => .stuck)
  | _, _ => .stuck
def dIsN (wa wb : Sl) : RD := match shr wa, wb with
  | .val a, .val .non => (match a with
    | .non => okB true
    | _ => okB false)
  | _, _ => .stuck
section
variable {X : Cx} {G : Gam} {Wt : WX}
theorem dEqF_ok {wa wb w : Sl} (h : dEqF wa wb = .ok w) : ∃ a b k, wa = .val a ∧ wb = .val b ∧ eqFl a b = some k ∧ w = .val (.bl k) := by
  unfold dEqF at h
  split at h
  · split at h
    · rw [okB_eq] at h
      cases h
      exact ⟨_, _, _, rfl, rfl, by assumption, rfl⟩
    · cases h
  · cases h
theorem dEqF_or (wa wb : Sl) : (∃ w, dEqF wa wb = .ok w) ∨ dEqF wa wb = .stuck := by
  unfold dEqF
  split
  · split
    · rw [okB_eq]; exact .inl ⟨_, rfl⟩
    · exact .inr rfl
  · exact .inr rfl
theorem opD_eqF : OpD G Wt X (compareOp .Eq) dEqF := by
  refine opD_fop op_eq (fun da db w h => ?_) (fun wa wb w h => ?_) dEqF_or
  · obtain ⟨a, b, k, e1, e2, e3, rfl⟩ := dEqF_ok h
    cases e1; cases e2
    obtain ⟨x, y, f1, f2, sc, dk⟩ := eqFl_ok e3
    exact ⟨x, y, _, .bl k, f1, f2, rfl, rfl, fun H Q q => ⟨sc, by rw [dk]; exact q⟩⟩
  · obtain ⟨a, b, k, e1, e2, _⟩ := dEqF_ok h
    exact ⟨_, _, e1, e2⟩
theorem opD_neF : OpD G Wt X (compareOp .NotEq) (dNot dEqF) := by
  intro pins s σ H x y v u Q M ρ τ wa wb I rx ry R p
  obtain ⟨bb, e, hq⟩ := bind_not p
  obtain ⟨a, b, k, e1, e2, e3, e4⟩ := dEqF_ok e
  cases e4
  subst e1 e2
  obtain ⟨x', y', f1, f2, sc, dk⟩ := eqFl_ok e3
  have ex : x = x' := Option.some.inj (R.flat (v := some x) (d := a) (List.mem_cons_of_mem _ List.mem_cons_self) f1)
  have ey : y = y' := Option.some.inj (R.flat (v := some y) (d := b) List.mem_cons_self f2)
  subst ex; subst ey
  exact op_ne pins s σ H x y v u Q I rx ry ⟨sc, by rw [dk]; exact hq H R.drop1.drop1⟩
theorem Rep.non_iff {S : Addr → Prop} {H : Hp} {d : D} {v : V} (h : Rep G S H d v) : decide (v = .non) = (match d with | .non => true | _ => false) := by
  cases d with
  | non => have : v = .non := h
           subst this; rfl
  | bl b => have : v = .bl b := h
            subst this; rfl
  | int b => have : v = .int b := h
             subst this; rfl
  | str b => have : v = .str b := h
             subst this; rfl
  | tup ds => unfold Rep at h; obtain ⟨p, vs, rfl, _⟩ := h; rfl
  | lst ds => unfold Rep at h; obtain ⟨p, vs, rfl, _⟩ := h; rfl
  | frl ds => unfold Rep at h; obtain ⟨p, vs, rfl, _⟩ := h; rfl
  | dic ks ds => unfold Rep at h; obtain ⟨p, vs, rfl, _⟩ := h; rfl
  | obj c ds => unfold Rep at h; obtain ⟨p, dx, vs, rfl, _⟩ := h; rfl
  | cls c => have : v = .ref (G.ca c) := h
             subst this; rfl
theorem isN_data {M : Fm} {ρ : Env} {τ : List Ent} {σ : St} {H : Hp} {x y : V} {wa wb : Sl} {r : Sl} (R : RS G M ρ ((some y, wb) :: (some x, wa) :: τ) σ H) (h : dIsN wa wb = .ok r) : y = .non ∧ r = .val (.bl (decide (x = .non))) := by
  unfold dIsN at h
  have R2 : RS G M ρ ((some x, shr wa) :: (some y, wb) :: τ) σ H := RS.shr1 (R.perm (List.Perm.swap _ _ _))
  split at h
  · rename_i a e1
    rw [e1] at R2
    have ey : y = .non := Option.some.inj (R.flat (v := some y) (d := .non) List.mem_cons_self rfl)
    obtain ⟨u, eu, r⟩ := R2.val List.mem_cons_self
    cases eu
    have := r.non_iff
    rw [this]
    split at h
    · rw [okB_eq] at h; cases h; exact ⟨ey, rfl⟩
    · rw [okB_eq] at h
      cases h
      refine ⟨ey, ?_⟩
      split
      · exact absurd rfl (by assumption)
      · rfl
  · cases h
theorem dIsN_or (wa wb : Sl) : (∃ w, dIsN wa wb = .ok w) ∨ dIsN wa wb = .stuck := by
  unfold dIsN
  split
  · split <;> (rw [okB_eq]; exact .inl ⟨_, rfl⟩)
  · exact .inr rfl
theorem opD_isN : OpD G Wt X (compareOp .Is) dIsN := by
  intro pins s σ H x y v u Q M ρ τ wa wb I rx ry R p
  rcases dIsN_or wa wb with ⟨w, e⟩ | e
  · obtain ⟨ey, ew⟩ := isN_data R e
    rw [e, ew] at p
    exact op_isN pins s σ H x y v u Q I rx ry ⟨ey, p _ H (R.drop1.drop1.addFlat rfl)⟩
  · rw [e] at p; exact p.elim
theorem opD_notN : OpD G Wt X (compareOp .IsNot) (dNot dIsN) := by
  intro pins s σ H x y v u Q M ρ τ wa wb I rx ry R p
  obtain ⟨bb, e, hq⟩ := bind_not p
  obtain ⟨ey, ew⟩ := isN_data R e
  cases ew
  exact op_notN pins s σ H x y v u Q I rx ry ⟨ey, hq H R.drop1.drop1⟩
end
end Dl
namespace Dl
open PySem PySem.Spec L2
open PyProof.Rows hiding St
/-! ### what a loop walks, by data -/
def SrcOk (G : Gam) (M : Fm) (J : It) (Se : List Ent) (ds : List D) : Prop :=
  ∀ (ρ : Env) (τ : List Ent) (σ : St) (H : Hp) (i : Nat), RS G M ρ (Se ++ τ) σ H →
    (i = ds.length → J.stop i H) ∧ ∀ d, ds[i]? = some d → J.go i H ∧ ∀ x H', J.yld i H x H' → RS G M ρ ((some x, .val d) :: (Se ++ τ)) σ H'
abbrev FI := Env → Res (List D × Env)
/-- Ex: what else is known of the frame -/
def tIX (Ex : Fm → St → Hp → Prop) (G : Gam) (Wt : WX) (F : FI) : TI := fun σ H R => ∃ M ρ τ, RS G M ρ τ σ H ∧ Ex M σ H ∧ match F ρ with
  | .ok (ds, ρ') => ∀ M' J Se H', (∀ ρ τ σ H, RS G M' ρ τ σ H → RS G M ρ τ σ H) → SrcOk G M' J Se ds → RS G M' ρ' (Se ++ τ) σ H' → R J H'
  | .exc c fs ρ' => ∀ dd vs H', RX G c fs dd vs H' → RS G M ρ' (xents vs fs ++ τ) σ H' → Wt (.ref (G.ca c)) dd σ H'
  | .stuck => False
abbrev tI (G : Gam) (Wt : WX) (F : FI) : TI := tIX (fun _ _ _ => True) G Wt F
theorem _root_.L2.PI.weak {X : Cx} {tg e : Expr} {t t' : TI} (h : PI X tg e t) (k : ∀ σ H R, t' σ H R → t σ H R) : PI X tg e t' := ⟨fun pins s σ H R I q => h.run pins s σ H R I (k σ H R q)⟩
def lstD : Sl → Option (List D)
  | .val (.lst ds) => some ds
  | .val (.frl ds) => some ds
  | _ => none
def tupD : Sl → Option (List D)
  | .val (.tup ds) => some ds
  | _ => none
def cItS (sel : Sl → Option (List D)) (F : FE) : FI := fun ρ => (F ρ).bind fun (w, ρ1) => match sel (shr w) with
  | some ds => .ok (ds, ρ1)
  | none => .stuck
theorem rep_lst {G : Gam} {K : PySem.W.Frag} (hK : K = G.K) {S : Addr → Prop} {H : Hp} {w : Sl} {ds : List D} {v : V} (h : lstD w = some ds) (hh : ∀ d, w = .val d → Rep G S H d v) : ∃ p vs, v = .ref p ∧ SqL K H p vs ∧ Reps G S H ds vs := by
  subst hK
  unfold lstD at h
  split at h
  · cases h
    have r := hh _ rfl
    unfold Rep at r
    obtain ⟨p, vs, rfl, _, hp, r⟩ := r
    exact ⟨p, vs, rfl, SqL.of hp, r⟩
  · cases h
    have r := hh _ rfl
    unfold Rep at r
    obtain ⟨p, vs, rfl, hp, r⟩ := r
    refine ⟨p, vs, rfl, ?_, r⟩
    rcases hp with ⟨_, hp⟩ | hp
    · exact .inl hp
    · exact .inr hp
  · cases h
theorem rep_tup {G : Gam} {K : PySem.W.Frag} (hK : K = G.K) {S : Addr → Prop} {H : Hp} {ds : List D} {v : V} (r : Rep G S H (.tup ds) v) : ∃ p vs, v = .ref p ∧ SqT K H p vs ∧ Reps G S H ds vs := by
  subst hK
  unfold Rep at r
  obtain ⟨p, vs, rfl, hp, r⟩ := r
  refine ⟨p, vs, rfl, ?_, r⟩
  rcases hp with ⟨_, hp⟩ | hp
  · exact .inl hp
  · exact .inr hp
section
variable {X : Cx} {G : Gam} {Wt : WX} {e tg : Expr} {Fa : FE} {pos : Pos}
theorem post_bindI {M : Fm} {τ : List Ent} {σ : St} {r : Res (Sl × Env)} {sel : Sl → Option (List D)} {R : It → Hp → Prop} {Q : V → Hp → Prop}
    (h : match (r.bind fun (w, ρ1) => match sel (shr w) with | some ds => Res.ok (ds, ρ1) | none => .stuck) with
      | .ok (ds, ρ') => ∀ M' J Se H', (∀ ρ τ σ H, RS G M' ρ τ σ H → RS G M ρ τ σ H) → SrcOk G M' J Se ds → RS G M' ρ' (Se ++ τ) σ H' → R J H'
      | .exc c fs ρ' => ∀ dd vs H', RX G c fs dd vs H' → RS G M ρ' (xents vs fs ++ τ) σ H' → Wt (.ref (G.ca c)) dd σ H'
      | .stuck => False)
    (hr : ∀ w ρ1 ds v H', RS G M ρ1 ((some v, shr w) :: τ) σ H' → sel (shr w) = some ds → (∀ M' J Se H', (∀ ρ τ σ H, RS G M' ρ τ σ H → RS G M ρ τ σ H) → SrcOk G M' J Se ds → RS G M' ρ1 (Se ++ τ) σ H' → R J H') → Q v H') : post G Wt M τ σ r Q := by
  cases r with
  | ok a =>
    obtain ⟨w, ρ1⟩ := a
    intro v H' R1
    have h' : match (match sel (shr w) with | some ds => Res.ok (ds, ρ1) | none => .stuck) with
      | .ok (ds, ρ') => ∀ M' J Se H', (∀ ρ τ σ H, RS G M' ρ τ σ H → RS G M ρ τ σ H) → SrcOk G M' J Se ds → RS G M' ρ' (Se ++ τ) σ H' → R J H'
      | .exc c fs ρ' => ∀ dd vs H', RX G c fs dd vs H' → RS G M ρ' (xents vs fs ++ τ) σ H' → Wt (.ref (G.ca c)) dd σ H'
      | .stuck => False := h
    cases es : sel (shr w) with
    | none => rw [es] at h'; exact h'.elim
    | some ds =>
      rw [es] at h'
      exact hr w ρ1 ds v H' R1.shr1 es h'
  | exc c fs ρ' => exact h
  | stuck => exact h
theorem src_list {M : Fm} {K : PySem.W.Frag} (hK : K = G.K) {w : Sl} {ds : List D} {a : Addr} (es : lstD w = some ds) : SrcOk G M (Itl K a) [(some (.ref a), w)] ds := by
  intro ρ τ σ H i R
  have hm : (some (V.ref a), w) ∈ [(some (V.ref a), w)] ++ τ := by simp
  have hh : ∀ d, w = .val d → Rep G (avoid M.S0 (ents σ ρ ++ ([(some (V.ref a), w)] ++ τ))) H d (.ref a) := by
    intro d e
    subst e
    obtain ⟨u, eu, r⟩ := R.val hm
    cases eu
    exact r
  obtain ⟨p, vs, ep, hq, r⟩ := rep_lst hK es hh
  cases ep
  have hl := r.len
  refine ⟨fun e => ⟨vs, hq, by omega⟩, fun d hd => ?_⟩
  obtain ⟨x, hx, rx⟩ := r.get hd
  refine ⟨⟨vs, x, hq, hx⟩, fun y H' ⟨e, hy⟩ => ?_⟩
  subst e
  have e2 := hy vs hq
  rw [hx] at e2
  cases e2
  exact R.addVal rx
theorem src_tup {M : Fm} {K : PySem.W.Frag} (hK : K = G.K) {ds : List D} {a : Addr} : SrcOk G M (Itt K a) [(some (.ref a), .val (.tup ds))] ds := by
  intro ρ τ σ H i R
  have hm : (some (V.ref a), Sl.val (.tup ds)) ∈ [(some (V.ref a), Sl.val (.tup ds))] ++ τ := by simp
  obtain ⟨u, eu, r0⟩ := R.val hm
  cases eu
  obtain ⟨p, vs, ep, hq, r⟩ := rep_tup hK r0
  cases ep
  have hl := r.len
  refine ⟨fun e => ⟨vs, hq, by omega⟩, fun d hd => ?_⟩
  obtain ⟨x, hx, rx⟩ := r.get hd
  refine ⟨⟨vs, x, hq, hx⟩, fun y H' ⟨e, hy⟩ => ?_⟩
  subst e
  have e2 := hy vs hq
  rw [hx] at e2
  cases e2
  exact R.addVal rx
theorem i_list (hK : X.K = G.K) (he : PE X e (tE G Wt Fa)) : PI X tg e (tI G Wt (cItS lstD Fa)) := by
  refine (pi_list he).weak fun σ H R ⟨M, ρ, τ, RR, _, q⟩ => ⟨M, ρ, τ, RR, post_bindI q fun w ρ1 ds v H' R1 es q1 => ?_⟩
  have hh : ∀ d, shr w = .val d → Rep G (avoid M.S0 (ents σ ρ1 ++ ((some v, shr w) :: τ))) H' d v := by
    intro d e
    rw [e] at R1 ⊢
    obtain ⟨u, eu, r⟩ := R1.val List.mem_cons_self
    cases eu
    exact r
  obtain ⟨p, vs, rfl, hq, r⟩ := rep_lst hK es hh
  exact ⟨p, rfl, ⟨vs, hq⟩, q1 _ _ _ _ (fun _ _ _ _ z => z) (src_list hK es) R1⟩
theorem i_tup (hK : X.K = G.K) (he : PE X e (tE G Wt Fa)) : PI X tg e (tI G Wt (cItS tupD Fa)) := by
  refine (pi_tup he).weak fun σ H R ⟨M, ρ, τ, RR, _, q⟩ => ⟨M, ρ, τ, RR, post_bindI q fun w ρ1 ds v H' R1 es q1 => ?_⟩
  unfold tupD at es
  split at es
  · rename_i ds' ew
    cases es
    rw [ew] at R1
    obtain ⟨u, eu, r⟩ := R1.val List.mem_cons_self
    cases eu
    obtain ⟨p, vs, rfl, hq, r⟩ := rep_tup hK r
    exact ⟨p, rfl, ⟨vs, hq⟩, q1 _ _ _ _ (fun _ _ _ _ z => z) (src_tup hK) R1⟩
  · cases es
/-! ### ranges -/
def rangeD (lo : Int) : Nat → List D
  | 0 => []
  | n + 1 => fI lo fun lo => .int lo :: rangeD (lo + 1) n
theorem rangeD_len : ∀ (n : Nat) (lo : Int), (rangeD lo n).length = n
  | 0, lo => rfl
  | n + 1, lo => by
    show (fI lo fun lo => D.int lo :: rangeD (lo + 1) n).length = n + 1
    rw [fI_eq, List.length_cons, rangeD_len n]
theorem rangeD_get : ∀ (n : Nat) (lo : Int) (i : Nat) (d : D), (rangeD lo n)[i]? = some d → d = .int (lo + i) ∧ i < n
  | 0, lo, i, d, h => by simp [rangeD] at h
  | n + 1, lo, i, d, h => by
    have e : rangeD lo (n + 1) = .int lo :: rangeD (lo + 1) n := by
      show (fI lo fun lo => D.int lo :: rangeD (lo + 1) n) = _
      rw [fI_eq]
    rw [e] at h
    cases i with
    | zero =>
      have h' : D.int lo = d := by simpa using h
      subst h'
      exact ⟨by simp, by omega⟩
    | succ i =>
      obtain ⟨a, b⟩ := rangeD_get n (lo + 1) i d (by simpa using h)
      exact ⟨by rw [a]; congr 1; push_cast; omega, by omega⟩
theorem src_range {M : Fm} {lo : Int} {n : Nat} : SrcOk G M (Itr lo n) [] (rangeD lo n) := by
  intro ρ τ σ H i R
  refine ⟨fun e => ?_, fun d hd => ?_⟩
  · rw [rangeD_len] at e
    subst e
    exact Nat.le_refl _
  · obtain ⟨rfl, hi⟩ := rangeD_get n lo i d hd
    refine ⟨hi, fun x H' ⟨e1, e2⟩ => ?_⟩
    subst e1; subst e2
    exact R.addFlat rfl
def small62 (i : Int) : Bool := Nat.blt i.natAbs 4611686018427387904
theorem small62_ok {i : Int} (h : small62 i = true) : -(2 ^ 62) ≤ i ∧ i < 2 ^ 62 := by
  have : i.natAbs < 4611686018427387904 := Nat.le_of_ble_eq_true h
  omega
def rng1 (ws : List Sl) (ρ1 : Env) : Res (List D × Env) := match ws with
  | [.val (.int j)] => (match small62 j with
    | true => .ok (rangeD 0 j.toNat, ρ1)
    | false => .stuck)
  | _ => .stuck
theorem rng1_or (ws : List Sl) (ρ1 : Env) : (∃ j, ws = [.val (.int j)] ∧ small62 j = true ∧ rng1 ws ρ1 = .ok (rangeD 0 j.toNat, ρ1)) ∨ rng1 ws ρ1 = .stuck := by
  unfold rng1
  split
  · split
    · exact .inl ⟨_, rfl, by assumption, rfl⟩
    · exact .inr rfl
  · exact .inr rfl
def cRange1 (Fs : FA) : FI := fun ρ => (Fs ρ).bind fun (ws, ρ1) => rng1 ws ρ1
variable {Fs : FA} {a b : Expr} {p : Pos}
theorem i_range1 (hg : Gl X "range") (hm : X.mg "range" = none) (ha : PA X [a] (tA G Wt Fs)) (hs : starEach [a] X.env = [(false, eval a X.env)] := by rfl) : PI X tg (.Call (.Name "range" p) [a] [] pos) (tI G Wt (cRange1 Fs)) := by
  refine (pi_range1 hg hm ha hs).weak fun σ H R ⟨M, ρ, τ, RR, _, q⟩ => ⟨M, ρ, τ, RR, ?_⟩
  unfold cRange1 at q
  cases e : Fs ρ with
  | ok x =>
    obtain ⟨ws, ρ1⟩ := x
    rw [e] at q
    intro vs H' l R1
    rcases rng1_or ws ρ1 with ⟨j, e1, e2, e3⟩ | e3
    · subst e1
      obtain ⟨v, rfl⟩ : ∃ v, vs = [v] := by
        cases vs with
        | nil => cases l
        | cons v r => cases r with
          | nil => exact ⟨v, rfl⟩
          | cons _ _ => simp at l
      have ev := Option.some.inj (R1.flat (v := some v) (d := .int j) (by simp [aents]) rfl)
      subst ev
      obtain ⟨h1, h2⟩ := small62_ok e2
      have q1 := q
      dsimp only [Res.bind] at q1
      rw [e3] at q1
      exact ⟨j, rfl, h1, h2, q1 _ _ _ _ (fun _ _ _ _ z => z) src_range (R1.drop (τ' := aents [.int j] [.val (.int j)]))⟩
    · dsimp only [Res.bind] at q
      rw [e3] at q
      exact q.elim
  | exc c fs ρ' => rw [e] at q; exact q
  | stuck => rw [e] at q; exact q
end
/-! ### for -/
def cFor (Fi : FI) (A : FG) (F : FS) : FS := fun ρ => (Fi ρ).bind fun (ds, ρ1) => forD A F ds ρ1
section
variable {X : Cx} {G : Gam} {Wt : WX} {iter tg : Expr} {Fi : FI} {A : FG} {F : FS} {pos : Pos} {body : List Stmt}
/-- a statement where more is known of the frame -/
def tSX (Ex : Fm → St → Hp → Prop) (G : Gam) (Wt : WX) (F : FS) : TS := fun D σ H => ∃ M ρ τ, RS G M ρ τ σ H ∧ Ex M σ H ∧ postS G Wt M τ (F ρ) D
theorem s_forX {Ex : Fm → St → Hp → Prop} (hp : PassesOwn (model X.prog X.w) X.A X.env X.xe) (hc : X.calm = true) (hi : PI X tg iter (tIX Ex G Wt Fi)) (hg : PG X tg (tG G A)) (hb : PSs X body (tS G Wt F)) (hs : ∀ x, foldedSetIterable iter X.env x = pure x := by intro _; rfl) : PS X (.For tg iter body [] pos) (tSX Ex G Wt (cFor Fi A F)) := by
  refine (ps_for hp hc hi hg hb hs).weak fun DD σ H ⟨M, ρ, τ, R, hE, q⟩ => ⟨M, ρ, τ, R, hE, ?_⟩
  unfold cFor at q
  cases e : Fi ρ with
  | ok x =>
    obtain ⟨ds, ρ1⟩ := x
    rw [e] at q
    intro M' J Se H1 bk sk R1
    refine ⟨fun i m σ H => m = ds.length - i ∧ i ≤ ds.length ∧ ∃ ρ, RS G M' ρ (Se ++ τ) σ H ∧ postS G Wt M τ (forD A F (ds.drop i) ρ) DD, ⟨ds.length, by simp, Nat.zero_le _, ρ1, R1, q⟩, ?_⟩
    rintro i m σ H ⟨rfl, hi, ρ, R, q⟩
    obtain ⟨k1, k2⟩ := sk ρ τ σ H i R
    by_cases hlt : i < ds.length
    · obtain ⟨g1, g2⟩ := k2 _ (List.getElem?_eq_getElem hlt)
      refine .inr ⟨g1, fun σ' H' => ∃ ρ2, RS G M' ρ2 (Se ++ τ) σ' H' ∧ postS G Wt M τ (forD A F (ds.drop (i + 1)) ρ2) DD, fun σ' H' ⟨ρ2, R2, q2⟩ => ⟨ds.length - (i + 1), by omega, rfl, hlt, ρ2, R2, q2⟩, fun x H' y => ?_⟩
      have R2 := g2 x H' y
      rw [List.drop_eq_getElem_cons hlt] at q
      have q' : postS G Wt M τ (match A (.val ds[i]) ρ with
        | some ρ1 => (F ρ1).bind fun (f, ρ2) => match f with
          | .nx => forD A F (ds.drop (i + 1)) ρ2
          | .ct => forD A F (ds.drop (i + 1)) ρ2
          | .bk => .ok (.nx, ρ2)
          | .rt w => .ok (.rt w, ρ2)
        | none => .stuck) DD := q
      cases ea : A (.val ds[i]) ρ with
      | none => rw [ea] at q'; exact q'.elim
      | some ρ2 =>
        rw [ea] at q'
        refine ⟨M', ρ, Se ++ τ, _, ρ2, R2, ea, fun σ3 H3 R3 => ⟨M', ρ2, Se ++ τ, R3, ?_⟩⟩
        dsimp only at q'
        cases ef : F ρ2 with
        | ok x =>
          obtain ⟨f, ρ3⟩ := x
          rw [ef] at q'
          cases f with
          | nx => exact fun σ4 H4 R4 => ⟨ρ3, R4, q'⟩
          | ct => exact fun σ4 H4 R4 => ⟨ρ3, R4, q'⟩
          | bk => exact fun σ4 H4 R4 => q' σ4 H4 (bk _ _ _ _ R4.drop)
          | rt w => exact fun v σ4 H4 R4 => q' v σ4 H4 (bk _ _ _ _ <| by
              have R5 : RS G M' ρ3 (Se ++ ((some v, w) :: τ)) σ4 H4 := R4.perm List.perm_middle.symm
              exact R5.drop)
        | exc c fs ρ' =>
          rw [ef] at q'
          exact fun dd vs σ4 H4 hx R4 => q' dd vs σ4 H4 hx (bk _ _ _ _ <| by
            have R5 : RS G M' ρ' (Se ++ (xents vs fs ++ τ)) σ4 H4 := R4.perm (by rw [← List.append_assoc, ← List.append_assoc]; exact List.perm_append_comm.append_right τ)
            exact R5.drop)
        | stuck => rw [ef] at q'; exact q'.elim
    · have hi' : i = ds.length := by omega
      subst hi'
      rw [List.drop_length] at q
      exact .inl ⟨k1 rfl, q σ H (bk _ _ _ _ R.drop)⟩
  | exc c fs ρ' => rw [e] at q; exact fun dd vs H' hx R' => q dd vs σ H' hx R'
  | stuck => rw [e] at q; exact q
theorem s_for (hp : PassesOwn (model X.prog X.w) X.A X.env X.xe) (hc : X.calm = true) (hi : PI X tg iter (tI G Wt Fi)) (hg : PG X tg (tG G A)) (hb : PSs X body (tS G Wt F)) (hs : ∀ x, foldedSetIterable iter X.env x = pure x := by intro _; rfl) : PS X (.For tg iter body [] pos) (tS G Wt (cFor Fi A F)) :=
  (s_forX hp hc hi hg hb hs).weak fun DD σ H ⟨M, ρ, τ, R, q⟩ => ⟨M, ρ, τ, R, True.intro, q⟩
end
end Dl
namespace Dl
open PySem PySem.Spec L2
open PyProof.Rows hiding St
/-! ### values in a row, new sequences -/
def slDs : List Sl → Option (List D)
  | [] => some []
  | w :: ws => match shr w with
    | .val d => (match slDs ws with
      | some ds => some (d :: ds)
      | none => none)
    | _ => none
section
variable {G : Gam} {M : Fm} {ρ : Env} {τ τ' : List Ent} {σ : St} {H H' : Hp}
theorem RS.grow (R : RS G M ρ τ σ H) (k : ∀ a o, H a = some o → H' a = some o) : RS G M ρ τ σ H' :=
  RS.unfront (τ' := []) R.len (RE.next (A := []) (A' := []) (B := ents σ ρ ++ τ) R.re (R.re.same.trans k) List.nodup_nil (fun _ h => nomatch h) (fun _ h => nomatch h) (fun _ _ h => nomatch h) (fun a o h _ => k a o h) fun _ h => nomatch h)
theorem RS.freshA (R : RS G M ρ τ σ H) {p : Addr} (hp : H p = none) : ¬ avoid M.S0 (ents σ ρ ++ τ) p := by
  rintro (h | h)
  · obtain ⟨o, e⟩ := R.re.s0 h
    rw [hp] at e; cases e
  · obtain ⟨o, e⟩ := R.re.there h
    rw [hp] at e; cases e
theorem kept_upd {p : Addr} {o : HO} (hp : H p = none) : ∀ a u, H a = some u → upd H p o a = some u := fun a u e => by rw [upd_ne (ne_of_none e hp)]; exact e
theorem tr_grow {S : Addr → Prop} (k : ∀ a o, H a = some o → H' a = some o) : Tr S H S H' := Tr.of fun a o n h => ⟨k a o h, n⟩
theorem avoid_aents {vs : List V} {ws : List Sl} (h : ws.all isVal = true) {L : List Ent} {S0 : Addr → Prop} : avoid S0 (aents vs ws ++ L) = avoid S0 L := by
  funext a
  unfold avoid
  rw [owns_append, owns_vals h]
  rfl
theorem slDs_all : ∀ {ws : List Sl} {ds : List D}, slDs ws = some ds → ws.map shr = ds.map Sl.val
  | [], ds, h => by cases h; rfl
  | w :: ws, ds, h => by
    unfold slDs at h
    split at h
    · rename_i d e
      split at h
      · rename_i es e2
        cases h
        rw [List.map_cons, List.map_cons, e, slDs_all e2]
      · cases h
    · cases h
theorem all_val (ds : List D) : (ds.map Sl.val).all isVal = true := by
  rw [List.all_map]
  exact List.all_eq_true.mpr fun _ _ => rfl
theorem reps_of {S : Addr → Prop} : ∀ {ds : List D} {vs : List V}, ds.length = vs.length → (∀ e, e ∈ aents vs (ds.map Sl.val) → Holds G M.P S H e) → Reps G S H ds vs
  | [], [], _, h => Reps.nil
  | [], v :: vs, l, h => by cases l
  | d :: ds, [], l, h => by cases l
  | d :: ds, v :: vs, l, h => by
    obtain ⟨u, e, r⟩ := h (some v, .val d) (by simp [aents])
    cases e
    exact Reps.cons r (reps_of (by simpa using l) fun e he => h e (by simp only [aents, List.map_cons, List.zip_cons_cons, List.mem_cons]; exact .inr he))
theorem RS.reps {vs : List V} {ws : List Sl} {ds : List D} (R : RS G M ρ (aents vs ws ++ τ) σ H) (l : ws.length = vs.length) (e : slDs ws = some ds) : RS G M ρ τ σ H ∧ Reps G (avoid M.S0 (ents σ ρ ++ τ)) H ds vs := by
  have R1 := R.shrAll
  have em := slDs_all e
  rw [em] at R1
  have R2 := R1.drop
  have ha : avoid M.S0 (aents vs (ds.map Sl.val) ++ (ents σ ρ ++ τ)) = avoid M.S0 (ents σ ρ ++ τ) := avoid_aents (all_val ds)
  refine ⟨R2, reps_of (M := M) (by have := congrArg List.length em; simp at this; omega) fun e he => ?_⟩
  have := R1.front.all e (List.mem_append_left _ he)
  rw [ha] at this
  exact this
theorem RS.newL {vs : List V} {ds : List D} {p : Addr} (R : RS G M ρ τ σ H) (r : Reps G (avoid M.S0 (ents σ ρ ++ τ)) H ds vs) (hp : H p = none) : RS G M ρ ((some (.ref p), .own (.lst ds)) :: τ) σ (upd H p (.lst vs)) := by
  refine R.alloc hp ⟨vs, upd_same, ?_⟩
  rw [RS.avoid_mid]
  exact r.tr (tr_alloc (S := fun _ => False) hp (.inl rfl))
theorem RS.newT {vs : List V} {ds : List D} {p : Addr} (R : RS G M ρ τ σ H) (r : Reps G (avoid M.S0 (ents σ ρ ++ τ)) H ds vs) (hp : H p = none) : RS G M ρ ((some (.ref p), .val (.tup ds)) :: τ) σ (upd H p (.tup vs)) := by
  have k := kept_upd (o := .tup vs) hp
  refine (R.grow k).addVal ?_
  unfold Rep
  exact ⟨p, vs, rfl, .inl ⟨R.freshA hp, .inl upd_same⟩, r.tr (tr_grow k)⟩
/-- an owned thing is changed -/
theorem RS.mut {p : Addr} {o o0 : HO} {d d0 : D} (R : RS G M ρ ((some (.ref p), .own d0) :: τ) σ H) (h0 : H p = some o0) (ho : OwnAt G (avoid M.S0 (ents σ ρ ++ ((some (.ref p), .own d0) :: τ))) (upd H p o) p d) :
    RS G M ρ ((some (.ref p), .own d) :: τ) σ (upd H p o) := by
  have R1 : RE G M.P M.S0 M.H0 ([(some (.ref p), .own d0)] ++ (ents σ ρ ++ τ)) H := RS.front (τ' := [_]) R
  have np : M.H0 p = none := R1.new p (by rw [owns_append]; exact List.mem_append_left _ (by simp [ownOf]))
  have dj : p ∉ owns (ents σ ρ ++ τ) := by
    have := R1.nd
    rw [owns_append] at this
    exact fun z => (List.nodup_append.mp this).2.2 p (by simp [ownOf]) p z rfl
  refine RS.unfront (τ' := [_]) R.len (RE.next (A' := [(some (.ref p), .own d)]) R1 (fun a u e => ?_) (by simp [ownOf]) (fun q hq => ?_) (fun q hq z => ?_) (fun q u hq hu => ?_) (fun a u e na => ?_) fun e he => ?_)
  · rw [upd_ne (fun z => by subst z; rw [np] at e; cases e)]
    exact R1.same a u e
  · have e : q = p := by simpa [ownOf] using hq
    rw [e]; exact np
  · have e : q = p := by simpa [ownOf] using hq
    rw [e] at z; exact dj z
  · have e : q = p := by simpa [ownOf] using hq
    rw [e]; simp [ownOf]
  · rw [upd_ne (fun z => na (by rw [z]; simp [ownOf]))]
    exact e
  · have e' : e = (some (.ref p), .own d) := by simpa using he
    subst e'
    refine ⟨p, rfl, ?_⟩
    have ea : avoid M.S0 ([(some (V.ref p), Sl.own d)] ++ (ents σ ρ ++ τ)) = avoid M.S0 (ents σ ρ ++ ((some (.ref p), .own d0) :: τ)) := by
      rw [RS.avoid_mid]
      rfl
    rw [ea]
    exact ho
theorem tr_upd {S : Addr → Prop} {p : Addr} {o : HO} (h : S p) : Tr S H S (upd H p o) := Tr.of fun a u n e => ⟨by rw [upd_ne (fun z => n (by rw [z]; exact h))]; exact e, n⟩
theorem own_avoid {p : Addr} {d : D} : avoid M.S0 (ents σ ρ ++ ((some (V.ref p), Sl.own d) :: τ)) p := by
  rw [RS.avoid_mid]
  exact .inr (by rw [owns_own]; exact List.mem_cons_self)
/-- an owned list gets new items -/
theorem RS.mutL {p : Addr} {ds ds' : List D} {vs' : List V} (R : RS G M ρ ((some (.ref p), .own (.lst ds)) :: τ) σ H) (r : Reps G (avoid M.S0 (ents σ ρ ++ ((some (.ref p), .own (.lst ds)) :: τ))) H ds' vs') :
    RS G M ρ ((some (.ref p), .own (.lst ds')) :: τ) σ (upd H p (.lst vs')) := by
  obtain ⟨q, e, vs, hq, _⟩ := R.re.all (some (V.ref p), .own (.lst ds)) (List.mem_append_right _ List.mem_cons_self)
  cases e
  exact R.mut hq ⟨vs', upd_same, r.tr (tr_upd own_avoid)⟩
/-- the entry of a slot in front -/
theorem RS.pull {i : Nat} {w : Sl} (R : RS G M ρ τ σ H) (h : ρ[i]? = some w) : ∃ v, σ[i]? = some v ∧ RS G M (ρ.set i .none) ((v, w) :: τ) σ H := by
  obtain ⟨v, e1, e2⟩ := R.at_ h
  refine ⟨v, e1, by rw [List.length_set]; exact R.len, ?_⟩
  have R1 : RE G M.P M.S0 M.H0 ((v, w) :: ((ents σ ρ).eraseIdx i ++ τ)) H := R.re.perm (ents_perm e2)
  have R2 : RE G M.P M.S0 M.H0 ((v, Sl.none) :: (v, w) :: ((ents σ ρ).eraseIdx i ++ τ)) H := R1.addNone
  refine R2.perm ?_
  refine (((List.Perm.swap _ _ _).trans (List.Perm.cons _ (ents_perm_set1 e1 e2).symm)).trans ?_)
  exact List.perm_middle.symm
theorem RS.push {i : Nat} {w : Sl} {v : Option V} (R : RS G M (ρ.set i .none) ((v, w) :: τ) σ H) (h : σ[i]? = some v) : RS G M (ρ.set i w) τ σ H := by
  have hl : ρ.length = σ.length := by simpa using R.len
  refine ⟨by rw [List.length_set]; exact hl, ?_⟩
  have hi : i < ρ.length := by rw [hl]; exact (List.getElem?_eq_some_iff.mp h).1
  have e2 : (ents σ (ρ.set i .none))[i]? = some (v, .none) := by
    rw [List.getElem?_zip_eq_some]
    exact ⟨h, by simp [hi]⟩
  have R1 := RS.front (τ' := [_]) R
  have R2 : RE G M.P M.S0 M.H0 ((v, .none) :: (v, w) :: ((ents σ (ρ.set i .none)).eraseIdx i ++ τ)) H := R1.perm ((List.Perm.cons _ (ents_perm e2)).trans (List.Perm.swap _ _ _))
  have R3 := RE.drop (A := [(v, Sl.none)]) R2
  have p := ents_perm_set1 (w' := w) (τ := τ) h e2
  rw [List.set_set] at p
  exact R3.perm p.symm
end
/-! ### displays -/
def newD (mk : List D → Sl) (ws : List Sl) : RD := match slDs ws with
  | some ds => .ok (mk ds)
  | none => .stuck
/-- an operation over arguments -/
def cCb (g : List Sl → RD) (Fs : FA) : FE := fun ρ => (Fs ρ).bind fun (ws, ρ1) => liftD (g ws) ρ1
def shortN (n : Nat) : Bool := Nat.blt n 16000000
theorem short_ok {n : Nat} (h : shortN n = true) : n < sizeLine := by
  have : n < 16000000 := Nat.le_of_ble_eq_true h
  rw [sizeLine_eq]; omega
def wDsp (mk : List D → Sl) (ws : List Sl) : RD := match shortN ws.length with
  | true => newD mk ws
  | false => .stuck
section
variable {X : Cx} {G : Gam} {Wt : WX} {es : List Expr} {e a b : Expr} {Fs : FA} {Fa Fb : FE} {pos : Pos}
theorem post_bindCb {M : Fm} {τ : List Ent} {σ : St} {ρ : Env} {g : List Sl → RD} {Q : V → Hp → Prop} {R : List V → Hp → Prop} (h : post G Wt M τ σ (cCb g Fs ρ) Q)
    (hr : ∀ ws ρ' vs H', ws.length = vs.length → RS G M ρ' (aents vs ws ++ τ) σ H' → post G Wt M τ σ (liftD (g ws) ρ') Q → R vs H') : postA G Wt M τ σ (Fs ρ) R := by
  unfold cCb at h
  cases e : Fs ρ with
  | ok a =>
    obtain ⟨ws, ρ'⟩ := a
    rw [e] at h
    exact fun vs H' l z => hr ws ρ' vs H' l z h
  | exc c fs ρ' => rw [e] at h; exact fun dd vs H' x z => h dd vs H' x z
  | stuck => rw [e] at h; exact h
theorem e_lst (h : PA X es (tA G Wt Fs)) : PE X (.List es pos) (tE G Wt (cCb (wDsp fun ds => .own (.lst ds)) Fs)) := by
  refine (pe_lst h).weak fun σ H Q ⟨M, ρ, τ, R, q⟩ => ⟨M, ρ, τ, R, post_bindCb q fun ws ρ1 vs H1 l R1 p => ?_⟩
  unfold wDsp at p
  split at p
  · rename_i es
    have hz := short_ok es
    refine ⟨by omega, fun a ha => ?_⟩
    unfold newD at p
    split at p
    · rename_i ds e
      obtain ⟨R2, r⟩ := R1.reps l e
      exact p _ _ (R2.newL r ha)
    · exact p.elim
  · exact p.elim
theorem e_tup {x1} (h : PA X es (tA G Wt Fs)) : PE X (.Tuple es x1 pos) (tE G Wt (cCb (wDsp fun ds => .val (.tup ds)) Fs)) := by
  refine (pe_tup h).weak fun σ H Q ⟨M, ρ, τ, R, q⟩ => ⟨M, ρ, τ, R, post_bindCb q fun ws ρ1 vs H1 l R1 p => ?_⟩
  unfold wDsp at p
  split at p
  · rename_i es
    have hz := short_ok es
    refine ⟨by omega, fun a ha => ?_⟩
    unfold newD at p
    split at p
    · rename_i ds e
      obtain ⟨R2, r⟩ := R1.reps l e
      exact p _ _ (R2.newT r ha)
    · exact p.elim
  · exact p.elim
/-! ### subscripts -/
/-- the item at an index of any sign -/
def atD {α : Type} (xs : List α) : Int → Option α
  | .ofNat n => xs[n]?
  | .negSucc n => fN xs.length fun l => match Nat.ble (n + 1) l with
    | true => xs[l - (n + 1)]?
    | false => none
theorem atD_eq {α β : Type} {xs : List α} {ys : List β} {i : Int} {d : α} (h : atD xs i = some d) (hl : xs.length = ys.length) : ∃ j : Nat, xs[j]? = some d ∧ (∀ y : β, ys[j]? = some y → atI ys i = some y) := by
  cases i with
  | ofNat n => exact ⟨n, h, fun y hy => atI_nat hy⟩
  | negSucc n =>
    have h' : (fN xs.length fun l => match Nat.ble (n + 1) l with
      | true => xs[l - (n + 1)]?
      | false => none) = some d := h
    rw [fN_eq] at h'
    clear h
    split at h'
    · rename_i e
      have hle : n + 1 ≤ xs.length := Nat.le_of_ble_eq_true e
      refine ⟨_, h', fun y hy => ?_⟩
      unfold atI ixN
      have e1 : ¬ (0 : Int) ≤ Int.negSucc n := by omega
      have e2 : -(ys.length : Int) ≤ Int.negSucc n := by omega
      rw [if_neg e1, if_pos e2]
      have e3 : (Int.negSucc n + (ys.length : Int)).toNat = xs.length - (n + 1) := by omega
      show ys[(Int.negSucc n + (ys.length : Int)).toNat]? = some y
      rw [e3]
      exact hy
    · cases h'
def itD (wa wb : Sl) : RD := match shr wa, wb with
  | .val (.lst ds), .val (.int i) => (match atD ds i with
    | some d => .ok (.val d)
    | none => .stuck)
  | .val (.frl ds), .val (.int i) => (match atD ds i with
    | some d => .ok (.val d)
    | none => .stuck)
  | .val (.tup ds), .val (.int i) => (match atD ds i with
    | some d => .ok (.val d)
    | none => .stuck)
  | _, _ => .stuck
theorem itD_ok {wa wb w : Sl} (h : itD wa wb = .ok w) : ∃ ds i d, wb = .val (.int i) ∧ atD ds i = some d ∧ w = .val d ∧ (shr wa = .val (.lst ds) ∨ shr wa = .val (.frl ds) ∨ shr wa = .val (.tup ds)) := by
  unfold itD at h
  split at h
  all_goals (first | cases h; done | skip)
  all_goals
    rename_i ds i e
    split at h
    · rename_i d e2
      cases h
      refine ⟨ds, i, d, rfl, e2, rfl, ?_⟩
      simp [e]
    · cases h
theorem itD_or (wa wb : Sl) : (∃ w, itD wa wb = .ok w) ∨ itD wa wb = .stuck := by
  unfold itD
  split
  all_goals (first | (exact .inr rfl) | skip)
  all_goals
    split
    · exact .inl ⟨_, rfl⟩
    · exact .inr rfl
theorem e_ix (hK : X.K = G.K) (ha : PE X a (tE G Wt Fa)) (hb : PE X b (tE G Wt Fb)) (hs : PlainIx b) : PE X (.Subscript a b pos) (tE G Wt (cBin itD Fa Fb)) := by
  refine (pe_ix (ix_list.or ix_tup) ha hb hs).weak fun σ H Q ⟨M, ρ, τ, R, q⟩ => ⟨M, ρ, τ, R, post_bind0 q fun wa ρ1 x H1 _ R1 q1 => ⟨M, ρ1, _, R1, post_bind q1 (fun _ _ _ _ z => xe_drop z) fun wb ρ2 y H2 _ R2 q2 => ?_⟩⟩
  dsimp only at q2
  rcases itD_or wa wb with ⟨w, e⟩ | e
  · rw [e] at q2
    obtain ⟨ds, i, d, rfl, ed, rfl, hk⟩ := itD_ok e
    have ey := Option.some.inj (R2.flat (v := some y) (d := .int i) List.mem_cons_self rfl)
    subst ey
    have R3 : RS G M ρ2 ((some x, shr wa) :: (some (.int i), .val (.int i)) :: τ) σ H2 := RS.shr1 (R2.perm (List.Perm.swap _ _ _))
    have fin : ∀ (vs : List V), Reps G (avoid M.S0 (ents σ ρ2 ++ ((some x, shr wa) :: (some (.int i), .val (.int i)) :: τ))) H2 ds vs → ∃ v, atI vs i = some v ∧ Q v H2 := by
      intro vs r
      obtain ⟨j, e1, e2⟩ := atD_eq (ys := vs) ed r.len.symm
      obtain ⟨v, hv, rv⟩ := r.get e1
      refine ⟨v, e2 v hv, q2 v H2 ?_⟩
      have R4 := R3.addVal rv
      exact RS.drop (τ' := [_, _]) (R4.perm ((List.Perm.swap _ _ _).trans (List.Perm.cons _ (List.Perm.swap _ _ _))))
    rcases hk with hk | hk | hk
    · have hh : ∀ d', shr wa = .val d' → Rep G (avoid M.S0 (ents σ ρ2 ++ ((some x, shr wa) :: (some (.int i), .val (.int i)) :: τ))) H2 d' x := fun d' e' => by
        obtain ⟨u, eu, r⟩ := R3.re.val (d := d') (v := some x) (List.mem_append_right _ (by rw [e']; exact List.mem_cons_self))
        cases eu
        exact r
      obtain ⟨p, vs, rfl, hp, r⟩ := rep_lst hK (w := shr wa) (by rw [hk]; rfl) hh
      obtain ⟨v, e1, e2⟩ := fin vs r
      exact .inl ⟨p, vs, i, v, rfl, rfl, hp, e1, e2⟩
    · have hh : ∀ d', shr wa = .val d' → Rep G (avoid M.S0 (ents σ ρ2 ++ ((some x, shr wa) :: (some (.int i), .val (.int i)) :: τ))) H2 d' x := fun d' e' => by
        obtain ⟨u, eu, r⟩ := R3.re.val (d := d') (v := some x) (List.mem_append_right _ (by rw [e']; exact List.mem_cons_self))
        cases eu
        exact r
      obtain ⟨p, vs, rfl, hp, r⟩ := rep_lst hK (w := shr wa) (by rw [hk]; rfl) hh
      obtain ⟨v, e1, e2⟩ := fin vs r
      exact .inl ⟨p, vs, i, v, rfl, rfl, hp, e1, e2⟩
    · obtain ⟨u, eu, r0⟩ := R3.re.val (d := .tup ds) (v := some x) (List.mem_append_right _ (by rw [hk]; exact List.mem_cons_self))
      cases eu
      obtain ⟨p, vs, rfl, hp, r⟩ := rep_tup hK r0
      obtain ⟨v, e1, e2⟩ := fin vs r
      exact .inr ⟨p, vs, i, v, rfl, rfl, hp, e1, e2⟩
  · rw [e] at q2
    exact q2.elim
end
end Dl
namespace Dl
open PySem PySem.Spec L2
open PyProof.Rows hiding St
/-! ### built-ins called by name -/
def CbOk (G : Gam) (Wt : WX) (r : List V → Hp → VK → Prop) (g : List Sl → RD) : Prop :=
  ∀ (M : Fm) (ρ : Env) (τ : List Ent) (σ : St) (H : Hp) (xs : List V) (ws : List Sl) (Q : VK), ws.length = xs.length → RS G M ρ (aents xs ws ++ τ) σ H → post G Wt M τ σ (liftD (g ws) ρ) Q → r xs H Q
section
variable {X : Cx} {G : Gam} {Wt : WX} {es : List Expr} {e a b : Expr} {Fs : FA} {Fa Fb : FE} {pos : Pos} {r r' : List V → Hp → VK → Prop} {g g' : List Sl → RD}
theorem e_cb (he : PE X e (tCB r (tA G Wt Fs))) (hg : CbOk G Wt r g) : PE X e (tE G Wt (cCb g Fs)) :=
  he.weak fun σ H Q ⟨M, ρ, τ, R, q⟩ => ⟨M, ρ, τ, R, post_bindCb q fun ws ρ1 vs H1 l R1 p => hg M ρ1 τ σ H1 vs ws Q l R1 p⟩
/-- of one value -/
def g1 (f : D → RD) (ws : List Sl) : RD := match ws with
  | [w] => (match shr w with
    | .val d => f d
    | _ => .stuck)
  | _ => .stuck
theorem cb1 {f : D → RD} (h : ∀ (M : Fm) (ρ : Env) (τ : List Ent) (σ : St) (H : Hp) (x : V) (d : D) (Q : VK), RS G M ρ τ σ H → Rep G (avoid M.S0 (ents σ ρ ++ τ)) H d x → post G Wt M τ σ (liftD (f d) ρ) Q → r [x] H Q) : CbOk G Wt r (g1 f) := by
  intro M ρ τ σ H xs ws Q l R p
  unfold g1 at p
  split at p
  · rename_i w
    split at p
    · rename_i d e
      obtain ⟨x, rfl⟩ : ∃ x, xs = [x] := by
        cases xs with
        | nil => cases l
        | cons x r => cases r with
          | nil => exact ⟨x, rfl⟩
          | cons _ _ => simp at l
      have e2 : slDs [w] = some [d] := by unfold slDs; rw [e]; rfl
      obtain ⟨R2, rr⟩ := R.reps l e2
      unfold Reps at rr
      obtain ⟨v, r0, ev, h1, _⟩ := rr
      cases ev
      exact h M ρ τ σ H x d Q R2 h1 p
    · exact p.elim
  · exact p.elim
theorem rep_lstD {S : Addr → Prop} {H : Hp} {d : D} {ds : List D} {v : V} (h : lstD (.val d) = some ds) (hh : Rep G S H d v) : ∃ p vs, v = .ref p ∧ SqL G.K H p vs ∧ Reps G S H ds vs :=
  rep_lst rfl h fun d' e => by cases e; exact hh
/-! #### len -/
def fLen (d : D) : RD := match d with
  | .lst ds => okI ds.length
  | .frl ds => okI ds.length
  | .tup ds => okI ds.length
  | .str s => (match shortN s.length with
    | true => okI s.length
    | false => .stuck)
  | _ => .stuck
theorem cb_len (hK : X.K = G.K) : CbOk G Wt (fun xs H Q => ∃ x n, xs = [x] ∧ LenV X.K x H n ∧ Q (.int n) H) (g1 fLen) := cb1 fun M ρ τ σ H x d Q R rp p => by
  have seq : ∀ ds, lstD (.val d) = some ds → post G Wt M τ σ (liftD (okI ds.length) ρ) Q → ∃ x_1 n, [x] = [x_1] ∧ LenV X.K x_1 H n ∧ Q (.int n) H := fun ds e p => by
    obtain ⟨a, vs, rfl, hq, r⟩ := rep_lstD e rp
    rw [okI_eq] at p
    refine ⟨_, ds.length, rfl, .inl ⟨vs, by rw [hK]; exact hq, r.len.symm⟩, p _ H (R.addFlat rfl)⟩
  unfold fLen at p
  split at p
  · exact seq _ rfl p
  · exact seq _ rfl p
  · rename_i ds
    obtain ⟨a, vs, rfl, hq, r⟩ := rep_tup hK rp
    rw [okI_eq] at p
    exact ⟨_, ds.length, rfl, .inr ⟨vs, hq, r.len.symm⟩, p _ H (R.addFlat rfl)⟩
  · rename_i s
    split at p
    · rename_i e
      have ex : x = .str s := rp
      subst ex
      rw [okI_eq] at p
      exact ⟨_, s.length, rfl, ⟨Nat.le_of_lt (short_ok e), rfl⟩, p _ H (R.addFlat rfl)⟩
    · exact p.elim
  · exact p.elim
/-! #### lists of ints, of bools -/
def intsOf : List D → Option (List Int)
  | [] => some []
  | .int i :: ds => (match intsOf ds with
    | some l => some (i :: l)
    | none => none)
  | _ :: _ => none
def blsOf : List D → Option (List Bool)
  | [] => some []
  | .bl i :: ds => (match blsOf ds with
    | some l => some (i :: l)
    | none => none)
  | _ :: _ => none
def strsOf : List D → Option (List Str)
  | [] => some []
  | .str i :: ds => (match strsOf ds with
    | some l => some (i :: l)
    | none => none)
  | _ :: _ => none
theorem reps_ints {S : Addr → Prop} {H : Hp} : ∀ {ds : List D} {l : List Int} {vs : List V}, intsOf ds = some l → Reps G S H ds vs → vs = l.map V.int
  | [], l, vs, e, r => by cases e; exact r
  | d :: ds, l, vs, e, r => by
    obtain ⟨v, rs, rfl, h1, h2⟩ := r
    cases d with
    | int i =>
      unfold intsOf at e
      split at e
      · rename_i l' e'
        cases e
        have ev : v = .int i := h1
        rw [ev, reps_ints e' h2]
        rfl
      · cases e
    | _ => cases e
theorem reps_bls {S : Addr → Prop} {H : Hp} : ∀ {ds : List D} {l : List Bool} {vs : List V}, blsOf ds = some l → Reps G S H ds vs → vs = l.map V.bl
  | [], l, vs, e, r => by cases e; exact r
  | d :: ds, l, vs, e, r => by
    obtain ⟨v, rs, rfl, h1, h2⟩ := r
    cases d with
    | bl i =>
      unfold blsOf at e
      split at e
      · rename_i l' e'
        cases e
        have ev : v = .bl i := h1
        rw [ev, reps_bls e' h2]
        rfl
      · cases e
    | _ => cases e
theorem reps_strs {S : Addr → Prop} {H : Hp} : ∀ {ds : List D} {l : List Str} {vs : List V}, strsOf ds = some l → Reps G S H ds vs → vs = l.map V.str
  | [], l, vs, e, r => by cases e; exact r
  | d :: ds, l, vs, e, r => by
    obtain ⟨v, rs, rfl, h1, h2⟩ := r
    cases d with
    | str i =>
      unfold strsOf at e
      split at e
      · rename_i l' e'
        cases e
        have ev : v = .str i := h1
        rw [ev, reps_strs e' h2]
        rfl
      · cases e
    | _ => cases e
def sumI : List Int → Int
  | [] => 0
  | i :: l => fI (sumI l) fun s => i + s
theorem sumI_eq : ∀ l : List Int, sumI l = l.sum
  | [] => rfl
  | i :: l => by
    show fI (sumI l) (fun s => i + s) = _
    rw [fI_eq, sumI_eq l, List.sum_cons]
def fSum (d : D) : RD := match lstD (.val d) with
  | some ds => (match intsOf ds with
    | some l => okI (sumI l)
    | none => .stuck)
  | none => .stuck
theorem cb_sum (hK : X.K = G.K) : CbOk G Wt (rSum X.K) (g1 fSum) := cb1 fun M ρ τ σ H x d Q R rp p => by
  unfold fSum at p
  split at p
  · rename_i ds e
    split at p
    · rename_i l el
      obtain ⟨a, vs, rfl, hq, r⟩ := rep_lstD e rp
      have ev := reps_ints el r
      subst ev
      rw [okI_eq, sumI_eq] at p
      exact ⟨a, l, rfl, by rw [hK]; exact hq, p _ H (R.addFlat rfl)⟩
    · exact p.elim
  · exact p.elim
def fAll (d : D) : RD := match lstD (.val d) with
  | some ds => (match blsOf ds with
    | some l => okB (l.all id)
    | none => .stuck)
  | none => .stuck
def fAny (d : D) : RD := match lstD (.val d) with
  | some ds => (match blsOf ds with
    | some l => okB (l.any id)
    | none => .stuck)
  | none => .stuck
theorem cb_all (hK : X.K = G.K) : CbOk G Wt (rAll X.K) (g1 fAll) := cb1 fun M ρ τ σ H x d Q R rp p => by
  unfold fAll at p
  split at p
  · rename_i ds e
    split at p
    · rename_i l el
      obtain ⟨a, vs, rfl, hq, r⟩ := rep_lstD e rp
      have ev := reps_bls el r
      subst ev
      rw [okB_eq] at p
      exact ⟨a, l, rfl, by rw [hK]; exact hq, p _ H (R.addFlat rfl)⟩
    · exact p.elim
  · exact p.elim
theorem cb_any (hK : X.K = G.K) : CbOk G Wt (rAny X.K) (g1 fAny) := cb1 fun M ρ τ σ H x d Q R rp p => by
  unfold fAny at p
  split at p
  · rename_i ds e
    split at p
    · rename_i l el
      obtain ⟨a, vs, rfl, hq, r⟩ := rep_lstD e rp
      have ev := reps_bls el r
      subst ev
      rw [okB_eq] at p
      exact ⟨a, l, rfl, by rw [hK]; exact hq, p _ H (R.addFlat rfl)⟩
    · exact p.elim
  · exact p.elim
/-! #### abs, int, str -/
def absI : Int → Int
  | .ofNat n => .ofNat n
  | .negSucc n => .ofNat (n + 1)
theorem absI_eq (i : Int) : absI i = if i < 0 then -i else i := by
  cases i with
  | ofNat n =>
    show Int.ofNat n = _
    rw [if_neg (show ¬ Int.ofNat n < 0 from Int.not_lt.mpr (Int.natCast_nonneg n))]
  | negSucc n =>
    show Int.ofNat (n + 1) = _
    rw [if_pos (Int.negSucc_lt_zero n)]
    rfl
def fAbs (d : D) : RD := match d with
  | .int i => okI (absI i)
  | _ => .stuck
theorem cb_abs : CbOk G Wt (fun xs H Q => ∃ i, xs = [.int i] ∧ Q (.int (if i < 0 then -i else i)) H) (g1 fAbs) := cb1 fun M ρ τ σ H x d Q R rp p => by
  unfold fAbs at p
  split at p
  · rename_i i
    have ex : x = .int i := rp
    subst ex
    rw [okI_eq, absI_eq] at p
    exact ⟨i, rfl, p _ H (R.addFlat rfl)⟩
  · exact p.elim
def fInt (d : D) : RD := match d with
  | .int i => .ok (.val (.int i))
  | .bl b => .ok (.val (.int (if b then 1 else 0)))
  | _ => .stuck
theorem cb_int : CbOk G Wt (fun xs H Q => (∃ i, xs = [.int i] ∧ Q (.int i) H) ∨ ∃ k, xs = [.bl k] ∧ Q (.int (if k then 1 else 0)) H) (g1 fInt) := cb1 fun M ρ τ σ H x d Q R rp p => by
  unfold fInt at p
  split at p
  · rename_i i
    have ex : x = .int i := rp
    subst ex
    exact .inl ⟨i, rfl, p _ H (R.addFlat rfl)⟩
  · rename_i i
    have ex : x = .bl i := rp
    subst ex
    exact .inr ⟨i, rfl, p _ H (R.addFlat rfl)⟩
  · exact p.elim
def fStrS (d : D) : RD := match d with
  | .str i => .ok (.val (.str i))
  | _ => .stuck
theorem cb_strS : CbOk G Wt (fun xs H Q => ∃ a, xs = [.str a] ∧ Q (.str a) H) (g1 fStrS) := cb1 fun M ρ τ σ H x d Q R rp p => by
  unfold fStrS at p
  split at p
  · rename_i i
    have ex : x = .str i := rp
    subst ex
    exact ⟨i, rfl, p _ H (R.addFlat rfl)⟩
  · exact p.elim
/-! #### tuple(x), list(x) -/
def fTup (d : D) : RD := match d with
  | .lst ds => .ok (.val (.tup ds))
  | .frl ds => .ok (.val (.tup ds))
  | .tup ds => .ok (.val (.tup ds))
  | _ => .stuck
theorem cb_tup (hK : X.K = G.K) : CbOk G Wt (fun xs H Q => ∃ p ys, xs = [.ref p] ∧ ((SqL X.K H p ys ∧ ∀ l, H l = none → Q (.ref l) (upd H l (.tup ys))) ∨ (SqT X.K H p ys ∧ Q (.ref p) H))) (g1 fTup) := cb1 fun M ρ τ σ H x d Q R rp p => by
  have seq : ∀ ds, lstD (.val d) = some ds → post G Wt M τ σ (liftD (.ok (.val (.tup ds))) ρ) Q → ∃ p ys, [x] = [.ref p] ∧ ((SqL X.K H p ys ∧ ∀ l, H l = none → Q (.ref l) (upd H l (.tup ys))) ∨ (SqT X.K H p ys ∧ Q (.ref p) H)) := fun ds e p => by
    obtain ⟨a, vs, rfl, hq, r⟩ := rep_lstD e rp
    exact ⟨a, vs, rfl, .inl ⟨by rw [hK]; exact hq, fun l hl => p _ _ (R.newT r hl)⟩⟩
  unfold fTup at p
  split at p
  · exact seq _ rfl p
  · exact seq _ rfl p
  · rename_i ds
    obtain ⟨a, vs, ex, hq, r⟩ := rep_tup hK rp
    refine ⟨a, vs, by rw [ex], .inr ⟨hq, p _ H (R.addVal (by rw [← ex]; exact rp))⟩⟩
  · exact p.elim
def fLst (d : D) : RD := match d with
  | .lst ds => .ok (.own (.lst ds))
  | .frl ds => .ok (.own (.lst ds))
  | .tup ds => .ok (.own (.lst ds))
  | _ => .stuck
theorem cb_lst (hK : X.K = G.K) : CbOk G Wt (fun xs H Q => ∃ p ys, xs = [.ref p] ∧ (SqL X.K H p ys ∨ SqT X.K H p ys) ∧ ∀ l, H l = none → Q (.ref l) (upd H l (.lst ys))) (g1 fLst) := cb1 fun M ρ τ σ H x d Q R rp p => by
  have seq : ∀ ds, lstD (.val d) = some ds → post G Wt M τ σ (liftD (.ok (.own (.lst ds))) ρ) Q → ∃ p ys, [x] = [.ref p] ∧ (SqL X.K H p ys ∨ SqT X.K H p ys) ∧ ∀ l, H l = none → Q (.ref l) (upd H l (.lst ys)) := fun ds e p => by
    obtain ⟨a, vs, rfl, hq, r⟩ := rep_lstD e rp
    exact ⟨a, vs, rfl, .inl (by rw [hK]; exact hq), fun l hl => p _ _ (R.newL r hl)⟩
  unfold fLst at p
  split at p
  · exact seq _ rfl p
  · exact seq _ rfl p
  · rename_i ds
    obtain ⟨a, vs, rfl, hq, r⟩ := rep_tup hK rp
    exact ⟨a, vs, rfl, .inr hq, fun l hl => p _ _ (R.newL r hl)⟩
  · exact p.elim
end
/-! #### isinstance -/
def tyD (G : Gam) : D → Value
  | .non => .type "NoneType" | .bl _ => .type "bool" | .int _ => .type "int" | .str _ => .type "str"
  | .tup _ => .type "tuple" | .lst _ => .type "list" | .frl _ => .type "list" | .dic _ _ => .type "dict"
  | .obj c _ => .ref (G.ca c)
  | .cls _ => .type "type"
/-- facts of a class whose instances are looked at -/
structure InsF (G : Gam) (c : Nat) : Prop where
  cl : Cls G.K (G.ca c)
  ha : PySem.W.findIn G.K (.ref (G.ca c)) "__class__" = some (some (.builtin "object.__class__"))
  hn : PySem.W.specialIn G.K (.builtin "object.__class__") "__get__" = some (some (.builtin "getset_descriptor.__get__"))
  htk : PySem.W.takesIn G.K (.builtin "object.__class__") = some true
  hm : PySem.W.mroIn G.K (G.ca c) (.type "object") = some true
  pr : ∀ b : BT, PySem.W.kitOne G.K (.ref (G.ca c)) (.type b.nm) = some false
/-- the class c as isinstance's second argument, among the classes below n -/
structure IsC (G : Gam) (n c : Nat) (subs : List Nat) : Prop where
  pr : ∀ a, a ∈ primNs → PySem.W.kitOne G.K (.type a) (.ref (G.ca c)) = some false
  ob : ∀ c', c' < n → PySem.W.kitOne G.K (.ref (G.ca c')) (.ref (G.ca c)) = some (subs.any fun x => okC c' x)
section
variable {G : Gam} {S : Addr → Prop} {H : Hp}
theorem rep_ty {d : D} {v : V} (hI : (∀ c ds, d = .obj c ds → InsF G c) ∧ ∀ c, d ≠ .cls c) (r : Rep G S H d v) : TyX G.K H v (tyD G d) := by
  cases d with
  | non => have : v = .non := r
           subst this; exact .base .non
  | bl b => have : v = .bl b := r
            subst this; exact .base (.bl _)
  | int b => have : v = .int b := r
             subst this; exact .base (.int _)
  | str b => have : v = .str b := r
             subst this; exact .base (.str _)
  | tup ds =>
    unfold Rep at r
    obtain ⟨p, vs, rfl, hp, r⟩ := r
    rcases hp with ⟨_, hp⟩ | ⟨o, its, k, h1, h2, _⟩
    · rcases hp with hp | ⟨o, hp⟩
      · exact .base (.tup hp)
      · exact .fTuple hp
    · exact .kTuple h1 h2
  | lst ds =>
    unfold Rep at r
    obtain ⟨p, vs, rfl, _, hp, r⟩ := r
    exact .base (.lst hp)
  | frl ds =>
    unfold Rep at r
    obtain ⟨p, vs, rfl, hp, r⟩ := r
    rcases hp with ⟨_, hp⟩ | ⟨o, its, k, h1, h2, _⟩
    · rcases hp with hp | ⟨o, hp⟩
      · exact .base (.lst hp)
      · exact .base (.frz hp)
    · exact .kList h1 h2
  | dic ks ds =>
    unfold Rep at r
    obtain ⟨p, kvs, rfl, _, hp, _, r⟩ := r
    rcases hp with hp | ⟨o, hp⟩
    · exact .base (.dK hp)
    · exact .fDict hp
  | obj c ds =>
    obtain ⟨p, dx, fs, rfl, hp, _⟩ := r.obj_at
    have f := hI.1 c ds rfl
    exact .base (.ins hp f.cl f.ha f.hn f.htk f.hm)
  | cls c => exact absurd rfl (hI.2 c)
def isiP (n : Nat) : BT → D → Option Bool
  | _, .cls _ => none
  | _, .obj c _ => (match Nat.blt c n with
    | true => some false
    | false => none)
  | .int, .int _ => some true
  | .int, .bl _ => some true
  | .bool, .bl _ => some true
  | .str, .str _ => some true
  | .list, .lst _ => some true
  | .list, .frl _ => some true
  | .tuple, .tup _ => some true
  | .dict, .dic _ _ => some true
  | _, _ => some false
theorem isiP_ok {n : Nat} {bt : BT} {d : D} {b : Bool} (hI : ∀ c, c < n → InsF G c) (h : isiP n bt d = some b) : ((∀ c ds, d = .obj c ds → InsF G c) ∧ ∀ c, d ≠ .cls c) ∧ PySem.W.kitOne G.K (tyD G d) (.type bt.nm) = some b := by
  cases d with
  | obj c ds =>
    have h' : (match Nat.blt c n with | true => some false | false => none) = some b := by cases bt <;> exact h
    split at h'
    · rename_i e
      cases h'
      have hc : c < n := Nat.le_of_ble_eq_true e
      exact ⟨⟨fun c' ds' e' => by cases e'; exact hI c hc, (fun _ z => nomatch z)⟩, (hI c hc).pr bt⟩
    · cases h'
  | cls c => cases bt <;> cases h
  | _ =>
    refine ⟨⟨(fun c ds e => nomatch e), (fun _ z => nomatch z)⟩, ?_⟩
    cases bt <;> (cases h; exact kit_ty (by decide +kernel))
def isiC (n : Nat) (subs : List Nat) : D → Option Bool
  | .cls _ => none
  | .obj c _ => (match Nat.blt c n with
    | true => some (subs.any fun x => okC c x)
    | false => none)
  | _ => some false
theorem isiC_ok {n c : Nat} {subs : List Nat} {d : D} {b : Bool} (hI : ∀ c, c < n → InsF G c) (hC : IsC G n c subs) (h : isiC n subs d = some b) : ((∀ c ds, d = .obj c ds → InsF G c) ∧ ∀ c, d ≠ .cls c) ∧ PySem.W.kitOne G.K (tyD G d) (.ref (G.ca c)) = some b := by
  cases d with
  | obj c' ds =>
    have h' : (match Nat.blt c' n with | true => some (subs.any fun x => okC c' x) | false => none) = some b := h
    split at h'
    · rename_i e
      cases h'
      have hc : c' < n := Nat.le_of_ble_eq_true e
      exact ⟨⟨fun c2 ds' e' => by cases e'; exact hI _ hc, (fun _ z => nomatch z)⟩, hC.ob _ hc⟩
    · cases h'
  | cls c => cases h
  | _ =>
    cases h
    exact ⟨⟨(fun c ds e => nomatch e), (fun _ z => nomatch z)⟩, hC.pr _ (by decide)⟩
end
def dIsi (f : D → Option Bool) (w : Sl) : RD := match shr w with
  | .val d => (match f d with
    | some b => okB b
    | none => .stuck)
  | _ => .stuck
def orB (f g : D → Option Bool) (d : D) : Option Bool := match f d with
  | some true => some true
  | some false => g d
  | none => none
section
variable {X : Cx} {G : Gam} {Wt : WX} {a c : Expr} {Fa : FE} {pos p p2 p3 p4 : Pos} {n : Nat}
theorem isi_w {f : D → Option Bool} {M : Fm} {ρ : Env} {τ : List Ent} {σ : St} {H : Hp} {x : V} {w : Sl} {Q : VK} (R : RS G M ρ ((some x, w) :: τ) σ H) (q : post G Wt M τ σ (liftD (dIsi f w) ρ) Q) :
    ∃ d b S, Rep G S H d x ∧ f d = some b ∧ RS G M ρ τ σ H ∧ ∀ H', RS G M ρ τ σ H' → Q (.bl b) H' := by
  unfold dIsi at q
  have R2 := R.shr1
  split at q
  · rename_i d e
    split at q
    · rename_i b eb
      rw [okB_eq] at q
      rw [e] at R2
      obtain ⟨u, eu, r⟩ := R2.val List.mem_cons_self
      cases eu
      exact ⟨d, b, _, r, eb, R.drop1, fun H' R' => q _ H' (R'.addFlat rfl)⟩
    · exact q.elim
  · exact q.elim
/-- isinstance(a, C), C one class -/
theorem e_isi {f : D → Option Bool} {u : Value} {v : V} (hK : X.K = G.K) (hg : Gl X "isinstance") (hm : X.mg "isinstance" = none) (hc : PE X c (tC v)) (hv : ClsV v u) (hf : ∀ d b, f d = some b → ((∀ c ds, d = .obj c ds → InsF G c) ∧ ∀ c, d ≠ .cls c) ∧ PySem.W.kitOne G.K (tyD G d) u = some b) (ha : PE X a (tE G Wt Fa))
    (h1 : starEach [a, c] X.env = (false, eval a X.env) :: starEach [c] X.env := by rfl) (h2 : starEach [c] X.env = (false, eval c X.env) :: starEach [] X.env := by rfl) (hpl : (backTo pos (starEach [c] X.env)).any (·.1) = false := by rfl) :
    PE X (.Call (.Name "isinstance" p) [a, c] [] pos) (tE G Wt (cUn (dIsi f) Fa)) := by
  refine (pe_callB call_isi hg hm (by first | rfl | (with_unfolding_all rfl)) (pa_cons ha (pa_cons hc pa_nil h2) h1) (he := h1) (hpl := hpl)).weak fun σ H Q ⟨M, ρ, τ, R, q⟩ => ⟨M, ρ, τ, R, post_bind0 q fun w ρ1 x H1 _ R1 q1 => ?_⟩
  obtain ⟨d, b, S, r, eb, R2, hq⟩ := isi_w R1 q1
  obtain ⟨hI, hk⟩ := hf d b eb
  refine ⟨x, v, tyD G d, u, b, rfl, hv, by rw [hK]; exact rep_ty hI r, by rw [hK]; exact hk, hq H1 R2⟩
/-- isinstance(a, (C1, C2)) -/
theorem e_isi2 {f g : D → Option Bool} {c1 c2 : Expr} {u1 u2 : Value} {v1 v2 : V} {k : Nat} {tp : Pos} (hK : X.K = G.K) (hg : Gl X "isinstance") (hm : X.mg "isinstance" = none) (hc1 : PE X c1 (tC v1)) (hc2 : PE X c2 (tC v2)) (hv1 : ClsV v1 u1) (hv2 : ClsV v2 u2)
    (hf : ∀ d b, f d = some b → ((∀ c ds, d = .obj c ds → InsF G c) ∧ ∀ c, d ≠ .cls c) ∧ PySem.W.kitOne G.K (tyD G d) u1 = some b) (hf2 : ∀ d b, g d = some b → ((∀ c ds, d = .obj c ds → InsF G c) ∧ ∀ c, d ≠ .cls c) ∧ PySem.W.kitOne G.K (tyD G d) u2 = some b) (ha : PE X a (tE G Wt Fa))
    (h1 : starEach [a, .Tuple [c1, c2] k tp] X.env = (false, eval a X.env) :: starEach [.Tuple [c1, c2] k tp] X.env := by rfl) (h2 : starEach [.Tuple [c1, c2] k tp] X.env = (false, eval (.Tuple [c1, c2] k tp) X.env) :: starEach [] X.env := by rfl)
    (h3 : starEach [c1, c2] X.env = (false, eval c1 X.env) :: starEach [c2] X.env := by rfl) (h4 : starEach [c2] X.env = (false, eval c2 X.env) :: starEach [] X.env := by rfl) (hpl : (backTo pos (starEach [.Tuple [c1, c2] k tp] X.env)).any (·.1) = false := by rfl) :
    PE X (.Call (.Name "isinstance" p) [a, .Tuple [c1, c2] k tp] [] pos) (tE G Wt (cUn (dIsi (orB f g)) Fa)) := by
  refine (pe_callB call_isiT hg hm (by first | rfl | (with_unfolding_all rfl)) (pa_cons ha (pa_cons (pe_tup (pa_cons hc1 (pa_cons hc2 pa_nil h4) h3)) pa_nil h2) h1) (he := h1) (hpl := hpl)).weak fun σ H Q ⟨M, ρ, τ, R, q⟩ => ⟨M, ρ, τ, R, post_bind0 q fun w ρ1 x H1 _ R1 q1 => ?_⟩
  obtain ⟨d, b, S, r, eb, R2, hq⟩ := isi_w R1 q1
  have hI : ((∀ c ds, d = .obj c ds → InsF G c) ∧ ∀ c, d ≠ .cls c) ∧ PySem.W.kitAny G.K (tyD G d) [u1, u2] = some b := by
    unfold orB at eb
    split at eb
    · rename_i e
      cases eb
      obtain ⟨i, k1⟩ := hf d true e
      exact ⟨i, kitAny_cons k1 (fun z => nomatch z) fun _ => rfl⟩
    · rename_i e
      obtain ⟨i, k1⟩ := hf d false e
      obtain ⟨_, k2⟩ := hf2 d b eb
      refine ⟨i, kitAny_cons (r := b) k1 (fun _ => ?_) (fun z => nomatch z)⟩
      cases b with
      | true => exact kitAny_cons k2 (fun z => nomatch z) fun _ => rfl
      | false => exact kitAny_cons (r := false) k2 (fun _ => rfl) (fun z => nomatch z)
    · cases eb
  refine ⟨(by simp [sizeLine_eq]), fun tpa htp => ⟨x, tpa, [v1, v2], tyD G d, [u1, u2], b, rfl, upd_same, .cons hv1 (.cons hv2 .nil), ?_, by rw [hK]; exact hI.2, hq _ (R2.grow (kept_upd htp))⟩⟩
  rw [hK]
  exact rep_ty hI.1 (r.tr (tr_grow (kept_upd htp)))
end
end Dl
namespace Dl
open PySem PySem.Spec L2
open PyProof.Rows hiding St
/-! ### owned lists changed in their slots -/
section
variable {G : Gam} {M : Fm} {ρ : Env} {τ τ' : List Ent} {σ : St} {H H' : Hp}
theorem RS.pullA {i : Nat} {w : Sl} (R : RS G M ρ τ σ H) (h : ρ[i]? = some w) : ∃ v, σ[i]? = some v ∧ RS G M (ρ.set i .none) ((v, w) :: τ) σ H ∧ avoid M.S0 (ents σ (ρ.set i .none) ++ ((v, w) :: τ)) = avoid M.S0 (ents σ ρ ++ τ) := by
  obtain ⟨v, e1, R2⟩ := R.pull h
  refine ⟨v, e1, R2, ?_⟩
  obtain ⟨v', e1', e2⟩ := R.at_ h
  rw [e1] at e1'
  cases e1'
  rw [RS.avoid_mid, avoid_perm (ents_perm (τ := τ) e2), avoid_perm (List.Perm.cons _ (ents_perm_set1 (τ := τ) (w' := .none) e1 e2))]
  funext a
  unfold avoid
  have : owns ((v, w) :: (v, Sl.none) :: ((ents σ ρ).eraseIdx i ++ τ)) = owns ((v, w) :: ((ents σ ρ).eraseIdx i ++ τ)) := by
    unfold owns
    rw [List.filterMap_cons, List.filterMap_cons (a := (v, w))]
    have e := owns_none (v := v) (B := (ents σ ρ).eraseIdx i ++ τ)
    unfold owns at e
    rw [e]
  rw [this]
theorem RS.ownL {i : Nat} {ds : List D} (R : RS G M ρ τ σ H) (h : ρ[i]? = some (.own (.lst ds))) : ∃ l vs, σ[i]? = some (some (.ref l)) ∧ H l = some (.lst vs) ∧ Reps G (avoid M.S0 (ents σ ρ ++ τ)) H ds vs ∧
    ∀ ds' vs', Reps G (avoid M.S0 (ents σ ρ ++ τ)) H ds' vs' → RS G M (ρ.set i (.own (.lst ds'))) τ σ (upd H l (.lst vs')) := by
  obtain ⟨v, e1, R2, ea⟩ := R.pullA h
  obtain ⟨l, ev, vs, hl, r⟩ := R2.re.all (v, .own (.lst ds)) (List.mem_append_right _ List.mem_cons_self)
  have ev' : v = some (.ref l) := ev
  subst ev'
  refine ⟨l, vs, e1, hl, by rw [← ea]; exact r, fun ds' vs' r' => ?_⟩
  exact RS.push (R2.mutL (by rw [ea]; exact r')) e1
end
def okAt (i : Nat) (ρ : Env) : Bool := match ρ[i]? with
  | some (.own (.lst _)) => true
  | _ => false
/-- the slot i, an owned list, changed by k -/
def updL (i : Nat) (k : List D → Option (List D)) (ρ : Env) : Option Env := match ρ[i]? with
  | some (.own (.lst ds)) => (match k ds with
    | some ds' => some (ρ.set i (.own (.lst ds')))
    | none => none)
  | _ => none
theorem updL_ok {i : Nat} {k : List D → Option (List D)} {ρ ρ' : Env} (h : updL i k ρ = some ρ') : ∃ ds ds', ρ[i]? = some (.own (.lst ds)) ∧ k ds = some ds' ∧ ρ' = ρ.set i (.own (.lst ds')) := by
  unfold updL at h
  split at h
  · rename_i ds e
    split at h
    · rename_i ds' e2
      cases h
      exact ⟨ds, ds', e, e2, rfl⟩
    · cases h
  · cases h
def appD (d : D) (ds : List D) : Option (List D) := fN ds.length fun n => match shortN n with
  | true => some (ds ++ [d])
  | false => none
theorem appD_ok {d : D} {ds ds' : List D} (h : appD d ds = some ds') : ds.length < sizeLine ∧ ds' = ds ++ [d] := by
  unfold appD at h
  rw [fN_eq] at h
  split at h
  · rename_i e
    cases h
    exact ⟨short_ok e, rfl⟩
  · cases h
/-- x.append(e) -/
def cAppend (i : Nat) (F : FE) : FE := fun ρ => match okAt i ρ with
  | true => (F ρ).bind fun (w, ρ1) => (match shr w with
    | .val d => (match updL i (appD d) ρ1 with
      | some ρ2 => .ok (.val .non, ρ2)
      | none => .stuck)
    | _ => .stuck)
  | false => .stuck
/-- x.extend(e), e a list -/
def extD (ds ys : List D) : Option (List D) := fN (ds.length + ys.length) fun n => match shortN n with
  | true => some (ds ++ ys)
  | false => none
def cExtend (i : Nat) (F : FE) : FE := fun ρ => match okAt i ρ with
  | true => (F ρ).bind fun (w, ρ1) => (match shr w with
    | .val (.lst ys) => (match updL i (fun ds => extD ds ys) ρ1 with
      | some ρ2 => .ok (.val .non, ρ2)
      | none => .stuck)
    | _ => .stuck)
  | false => .stuck
section
variable {X : Cx} {G : Gam} {Wt : WX} {e o ie : Expr} {Fa Fi : FE} {pos p ap cp tp : Pos} {x : Str} {i : Nat}
theorem e_append (hN : X.N[i]? = some x) (hv : Vis X.env.scope x) (he : PE X e (tE G Wt Fa)) (hline : (ap.endLine == cp.line) = true := by rfl)
    (hbase : attributeBase (.Name x p) "append" X.env (eval (.Name x p) X.env) = eval (.Name x p) X.env := by rfl)
    (hfew : ((backTo cp (starEach [e] X.env)).all (fun x => !x.1) && (backToKw cp (keywordEach [] X.env)).all (fun x => x.1.isSome)
      && decide ([e].length + ([] : List Keyword).length + (if ([] : List Keyword).isEmpty then 0 else 1) < 30)) = true := by rfl)
    (hs : starEach [e] X.env = (false, eval e X.env) :: starEach [] X.env := by rfl) (hplain : (backTo cp (starEach [] X.env)).any (·.1) = false := by rfl)
    (hd : (x == ("__debug__" : Str)) = false := by decide) (hcd : (x == ("__classdict__" : Str)) = false := by decide) :
    PE X (.Call (.Attribute (.Name x p) "append" ap) [e] [] cp) (tE G Wt (cAppend i Fa)) := by
  refine (pe_bm PySem.F.plainAttrs_list PySem.F.slot_list_append PySem.F.type_list_append mt_append (pe_var hN hv hd hcd) (pa_cons he pa_nil hs) hbase hfew hline hs hplain).weak fun σ H Q ⟨M, ρ, τ, R, q⟩ => ?_
  unfold cAppend at q
  split at q
  · rename_i ek
    unfold okAt at ek
    split at ek
    · rename_i ds0 e0
      obtain ⟨l, vs0, hl, hl0, _⟩ := R.ownL e0
      refine ⟨_, hl, .inl ⟨rfl, vs0, SqL.of hl0⟩, M, ρ, τ, R, post_bind0 q fun w ρ1 y H1 _ R1 q1 => ?_⟩
      dsimp only at q1
      split at q1
      · rename_i d ew
        split at q1
        · rename_i ρ2 eu
          obtain ⟨ds, ds', h1, h2, rfl⟩ := updL_ok eu
          obtain ⟨hlt, rfl⟩ := appD_ok h2
          have R2 := R1.shr1
          rw [ew] at R2
          obtain ⟨u, eu, ry⟩ := R2.val List.mem_cons_self
          cases eu
          obtain ⟨l', vs, hl', hv', r, k⟩ := R2.ownL h1
          rw [hl] at hl'
          cases hl'
          have R3 := (k _ _ (r.append (Reps.cons ry Reps.nil))).drop1
          exact ⟨l, vs, y, rfl, rfl, hv', by rw [r.len]; exact hlt, q1 _ _ (R3.addFlat rfl)⟩
        · exact q1.elim
      · exact q1.elim
    · cases ek
  · exact q.elim
theorem e_extend (hN : X.N[i]? = some x) (hv : Vis X.env.scope x) (he : PE X e (tE G Wt Fa)) (hline : (ap.endLine == cp.line) = true := by rfl)
    (hbase : attributeBase (.Name x p) "extend" X.env (eval (.Name x p) X.env) = eval (.Name x p) X.env := by rfl)
    (hfew : ((backTo cp (starEach [e] X.env)).all (fun x => !x.1) && (backToKw cp (keywordEach [] X.env)).all (fun x => x.1.isSome)
      && decide ([e].length + ([] : List Keyword).length + (if ([] : List Keyword).isEmpty then 0 else 1) < 30)) = true := by rfl)
    (hs : starEach [e] X.env = (false, eval e X.env) :: starEach [] X.env := by rfl) (hplain : (backTo cp (starEach [] X.env)).any (·.1) = false := by rfl)
    (hd : (x == ("__debug__" : Str)) = false := by decide) (hcd : (x == ("__classdict__" : Str)) = false := by decide) :
    PE X (.Call (.Attribute (.Name x p) "extend" ap) [e] [] cp) (tE G Wt (cExtend i Fa)) := by
  refine (pe_bm PySem.F.plainAttrs_list PySem.F.slot_list_extend PySem.F.type_list_extend mt_extend (pe_var hN hv hd hcd) (pa_cons he pa_nil hs) hbase hfew hline hs hplain).weak fun σ H Q ⟨M, ρ, τ, R, q⟩ => ?_
  unfold cExtend at q
  split at q
  · rename_i ek
    unfold okAt at ek
    split at ek
    · rename_i ds0 e0
      obtain ⟨l, vs0, hl, hl0, _⟩ := R.ownL e0
      refine ⟨_, hl, .inl ⟨rfl, vs0, SqL.of hl0⟩, M, ρ, τ, R, post_bind0 q fun w ρ1 y H1 _ R1 q1 => ?_⟩
      dsimp only at q1
      split at q1
      · rename_i ys ew
        split at q1
        · rename_i ρ2 eu
          obtain ⟨ds, ds', h1, h2, rfl⟩ := updL_ok eu
          unfold extD at h2
          rw [fN_eq] at h2
          split at h2
          · rename_i esh
            cases h2
            have hlt := short_ok esh
            have R2 := R1.shr1
            rw [ew] at R2
            obtain ⟨u, eu, ry⟩ := R2.val List.mem_cons_self
            cases eu
            unfold Rep at ry
            obtain ⟨b, zs, rfl, _, hb, ry⟩ := ry
            obtain ⟨l', vs, hl', hv', r, k⟩ := R2.ownL h1
            rw [hl] at hl'
            cases hl'
            have R3 := (k _ _ (r.append ry)).drop1
            exact ⟨l, b, vs, zs, rfl, rfl, hv', hb, by rw [r.len, ry.len]; omega, q1 _ _ (R3.addFlat rfl)⟩
          · cases h2
        · exact q1.elim
      · exact q1.elim
    · cases ek
  · exact q.elim
end
end Dl
namespace Dl
open PySem PySem.Spec L2
open PyProof.Rows hiding St
/-! ### an instance called; methods that change their receiver -/
section
variable {G : Gam} {Wt : WX} {M : Fm} {ρ : Env} {τ : List Ent} {σ : St} {H H' : Hp}
/-- the heap without the cell a -/
def wo (H : Hp) (a : Addr) : Hp := fun b => if b = a then none else H b
theorem wo_ne {a b : Addr} (h : b ≠ a) : wo H a b = H b := if_neg h
theorem wo_at {a : Addr} : wo H a a = none := if_pos rfl
/-- the callee's frame: its self pinned -/
theorem RS.calleeM {vs : List V} {ws : List Sl} {a : Addr} {d : D} (R : RS G M ρ (aents vs ws ++ ((some (.ref a), .own d) :: τ)) σ H) (hv : ws.all isVal = true) :
    RE G a (avoid M.S0 (ents σ ρ ++ τ)) (wo H a) ((some (.ref a), .self d) :: aents vs ws) H := by
  have R1 : RE G M.P M.S0 M.H0 ((aents vs ws ++ [(some (.ref a), .own d)]) ++ (ents σ ρ ++ τ)) H := by
    have e1 : aents vs ws ++ (some (V.ref a), Sl.own d) :: τ = (aents vs ws ++ [(some (V.ref a), Sl.own d)]) ++ τ := by simp
    rw [e1] at R
    exact R.front
  have eo : owns (aents vs ws) = [] := owns_vals hv
  have ow : owns (aents vs ws ++ [(some (V.ref a), Sl.own d)]) = [a] := by rw [owns_append, eo]; rfl
  have nd := R1.nd
  rw [owns_append, ow] at nd
  have na : a ∉ owns (ents σ ρ ++ τ) := (List.nodup_cons.mp nd).1
  have h0 : M.H0 a = none := R1.new a (by rw [owns_append, ow]; exact List.mem_cons_self)
  have nS : ¬ M.S0 a := fun z => by
    obtain ⟨o, e⟩ := R1.inb a z
    rw [h0] at e; cases e
  have ea : avoid M.S0 ((aents vs ws ++ [(some (V.ref a), Sl.own d)]) ++ (ents σ ρ ++ τ)) = avoid (avoid M.S0 (ents σ ρ ++ τ)) ((some (V.ref a), Sl.self d) :: aents vs ws) := by
    rw [avoid_app]
    funext b
    unfold avoid
    rw [owns_append, ow, owns_append (A := (some (V.ref a), Sl.self d) :: aents vs ws), owns_self, eo]
  refine ⟨fun b o e => ?_, fun p hp => ?_, ?_, fun p hp => ?_, fun e he => ?_⟩
  · by_cases z : b = a
    · subst z; rw [wo_at] at e; cases e
    · rwa [wo_ne z] at e
  · have hne : p ≠ a := fun z => by
      subst z
      rcases hp with hp | hp
      · exact nS hp
      · exact na hp
    rw [wo_ne hne]
    rcases hp with hp | hp
    · exact R1.s0 hp
    · exact (RE.drop R1).there hp
  · rw [owns_self, eo]; simp
  · rw [owns_self, eo] at hp
    have e : p = a := by simpa using hp
    rw [e]; exact wo_at
  · rw [← ea]
    rcases List.mem_cons.mp he with he | he
    · subst he
      obtain ⟨q, e, o⟩ := R1.all (some (V.ref a), .own d) (List.mem_append_left _ (List.mem_append_right _ List.mem_cons_self))
      cases e
      exact ⟨rfl, o⟩
    · have hh := R1.all e (List.mem_append_left _ (List.mem_append_left _ he))
      obtain ⟨v, w⟩ := e
      have hw : isVal w = true := List.all_eq_true.mp hv w (List.of_mem_zip he).2
      cases w with
      | val d => exact hh
      | _ => cases hw
/-- behind the call -/
theorem RS.backM {Lr : List Ent} {a : Addr} {d d' : D} (R : RS G M ρ ((some (.ref a), .own d) :: τ) σ H) (hL : ∀ e, e ∈ Lr → ∀ d, e.2 ≠ .self d) (B : RE G a (avoid M.S0 (ents σ ρ ++ τ)) (wo H a) (Lr ++ [(some (.ref a), .self d')]) H') :
    RS G M ρ ((some (.ref a), .own d') :: (Lr ++ τ)) σ H' := by
  have R1 : RE G M.P M.S0 M.H0 ([(some (.ref a), .own d)] ++ (ents σ ρ ++ τ)) H := RS.front (τ' := [_]) R
  have ow : owns [(some (V.ref a), Sl.own d)] = [a] := rfl
  have nd := R1.nd
  rw [owns_append, ow] at nd
  have na : a ∉ owns (ents σ ρ ++ τ) := (List.nodup_cons.mp nd).1
  have h0 : M.H0 a = none := R1.new a (by rw [owns_append, ow]; exact List.mem_cons_self)
  have eo : owns (Lr ++ [(some (V.ref a), Sl.self d')]) = owns (Lr ++ [(some (V.ref a), Sl.own d')]) := by rw [owns_append, owns_append]; rfl
  have p1 : ((Lr ++ [(some (V.ref a), Sl.own d')]) ++ (ents σ ρ ++ τ)).Perm (((some (V.ref a), Sl.own d') :: Lr) ++ (ents σ ρ ++ τ)) := List.Perm.append_right _ (List.perm_append_singleton _ _)
  have fin : RE G M.P M.S0 M.H0 ((Lr ++ [(some (V.ref a), Sl.own d')]) ++ (ents σ ρ ++ τ)) H' := by
    refine RE.next R1 (fun b o e => ?_) (by rw [← eo]; exact B.nd) (fun p hp => ?_) (fun p hp z => ?_) (fun p o hp ho => ?_) (fun b o e hb => ?_) fun e he => ?_
    · have hne : b ≠ a := fun z => by subst z; rw [h0] at e; cases e
      exact B.same b o (by rw [wo_ne hne]; exact R1.same b o e)
    · have := B.new p (by rw [eo]; exact hp)
      by_cases z : p = a
      · rw [z]; exact h0
      · rw [wo_ne z] at this
        exact Same.free R1.same this
    · have := B.new p (by rw [eo]; exact hp)
      by_cases q : p = a
      · subst q; exact na z
      · rw [wo_ne q] at this
        obtain ⟨o, e⟩ := (RE.drop R1).there z
        rw [this] at e; cases e
    · have := B.new p (by rw [eo]; exact hp)
      by_cases q : p = a
      · subst q; rw [ow]; exact List.mem_cons_self
      · rw [wo_ne q, ho] at this; cases this
    · have hne : b ≠ a := fun z => hb (by rw [ow, z]; exact List.mem_cons_self)
      exact B.same b o (by rw [wo_ne hne]; exact e)
    · have ea : avoid (avoid M.S0 (ents σ ρ ++ τ)) (Lr ++ [(some (V.ref a), Sl.self d')]) = avoid M.S0 ((Lr ++ [(some (V.ref a), Sl.own d')]) ++ (ents σ ρ ++ τ)) := by
        rw [avoid_app]
        funext b
        unfold avoid
        rw [owns_append, eo, owns_append (A := Lr ++ [(some (V.ref a), Sl.own d')])]
      rw [← ea]
      rcases List.mem_append.mp he with he | he
      · have hh := B.all e (List.mem_append_left _ he)
        have hs := hL e he
        obtain ⟨v, w⟩ := e
        cases w with
        | self d => exact absurd rfl (hs d)
        | none => exact hh
        | val d => exact hh
        | own d => exact hh
      · have e' : e = (some (.ref a), .own d') := by simpa using he
        subst e'
        obtain ⟨_, o⟩ := B.all (some (.ref a), .self d') (List.mem_append_right _ List.mem_cons_self)
        exact ⟨a, rfl, o⟩
  exact RS.unfront (τ' := (some (V.ref a), Sl.own d') :: Lr) R.len (fin.perm p1)
end
/-- a call with the slot i as the receiver that may be changed -/
def callM (i : Nat) (Ff : FF) (d : D) (ws : List Sl) (ρ : Env) : Res (Sl × Env) := match (ws.map shr).all isVal with
  | true => (match Ff (.self d :: ws.map shr) with
    | .ok (.val v, .self d' :: _) => .ok (.val v, ρ.set i (.own d'))
    | .ok (.own v, .self d' :: _) => .ok (.own v, ρ.set i (.own d'))
    | .exc c fs (.self d' :: _) => .exc c fs (ρ.set i (.own d'))
    | _ => .stuck)
  | false => .stuck
/-- the receiver in the slot i, an object of the class c -/
def recv (i c : Nat) (Ff : FF) (Fs : FA) : FE := fun ρ => match ρ[i]? with
  | some (.val (.obj c' ds)) => (match okC c c' with
    | true => (Fs ρ).bind fun (ws, ρ1) => callF Ff (.val (.obj c ds) :: ws) ρ1
    | false => .stuck)
  | some (.own (.obj c' _)) => (match okC c c' with
    | true => (Fs ρ).bind fun (ws, ρ1) => (match ρ1[i]? with
      | some (.own (.obj c2 ds)) => (match okC c c2 with
        | true => callM i Ff (.obj c ds) ws ρ1
        | false => .stuck)
      | _ => .stuck)
    | false => .stuck)
  | _ => .stuck
section
variable {G : Gam} {Wt : WX} {M : Fm} {ρ : Env} {τ : List Ent} {σ : St} {H H' : Hp} {Ff : FF} {n i c : Nat}
theorem sp_callM {vs : List V} {ws : List Sl} {Q : VK} {a : Addr} {d : D} (hl : ws.length = vs.length) (hn : vs.length + 1 = n) (hi : ρ[i]? = some (.own d)) (hs : σ[i]? = some (some (.ref a))) (R : RS G M ρ (aents vs ws ++ τ) σ H) (h : post G Wt M τ σ (callM i Ff d ws ρ) Q) : spF G n Ff (.ref a :: vs) H Q (WE Wt σ) := by
  unfold callM at h
  split at h
  · rename_i hv
    have R1 := R.shrAll
    obtain ⟨v, e1, R2, _⟩ := R1.pullA hi
    rw [hs] at e1
    cases e1
    have R3 : RS G M (ρ.set i .none) (aents vs (ws.map shr) ++ ((some (.ref a), .own d) :: τ)) σ H := R2.perm List.perm_middle.symm
    have C := R3.calleeM hv
    have R4 : RS G M (ρ.set i .none) ((some (.ref a), .own d) :: τ) σ H := R3.drop
    refine ⟨by simp [← hn], ⟨a, _, wo H a⟩, .self d :: ws.map shr, by simp [hl, ← hn], C, ?_⟩
    have fin : ∀ {Lr : List Ent} {d' : D} {H' : Hp}, (∀ e, e ∈ Lr → ∀ d, e.2 ≠ .self d) → RE G a (avoid M.S0 (ents σ (ρ.set i .none) ++ τ)) (wo H a) (Lr ++ [(some (.ref a), .self d')]) H' → RS G M (ρ.set i (.own d')) (Lr ++ τ) σ H' := fun hL B => RS.push (R4.backM hL B) hs
    split at h
    · rename_i v d' r e
      rw [e]
      intro u H' B
      exact h u H' (fin (Lr := [(some u, .val v)]) (by simp) B)
    · rename_i v d' r e
      rw [e]
      intro u H' B
      exact h u H' (fin (Lr := [(some u, .own v)]) (by simp) B)
    · rename_i c fs d' r e
      rw [e]
      intro dd us H' hx B
      refine h dd us H' hx (fin (fun e he d2 => ?_) B)
      obtain ⟨v, w⟩ := e
      obtain ⟨d3, _, rfl⟩ := List.mem_map.mp (List.of_mem_zip he).2
      exact fun z => nomatch z
    · exact h.elim
  · exact h.elim
/-- the receiver's promise, whatever it is -/
theorem recv_run {Q : VK} {Fs : FA} (hn : ∀ ρ ws ρ', Fs ρ = .ok (ws, ρ') → ws.length + 1 = n) (R : RS G M ρ τ σ H) (q : post G Wt M τ σ (recv i c Ff Fs ρ) Q) :
    ∃ a dx fs nn τ', σ[i]? = some (some (.ref a)) ∧ H a = some (.ins (G.ca c) dx fs) ∧ fs.map (·.1) = (G.fs c).take nn ∧ RS G M ρ τ' σ H ∧ postA G Wt M τ' σ (Fs ρ) fun vs H2 => (∃ dx fs, H2 a = some (.ins (G.ca c) dx fs)) ∧ spF G n Ff (.ref a :: vs) H2 Q (WE Wt σ) := by
  unfold recv at q
  split at q
  · rename_i c' ds e
    split at q
    · rename_i ec
      have ec' := okC_eq ec
      subst ec'
      obtain ⟨v, e1, e2⟩ := R.at_ e
      have hm : (v, Sl.val (.obj c ds)) ∈ ents σ ρ ++ τ := List.mem_append_left _ (List.mem_of_getElem? e2)
      obtain ⟨u, rfl, r⟩ := R.re.val hm
      obtain ⟨a, dx, fs, rfl, ha, hnn, _⟩ := r.obj_at
      refine ⟨a, dx, fs, _, _, e1, ha, hnn, R.addVal r, post_bindA q (fun _ _ _ _ z => xe_drop z) fun ws ρ2 vs H2 e3 l R3 p2 => ⟨?_, ?_⟩⟩
      · obtain ⟨u, eu, r2⟩ := R3.re.val (d := .obj c ds) (v := some (.ref a)) (List.mem_append_right _ (List.mem_append_right _ List.mem_cons_self))
        cases eu
        obtain ⟨a', dx', fs', ea, ha', _⟩ := r2.obj_at
        cases ea
        exact ⟨dx', fs', ha'⟩
      · exact sp_call (vs := .ref a :: vs) (by simp [l]) (by have := hn _ _ _ e3; simp [← l]; omega) (R3.perm List.perm_middle) p2
    · exact q.elim
  · rename_i c' ds e
    split at q
    · rename_i ec
      have ec' := okC_eq ec
      subst ec'
      obtain ⟨v, e1, e2⟩ := R.at_ e
      obtain ⟨a, dx, fs, rfl, ha, hnn, _⟩ := (R.re.all (v, Sl.own (.obj c ds)) (List.mem_append_left _ (List.mem_of_getElem? e2))).obj rfl
      refine ⟨a, dx, fs, _, τ, e1, ha, hnn, R, post_bindA q (fun _ _ _ _ z => z) fun ws ρ2 vs H2 e3 l R3 p2 => ?_⟩
      dsimp only at p2
      split at p2
      · rename_i c2 ds2 e4
        split at p2
        · rename_i ec2
          have ec' := okC_eq ec2
          subst ec'
          obtain ⟨v', e1', e2'⟩ := R3.at_ e4
          rw [e1] at e1'
          cases e1'
          obtain ⟨a', dx', fs', ea, ha', hnn', _⟩ := (R3.re.all (some (V.ref a), Sl.own (.obj c ds2)) (List.mem_append_left _ (List.mem_of_getElem? e2'))).obj rfl
          cases ea
          exact ⟨⟨dx', fs', ha'⟩, sp_callM l (by have := hn _ _ _ e3; omega) e4 e1 R3 p2⟩
        · exact p2.elim
      · exact p2.elim
    · exact q.elim
  · exact q.elim
end
section
variable {X : Cx} {pins : List (Addr × Obj)} {σ : St} {H : Hp} {s : Shared} {a C dx : Addr} {fs : List (Str × V)} {f : Str} {v : V} {A : Around}
theorem getmeth_fld {pl : Sem Bool} {Q : Value × List Value → Shared → Prop} (I : Inv X pins σ H s) (e : H a = some (.ins C dx fs)) (c : Cls X.K C) (n : NoAttr X.K C f) (l : fs.lookup f = some v)
    (h : ∀ u s', Inv X pins σ H s' → RelV v u → Q (u, []) s') : wpAny (model X.prog X.w) A (getMethod (.ref a) f pl) Q X.xe s := by
  obtain ⟨mA, O, r, _, _, _⟩ := ins_get I.hok e
  obtain ⟨od, J, hl⟩ := O.look
  have hcan := PySem.F.canon_object_ga
  have hg := PySem.W.plainGet_of (c.get f)
  unfold getMethod specialOf
  refine wpAny_bind (wpAny_bind (J.type.here ((PySem.W.looks_findIn I.kIn hg.1).here ?_)))
  dsimp only
  rw [hcan, if_neg (by decide)]
  refine wpAny_bind (wpAny_bind (J.type.here ((PySem.W.looks_findIn I.kIn hg.2).here ?_)))
  refine wpAny_bind (wpAny_bind (J.type.here ((PySem.W.looks_findIn I.kIn n).here ?_)))
  exact wpAny_bind (getattr_ok I e c n l fun u s' I' ru => wpAny_pure (h u s' I' ru))
end
section
variable {X : Cx} {G : Gam} {Wt : WX} {E : St → XK} {sp : Sp} {k : Nat} {g fa : Addr} {fd : FuncData} {ps : List Str} {fe o e : Expr} {es : List Expr} {tf ta : TE} {t : TA} {C : Addr} {p pos apos : Pos} {f m x : Str}
theorem run_callOS {pins : List (Addr × Obj)} {σ : L2.St} {H : Hp} {s : Shared} {Q : VK} {a : Addr} {us : List Value} {vs : List V} (c : StX.CallO X.K C g) (F : FnOk X.prog X.w X.K X.mg X.base (L2.CX X.prog X.w) k g fd ps sp) (hr : Room k X.A) (hb : Binds X.K fd ps []) (hx : PassesAt (L2.CX X.prog X.w) X σ (E σ)) (I : Inv X pins σ H s) (hi : ∃ dx fs, H a = some (.ins C dx fs)) (r : Vals vs us)
    (h : sp (V.ref a :: vs) H Q (E σ)) : wpAny (model X.prog X.w) X.A (call (.ref a) us) (EP X pins σ Q) X.xe s := by
  obtain ⟨ox, od, J, hd⟩ := StX.insC_at (X := X) I (.inr hi)
  have r2 : Vals (V.ref a :: vs) (Value.ref a :: us) := .cons rfl r
  have hl : ((Value.ref a :: us) ++ ([] : List Value)).length = ps.length := by rw [List.append_nil, ← r2.length]; exact F.len _ _ _ _ h
  refine wpAny_call (PySem.W.kco_code I.kIn J hd c.at_ c.fn c.fi ?_)
  refine codeAny_mono (F.run X.A X.stack s H ⟨Value.ref a :: us, []⟩ (Value.ref a :: us) (V.ref a :: vs) Q (E σ) hr I.env0 (by have := hb s (Value.ref a :: us) I.kIn hl; rwa [List.append_nil] at this) r2 h) fun r s' hq => ?_
  cases r with
  | error e => exact hx pins H s e s' I hq
  | ok fl =>
    cases fl with
    | ret u => exact I.after hq
    | next => exact False.elim hq
    | brk => exact False.elim hq
    | cont => exact False.elim hq
theorem pe_callOS (hf : PE X fe tf) (c : StX.CallO X.K C g) (F : FnOk X.prog X.w X.K X.mg X.base (L2.CX X.prog X.w) k g fd ps sp) (hr : Room k X.A) (hb : Binds X.K fd ps []) (hx : ∀ σ, PassesAt (L2.CX X.prog X.w) X σ (E σ)) (ha : PA X (e :: es) t)
    (ht : eval (.Call fe (e :: es) [] pos) X.env = (do callWith pos (← eval fe X.env) [] (backTo pos (starEach (e :: es) X.env)) (backToKw pos (keywordEach [] X.env))) := by rfl)
    (he : starEach (e :: es) X.env = (false, eval e X.env) :: starEach es X.env := by rfl) (hpl : (backTo pos (starEach es X.env)).any (·.1) = false := by rfl) :
    PE X (.Call fe (e :: es) [] pos) (fun σ H Q => tf σ H fun y H1 => ∃ a, y = V.ref a ∧ t σ H1 fun vs H2 => (∃ dx fs, H2 a = some (.ins C dx fs)) ∧ sp (V.ref a :: vs) H2 Q (E σ)) := by
  refine ⟨fun pins s σ H Q I h => ?_⟩
  refine Call_ (thn (hf.run pins s σ H _ I h) fun u s1 ⟨y, H1, I1, ry, a, ey, q⟩ => ?_) ht
  subst ey
  obtain rfl : u = Value.ref a := ry
  refine StX.callO_with (thn (ha.run pos pins s1 σ H1 _ I1 q) fun us s2 ⟨vs, H2, I2, r, hi, q2⟩ => ?_) he hpl
  obtain ⟨ox, od, J, hd⟩ := StX.insC_at (X := X) I2 (.inr hi)
  exact ⟨⟨C, ox, od, J, hd⟩, run_callOS c F hr hb (hx σ) I2 hi r q2⟩
/-- o.f(e, ..), f a field that holds an instance that may be called -/
theorem pe_fldcallS {C1 : Addr} {pl : Sem Bool} (he : PE X o ta) (cl : Cls X.K C1) (na : NoAttr X.K C1 f) (c : StX.CallO X.K C g) (F : FnOk X.prog X.w X.K X.mg X.base (L2.CX X.prog X.w) k g fd ps sp) (hr : Room k X.A) (hb : Binds X.K fd ps []) (hx : ∀ σ, PassesAt (L2.CX X.prog X.w) X σ (E σ)) (ha : PA X (e :: es) t)
    (hst : starEach (e :: es) X.env = (false, eval e X.env) :: starEach es X.env := by rfl) (hpl : (backTo pos (starEach es X.env)).any (·.1) = false := by rfl)
    (ht : eval (.Call (.Attribute o f apos) (e :: es) [] pos) X.env = (do
      let ov ← eval o X.env
      standAt apos.atName
      let (f, first) ← holding [ov] (getMethod ov f pl)
      callWith pos f first (backTo pos (starEach (e :: es) X.env)) (backToKw pos (keywordEach [] X.env))) := by rfl) :
    PE X (.Call (.Attribute o f apos) (e :: es) [] pos) (fun σ H Q => ta σ H fun x H1 => ∃ a dx fs b, x = .ref a ∧ H1 a = some (.ins C1 dx fs) ∧ fs.lookup f = some (.ref b) ∧ t σ H1 fun vs H2 => (∃ dx fs, H2 b = some (.ins C dx fs)) ∧ sp (.ref b :: vs) H2 Q (E σ)) := by
  refine ⟨fun pins s σ H Q I h => ?_⟩
  refine PySem.W.methodCall_KW (pl := pl) (thn (he.run pins s σ H _ I h) fun u s1 ⟨x, H1, I1, rx, a, dx, fs, b, ex, ea, l, q⟩ => ?_) ht
  subst ex
  obtain rfl : u = Value.ref a := rx
  refine getmeth_fld I1 ea cl na l fun u' s1' I1' ru => ?_
  obtain rfl : u' = Value.ref b := ru
  refine StX.callO_with (thn (ha.run pos pins s1' σ H1 _ I1' q) fun us s2 ⟨vs, H2, I2, r, hi, q2⟩ => ?_) hst hpl
  obtain ⟨ox, od, J, hd⟩ := StX.insC_at (X := X) I2 (.inr hi)
  exact ⟨⟨C, ox, od, J, hd⟩, run_callOS c F hr hb (hx σ) I2 hi r q2⟩
end
section
variable {X : Cx} {G : Gam} {Wt : WX} {k n i c c1 k1 : Nat} {g fa : Addr} {fd : FuncData} {ps : List Str} {fe o e : Expr} {es : List Expr} {Fa : FE} {Fs : FA} {Ff : FF} {p pos apos : Pos} {f m x : Str}
/-- x(e, ..), x a name -/
theorem e_callN (hK : X.K = G.K) (hc : StX.CallO G.K (G.ca c) g) (F : FnOk X.prog X.w X.K X.mg X.base (L2.CX X.prog X.w) k g fd ps (spF G n Ff)) (hr : Room k X.A) (hb : Binds X.K fd ps []) (tk : Takes X Wt) (hN : X.N[i]? = some x) (hv : Vis X.env.scope x) (ha : PA X (e :: es) (tA G Wt Fs)) (hn : ∀ ρ ws ρ', Fs ρ = .ok (ws, ρ') → ws.length + 1 = n)
    (ht : eval (.Call (.Name x p) (e :: es) [] pos) X.env = (do callWith pos (← eval (.Name x p) X.env) [] (backTo pos (starEach (e :: es) X.env)) (backToKw pos (keywordEach [] X.env))) := by rfl)
    (he : starEach (e :: es) X.env = (false, eval e X.env) :: starEach es X.env := by rfl) (hpl : (backTo pos (starEach es X.env)).any (·.1) = false := by rfl)
    (hd : (x == ("__debug__" : Str)) = false := by decide) (hcd : (x == ("__classdict__" : Str)) = false := by decide) : PE X (.Call (.Name x p) (e :: es) [] pos) (tE G Wt (recv i c Ff Fs)) := by
  refine (pe_callOS (E := WE Wt) (C := G.ca c) (pe_var hN hv hd hcd) (by rw [hK]; exact hc) F hr hb (fun σ => passAt tk σ) ha ht he hpl).weak fun σ H Q ⟨M, ρ, τ, R, q⟩ => ?_
  obtain ⟨a, dx, fs, nn, τ', h1, h2, h3, R2, q2⟩ := recv_run hn R q
  exact ⟨_, h1, a, rfl, M, ρ, τ', R2, q2⟩
/-- x.m(e, ..), x a name -/
theorem e_methN {pl : Sem Bool} (hK : X.K = G.K) (cl : Cls G.K (G.ca c)) (hm : Meth G.K (G.ca c) m fa) (hno : (G.fs c).all (fun g => !(g == m)) = true) (F : FnOk X.prog X.w X.K X.mg X.base (L2.CX X.prog X.w) k fa fd ps (spF G n Ff)) (hr : Room k X.A) (hb : Binds X.K fd ps []) (tk : Takes X Wt) (hN : X.N[i]? = some x) (hv : Vis X.env.scope x) (ha : PA X (e :: es) (tA G Wt Fs)) (hn : ∀ ρ ws ρ', Fs ρ = .ok (ws, ρ') → ws.length + 1 = n)
    (hst : starEach (e :: es) X.env = (false, eval e X.env) :: starEach es X.env := by rfl) (hpl : (backTo pos (starEach es X.env)).any (·.1) = false := by rfl)
    (ht : eval (.Call (.Attribute (.Name x p) m apos) (e :: es) [] pos) X.env = (do
      let ov ← eval (.Name x p) X.env
      standAt apos.atName
      let (f, first) ← holding [ov] (getMethod ov m pl)
      callWith pos f first (backTo pos (starEach (e :: es) X.env)) (backToKw pos (keywordEach [] X.env))) := by rfl)
    (hd : (x == ("__debug__" : Str)) = false := by decide) (hcd : (x == ("__classdict__" : Str)) = false := by decide) :
    PE X (.Call (.Attribute (.Name x p) m apos) (e :: es) [] pos) (tE G Wt (recv i c Ff Fs)) := by
  refine (pe_methS (E := WE Wt) (C := G.ca c) (pe_var hN hv hd hcd) (by rw [hK]; exact cl) (by rw [hK]; exact hm) F hr hb (fun σ => passAt tk σ) ha hst hpl ht).weak fun σ H Q ⟨M, ρ, τ, R, q⟩ => ?_
  obtain ⟨a, dx, fs, nn, τ', h1, h2, h3, R2, q2⟩ := recv_run hn R q
  refine ⟨_, h1, a, dx, fs, rfl, h2, lookup_no h3 hno, M, ρ, τ', R2, ?_⟩
  cases e1 : Fs ρ with
  | ok y => rw [e1] at q2; exact fun vs H2 l R3 => (q2 vs H2 l R3).2
  | exc c fs ρ' => rw [e1] at q2; exact q2
  | stuck => rw [e1] at q2; exact q2
end
end Dl
namespace Dl
open PySem PySem.Spec L2
open PyProof.Rows hiding St
/-! ### owned things lent to an expression whose value keeps nothing of them -/
mutual
def pureD : D → Bool
  | .non => true
  | .bl _ => true
  | .int _ => true
  | .str _ => true
  | .tup ds => pureDs ds
  | _ => false
def pureDs : List D → Bool
  | [] => true
  | d :: ds => match pureD d with
    | true => pureDs ds
    | false => false
end
def pureS : Sl → Bool
  | .val d => pureD d
  | .own (.lst ds) => pureDs ds
  | .own (.obj _ ds) => pureDs ds
  | .own (.dic _ ds) => pureDs ds
  | _ => false
def memN (i : Nat) : List Nat → Bool
  | [] => false
  | j :: js => match Nat.beq i j with
    | true => true
    | false => memN i js
def maskS (js : List Nat) (i : Nat) : Sl → Sl
  | .val d => .val d
  | .own d => (match memN i js with
    | true => .val d
    | false => .none)
  | .self d => (match memN i js with
    | true => .val d
    | false => .none)
  | .none => .none
def mask (js : List Nat) : Nat → Env → Env
  | _, [] => []
  | i, w :: ρ => maskS js i w :: mask js (i + 1) ρ
def cBor (js : List Nat) (F : FE) : FE := fun ρ => match F (mask js 0 ρ) with
  | .ok (w, _) => (match pureS w with
    | true => .ok (w, ρ)
    | false => .stuck)
  | .exc c fs _ => (match pureDs fs with
    | true => .exc c fs ρ
    | false => .stuck)
  | .stuck => .stuck
def cBorT (js : List Nat) (F : FT) : FT := fun ρ => match F (mask js 0 ρ) with
  | .ok (b, _) => .ok (b, ρ)
  | .exc c fs _ => (match pureDs fs with
    | true => .exc c fs ρ
    | false => .stuck)
  | .stuck => .stuck
section
variable {G : Gam} {S S2 : Addr → Prop} {H : Hp}
mutual
theorem pure_rep (k : ∀ p vs, ¬ S p → Rd H p (.tup vs) → ¬ S2 p) : ∀ (d : D) (v : V), pureD d = true → Rep G S H d v → Rep G S2 H d v
  | .non, v, _, r => r
  | .bl _, v, _, r => r
  | .int _, v, _, r => r
  | .str _, v, _, r => r
  | .tup ds, v, h, r => by
    unfold Rep at r ⊢
    obtain ⟨p, vs, e, hp, r⟩ := r
    refine ⟨p, vs, e, ?_, pure_reps k ds vs (by unfold pureD at h; exact h) r⟩
    rcases hp with ⟨n, hp⟩ | hp
    · exact .inl ⟨k p vs n hp, hp⟩
    · exact .inr hp
theorem pure_reps (k : ∀ p vs, ¬ S p → Rd H p (.tup vs) → ¬ S2 p) : ∀ (ds : List D) (vs : List V), pureDs ds = true → Reps G S H ds vs → Reps G S2 H ds vs
  | [], vs, _, r => r
  | d :: ds, vs, h, r => by
    unfold pureDs at h
    obtain ⟨v, q, e, h1, h2⟩ := r
    cases e1 : pureD d with
    | true =>
      rw [e1] at h
      exact ⟨v, q, e, pure_rep k d v e1 h1, pure_reps k ds q h h2⟩
    | false => rw [e1] at h; cases h
end
end
theorem mask_len {js : List Nat} : ∀ {ρ : Env} {i : Nat}, (mask js i ρ).length = ρ.length
  | [], i => rfl
  | w :: ρ, i => by unfold mask; rw [List.length_cons, List.length_cons, mask_len]
theorem mask_get {js : List Nat} : ∀ {ρ : Env} {i k : Nat}, (mask js i ρ)[k]? = (ρ[k]?).map (maskS js (i + k))
  | [], i, k => by simp [mask]
  | w :: ρ, i, 0 => by simp [mask]
  | w :: ρ, i, k + 1 => by
    unfold mask
    rw [List.getElem?_cons_succ, List.getElem?_cons_succ, mask_get, show i + 1 + k = i + (k + 1) by omega]
section
variable {G : Gam} {Wt : WX} {M : Fm} {ρ : Env} {τ : List Ent} {σ : St} {H : Hp} {js : List Nat}
def isOwn : Sl → Bool
  | .own _ => true
  | .self _ => true
  | _ => false
abbrev borM (M : Fm) (js : List Nat) (ρ : Env) (τ : List Ent) (σ : St) (H : Hp) : Fm := ⟨M.P, fun p => avoid M.S0 (ents σ ρ ++ τ) p ∧ ¬ ∃ j w, memN j js = true ∧ ρ[j]? = some w ∧ isOwn w = true ∧ σ[j]? = some (some (V.ref p)), H⟩
theorem owns_masked : owns (ents σ (mask js 0 ρ)) = [] := by
  unfold owns
  rw [List.filterMap_eq_nil_iff]
  intro e he
  obtain ⟨k, hk⟩ := List.getElem?_of_mem he
  rw [List.getElem?_zip_eq_some] at hk
  obtain ⟨_, h2⟩ := hk
  rw [mask_get] at h2
  obtain ⟨w, _, e2⟩ := Option.map_eq_some_iff.mp h2
  obtain ⟨v, w'⟩ := e
  have e3 : maskS js (0 + k) w = w' := e2
  subst e3
  unfold maskS
  cases w with
  | none => cases v with
    | none => rfl
    | some u => cases u <;> rfl
  | val d => cases v with
    | none => rfl
    | some u => cases u <;> rfl
  | own d =>
    dsimp only
    split
    · cases v with
      | none => rfl
      | some u => cases u <;> rfl
    · cases v with
      | none => rfl
      | some u => cases u <;> rfl
  | self d =>
    dsimp only
    split
    · cases v with
      | none => rfl
      | some u => cases u <;> rfl
    · cases v with
      | none => rfl
      | some u => cases u <;> rfl
theorem RS.lend (R : RS G M ρ τ σ H) : RS G (borM M js ρ τ σ H) (mask js 0 ρ) [] σ H := by
  have eo : owns (ents σ (mask js 0 ρ) ++ []) = [] := by rw [List.append_nil]; exact owns_masked
  refine ⟨by rw [mask_len]; exact R.len, Same.refl H, fun p h => ?_, (by rw [eo]; exact List.nodup_nil), (by rw [eo]; exact fun _ h => nomatch h), fun e he => ?_⟩
  · rcases h.1 with h | h
    · exact R.re.s0 h
    · exact R.re.there h
  · rw [List.append_nil] at he
    have av : avoid (borM M js ρ τ σ H).S0 (ents σ (mask js 0 ρ) ++ []) = (borM M js ρ τ σ H).S0 := by
      funext a
      unfold avoid
      rw [eo]
      simp
    rw [av]
    obtain ⟨k, hk⟩ := List.getElem?_of_mem he
    rw [List.getElem?_zip_eq_some] at hk
    obtain ⟨h1, h2⟩ := hk
    rw [mask_get] at h2
    obtain ⟨w, hw, e2⟩ := Option.map_eq_some_iff.mp h2
    obtain ⟨v, w'⟩ := e
    have e3 : maskS js (0 + k) w = w' := e2
    rw [Nat.zero_add] at e3
    subst e3
    have h1' : σ[k]? = some v := h1
    have hm : (v, w) ∈ ents σ ρ ++ τ := List.mem_append_left _ (List.mem_of_getElem? (by rw [List.getElem?_zip_eq_some]; exact ⟨h1, hw⟩))
    have hh := R.re.all _ hm
    have tr : Tr (avoid M.S0 (ents σ ρ ++ τ)) H (borM M js ρ τ σ H).S0 H := Tr.of fun a o n e => ⟨e, fun z => n z.1⟩
    unfold maskS
    cases w with
    | none => exact True.intro
    | val d =>
      obtain ⟨u, e, r⟩ := hh
      exact ⟨u, e, r.tr tr⟩
    | own d =>
      dsimp only
      split
      · rename_i em
        obtain ⟨p, e, o⟩ := hh
        subst e
        exact ⟨_, rfl, (o.tr tr rfl).rep fun z => z.2 ⟨k, _, em, hw, rfl, h1'⟩⟩
      · exact True.intro
    | self d =>
      dsimp only
      split
      · rename_i em
        obtain ⟨e, o⟩ := hh
        have e' : v = some (.ref M.P) := e
        subst e'
        exact ⟨_, rfl, (o.tr tr rfl).rep fun z => z.2 ⟨k, _, em, hw, rfl, h1'⟩⟩
      · exact True.intro
theorem bor_tup {H' : Hp} (R : RS G M ρ τ σ H) (same : Same H H') {L : List Ent} : ∀ p vs, ¬ avoid (borM M js ρ τ σ H).S0 L p → Rd H' p (.tup vs) → ¬ avoid M.S0 (ents σ ρ ++ τ) p := by
  intro p vs n rd z
  have n2 : ¬ (borM M js ρ τ σ H).S0 p := fun q => n (.inl q)
  have : ∃ j w, memN j js = true ∧ ρ[j]? = some w ∧ isOwn w = true ∧ σ[j]? = some (some (.ref p)) := by
    by_cases q : ∃ j w, memN j js = true ∧ ρ[j]? = some w ∧ isOwn w = true ∧ σ[j]? = some (some (.ref p))
    · exact q
    · exact absurd ⟨z, q⟩ n2
  obtain ⟨j, w, _, hw, ho, hs⟩ := this
  obtain ⟨v, e1, e2⟩ := R.at_ hw
  rw [hs] at e1
  cases e1
  have hh := R.re.all _ (List.mem_append_left _ (List.mem_of_getElem? e2))
  have own : ∀ d S, OwnAt G S H p d → False := fun d S o => by
    have go : ∀ o, H p = some o → (∀ z, o ≠ .tup z) → (∀ ob z, o ≠ .frz ob (.tup z)) → False := fun o e n1 n2 => by
      have e' := same p o e
      rcases rd with rd | ⟨ob, rd⟩
      · rw [e'] at rd; exact n1 _ (Option.some.inj rd)
      · rw [e'] at rd; exact n2 _ _ (Option.some.inj rd)
    cases d with
    | lst ds => obtain ⟨_, e, _⟩ := o; exact go _ e (fun _ z => nomatch z) (fun _ _ z => nomatch z)
    | dic ks ds => obtain ⟨_, e, _⟩ := o; exact go _ e (fun _ z => nomatch z) (fun _ _ z => nomatch z)
    | obj c ds => obtain ⟨_, _, e, _⟩ := o; exact go _ e (fun _ z => nomatch z) (fun _ _ z => nomatch z)
    | _ => exact o.elim
  cases w with
  | own d =>
    obtain ⟨q, e, o⟩ := hh
    cases e
    exact own _ _ o
  | self d =>
    obtain ⟨e, o⟩ := hh
    have e' : M.P = p := by
      have e' : some (V.ref p) = some (V.ref M.P) := e
      cases e'; rfl
    rw [e'] at o
    exact own _ _ o
  | none => cases ho
  | val d => cases ho
theorem RS.lentS {w : Sl} {v : V} {H' : Hp} {ρ' : Env} (R : RS G M ρ τ σ H) (h : pureS w = true) (B0 : RS G (borM M js ρ τ σ H) ρ' [(some v, w)] σ H') : RS G M ρ ((some v, w) :: τ) σ H' := by
  have B : RE G M.P (borM M js ρ τ σ H).S0 H [(some v, w)] H' := B0.re.drop
  have k := bor_tup R B.same (js := js) (L := [(some v, w)])
  have hh := B.all _ List.mem_cons_self
  cases w with
  | val d =>
    obtain ⟨u, e, r⟩ := hh
    cases e
    exact (R.grow B.same).addVal (pure_rep k d v h r)
  | own d =>
    obtain ⟨p, e, o⟩ := hh
    cases e
    have hp : H p = none := B.new p (by simp [ownOf])
    have o2 : OwnAt G (avoid M.S0 ([(some (V.ref p), .own d)] ++ (ents σ ρ ++ τ))) H' p d := by
      have kk : ∀ q vs, ¬ avoid (borM M js ρ τ σ H).S0 [(some (V.ref p), .own d)] q → Rd H' q (.tup vs) → ¬ avoid M.S0 ([(some (V.ref p), .own d)] ++ (ents σ ρ ++ τ)) q := fun q vs n rd z => by
        rcases z with z | z
        · exact k q vs n rd (.inl z)
        · rw [owns_append] at z
          rcases List.mem_append.mp z with z | z
          · exact n (.inr z)
          · exact k q vs n rd (.inr z)
      cases d with
      | lst ds => obtain ⟨vs, e, r⟩ := o; exact ⟨vs, e, pure_reps kk ds vs h r⟩
      | dic ks ds => obtain ⟨vs, e, m, r⟩ := o; exact ⟨vs, e, m, pure_reps kk ds _ h r⟩
      | obj c ds => obtain ⟨dx, vs, e, m, r⟩ := o; exact ⟨dx, vs, e, m, pure_reps kk ds _ h r⟩
      | _ => exact o.elim
    refine RS.unfront (τ' := [_]) R.len (RE.next (A := []) (B := ents σ ρ ++ τ) R.re (R.re.same.trans B.same) (by simp [ownOf]) (fun q hq => ?_) (fun q hq z => ?_) (fun q o hq ho => ?_) (fun a o e _ => B.same a o e) fun e he => ?_)
    · have e : q = p := by simpa [ownOf] using hq
      rw [e]; exact Same.free R.re.same hp
    · have e : q = p := by simpa [ownOf] using hq
      obtain ⟨o, ho⟩ := R.re.there z
      rw [e, hp] at ho; cases ho
    · have e : q = p := by simpa [ownOf] using hq
      rw [e, hp] at ho; cases ho
    · have e' : e = (some (.ref p), .own d) := by simpa using he
      subst e'
      exact ⟨p, rfl, o2⟩
  | none => cases h
  | self d => cases h
theorem RS.lentX {vs : List V} {fs : List D} {H' : Hp} {ρ' : Env} {c : Nat} {dd : Option Addr} (R : RS G M ρ τ σ H) (h : pureDs fs = true) (hx : RX G c fs dd vs H') (B0 : RS G (borM M js ρ τ σ H) ρ' (xents vs fs ++ []) σ H') : RS G M ρ (xents vs fs ++ τ) σ H' := by
  rcases hx with ⟨rfl, _, rfl⟩ | ⟨d0, d, v, n, _, rfl, rfl, _, _⟩
  · have B : RE G M.P (borM M js ρ τ σ H).S0 H [] H' := B0.re.drop
    exact R.grow B.same
  · have hd : pureD d = true := by
      unfold pureDs at h
      cases e : pureD d with
      | true => rfl
      | false => rw [e] at h; cases h
    exact R.lentS (w := .val d) hd B0
end
section
variable {X : Cx} {G : Gam} {Wt : WX} {e : Expr} {F : FE} {T : FT}
theorem e_bor (js : List Nat) (h : PE X e (tE G Wt F)) : PE X e (tE G Wt (cBor js F)) := by
  refine h.weak fun σ H Q ⟨M, ρ, τ, R, q⟩ => ⟨_, _, _, R.lend (js := js), ?_⟩
  unfold cBor at q
  cases ef : F (mask js 0 ρ) with
  | ok a =>
    obtain ⟨w, ρ'⟩ := a
    rw [ef] at q
    dsimp only at q
    split at q
    · rename_i ep
      exact fun v H' B => q v H' (R.lentS ep B)
    · exact q.elim
  | exc c fs ρ' =>
    rw [ef] at q
    dsimp only at q
    split at q
    · rename_i ep
      exact fun dd vs H' hx B => q dd vs H' hx (R.lentX ep hx B)
    · exact q.elim
  | stuck => rw [ef] at q; exact q
theorem t_bor (js : List Nat) (h : PT X e (tT G Wt T)) : PT X e (tT G Wt (cBorT js T)) := by
  refine h.weak fun σ H Q ⟨M, ρ, τ, R, q⟩ => ⟨_, _, _, R.lend (js := js), ?_⟩
  unfold cBorT at q
  cases ef : T (mask js 0 ρ) with
  | ok a =>
    obtain ⟨w, ρ'⟩ := a
    rw [ef] at q
    dsimp only at q
    exact fun H' B => q H' (R.grow (RE.drop (A := ents σ ρ') B.re).same)
  | exc c fs ρ' =>
    rw [ef] at q
    dsimp only at q
    split at q
    · rename_i ep
      exact fun dd vs H' hx B => q dd vs H' hx (R.lentX ep hx B)
    · exact q.elim
  | stuck => rw [ef] at q; exact q
end
end Dl
namespace Dl
open PySem PySem.Spec L2
open PyProof.Rows hiding St
/-! ### comprehensions -/
abbrev W0 : WX := fun _ _ _ _ => False
theorem takes0 {X : Cx} : Takes X W0 := fun u s' h => by
  obtain ⟨_, _, _, _, _, _, _, _, _, _, _, z⟩ := h
  exact z.2.2.2.2.2.elim
def wipeE (ρ : Env) : List Nat → Env
  | [] => ρ
  | v :: vs => (wipeE ρ vs).set v .none
def slAt (ρ : Env) (v : Nat) : Sl := match ρ[v]? with
  | some w => w
  | none => .none
def backE (ρ : Env) : Env → List Nat → Env
  | ρ', [] => ρ'
  | ρ', v :: vs => backE ρ (ρ'.set v (slAt (wipeE ρ vs) v)) vs
def stAt (σ : St) (v : Nat) : Option V := match σ[v]? with
  | some w => w
  | none => none
def saveE (σ : St) (ρ : Env) : List Nat → List Ent
  | [] => []
  | v :: vs => (stAt (wipe σ vs) v, slAt (wipeE ρ vs) v) :: saveE σ ρ vs
section
variable {G : Gam} {M : Fm} {ρ ρ' : Env} {τ : List Ent} {σ : St} {H : Hp} {i : Nat}
theorem RS.setN (R : RS G M ρ τ σ H) (u : Option V) : RS G M (ρ.set i .none) ((stAt σ i, slAt ρ i) :: τ) (σ.set i u) H := by
  by_cases hi : i < ρ.length
  · obtain ⟨v, e1, e2⟩ := R.at_ (List.getElem?_eq_getElem hi)
    have es : stAt σ i = v := by unfold stAt; rw [e1]
    have ew : slAt ρ i = ρ[i] := by unfold slAt; rw [List.getElem?_eq_getElem hi]
    rw [es, ew]
    refine ⟨by rw [List.length_set, List.length_set]; exact R.len, ?_⟩
    have R1 : RE G M.P M.S0 M.H0 ((v, ρ[i]) :: ((ents σ ρ).eraseIdx i ++ τ)) H := R.re.perm (ents_perm e2)
    have R2 : RE G M.P M.S0 M.H0 ((u, Sl.none) :: (v, ρ[i]) :: ((ents σ ρ).eraseIdx i ++ τ)) H := R1.addNone
    refine R2.perm ?_
    exact ((List.Perm.swap _ _ _).trans (List.Perm.cons _ (ents_perm_set e2).symm)).trans List.perm_middle.symm
  · have l1 : ρ.set i .none = ρ := List.set_eq_of_length_le (by omega)
    have l2 : σ.set i u = σ := List.set_eq_of_length_le (by have := R.len; omega)
    have e1 : slAt ρ i = .none := by unfold slAt; rw [List.getElem?_eq_none (by omega)]
    rw [l1, l2, e1]
    exact ⟨R.len, (RE.addNone R.re).perm List.perm_middle.symm⟩
theorem RS.unset {w : Sl} {u : Option V} (R : RS G M ρ' ((stAt σ i, w) :: τ) (σ.set i u) H) : RS G M (ρ'.set i w) τ σ H := by
  have hl : ρ'.length = σ.length := by have := R.len; rwa [List.length_set] at this
  by_cases hi : i < ρ'.length
  · obtain ⟨v, e1, e2⟩ := R.at_ (List.getElem?_eq_getElem hi)
    refine ⟨by rw [List.length_set]; exact hl, ?_⟩
    have R1 := RS.front (τ' := [_]) R
    have R2 : RE G M.P M.S0 M.H0 ((v, ρ'[i]) :: (stAt σ i, w) :: ((ents (σ.set i u) ρ').eraseIdx i ++ τ)) H := R1.perm ((List.Perm.cons _ (ents_perm e2)).trans (List.Perm.swap _ _ _))
    have R3 := RE.drop (A := [(v, ρ'[i])]) R2
    have p := ents_perm_set (v' := stAt σ i) (w' := w) (τ := τ) e2
    have es : (σ.set i u).set i (stAt σ i) = σ := by
      rw [List.set_set]
      unfold stAt
      rw [List.getElem?_eq_getElem (by omega)]
      exact List.set_getElem_self _
    rw [es] at p
    exact R3.perm p.symm
  · have l1 : ρ'.set i w = ρ' := List.set_eq_of_length_le (by omega)
    have l2 : σ.set i u = σ := List.set_eq_of_length_le (by omega)
    rw [l1]
    rw [l2] at R
    exact R.drop1
theorem RS.save (R : RS G M ρ τ σ H) : ∀ vs : List Nat, RS G M (wipeE ρ vs) (saveE σ ρ vs ++ τ) (wipe σ vs) H
  | [] => R
  | v :: vs => RS.setN (RS.save R vs) none
theorem RS.wiped (R : RS G M ρ τ σ H) (vs : List Nat) : RS G M (wipeE ρ vs) τ (wipe σ vs) H := (R.save vs).drop
theorem RS.unsave : ∀ (vs : List Nat) {ρ' : Env}, RS G M ρ' (saveE σ ρ vs ++ τ) (wipe σ vs) H → RS G M (backE ρ ρ' vs) τ σ H
  | [], ρ', R => R
  | v :: vs, ρ', R => RS.unsave vs (RS.unset R)
theorem wipe_at {vs : List Nat} {j : Nat} : (wipe σ vs)[j]? = if j ∈ vs then (if j < σ.length then some none else none) else σ[j]? := by
  induction vs with
  | nil => simp [wipe]
  | cons v vs ih =>
    unfold wipe
    rw [List.getElem?_set]
    by_cases h : v = j
    · subst h
      simp [wipe_length]
    · rw [if_neg h, ih]
      have : j ∈ v :: vs ↔ j ∈ vs := by
        rw [List.mem_cons]
        exact ⟨fun z => z.resolve_left fun e => h e.symm, .inr⟩
      simp [this]
theorem wipe_set {vs : List Nat} {v : Option V} (h : i ∈ vs) : wipe (σ.set i v) vs = wipe σ vs := by
  apply List.ext_getElem?
  intro j
  rw [wipe_at, wipe_at, List.length_set]
  by_cases hj : j ∈ vs
  · simp [hj]
  · rw [if_neg hj, if_neg hj, List.getElem?_set_ne (fun e => hj (by rw [← e]; exact h))]
end
/-- a target within the slots vs -/
def tGv (G : Gam) (vs : List Nat) (A : FG) : TG := fun v σ H Q => ∃ M ρ τ w ρ', RS G M ρ ((some v, w) :: τ) σ H ∧ A w ρ = some ρ' ∧ ∀ σ' H', RS G M ρ' τ σ' H' → wipe σ' vs = wipe σ vs → Q σ' H'
/-- the loop of a comprehension -/
def lcD (A : FG) (T : FT) (F : FE) (vs : List Nat) : List D → Env → Res (List D × Env)
  | [], ρ => .ok ([], ρ)
  | d :: ds, ρ => match A (.val d) (wipeE ρ vs) with
    | none => .stuck
    | some ρ1 => (T ρ1).bind fun (b, ρ2) => match b with
      | true => (F ρ2).bind fun (w, ρ3) => (match shr w with
        | .val y => (lcD A T F vs ds ρ3).bind fun (r, ρ4) => .ok (y :: r, ρ4)
        | _ => .stuck)
      | false => lcD A T F vs ds ρ2
def cLc (Fi : FI) (A : FG) (T : FT) (F : FE) (vs : List Nat) : FE := fun ρ => (Fi ρ).bind fun (ds, ρ1) => match shortN ds.length with
  | true => (match lcD A T F vs ds (wipeE ρ1 vs) with
    | .ok (r, ρ2) => .ok (.own (.lst r), backE ρ1 (wipeE ρ2 vs) vs)
    | _ => .stuck)
  | false => .stuck
def tYesD : FT := fun ρ => .ok (true, ρ)
section
variable {X : Cx} {G : Gam} {Wt : WX} {t1 t2 c : Expr} {A B : FG} {pos : Pos} {vs : List Nat} {T : FT} {F : FE}
theorem ts_nil : PTs X [] (tT G Wt tYesD) := ⟨fun pins s σ H Q I ⟨M, ρ, τ, R, q⟩ => pts_nil.run pins s σ H Q I (q H R)⟩
theorem ts_one (h : PT X c (tT G Wt T)) : PTs X [c] (tT G Wt T) := pts_one h
theorem gv_name {i : Nat} {x : Str} (hN : X.N.Nodup) (hi : X.N[i]? = some x) (hx : Loc X.env.scope x) (hm : i ∈ vs) (hf : X.fn x = true ∨ X.env.scope.names.lookup x = some .local := by first | exact .inl rfl | exact .inr rfl | assumption) : PG X (.Name x pos) (tGv G vs (gSet i)) := by
  refine (pg_name hN hi hx hf).weak fun v σ H Q ⟨M, ρ, τ, w, ρ', R, e, q⟩ => ?_
  exact q _ H (R.put e) (wipe_set hm)
theorem gv_two {k : Nat} (hc : X.calm = true) (hK : X.K = G.K) (h1 : PG X t1 (tGv G vs A)) (h2 : PG X t2 (tGv G vs B)) (hs1 : (assignEach [t1, t2] X.env).map (·.2) = assign t1 X.env :: (assignEach [t2] X.env).map (·.2) := by rfl) (hs2 : (assignEach [t2] X.env).map (·.2) = assign t2 X.env :: (assignEach [] X.env).map (·.2) := by rfl)
    (hn : (assignEach [t1, t2] X.env).length = 2 := by rfl) (hst : (assignEach [t1, t2] X.env).findIdx? (·.1) = none := by rfl) : PG X (.Tuple [t1, t2] k pos) (tGv G vs (gTwo A B)) := by
  refine (pg_tup hc (pgs_cons h1 (pgs_cons h2 pgs_nil hs2) hs1) hn hst).weak fun v σ H Q ⟨M, ρ, τ, w, ρ', R, e, q⟩ => ?_
  unfold gTwo at e
  split at e
  · rename_i x y
    obtain ⟨u, ev, r⟩ := R.val List.mem_cons_self
    cases ev
    obtain ⟨p, vs', rfl, hq, r⟩ := rep_tup hK r
    unfold Reps at r
    obtain ⟨v1, r1, rfl, h1, r⟩ := r
    unfold Reps at r
    obtain ⟨v2, r2, rfl, h2, r⟩ := r
    unfold Reps at r
    subst r
    cases ea : A (.val x) ρ with
    | none => rw [ea] at e; cases e
    | some ρ1 =>
      rw [ea] at e
      have eB : B (.val y) ρ1 = some ρ' := e
      have Ra : RS G M ρ ((some v1, .val x) :: (some v2, .val y) :: τ) σ H := by
        have Rb := R.addVal (v := v2) (d := y) h2
        have Rc := Rb.addVal (v := v1) (d := x) (by
          have ea2 : avoid M.S0 (ents σ ρ ++ ((some v2, Sl.val y) :: (some (V.ref p), Sl.val (.tup [x, y])) :: τ)) = avoid M.S0 (ents σ ρ ++ ((some (V.ref p), Sl.val (.tup [x, y])) :: τ)) := by
            rw [RS.avoid_mid]
            funext b
            unfold avoid
            rw [owns_val]
          rw [ea2]
          exact h1)
        have Rd : RS G M ρ ((some (V.ref p), .val (.tup [x, y])) :: (some v1, .val x) :: (some v2, .val y) :: τ) σ H := Rc.perm (((List.Perm.swap _ _ _).trans (List.Perm.cons _ (List.Perm.swap _ _ _))).trans ((List.Perm.swap _ _ _).trans (List.Perm.cons _ (List.Perm.swap _ _ _))))
        exact Rd.drop1
      exact ⟨p, [v1, v2], rfl, hq, rfl, v1, [v2], rfl, M, ρ, _, _, ρ1, Ra, ea, fun σ1 H1 R1 w1 => ⟨v2, [], rfl, M, ρ1, τ, _, ρ', R1, eB, fun σ2 H2 R2 w2 => ⟨rfl, q σ2 H2 R2 (w2.trans w1)⟩⟩⟩
  · cases e
theorem lc_imp {Ex : Fm → St → Hp → Prop} {Fi : FI} {σ : St} {H : Hp} {Q : VK} (q0 : ∃ M ρ τ, RS G M ρ τ σ H ∧ Ex M σ H ∧ post G Wt M τ σ (cLc Fi A T F vs ρ) Q) : tLc (tIX Ex G Wt Fi) (tGv G vs A) (tT G W0 T) (tE G W0 F) vs σ H Q := by
  obtain ⟨M, ρ, τ, R, hE, q⟩ := q0
  refine ⟨M, ρ, τ, R, hE, ?_⟩
  unfold cLc at q
  cases ei : Fi ρ with
  | exc c fs ρ' => rw [ei] at q; exact fun dd vs H' hx R' => q dd vs H' hx R'
  | stuck => rw [ei] at q; exact q
  | ok x =>
    obtain ⟨ds, ρ1⟩ := x
    rw [ei] at q
    intro M' J Se H1 bk sk R1 Da hD
    have q1 : post G Wt M τ σ (match shortN ds.length with
      | true => (match lcD A T F vs ds (wipeE ρ1 vs) with
        | .ok (r, ρ2) => .ok (.own (.lst r), backE ρ1 (wipeE ρ2 vs) vs)
        | _ => .stuck)
      | false => .stuck) Q := q
    clear q
    split at q1
    · rename_i esh
      have hsh := short_ok esh
      cases el : lcD A T F vs ds (wipeE ρ1 vs) with
      | exc c fs ρ' => rw [el] at q1; exact q1.elim
      | stuck => rw [el] at q1; exact q1.elim
      | ok y =>
        obtain ⟨r, ρ2⟩ := y
        rw [el] at q1
        -- the state within the block
        have R2 : RS G M' (wipeE ρ1 vs) (saveE σ ρ1 vs ++ (Se ++ τ)) (wipe σ vs) H1 := R1.save vs
        have R3 := R2.newL (vs := []) (ds := []) Reps.nil hD
        have ew : wipe (wipe σ vs) vs = wipe σ vs := by
          apply List.ext_getElem?
          intro j
          rw [wipe_at, wipe_length]
          by_cases hj : j ∈ vs
          · rw [if_pos hj, wipe_at, if_pos hj]
          · rw [if_neg hj]
        refine ⟨fun i m H => m = ds.length - i ∧ i ≤ ds.length ∧ ∃ ρi acc rest, RS G M' (wipeE ρi vs) ((some (.ref Da), .own (.lst acc)) :: (saveE σ ρ1 vs ++ (Se ++ τ))) (wipe σ vs) H ∧ acc.length ≤ i ∧ lcD A T F vs (ds.drop i) ρi = .ok (rest, ρ2) ∧ acc ++ rest = r, ⟨ds.length, by simp, Nat.zero_le _, wipeE ρ1 vs, [], r, ?_, Nat.le_refl _, el, rfl⟩, ?_⟩
        · have R4 := R3.wiped vs
          rw [ew] at R4
          exact R4
        · rintro i m H2 ⟨rfl, hi, ρi, acc, rest, Ri, hacc, hl, hr⟩
          have Rj : RS G M' (wipeE ρi vs) (Se ++ ((some (.ref Da), .own (.lst acc)) :: (saveE σ ρ1 vs ++ τ))) (wipe σ vs) H2 := Ri.perm (by
            have e1 : ((some (V.ref Da), Sl.own (.lst acc)) :: (saveE σ ρ1 vs ++ (Se ++ τ))) = ((some (V.ref Da), Sl.own (.lst acc)) :: saveE σ ρ1 vs) ++ (Se ++ τ) := by simp
            have e2 : Se ++ ((some (V.ref Da), Sl.own (.lst acc)) :: (saveE σ ρ1 vs ++ τ)) = Se ++ (((some (V.ref Da), Sl.own (.lst acc)) :: saveE σ ρ1 vs) ++ τ) := by simp
            rw [e1, e2, ← List.append_assoc, ← List.append_assoc]
            exact List.perm_append_comm.append_right τ)
          obtain ⟨k1, k2⟩ := sk _ _ _ H2 i Rj
          by_cases hlt : i < ds.length
          · obtain ⟨g1, g2⟩ := k2 _ (List.getElem?_eq_getElem hlt)
            refine .inr ⟨g1, fun H' => ∃ ρn acc rest, RS G M' (wipeE ρn vs) ((some (.ref Da), .own (.lst acc)) :: (saveE σ ρ1 vs ++ (Se ++ τ))) (wipe σ vs) H' ∧ acc.length ≤ i + 1 ∧ lcD A T F vs (ds.drop (i + 1)) ρn = .ok (rest, ρ2) ∧ acc ++ rest = r, fun H' h => ⟨ds.length - (i + 1), by omega, rfl, hlt, h⟩, fun x H' y => ?_⟩
            have R4 := g2 x H' y
            rw [List.drop_eq_getElem_cons hlt] at hl
            have hl' : (match A (.val ds[i]) (wipeE ρi vs) with
              | none => Res.stuck
              | some ρ1 => (T ρ1).bind fun (b, ρ2) => match b with
                | true => (F ρ2).bind fun (w, ρ3) => (match shr w with
                  | .val y => (lcD A T F vs (ds.drop (i + 1)) ρ3).bind fun (r, ρ4) => .ok (y :: r, ρ4)
                  | _ => .stuck)
                | false => lcD A T F vs (ds.drop (i + 1)) ρ2) = .ok (rest, ρ2) := hl
            cases ea : A (.val ds[i]) (wipeE ρi vs) with
            | none => rw [ea] at hl'; cases hl'
            | some ρa =>
              rw [ea] at hl'
              refine ⟨M', _, _, _, ρa, R4, ea, fun σ3 H3 R5 hw0 => ?_⟩
              have hw : wipe σ3 vs = wipe σ vs := hw0.trans ew
              refine ⟨hw, M', ρa, _, R5, ?_⟩
              dsimp only at hl'
              have toNext : ∀ {ρn : Env} {acc : List D} {H4 : Hp}, RS G M' ρn (Se ++ ((some (.ref Da), .own (.lst acc)) :: (saveE σ ρ1 vs ++ τ))) σ3 H4 → RS G M' (wipeE ρn vs) ((some (.ref Da), .own (.lst acc)) :: (saveE σ ρ1 vs ++ (Se ++ τ))) (wipe σ vs) H4 := fun {ρn acc H4} Rn => by
                have R6 := Rn.wiped vs
                rw [hw] at R6
                refine R6.perm ?_
                have e1 : ((some (V.ref Da), Sl.own (.lst acc)) :: (saveE σ ρ1 vs ++ (Se ++ τ))) = ((some (V.ref Da), Sl.own (.lst acc)) :: saveE σ ρ1 vs) ++ (Se ++ τ) := by simp
                have e2 : Se ++ ((some (V.ref Da), Sl.own (.lst acc)) :: (saveE σ ρ1 vs ++ τ)) = Se ++ (((some (V.ref Da), Sl.own (.lst acc)) :: saveE σ ρ1 vs) ++ τ) := by simp
                rw [e1, e2, ← List.append_assoc, ← List.append_assoc]
                exact List.perm_append_comm.append_right τ
              cases et : T ρa with
              | exc c fs ρ' => rw [et] at hl'; cases hl'
              | stuck => rw [et] at hl'; cases hl'
              | ok z =>
                obtain ⟨b, ρb⟩ := z
                rw [et] at hl'
                intro H4 R6
                cases b with
                | false =>
                  refine iteF ⟨ρb, acc, rest, toNext R6, by omega, hl', hr⟩
                | true =>
                  refine iteT ⟨M', ρb, _, R6, ?_⟩
                  have hl2 : ((F ρb).bind fun (w, ρ3) => (match shr w with
                    | .val y => (lcD A T F vs (ds.drop (i + 1)) ρ3).bind fun (r, ρ4) => Res.ok (y :: r, ρ4)
                    | _ => .stuck)) = .ok (rest, ρ2) := hl'
                  cases ef : F ρb with
                  | exc c fs ρ' => rw [ef] at hl2; cases hl2
                  | stuck => rw [ef] at hl2; cases hl2
                  | ok z =>
                    obtain ⟨w, ρc⟩ := z
                    rw [ef] at hl2
                    intro y H5 R7
                    have R8 := R7.shr1
                    have hl3 : (match shr w with
                      | .val y => (lcD A T F vs (ds.drop (i + 1)) ρc).bind fun (r, ρ4) => Res.ok (y :: r, ρ4)
                      | _ => .stuck) = .ok (rest, ρ2) := hl2
                    split at hl3
                    · rename_i dy ew
                      rw [ew] at R8
                      cases er : lcD A T F vs (ds.drop (i + 1)) ρc with
                      | exc c fs ρ' => rw [er] at hl3; cases hl3
                      | stuck => rw [er] at hl3; cases hl3
                      | ok z =>
                        obtain ⟨rr, ρd⟩ := z
                        rw [er] at hl3
                        have e3 : Res.ok (dy :: rr, ρd) = Res.ok (rest, ρ2) := hl3
                        cases e3
                        have R9 : RS G M' ρc ((some (.ref Da), .own (.lst acc)) :: (some y, .val dy) :: (Se ++ (saveE σ ρ1 vs ++ τ))) σ3 H5 := R8.perm (by
                          refine (List.Perm.cons _ List.perm_middle).trans (List.Perm.swap _ _ _))
                        obtain ⟨pa, epa, vsa, hva, ra⟩ := R9.re.all (some (V.ref Da), .own (.lst acc)) (List.mem_append_right _ List.mem_cons_self)
                        cases epa
                        obtain ⟨u, eu, ry⟩ := R9.re.val (v := some y) (d := dy) (List.mem_append_right _ (List.mem_cons_of_mem _ List.mem_cons_self))
                        cases eu
                        have R10 := R9.mutL (ra.append (Reps.cons ry Reps.nil))
                        have R11 : RS G M' ρc (Se ++ ((some (.ref Da), .own (.lst (acc ++ [dy]))) :: (saveE σ ρ1 vs ++ τ))) σ3 (upd H5 Da (.lst (vsa ++ [y]))) := RS.drop1 (R10.perm (by
                          refine (List.Perm.swap _ _ _).trans (List.Perm.cons _ List.perm_middle.symm)))
                        exact ⟨vsa, hva, by rw [ra.len]; omega, ρc, acc ++ [dy], rr, toNext R11, by simp; omega, er, by simp [← hr]⟩
                    · cases hl3
          · have hi' : i = ds.length := by omega
            subst hi'
            rw [List.drop_length] at hl
            have hl' : Res.ok (([] : List D), ρi) = .ok (rest, ρ2) := hl
            cases hl'
            rw [List.append_nil] at hr
            subst hr
            refine .inl ⟨k1 rfl, q1 _ H2 ?_⟩
            have R5 : RS G M' (wipeE ρ2 vs) (saveE σ ρ1 vs ++ ((some (.ref Da), .own (.lst acc)) :: τ)) (wipe σ vs) H2 := RS.drop (Rj.perm (List.Perm.append_left _ List.perm_middle.symm))
            exact bk _ _ _ _ (RS.unsave vs R5)
    · exact q1.elim
theorem e_lc {elt tg iter : Expr} {ifs : List Expr} {scope : Scope} {own : List (Str × Nat)} {Fi : FI} (hc : X.calm = true) (hN : X.N.Nodup) (hi : PI X tg iter (tI G Wt Fi)) (ok : BlkOk X.N X.env.scope scope own) (hvs : own.map (·.2) = vs)
    (hg : ∀ (s : Shared) (H : Hp) (C : Addr) (cl : List (Str × Addr)) (fp : List Addr), PG (X.blk s H scope (compEnvC scope cl C X.env) fp) tg (tGv G vs A)) (ht : ∀ (s : Shared) (H : Hp) (C : Addr) (cl : List (Str × Addr)) (fp : List Addr), PTs (X.blk s H scope (compEnvC scope cl C X.env) fp) ifs (tT G W0 T))
    (he : ∀ (s : Shared) (H : Hp) (C : Addr) (cl : List (Str × Addr)) (fp : List Addr), PE (X.blk s H scope (compEnvC scope cl C X.env) fp) elt (tE G W0 F)) (hs : ∀ x, foldedSetIterable iter X.env x = pure x := by intro _; rfl) :
    PE X (.ListComp elt [⟨tg, iter, ifs, 0⟩] scope pos) (tE G Wt (cLc Fi A T F vs)) := by
  subst hvs
  exact (pe_lc hc hN hi ok hg ht he hs).weak fun σ H Q ⟨M, ρ, τ, R, q⟩ => lc_imp ⟨M, ρ, τ, R, True.intro, q⟩
theorem s_setLc {i : Nat} {y : Str} {py : Pos} {elt tg iter : Expr} {ifs : List Expr} {scope : Scope} {own : List (Str × Nat)} {spos : Pos} {Fi : FI} (hc : X.calm = true) (hN : X.N.Nodup) (hy : X.N[i]? = some y) (hyl : X.env.scope.names.lookup y = some .local)
    (hsw : swapsWith (.ListComp elt [⟨tg, iter, ifs, 0⟩] scope pos) (some (.Name y py)) spos.line X.env = pure true) (hi : PI X tg iter (tI G Wt Fi)) (ok : BlkOk X.N X.env.scope scope own) (hvs : own.map (·.2) = vs)
    (hg : ∀ (s : Shared) (H : Hp) (C : Addr) (cl : List (Str × Addr)) (fp : List Addr), PG (X.blk s H scope (compEnvC scope cl C X.env) fp) tg (tGv G vs A)) (ht : ∀ (s : Shared) (H : Hp) (C : Addr) (cl : List (Str × Addr)) (fp : List Addr), PTs (X.blk s H scope (compEnvC scope cl C X.env) fp) ifs (tT G W0 T))
    (he : ∀ (s : Shared) (H : Hp) (C : Addr) (cl : List (Str × Addr)) (fp : List Addr), PE (X.blk s H scope (compEnvC scope cl C X.env) fp) elt (tE G W0 F)) (hs : ∀ x, foldedSetIterable iter X.env x = pure x := by intro _; rfl) :
    PS X (.Assign [.Name y py] (.ListComp elt [⟨tg, iter, ifs, 0⟩] scope pos) spos) (tS G Wt (cAsg (cLc Fi A T F vs) (gSet i))) := by
  subst hvs
  refine (ps_setLc hc hN hy hyl hsw hi ok hg ht he hs).weak fun DD σ H ⟨M, ρ, τ, R, q⟩ => ?_
  refine lc_imp ⟨M, ρ, τ, R, True.intro, postES_bind q fun w ρ' v H' R1 p => ?_⟩
  dsimp only at p
  split at p
  · rename_i ρ2 e2
    exact p _ H' (R1.put e2)
  · exact p.elim
end
end Dl
namespace Dl
open PySem PySem.Spec L2
open PyProof.Rows hiding St
/-! ### small checks -/
def visB (sc : Scope) (x : Str) : Bool := match sc.names.lookup x with
  | some .local => true
  | some .cell => true
  | some .free => true
  | _ => false
theorem vis_of {sc : Scope} {x : Str} (h : visB sc x = true) : Vis sc x := by
  unfold visB at h
  unfold Vis
  split at h
  · exact .inl (by assumption)
  · exact .inr (.inl (by assumption))
  · exact .inr (.inr (by assumption))
  · cases h
def locB (sc : Scope) (x : Str) : Bool := match sc.names.lookup x with
  | some .local => true
  | some .cell => true
  | _ => false
theorem loc_of {sc : Scope} {x : Str} (h : locB sc x = true) : L2.Loc sc x := by
  unfold locB at h
  unfold L2.Loc
  split at h
  · exact .inl (by assumption)
  · exact .inr (by assumption)
  · cases h
def blkB (N : List Str) (sc scope : Scope) (own : List (Str × Nat)) : Bool :=
  (scope.kind == .function) && (scope.names.all fun y => scope.names.lookup y.1 == some y.2) && (own.all fun p => N[p.2]? == some p.1) &&
    (scope.names.all fun y => (y.2 != .free) || (sc.names.lookup y.1 == some .cell) || (sc.names.lookup y.1 == some .free)) &&
    (scope.names.all fun y => (y.2 != .local && y.2 != .cell) || (own.map (·.1)).contains y.1 || !(N.contains y.1))
theorem blk_of {N : List Str} {sc scope : Scope} {own : List (Str × Nat)} (h : blkB N sc scope own = true) : BlkOk N sc scope own := by
  unfold blkB at h
  simp only [Bool.and_eq_true, List.all_eq_true, Bool.or_eq_true, bne_iff_ne, beq_iff_eq, Bool.not_eq_true', Bool.and_eq_true] at h
  obtain ⟨⟨⟨⟨h1, h2⟩, h3⟩, h4⟩, h5⟩ := h
  refine ⟨h1, h2, h3, fun y hy e => ?_, fun y hy e => ?_⟩
  · rcases h4 y hy with (z | z) | z
    · exact absurd e z
    · exact .inl z
    · exact .inr z
  · rcases h5 y hy with (z | z) | z
    · rcases e with e | e
      · exact absurd e z.1
      · exact absurd e z.2
    · exact .inl (by simpa using z)
    · exact .inr (by simpa using z)
def LenA (Fs : FA) (n : Nat) : Prop := ∀ ρ ws ρ', Fs ρ = .ok (ws, ρ') → ws.length = n
theorem len_nil : LenA cANil 0 := fun ρ ws ρ' e => by cases e; rfl
theorem len_cons {F : FE} {Fs : FA} {n : Nat} (h : LenA Fs n) : LenA (cACons F Fs) (n + 1) := fun ρ ws ρ' e => by
  unfold cACons at e
  cases e1 : F ρ with
  | ok a =>
    obtain ⟨w, ρ1⟩ := a
    rw [e1] at e
    dsimp only [Res.bind] at e
    cases e2 : Fs ρ1 with
    | ok b =>
      obtain ⟨us, ρ2⟩ := b
      rw [e2] at e
      cases e
      rw [List.length_cons, h _ _ _ e2]
    | exc c fs ρ' => rw [e2] at e; cases e
    | stuck => rw [e2] at e; cases e
  | exc c fs ρ' => rw [e1] at e; cases e
  | stuck => rw [e1] at e; cases e
theorem len_s {Fs : FA} {n m : Nat} (h : LenA Fs n) (e : n + 1 = m) : ∀ ρ ws ρ', Fs ρ = .ok (ws, ρ') → ws.length + 1 = m := fun ρ ws ρ' q => by rw [h _ _ _ q]; exact e
theorem len_d {Fs : FA} {n m : Nat} {dds : List D} (h : LenA Fs n) (e : n + dds.length + 1 = m) : ∀ ρ ws ρ', Fs ρ = .ok (ws, ρ') → ws.length + dds.length + 1 = m := fun ρ ws ρ' q => by rw [h _ _ _ q]; exact e
theorem _root_.L2.Room.units1 {k : Nat} {A : Around} (r : Room k A) : A.units + 1 < cLine := by have := r.un; omega
/-! ### a, b = x, y -/
def par2 (i j : Nat) (ws : List Sl) (ρ : Env) : Res (Fl × Env) := match ws with
  | [w1, w2] => (match setSl i w1 ρ with
    | some ρ2 => (match setSl j w2 ρ2 with
      | some ρ3 => .ok (.nx, ρ3)
      | none => .stuck)
    | none => .stuck)
  | _ => .stuck
def cPar2 (i j : Nat) (Fs : FA) : FS := fun ρ => (Fs ρ).bind fun (ws, ρ1) => par2 i j ws ρ1
/-- x op= e, ints -/
def cAug (i : Nat) (g : Int → Int → Int) (F : FE) : FS := fun ρ => match ρ[i]? with
  | some (.val (.int a)) => (F ρ).bind fun (w, ρ1) => (match w with
    | .val (.int b) => fI (g a b) fun z => (match setSl i (.val (.int z)) ρ1 with
      | some ρ2 => .ok (.nx, ρ2)
      | none => .stuck)
    | _ => .stuck)
  | _ => .stuck
section
variable {X : Cx} {G : Gam} {Wt : WX} {a b c e : Expr} {Fa : FE} {Fs : FA} {pos : Pos} {i j l : Nat} {x y z : Str}
theorem postA_S {M : Fm} {τ : List Ent} {σ : St} {r : Res (List Sl × Env)} {k : List Sl → Env → Res (Fl × Env)} {DD : Ends} {R : List V → Hp → Prop} (h : postS G Wt M τ (r.bind fun (ws, ρ1) => k ws ρ1) DD)
    (hr : ∀ ws ρ' vs H', ws.length = vs.length → RS G M ρ' (aents vs ws ++ τ) σ H' → postS G Wt M τ (k ws ρ') DD → R vs H') : postA G Wt M τ σ r R := by
  cases r with
  | ok a =>
    obtain ⟨ws, ρ'⟩ := a
    exact fun vs H' l z => hr ws ρ' vs H' l z h
  | exc c fs ρ' => exact fun dd vs H' x z => h dd vs σ H' x z
  | stuck => exact h
theorem s_par2 {px py pt : Pos} {kt k2 pt2} (hc : X.calm = true) (hN : X.N.Nodup) (hi : X.N[i]? = some x) (hj : X.N[j]? = some y) (hij : i ≠ j)
    (hx : X.env.scope.names.lookup x = some .local) (hy : X.env.scope.names.lookup y = some .local) (ha : PA X [a, b] (tA G Wt Fs))
    (hw : swappedStores [.Tuple [.Name x px, .Name y py] kt pt] (.Tuple [a, b] k2 pt2) X.env = pure (some [x, y]))
    (hs : swapsWithSole [.Tuple [.Name x px, .Name y py] kt pt] (.Tuple [a, b] k2 pt2) pos.line X.env = pure false := by rfl) :
    PS X (.Assign [.Tuple [.Name x px, .Name y py] kt pt] (.Tuple [a, b] k2 pt2) pos) (tS G Wt (cPar2 i j Fs)) := by
  refine (ps_par hc hN hi hj hij hx hy ha hw hs).weak fun DD σ H ⟨M, ρ, τ, R, q⟩ => ⟨M, ρ, τ, R, postA_S q fun ws ρ1 vs H1 l R1 p => ?_⟩
  unfold par2 at p
  split at p
  · rename_i w1 w2
    obtain ⟨v, u, rfl⟩ : ∃ v u, vs = [v, u] := by
      cases vs with
      | nil => cases l
      | cons v r => cases r with
        | nil => simp at l
        | cons u r => cases r with
          | nil => exact ⟨v, u, rfl⟩
          | cons _ _ => simp at l
    have R2 : RS G M ρ1 ((some v, w1) :: (some u, w2) :: τ) σ H1 := R1
    split at p
    · rename_i ρ2 e2
      split at p
      · rename_i ρ3 e3
        exact ⟨v, u, rfl, p _ H1 ((R2.put e2).put e3)⟩
      · exact p.elim
    · exact p.elim
  · exact p.elim
theorem s_aug {op : Operator} {g : Int → Int → Int} {pos' : Pos} (hN : X.N.Nodup) (hi : X.N[i]? = some x) (hx : L2.Loc X.env.scope x) (he : PE X e (tE G Wt Fa)) (ho : PIp X op (ipI g)) (hf : X.fn x = true ∨ X.env.scope.names.lookup x = some .local := by first | exact .inl rfl | exact .inr rfl | assumption) :
    PS X (.AugAssign (.Name x pos') op e pos) (tS G Wt (cAug i g Fa)) := by
  refine (ps_aug hN hi hx he ho hf).weak fun DD σ H ⟨M, ρ, τ, R, q⟩ => ?_
  unfold cAug at q
  split at q
  · rename_i a ea
    obtain ⟨v, e1, e2⟩ := R.at_ ea
    have hm : (v, Sl.val (.int a)) ∈ ents σ ρ ++ τ := List.mem_append_left _ (List.mem_of_getElem? e2)
    obtain ⟨u, rfl, r⟩ := R.re.val hm
    have eu : u = .int a := r
    subst eu
    refine ⟨_, e1, M, ρ, τ, R, postES_bind q fun w ρ1 v1 H1 R1 p => ?_⟩
    dsimp only at p
    split at p
    · rename_i b
      rw [fI_eq] at p
      have ev := Option.some.inj (R1.flat (v := some v1) (d := .int b) List.mem_cons_self rfl)
      subst ev
      refine ⟨a, b, rfl, rfl, ?_⟩
      split at p
      · rename_i ρ2 e3
        have R2 : RS G M ρ1 ((some (.int (g a b)), .val (.int (g a b))) :: τ) σ H1 := R1.drop1.addFlat rfl
        exact p _ H1 (R2.put e3)
      · exact p.elim
    · exact p.elim
  · exact q.elim
/-- an int of the module -/
theorem e_gint {n : Int} (hg : Gl X x) (hm : ∃ t, X.mg x = some (.int n t)) (hd : (x == ("__debug__" : Str)) = false := by decide) : PE X (.Name x pos) (tE G Wt (cD (.int n))) := by
  obtain ⟨t, hm⟩ := hm
  exact e_globI hg hm hd
theorem e_gstr {n : Str} (hg : Gl X x) (hm : ∃ t, X.mg x = some (.str n t)) (hd : (x == ("__debug__" : Str)) = false := by decide) : PE X (.Name x pos) (tE G Wt (cD (.str n))) := by
  obtain ⟨t, hm⟩ := hm
  exact e_globS hg hm hd
theorem e_gtup {ds : List D} {vs : List V} (hK : X.K = G.K) (hg : Gl X x) (hm : ∃ a, X.mg x = some (.ref a) ∧ KT G.K a vs) (hf : ∀ S H, Reps G S H ds vs) (hd : (x == ("__debug__" : Str)) = false := by decide) : PE X (.Name x pos) (tE G Wt (cD (.tup ds))) := by
  obtain ⟨a, hm, hk⟩ := hm
  exact e_globT hK hg hm hk hf hd
end
/-! ### enumerate, zip -/
def enumD : Nat → List D → List D
  | _, [] => []
  | k, d :: ds => fN k fun k => .tup [.int k, d] :: enumD (k + 1) ds
theorem enumD_len : ∀ (ds : List D) (k : Nat), (enumD k ds).length = ds.length
  | [], k => rfl
  | d :: ds, k => by
    show (fN k fun k => D.tup [.int k, d] :: enumD (k + 1) ds).length = _
    rw [fN_eq, List.length_cons, enumD_len ds, List.length_cons]
theorem enumD_get : ∀ (ds : List D) (k i : Nat) (d : D), (enumD k ds)[i]? = some d → ∃ e, ds[i]? = some e ∧ d = .tup [.int ((k + i : Nat) : Int), e]
  | [], k, i, d, h => by simp [enumD] at h
  | e :: ds, k, i, d, h => by
    have e1 : enumD k (e :: ds) = .tup [.int k, e] :: enumD (k + 1) ds := by
      show (fN k fun k => D.tup [.int k, e] :: enumD (k + 1) ds) = _
      rw [fN_eq]
    rw [e1] at h
    cases i with
    | zero =>
      have h' : D.tup [.int k, e] = d := by simpa using h
      subst h'
      exact ⟨e, rfl, rfl⟩
    | succ i =>
      obtain ⟨e', h1, h2⟩ := enumD_get ds (k + 1) i d (by simpa using h)
      exact ⟨e', by simpa using h1, by rw [h2]; congr 3; omega⟩
def zipD : List D → List D → List D
  | d :: ds, e :: es => .tup [d, e] :: zipD ds es
  | _, _ => []
theorem zipD_get : ∀ (ds es : List D) (i : Nat) (d : D), (zipD ds es)[i]? = some d → ∃ a b, ds[i]? = some a ∧ es[i]? = some b ∧ d = .tup [a, b]
  | [], es, i, d, h => by simp [zipD] at h
  | a :: ds, [], i, d, h => by simp [zipD] at h
  | a :: ds, b :: es, i, d, h => by
    unfold zipD at h
    cases i with
    | zero =>
      have h' : D.tup [a, b] = d := by simpa using h
      subst h'
      exact ⟨a, b, rfl, rfl, rfl⟩
    | succ i =>
      obtain ⟨a', b', h1, h2, h3⟩ := zipD_get ds es i d (by simpa using h)
      exact ⟨a', b', by simpa using h1, by simpa using h2, h3⟩
theorem zipD_len : ∀ (ds es : List D), (zipD ds es).length = min ds.length es.length
  | [], es => by simp [zipD]
  | a :: ds, [] => by simp [zipD]
  | a :: ds, b :: es => by unfold zipD; rw [List.length_cons, zipD_len ds es, List.length_cons, List.length_cons]; omega
def enum1 (ws : List Sl) (ρ1 : Env) : Res (List D × Env) := match ws with
  | [w] => (match lstD (shr w) with
    | some ds => .ok (enumD 0 ds, ρ1)
    | none => .stuck)
  | _ => .stuck
def cItA (k : List Sl → Env → Res (List D × Env)) (Fs : FA) : FI := fun ρ => (Fs ρ).bind fun (ws, ρ1) => k ws ρ1
theorem enum1_or (ws : List Sl) (ρ1 : Env) : (∃ w ds, ws = [w] ∧ lstD (shr w) = some ds ∧ enum1 ws ρ1 = .ok (enumD 0 ds, ρ1)) ∨ enum1 ws ρ1 = .stuck := by
  unfold enum1
  split
  · split
    · exact .inl ⟨_, _, rfl, by assumption, rfl⟩
    · exact .inr rfl
  · exact .inr rfl
section
variable {X : Cx} {G : Gam} {Wt : WX} {e e2 tg : Expr} {Fs : FA} {pos p tpos : Pos} {elts : List Expr} {kk : Nat}
theorem lst_ent {M : Fm} {ρ : Env} {τ : List Ent} {σ : St} {H : Hp} {w : Sl} {ds : List D} {v : V} (R : RS G M ρ τ σ H) (hm : (some v, w) ∈ τ) (e : lstD w = some ds) : ∃ a vs, v = .ref a ∧ SqL G.K H a vs ∧ Reps G (avoid M.S0 (ents σ ρ ++ τ)) H ds vs := by
  have hh : ∀ d, w = .val d → Rep G (avoid M.S0 (ents σ ρ ++ τ)) H d v := fun d ew => by
    subst ew
    obtain ⟨u, eu, r⟩ := R.val hm
    cases eu
    exact r
  exact rep_lst rfl e hh
theorem src_enum {M : Fm} {a : Addr} {w : Sl} {ds : List D} (es : lstD w = some ds) : SrcOk G M (Ite G.K a) [(some (.ref a), w)] (enumD 0 ds) := by
  intro ρ τ σ H i R
  obtain ⟨a', vs, ea, hq, r⟩ := lst_ent R List.mem_cons_self es
  cases ea
  refine ⟨fun e => ⟨vs, hq, by rw [r.len, e, enumD_len]; exact Nat.le_refl _⟩, fun d hd => ?_⟩
  obtain ⟨d1, h1, rfl⟩ := enumD_get ds 0 i d hd
  obtain ⟨x, hx, rx⟩ := r.get h1
  refine ⟨⟨vs, x, hq, hx⟩, fun y H' ⟨T, x', e1, e2, e3, e4⟩ => ?_⟩
  subst e1 e3
  have e5 := e4 vs hq
  rw [hx] at e5
  cases e5
  refine R.newT (Reps.cons ?_ (Reps.cons rx Reps.nil)) e2
  show V.int (i : Nat) = V.int _
  congr 1
  omega
theorem src_zip {M : Fm} {a b : Addr} {w u : Sl} {ds es : List D} (e1 : lstD w = some ds) (e2 : lstD u = some es) : SrcOk G M (Itz G.K a b) [(some (.ref a), w), (some (.ref b), u)] (zipD ds es) := by
  intro ρ τ σ H i R
  obtain ⟨a', vs, ea, hq, r⟩ := lst_ent R List.mem_cons_self e1
  cases ea
  obtain ⟨b', us, eb, hq2, r2⟩ := lst_ent R (List.mem_cons_of_mem _ List.mem_cons_self) e2
  cases eb
  refine ⟨fun e => ⟨vs, us, hq, hq2, by rw [r.len, r2.len, e, zipD_len]; omega⟩, fun d hd => ?_⟩
  obtain ⟨d1, d2, h1, h2, rfl⟩ := zipD_get ds es i d hd
  obtain ⟨x, hx, rx⟩ := r.get h1
  obtain ⟨y, hy, ry⟩ := r2.get h2
  refine ⟨⟨vs, us, x, y, hq, hq2, hx, hy⟩, fun z H' ⟨T, x', y', g1, g2, g3, g4, g5⟩ => ?_⟩
  subst g1 g3
  have e5 := g4 vs hq
  rw [hx] at e5
  cases e5
  have e6 := g5 us hq2
  rw [hy] at e6
  cases e6
  exact R.newT (Reps.cons rx (Reps.cons ry Reps.nil)) g2
theorem i_enum (hK : X.K = G.K) (hg : Gl X "enumerate") (hm : X.mg "enumerate" = none) (ha : PA X [e] (tA G Wt Fs)) (hs : starEach [e] X.env = [(false, eval e X.env)] := by rfl) : PI X (.Tuple elts kk tpos) (.Call (.Name "enumerate" p) [e] [] pos) (tI G Wt (cItA enum1 Fs)) := by
  refine (pi_enum hg hm ha hs).weak fun σ H R ⟨M, ρ, τ, RR, _, q⟩ => ⟨M, ρ, τ, RR, ?_⟩
  unfold cItA at q
  cases e1 : Fs ρ with
  | ok x =>
    obtain ⟨ws, ρ1⟩ := x
    rw [e1] at q
    intro vs H' l R1
    rcases enum1_or ws ρ1 with ⟨w, ds, rfl, e2, e3⟩ | e3
    · dsimp only [Res.bind] at q
      rw [e3] at q
      obtain ⟨v, rfl⟩ : ∃ v, vs = [v] := by
        cases vs with
        | nil => cases l
        | cons v r => cases r with
          | nil => exact ⟨v, rfl⟩
          | cons _ _ => simp at l
      have R2 : RS G M ρ1 ((some v, shr w) :: τ) σ H' := RS.shr1 R1
      obtain ⟨a, us, rfl, hq, r⟩ := lst_ent R2 List.mem_cons_self e2
      rw [hK]
      exact ⟨a, us, rfl, hq, q _ _ _ _ (fun _ _ _ _ z => z) (src_enum e2) R2⟩
    · dsimp only [Res.bind] at q
      rw [e3] at q
      exact q.elim
  | exc c fs ρ' => rw [e1] at q; exact q
  | stuck => rw [e1] at q; exact q
end
end Dl
namespace Dl
open PySem PySem.Spec L2
open PyProof.Rows hiding St
def cSFCall (i c1 k1 c : Nat) (Ff : FF) (Fs : FA) : FE := fun ρ => match ρ[i]? with
  | some w => (match slD w with
    | some d => (match fldD c1 k1 d with
      | some d1 => (match isObjC c (.val d1) with
        | true => (Fs ρ).bind fun (ws, ρ2) => callF Ff (.val d1 :: ws) ρ2
        | false => .stuck)
      | none => .stuck)
    | none => .stuck)
  | none => .stuck
theorem mkD {K : PySem.W.Frag} {fd : FuncData} {ps : List Str} {vs : List V} {Pp : Prop} (hb : ∃ ds, Vals vs ds ∧ Binds K fd ps ds) (k : ∀ ds, Vals vs ds → Binds K fd ps ds → Pp) : Pp := by
  obtain ⟨ds, h1, h2⟩ := hb
  exact k ds h1 h2
section
variable {X : Cx} {G : Gam} {Wt : WX} {k n i c c1 k1 : Nat} {g fa : Addr} {fd : FuncData} {ps : List Str} {fe o e : Expr} {es : List Expr} {Fa : FE} {Fs : FA} {Ff : FF} {p pos apos : Pos} {f m x : Str}
theorem e_sfcall {pl : Sem Bool} (hK : X.K = G.K) (cl : Cls G.K (G.ca c1)) (na : NoAttr G.K (G.ca c1) f) (hk : fIx (G.fs c1) f = k1) (hc : StX.CallO G.K (G.ca c) g) (F : FnOk X.prog X.w X.K X.mg X.base (L2.CX X.prog X.w) k g fd ps (spF G n Ff)) (hr : Room k X.A) (hb : Binds X.K fd ps []) (tk : Takes X Wt) (hN : X.N[i]? = some x) (hv : Vis X.env.scope x) (ha : PA X (e :: es) (tA G Wt Fs)) (hn : ∀ ρ ws ρ', Fs ρ = .ok (ws, ρ') → ws.length + 1 = n)
    (hst : starEach (e :: es) X.env = (false, eval e X.env) :: starEach es X.env := by rfl) (hpl : (backTo pos (starEach es X.env)).any (·.1) = false := by rfl)
    (ht : eval (.Call (.Attribute (.Name x p) f apos) (e :: es) [] pos) X.env = (do
      let ov ← eval (.Name x p) X.env
      standAt apos.atName
      let (f, first) ← holding [ov] (getMethod ov f pl)
      callWith pos f first (backTo pos (starEach (e :: es) X.env)) (backToKw pos (keywordEach [] X.env))) := by rfl)
    (hd : (x == ("__debug__" : Str)) = false := by decide) (hcd : (x == ("__classdict__" : Str)) = false := by decide) :
    PE X (.Call (.Attribute (.Name x p) f apos) (e :: es) [] pos) (tE G Wt (cSFCall i c1 k1 c Ff Fs)) := by
  subst hk
  refine (pe_fldcallS (E := WE Wt) (C := G.ca c) (C1 := G.ca c1) (pe_var hN hv hd hcd) (by rw [hK]; exact cl) (by rw [hK]; exact na) (by rw [hK]; exact hc) F hr hb (fun σ => passAt tk σ) ha hst hpl ht).weak fun σ H Q ⟨M, ρ, τ, R, p⟩ => ?_
  unfold cSFCall at p
  split at p
  · rename_i w ew
    split at p
    · rename_i d ed
      split at p
      · rename_i d1 ef
        obtain ⟨ds, rfl, hd1⟩ := fldD_eq ef
        split at p
        · rename_i eo
          obtain ⟨ds1, ed1⟩ := isObjC_eq eo
          cases ed1
          obtain ⟨v, e1, e2⟩ := R.at_ ew
          have hm : (v, w) ∈ ents σ ρ ++ τ := List.mem_append_left _ (List.mem_of_getElem? e2)
          obtain ⟨a, dx, fs, rfl, ha, hnn, r⟩ := (R.re.all _ hm).obj ed
          obtain ⟨y, hy, ry⟩ := r.get hd1
          obtain ⟨b, dx1, fs1, rfl, hb1, _⟩ := id ry.obj_at
          refine ⟨_, e1, a, dx, fs, b, rfl, ha, lookup_ix hnn hy, M, ρ, _, R.addVal ry, post_bindA p (fun _ _ _ _ z => xe_drop z) fun ws ρ2 vs H2 e3 l R3 p2 => ⟨?_, ?_⟩⟩
          · obtain ⟨u, eu, r2⟩ := R3.re.val (d := .obj c ds1) (v := some (.ref b)) (List.mem_append_right _ (List.mem_append_right _ List.mem_cons_self))
            cases eu
            obtain ⟨a', dx', fs', ea, ha', _⟩ := r2.obj_at
            cases ea
            exact ⟨dx', fs', ha'⟩
          · exact sp_call (vs := .ref b :: vs) (by simp [l]) (by have := hn _ _ _ e3; simp [← l]; omega) (R3.perm List.perm_middle) p2
        · exact p.elim
      · exact p.elim
    · exact p.elim
  · exact p.elim
end
section
variable {X : Cx} {G : Gam} {Wt : WX} {a b c : Expr} {Fa Fb Fc : FE} {pos : Pos}
theorem t_chain {op op' : CmpOp} {g g' : Int → Int → Bool} (ho : OpR X (compareOp op) (rI0 fun i j => .bl (g i j))) (ho' : OpR X (compareOp op') (rI0 fun i j => .bl (g' i j))) (ha : PE X a (tE G Wt Fa)) (hb : PE X b (tE G Wt Fb)) (hc : PE X c (tE G Wt Fc))
    (hm : lastMarks [op, op'] [b, c] = false := by with_unfolding_all rfl) : PT X (.Compare a [op, op'] [b, c] pos) (tT G Wt (cTst (cChain g g' Fa Fb Fc))) := by
  refine (pt_chain ho ho' ha hb hc hm).weak fun σ H Q q => ?_
  obtain ⟨M, ρ, τ, R, q⟩ := q
  refine chain_imp rfl rfl ⟨M, ρ, τ, R, postT_bind q (fun _ _ _ _ z => z) fun w ρ' v H' R1 p => bTst_post R1 p⟩
end
end Dl
namespace Dl
open PySem PySem.Spec L2
open PyProof.Rows hiding St
/-! ### targets of any number of parts -/
section
variable {X : Cx} {G : Gam} {Wt : WX} {t : Expr} {ts : List Expr} {A : FG} {As : List FG} {pos : Pos} {vs : List Nat} {wh : Option (List Nat)}
theorem _root_.L2.PGs.weak {X : Cx} {e : List Expr} {t t' : TGs} (h : PGs X e t) (k : ∀ v σ H Q, t' v σ H Q → t v σ H Q) : PGs X e t' := ⟨fun pins s σ H v u Q I r q => h.run pins s σ H v u Q I r (k v σ H Q q)⟩
end
end Dl
namespace Dl
open PySem PySem.Spec L2
open PyProof.Rows hiding St
/-! ### dicts -/
def keyOf : D → Option Key
  | .int i => some (.inl i)
  | .str s => some (.inr s)
  | _ => none
theorem keyOf_rep {G : Gam} {S : Addr → Prop} {H : Hp} {d : D} {k : Key} {v : V} (h : keyOf d = some k) (r : Rep G S H d v) : v = kV k := by
  cases d with
  | int i => cases h; exact r
  | str i => cases h; exact r
  | _ => cases h
def keyB (a b : Key) : Bool := decide (a = b)
def dFind (k : Key) : List Key → List D → Option D
  | a :: ks, d :: ds => (match keyB a k with
    | true => some d
    | false => dFind k ks ds)
  | _, _ => none
def dHas (k : Key) : List Key → Bool
  | a :: ks => (match keyB a k with
    | true => true
    | false => dHas k ks)
  | [] => false
def dRep (k : Key) (d0 : D) : List Key → List D → List D
  | a :: ks, d :: ds => (match keyB a k with
    | true => d0 :: dRep k d0 ks ds
    | false => d :: dRep k d0 ks ds)
  | _, ds => ds
def dPut (k : Key) (d0 : D) (ks : List Key) (ds : List D) : List Key × List D := match dHas k ks with
  | true => (ks, dRep k d0 ks ds)
  | false => (ks ++ [k], ds ++ [d0])
section
variable {G : Gam} {S : Addr → Prop} {H : Hp}
theorem find_some : ∀ {kvs : List (Key × V)} {ds : List D} {k : Key} {d : D}, Reps G S H ds (kvs.map (·.2)) → dFind k (kvs.map (·.1)) ds = some d → ∃ v, valV kvs k = some v ∧ Rep G S H d v
  | [], ds, k, d, r, e => by simp [dFind] at e
  | (a, v) :: kvs, [], k, d, r, e => by cases e
  | (a, v) :: kvs, d0 :: ds, k, d, r, e => by
    obtain ⟨v', r', ev, h1, h2⟩ := r
    rw [List.map_cons] at ev
    injection ev with e1 e2
    subst e1
    have e' : (match keyB a k with | true => some d0 | false => dFind k (kvs.map (·.1)) ds) = some d := e
    unfold valV
    rw [List.find?_cons]
    unfold keyB at e'
    cases hk : decide (a = k) with
    | true =>
      rw [hk] at e'
      cases e'
      exact ⟨v, by simp, h1⟩
    | false =>
      rw [hk] at e'
      obtain ⟨v2, g1, g2⟩ := find_some (by rw [← e2] at h2; exact h2) e'
      exact ⟨v2, by simpa [valV] using g1, g2⟩
theorem has_eq : ∀ {kvs : List (Key × V)} {k : Key}, dHas k (kvs.map (·.1)) = (valV kvs k).isSome
  | [], k => rfl
  | (a, v) :: kvs, k => by
    show (match keyB a k with | true => true | false => dHas k (List.map (fun z : Key × V => z.1) kvs)) = _
    unfold valV
    rw [List.find?_cons]
    unfold keyB
    cases hk : decide (a = k) with
    | true => simp
    | false =>
      have := has_eq (kvs := kvs) (k := k)
      unfold valV at this
      simpa using this
theorem has_any {kvs : List (Key × V)} {k : Key} : dHas k (kvs.map (·.1)) = kvs.any fun kv => decide (kv.1 = k) := by
  induction kvs with
  | nil => rfl
  | cons a kvs ih =>
    show (match keyB a.1 k with | true => true | false => dHas k (List.map (fun z : Key × V => z.1) kvs)) = _
    rw [List.any_cons]
    unfold keyB
    cases hk : decide (a.1 = k) with
    | true => simp
    | false => simpa using ih
theorem rep_put : ∀ {kvs : List (Key × V)} {ds : List D} {k : Key} {d : D} {v : V}, Reps G S H ds (kvs.map (·.2)) → Rep G S H d v → Reps G S H (dRep k d (kvs.map (·.1)) ds) (List.map (fun z : Key × V => z.2) (List.map (fun kv : Key × V => if kv.1 = k then (kv.1, v) else kv) kvs))
  | [], ds, k, d, v, r, rv => by cases ds with
    | nil => exact Reps.nil
    | cons d0 ds => obtain ⟨_, _, e, _⟩ := r; cases e
  | (a, x) :: kvs, [], k, d, v, r, rv => by cases r
  | (a, x) :: kvs, d0 :: ds, k, d, v, r, rv => by
    obtain ⟨v', r', ev, h1, h2⟩ := r
    rw [List.map_cons] at ev
    injection ev with e1 e2
    subst e1
    have ih := rep_put (k := k) (by rw [← e2] at h2; exact h2) rv
    show Reps G S H (match keyB a k with | true => d :: dRep k d (kvs.map (·.1)) ds | false => d0 :: dRep k d (kvs.map (·.1)) ds) _
    rw [List.map_cons, List.map_cons]
    unfold keyB
    by_cases hk : a = k
    · rw [decide_eq_true hk, if_pos hk]
      exact Reps.cons rv ih
    · rw [decide_eq_false hk, if_neg hk]
      exact Reps.cons h1 ih
theorem put_ok {kvs : List (Key × V)} {ks : List Key} {ds : List D} {k : Key} {d : D} {v : V} (hk : kvs.map (·.1) = ks) (r : Reps G S H ds (kvs.map (·.2))) (rv : Rep G S H d v) :
    List.map (fun z : Key × V => z.1) (putK kvs k v) = (dPut k d ks ds).1 ∧ Reps G S H (dPut k d ks ds).2 (List.map (fun z : Key × V => z.2) (putK kvs k v)) := by
  subst hk
  unfold putK dPut
  rw [has_any]
  cases hh : kvs.any fun kv => decide (kv.1 = k) with
  | true =>
    rw [if_pos rfl]
    refine ⟨?_, rep_put r rv⟩
    rw [List.map_map]
    apply List.map_congr_left
    intro a _
    show (if a.1 = k then (a.1, v) else a).1 = a.1
    split <;> rfl
  | false =>
    rw [if_neg Bool.false_ne_true]
    refine ⟨by simp, ?_⟩
    rw [List.map_append]
    exact r.append (Reps.cons rv Reps.nil)
theorem rep_dic {ks : List Key} {ds : List D} {v : V} (r : Rep G S H (.dic ks ds) v) : ∃ p kvs, v = .ref p ∧ ¬ S p ∧ Rd H p (.dK kvs) ∧ kvs.map (·.1) = ks ∧ Reps G S H ds (kvs.map (·.2)) := by
  unfold Rep at r
  exact r
end
/-- d[k] -/
def dGetS (wa wb : Sl) : RD := match shr wa, wb with
  | .val (.dic ks ds), .val kd => (match keyOf kd with
    | some k => (match dFind k ks ds with
      | some d => .ok (.val d)
      | none => .stuck)
    | none => .stuck)
  | _, _ => .stuck
/-- k in d -/
def dInS (neg : Bool) (wb wa : Sl) : RD := match shr wa, wb with
  | .val (.dic ks _), .val kd => (match keyOf kd with
    | some k => okB (dHas k ks != neg)
    | none => .stuck)
  | _, _ => .stuck
theorem dGetS_ok {wa wb w : Sl} (h : dGetS wa wb = .ok w) : ∃ ks ds kd k d, shr wa = .val (.dic ks ds) ∧ wb = .val kd ∧ keyOf kd = some k ∧ dFind k ks ds = some d ∧ w = .val d := by
  unfold dGetS at h
  split at h
  · split at h
    · split at h
      · cases h
        exact ⟨_, _, _, _, _, by assumption, rfl, by assumption, by assumption, rfl⟩
      · cases h
    · cases h
  · cases h
theorem dGetS_or (wa wb : Sl) : (∃ w, dGetS wa wb = .ok w) ∨ dGetS wa wb = .stuck := by
  unfold dGetS
  split
  · split
    · split
      · exact .inl ⟨_, rfl⟩
      · exact .inr rfl
    · exact .inr rfl
  · exact .inr rfl
theorem dInS_ok {neg : Bool} {wa wb w : Sl} (h : dInS neg wb wa = .ok w) : ∃ ks ds kd k, shr wa = .val (.dic ks ds) ∧ wb = .val kd ∧ keyOf kd = some k ∧ w = .val (.bl (dHas k ks != neg)) := by
  unfold dInS at h
  split at h
  · split at h
    · rw [okB_eq] at h
      cases h
      exact ⟨_, _, _, _, by assumption, rfl, by assumption, rfl⟩
    · cases h
  · cases h
theorem dInS_or (neg : Bool) (wa wb : Sl) : (∃ w, dInS neg wb wa = .ok w) ∨ dInS neg wb wa = .stuck := by
  unfold dInS
  split
  · split
    · rw [okB_eq]; exact .inl ⟨_, rfl⟩
    · exact .inr rfl
  · exact .inr rfl
def updD (i : Nat) (k : List Key → List D → Option (List Key × List D)) (ρ : Env) : Option Env := match ρ[i]? with
  | some (.own (.dic ks ds)) => (match k ks ds with
    | some (ks', ds') => some (ρ.set i (.own (.dic ks' ds')))
    | none => none)
  | _ => none
def putD' (k : Key) (d : D) (ks : List Key) (ds : List D) : Option (List Key × List D) := fN ks.length fun n => match shortN n with
  | true => some (dPut k d ks ds)
  | false => none
def okDc (i : Nat) (ρ : Env) : Bool := match ρ[i]? with
  | some (.own (.dic _ _)) => true
  | _ => false
def putSl (i : Nat) (w wk : Sl) (ρ : Env) : Option Env := match shr w, wk with
  | .val d, .val kd => (match keyOf kd with
    | some k => updD i (putD' k d) ρ
    | none => none)
  | _, _ => none
theorem putSl_ok {i : Nat} {w wk : Sl} {ρ ρ' : Env} (h : putSl i w wk ρ = some ρ') : ∃ d kd k, shr w = .val d ∧ wk = .val kd ∧ keyOf kd = some k ∧ updD i (putD' k d) ρ = some ρ' := by
  unfold putSl at h
  split at h
  · split at h
    · exact ⟨_, _, _, by assumption, rfl, by assumption, h⟩
    · cases h
  · cases h
/-- x[k] = v -/
def cDPut (i : Nat) (Fk Fv : FE) : FS := fun ρ => (Fv ρ).bind fun (w, ρ1) => match okDc i ρ1 with
  | true => (Fk ρ1).bind fun (wk, ρ2) => (match putSl i w wk ρ2 with
    | some ρ3 => .ok (.nx, ρ3)
    | none => .stuck)
  | false => .stuck
section
variable {G : Gam} {M : Fm} {ρ : Env} {τ : List Ent} {σ : St} {H : Hp}
theorem RS.mutDc {p : Addr} {ks ks' : List Key} {ds ds' : List D} {kvs' : List (Key × V)} (R : RS G M ρ ((some (.ref p), .own (.dic ks ds)) :: τ) σ H) (hk : kvs'.map (·.1) = ks') (r : Reps G (avoid M.S0 (ents σ ρ ++ ((some (.ref p), .own (.dic ks ds)) :: τ))) H ds' (kvs'.map (·.2))) :
    RS G M ρ ((some (.ref p), .own (.dic ks' ds')) :: τ) σ (upd H p (.dK kvs')) := by
  obtain ⟨q, e, vs, hq, _⟩ := R.re.all (some (V.ref p), .own (.dic ks ds)) (List.mem_append_right _ List.mem_cons_self)
  cases e
  exact R.mut hq ⟨kvs', upd_same, hk, r.tr (tr_upd own_avoid)⟩
theorem RS.ownDc {i : Nat} {ks : List Key} {ds : List D} (R : RS G M ρ τ σ H) (h : ρ[i]? = some (.own (.dic ks ds))) : ∃ l kvs, σ[i]? = some (some (.ref l)) ∧ H l = some (.dK kvs) ∧ kvs.map (·.1) = ks ∧ Reps G (avoid M.S0 (ents σ ρ ++ τ)) H ds (kvs.map (·.2)) ∧
    ∀ ks' ds' kvs', kvs'.map (·.1) = ks' → Reps G (avoid M.S0 (ents σ ρ ++ τ)) H ds' (kvs'.map (·.2)) → RS G M (ρ.set i (.own (.dic ks' ds'))) τ σ (upd H l (.dK kvs')) := by
  obtain ⟨v, e1, R2, ea⟩ := R.pullA h
  obtain ⟨l, ev, kvs, hl, hk, r⟩ := R2.re.all (v, .own (.dic ks ds)) (List.mem_append_right _ List.mem_cons_self)
  have ev' : v = some (.ref l) := ev
  subst ev'
  refine ⟨l, kvs, e1, hl, hk, by rw [← ea]; exact r, fun ks' ds' kvs' hk' r' => ?_⟩
  exact RS.push (R2.mutDc hk' (by rw [ea]; exact r')) e1
theorem RS.newDc {ks : List Key} {ds : List D} {kvs : List (Key × V)} {p : Addr} (R : RS G M ρ τ σ H) (hk : kvs.map (·.1) = ks) (r : Reps G (avoid M.S0 (ents σ ρ ++ τ)) H ds (kvs.map (·.2))) (hp : H p = none) : RS G M ρ ((some (.ref p), .own (.dic ks ds)) :: τ) σ (upd H p (.dK kvs)) := by
  refine R.alloc hp ⟨kvs, upd_same, hk, ?_⟩
  rw [RS.avoid_mid]
  exact r.tr (tr_alloc (S := fun _ => False) hp (.inl rfl))
end
theorem updD_ok {i : Nat} {k : List Key → List D → Option (List Key × List D)} {ρ ρ' : Env} (h : updD i k ρ = some ρ') : ∃ ks ds ks' ds', ρ[i]? = some (.own (.dic ks ds)) ∧ k ks ds = some (ks', ds') ∧ ρ' = ρ.set i (.own (.dic ks' ds')) := by
  unfold updD at h
  split at h
  · rename_i ks ds e
    split at h
    · rename_i ks' ds' e2
      cases h
      exact ⟨ks, ds, ks', ds', e, e2, rfl⟩
    · cases h
  · cases h
theorem putD'_ok {k : Key} {d : D} {ks ks' : List Key} {ds ds' : List D} (h : putD' k d ks ds = some (ks', ds')) : ks.length < sizeLine ∧ ks' = (dPut k d ks ds).1 ∧ ds' = (dPut k d ks ds).2 := by
  unfold putD' at h
  rw [fN_eq] at h
  split at h
  · rename_i e
    have h' := Option.some.inj h
    exact ⟨short_ok e, by rw [h'], by rw [h']⟩
  · cases h
section
variable {X : Cx} {G : Gam} {Wt : WX} {e o ie : Expr} {Fa Fi Fv Fo : FE} {pos p tp : Pos} {x : Str} {i : Nat}
/-- o[k], o a dict -/
theorem e_dget (hu : X.A.units + 1 < cLine) (ho : PE X o (tE G Wt Fo)) (hi : PE X ie (tE G Wt Fi)) (hs : NoSl ie) : PE X (.Subscript o ie pos) (tE G Wt (cBin dGetS Fo Fi)) := by
  refine (pe_dget hu ho hi hs).weak fun σ H Q ⟨M, ρ, τ, R, q⟩ => ⟨M, ρ, τ, R, post_bind0 q fun wa ρ1 v H1 _ R1 q1 => ⟨M, ρ1, _, R1, post_bind q1 (fun _ _ _ _ z => xe_drop z) fun wb ρ2 y H2 _ R2 q2 => ?_⟩⟩
  dsimp only at q2
  rcases dGetS_or wa wb with ⟨w, e0⟩ | e0
  · rw [e0] at q2
    obtain ⟨ks, ds, kd, k, d, ew, rfl, ek, ed, rfl⟩ := dGetS_ok e0
    have R3 : RS G M ρ2 ((some v, shr wa) :: (some y, .val kd) :: τ) σ H2 := RS.shr1 (R2.perm (List.Perm.swap _ _ _))
    rw [ew] at R3
    obtain ⟨u, eu, r⟩ := R3.val List.mem_cons_self
    cases eu
    obtain ⟨a, kvs, rfl, na, hrd, hks, r⟩ := rep_dic r
    obtain ⟨u2, eu2, rk⟩ := R3.val (List.mem_cons_of_mem _ List.mem_cons_self)
    cases eu2
    have ey := keyOf_rep ek rk
    subst hks
    obtain ⟨vv, h1, h2⟩ := find_some r ed
    refine ⟨a, vv, rfl, .inl ⟨kvs, k, hrd, ey, h1.symm⟩, q2 vv H2 ?_⟩
    have R4 := R3.addVal h2
    exact RS.drop (τ' := [_, _]) (R4.perm ((List.Perm.swap _ _ _).trans (List.Perm.cons _ (List.Perm.swap _ _ _))))
  · rw [e0] at q2
    exact q2.elim
theorem din_imp {neg : Bool} {t : TE → TE → TE} (ht : ∀ (ty td : TE) σ H Q, (ty σ H fun y H1 => td σ H1 fun x H2 => ∃ a o, x = .ref a ∧ DGet H2 a y o ∧ Q (.bl (o.isSome != neg)) H2) → t ty td σ H Q) {σ : St} {H : Hp} {Q : VK} (q0 : tE G Wt (cBin (dInS neg) Fi Fo) σ H Q) : t (tE G Wt Fi) (tE G Wt Fo) σ H Q := by
  obtain ⟨M, ρ, τ, R, q⟩ := q0
  refine ht _ _ _ _ _ ⟨M, ρ, τ, R, post_bind0 q fun wb ρ1 y H1 _ R1 q1 => ⟨M, ρ1, _, R1, post_bind q1 (fun _ _ _ _ z => xe_drop z) fun wa ρ2 v H2 _ R2 q2 => ?_⟩⟩
  dsimp only at q2
  rcases dInS_or neg wa wb with ⟨w, e0⟩ | e0
  · rw [e0] at q2
    obtain ⟨ks, ds, kd, k, ew, rfl, ek, rfl⟩ := dInS_ok e0
    have R3 : RS G M ρ2 ((some v, shr wa) :: (some y, .val kd) :: τ) σ H2 := RS.shr1 R2
    rw [ew] at R3
    obtain ⟨u, eu, r⟩ := R3.val List.mem_cons_self
    cases eu
    obtain ⟨a, kvs, rfl, na, hrd, hks, r⟩ := rep_dic r
    obtain ⟨u2, eu2, rk⟩ := R3.val (List.mem_cons_of_mem _ List.mem_cons_self)
    cases eu2
    have ey := keyOf_rep ek rk
    subst hks
    refine ⟨a, valV kvs k, rfl, .inl ⟨kvs, k, hrd, ey, rfl⟩, ?_⟩
    rw [← has_eq]
    exact q2 _ H2 (R3.drop1.drop1.addFlat rfl)
  · rw [e0] at q2
    exact q2.elim
theorem t_dnotin (hu : X.A.units + 1 < cLine) (hi : PE X ie (tE G Wt Fi)) (ho : PE X o (tE G Wt Fo)) (h1 : behindInMarks .NotIn o = false) : PT X (.Compare ie [.NotIn] [o] pos) (tT G Wt (cTst (cBin (dInS true) Fi Fo))) :=
  (pt_cmp (pc_dnotin hu hi ho) h1).weak fun σ H Q ⟨M, ρ, τ, R, q⟩ => din_imp (neg := true) (t := tDNotIn) (fun ty td σ H Q h => by
    unfold tDNotIn
    have e : ∀ b : Bool, (b != true) = !b := fun b => by cases b <;> rfl
    simpa only [e] using h) ⟨M, ρ, τ, R, postT_bind q (fun _ _ _ _ z => z) fun w ρ' v H' R1 p => bTst_post R1 p⟩
theorem s_dput {pos' : Pos} (hu : X.A.units + 1 < cLine) (hN : X.N[i]? = some x) (hv : Vis X.env.scope x) (hi : PE X ie (tE G Wt Fi)) (he : PE X e (tE G Wt Fv)) (hs : swapsWith e (some (.Subscript (.Name x p) ie pos')) pos.line X.env = pure false := by rfl) (hd : (x == ("__debug__" : Str)) = false := by decide) (hcd : (x == ("__classdict__" : Str)) = false := by decide) :
    PS X (.Assign [.Subscript (.Name x p) ie pos'] e pos) (tS G Wt (cDPut i Fi Fv)) := by
  refine (ps_dput hu (pe_var hN hv hd hcd) hi he hs).weak fun DD σ H ⟨M, ρ, τ, R, q⟩ => ⟨M, ρ, τ, R, postES_bind q fun w ρ1 v H1 R1 q1 => ?_⟩
  dsimp only at q1
  split at q1
  · rename_i ek
    unfold okDc at ek
    split at ek
    · rename_i ks0 ds0 e0
      obtain ⟨l, kvs0, hl, hl0, _⟩ := R1.ownDc e0
      refine ⟨_, hl, M, ρ1, (some v, w) :: τ, R1, ?_⟩
      cases ef : Fi ρ1 with
      | exc c fs ρ' => rw [ef] at q1; exact fun dd vs H' hx R' => q1 dd vs σ H' hx (xe_drop R')
      | stuck => rw [ef] at q1; exact q1
      | ok a =>
        obtain ⟨wk, ρ2⟩ := a
        rw [ef] at q1
        intro y H2 R2
        have q2 : postS G Wt M τ (match putSl i w wk ρ2 with
          | some ρ3 => .ok (.nx, ρ3)
          | none => .stuck) DD := q1
        cases ep : putSl i w wk ρ2 with
        | none => rw [ep] at q2; exact q2.elim
        | some ρ3 =>
          rw [ep] at q2
          obtain ⟨d, kd, k, ew, rfl, ekk, eu⟩ := putSl_ok ep
          obtain ⟨ks, ds, ks', ds', h1, h2, rfl⟩ := updD_ok eu
          obtain ⟨hlt, rfl, rfl⟩ := putD'_ok h2
          have R3 : RS G M ρ2 ((some v, shr w) :: (some y, .val kd) :: τ) σ H2 := RS.shr1 (R2.perm (List.Perm.swap _ _ _))
          rw [ew] at R3
          obtain ⟨u, eu, rv⟩ := R3.val List.mem_cons_self
          cases eu
          obtain ⟨u2, eu2, rk⟩ := R3.val (List.mem_cons_of_mem _ List.mem_cons_self)
          cases eu2
          have ey := keyOf_rep ekk rk
          obtain ⟨l', kvs, hl', hv', hks, r, kk⟩ := R3.ownDc h1
          rw [hl] at hl'
          cases hl'
          obtain ⟨g1, g2⟩ := put_ok (k := k) hks r rv
          refine ⟨l, _, rfl, .inl ⟨kvs, k, hv', ey, ?_, rfl⟩, q2 σ _ (RS.drop (τ' := [_, _]) (kk _ _ _ g1 g2))⟩
          have := congrArg List.length hks
          rw [List.length_map] at this
          omega
    · cases ek
  · exact q1.elim
end
/-! #### displays -/
def cDispL : List (FE × FE) → Env → Res (List (Key × D) × Env)
  | [], ρ => .ok ([], ρ)
  | (Fk, Fv) :: r, ρ => (Fk ρ).bind fun (wk, ρ1) => (Fv ρ1).bind fun (wv, ρ2) => (match wk, shr wv with
    | .val kd, .val d => (match keyOf kd with
      | some k => (cDispL r ρ2).bind fun (l, ρ3) => .ok ((k, d) :: l, ρ3)
      | none => .stuck)
    | _, _ => .stuck)
def mergeD : List (Key × D) → List Key → List D → List Key × List D
  | [], ks, ds => (ks, ds)
  | (k, d) :: r, ks, ds => mergeD r (dPut k d ks ds).1 (dPut k d ks ds).2
def cDisp (l : List (FE × FE)) : FE := fun ρ => (cDispL l ρ).bind fun (ps, ρ1) => match Nat.ble ps.length 15 with
  | true => .ok (.own (.dic (mergeD ps [] []).1 (mergeD ps [] []).2), ρ1)
  | false => .stuck
section
variable {G : Gam} {Wt : WX}
theorem merge_ok {S : Addr → Prop} {H : Hp} : ∀ {ps : List (Key × D)} {more : List (Key × V)} {ks : List Key} {ds : List D} {kvs : List (Key × V)}, kvs.map (·.1) = ks → Reps G S H ds (kvs.map (·.2)) → more.map (·.1) = ps.map (·.1) → Reps G S H (ps.map (·.2)) (more.map (·.2)) →
    (mergeK kvs more).map (·.1) = (mergeD ps ks ds).1 ∧ Reps G S H (mergeD ps ks ds).2 ((mergeK kvs more).map (·.2))
  | [], more, ks, ds, kvs, h1, h2, h3, h4 => by
    have : more = [] := by simpa using h3
    subst this
    exact ⟨h1, h2⟩
  | (k, d) :: ps, [], ks, ds, kvs, h1, h2, h3, h4 => by cases h3
  | (k, d) :: ps, (k', v) :: more, ks, ds, kvs, h1, h2, h3, h4 => by
    rw [List.map_cons, List.map_cons] at h3
    injection h3 with e1 e2
    have e1' : k' = k := e1
    subst e1'
    obtain ⟨v', r', ev, g1, g2⟩ := h4
    rw [List.map_cons] at ev
    injection ev with e3 e4
    have e3' : v = v' := e3
    subst e3'
    obtain ⟨p1, p2⟩ := put_ok (k := k') h1 h2 g1
    exact merge_ok (ps := ps) (more := more) p1 p2 e2 (by rw [← e4] at g2; exact g2)
theorem disp_pairs {M : Fm} {σ : St} : ∀ (l : List (FE × FE)) {ρ : Env} {τ : List Ent} {H : Hp} {Q : List (V × V) → Hp → Prop}, RS G M ρ τ σ H →
    (match cDispL l ρ with
      | .ok (ps, ρ') => ∀ (kvs : List (Key × V)) H', kvs.map (·.1) = ps.map (·.1) → RS G M ρ' (aents (kvs.map (·.2)) (ps.map fun q => Sl.val q.2) ++ τ) σ H' → Q (kvs.map fun kv => (kV kv.1, kv.2)) H'
      | .exc c fs ρ' => ∀ dd vs H', RX G c fs dd vs H' → RS G M ρ' (xents vs fs ++ τ) σ H' → Wt (.ref (G.ca c)) dd σ H'
      | .stuck => False) → tPairs (l.map fun q => (tE G Wt q.1, tE G Wt q.2)) σ H Q
  | [], ρ, τ, H, Q, R, q => q [] H rfl R
  | (Fk, Fv) :: r, ρ, τ, H, Q, R, q => by
    refine ⟨M, ρ, τ, R, ?_⟩
    have q' : (match ((Fk ρ).bind fun (wk, ρ1) => (Fv ρ1).bind fun (wv, ρ2) => (match wk, shr wv with
      | .val kd, .val d => (match keyOf kd with
        | some k => (cDispL r ρ2).bind fun (l, ρ3) => Res.ok ((k, d) :: l, ρ3)
        | none => .stuck)
      | _, _ => .stuck)) with
      | .ok (ps, ρ') => ∀ (kvs : List (Key × V)) H', kvs.map (·.1) = ps.map (·.1) → RS G M ρ' (aents (kvs.map (·.2)) (ps.map fun q => Sl.val q.2) ++ τ) σ H' → Q (kvs.map fun kv => (kV kv.1, kv.2)) H'
      | .exc c fs ρ' => ∀ dd vs H', RX G c fs dd vs H' → RS G M ρ' (xents vs fs ++ τ) σ H' → Wt (.ref (G.ca c)) dd σ H'
      | .stuck => False) := q
    clear q
    cases ek : Fk ρ with
    | exc c fs ρ' => rw [ek] at q'; dsimp only [Res.bind] at q'; show post G Wt M τ σ (Fk ρ) _; rw [ek]; exact q'
    | stuck => rw [ek] at q'; exact q'.elim
    | ok a =>
      obtain ⟨wk, ρ1⟩ := a
      rw [ek] at q'
      show post G Wt M τ σ (Fk ρ) _
      rw [ek]
      intro x H1 R1
      refine ⟨M, ρ1, _, R1, ?_⟩
      show post G Wt M _ σ (Fv ρ1) _
      dsimp only [Res.bind] at q'
      cases ev : Fv ρ1 with
      | exc c fs ρ' => rw [ev] at q'; exact fun dd vs H' hx R' => q' dd vs H' hx (xe_drop R')
      | stuck => rw [ev] at q'; exact q'.elim
      | ok b =>
        obtain ⟨wv, ρ2⟩ := b
        rw [ev] at q'
        intro y H2 R2
        dsimp only [Res.bind] at q'
        have R3 : RS G M ρ2 ((some y, shr wv) :: (some x, wk) :: τ) σ H2 := R2.shr1
        cases wk with
        | val kd =>
          cases esv : shr wv with
          | val d =>
            rw [esv] at q' R3
            dsimp only at q'
            cases ekk : keyOf kd with
            | none => rw [ekk] at q'; exact q'.elim
            | some k =>
              rw [ekk] at q'
              dsimp only at q'
              have R4 : RS G M ρ2 ((some x, .val kd) :: (some y, .val d) :: τ) σ H2 := R3.perm (List.Perm.swap _ _ _)
              obtain ⟨u2, eu2, rk⟩ := R4.val List.mem_cons_self
              cases eu2
              have ex := keyOf_rep ekk rk
              subst ex
              refine disp_pairs r (R4.drop1) ?_
              cases er : cDispL r ρ2 with
              | exc c fs ρ' => rw [er] at q'; exact fun dd vs H' hx R' => q' dd vs H' hx (xe_drop R')
              | stuck => rw [er] at q'; exact q'
              | ok z =>
                obtain ⟨ps, ρ3⟩ := z
                rw [er] at q'
                intro kvs H3 hk R5
                refine q' ((k, y) :: kvs) H3 (by simp [hk]) (R5.perm List.perm_middle)
          | none => rw [esv] at q'; exact q'.elim
          | own d => rw [esv] at q'; exact q'.elim
          | self d => rw [esv] at q'; exact q'.elim
        | none => exact q'.elim
        | own d => exact q'.elim
        | self d => exact q'.elim
end
section
variable {X : Cx} {G : Gam} {Wt : WX} {pos : Pos} {keys : List (Option Expr)} {values : List Expr}
theorem vals_ents {ps : List (Key × D)} {kvs : List (Key × V)} {τ : List Ent} {M : Fm} {ρ : Env} {σ : St} {H : Hp} (hk : kvs.map (·.1) = ps.map (·.1)) (R : RS G M ρ (aents (kvs.map (·.2)) (ps.map fun q => Sl.val q.2) ++ τ) σ H) : RS G M ρ τ σ H ∧ Reps G (avoid M.S0 (ents σ ρ ++ τ)) H (ps.map (·.2)) (kvs.map (·.2)) := by
  have e : slDs (ps.map fun q => Sl.val q.2) = some (ps.map (·.2)) := by
    clear R hk
    induction ps with
    | nil => rfl
    | cons a r ih => simp only [List.map_cons, slDs, shr, ih]
  exact R.reps (by have := congrArg List.length hk; simpa using this.symm) e
theorem e_disp (l : List (FE × FE)) (h : PPs X pos keys values (l.map fun q => (tE G Wt q.1, tE G Wt q.2))) (hall : keys.all (·.isSome) = true) (hl : keys.length = values.length) (h0 : keys ≠ []) (h15 : keys.length ≤ 15) : PE X (.Dict keys values pos) (tE G Wt (cDisp l)) := by
  refine (pe_disp h hall hl h0 h15).weak fun σ H Q ⟨M, ρ, τ, R, q⟩ => ?_
  intro p0 hp0
  have R1 := R.newDc (kvs := []) (ks := []) (ds := []) rfl Reps.nil hp0
  refine disp_pairs l R1 ?_
  unfold cDisp at q
  cases e1 : cDispL l ρ with
  | exc c fs ρ' => rw [e1] at q; exact fun dd vs H' hx R' => q dd vs H' hx (xe_drop R')
  | stuck => rw [e1] at q; exact q
  | ok a =>
    obtain ⟨ps, ρ1⟩ := a
    rw [e1] at q
    intro kvs H1 hk R2
    obtain ⟨R3, r⟩ := vals_ents hk R2
    have q1 : post G Wt M τ σ (match Nat.ble ps.length 15 with
      | true => .ok (.own (.dic (mergeD ps [] []).1 (mergeD ps [] []).2), ρ1)
      | false => .stuck) Q := q
    split at q1
    · rename_i e15
      obtain ⟨q0, eq0, kvs0, h0', hk0, _⟩ := R3.re.all (some (V.ref p0), .own (.dic [] [])) (List.mem_append_right _ List.mem_cons_self)
      cases eq0
      have ek0 : kvs0 = [] := by simpa using hk0
      subst ek0
      refine ⟨h0', kvs, rfl, ?_, ?_⟩
      · have h15' : ps.length ≤ 15 := Nat.le_of_ble_eq_true e15
        have := congrArg List.length hk
        simp at this; omega
      · obtain ⟨g1, g2⟩ := merge_ok (G := G) (S := avoid M.S0 (ents σ ρ1 ++ ((some (V.ref p0), Sl.own (.dic [] [])) :: τ))) (H := H1) (ps := ps) (more := kvs) (ks := []) (ds := []) (kvs := []) rfl Reps.nil hk r
        exact q1 _ _ (R3.mutDc g1 g2)
    · exact q1.elim
def cDNew : FE := fun ρ => .ok (.own (.dic [] []), ρ)
theorem e_dnew : PE X (.Dict [] [] pos) (tE G Wt cDNew) := by
  refine pe_dnewK.weak fun σ H Q ⟨M, ρ, τ, R, q⟩ => ?_
  exact fun p hp => q _ _ (R.newDc (kvs := []) rfl Reps.nil hp)
end
end Dl
namespace Dl
open PySem PySem.Spec L2
open PyProof.Rows hiding St
/-! ### dicts walked: locked while the loop runs -/
def keyD : Key → D
  | .inl i => .int i
  | .inr s => .str s
theorem keyD_rep {G : Gam} {S : Addr → Prop} {H : Hp} {k : Key} : Rep G S H (keyD k) (kV k) := by
  cases k with
  | inl i => show V.int i = V.int i; rfl
  | inr i => show V.str i = V.str i; rfl
def itmD : List Key → List D → List D
  | k :: ks, d :: ds => .tup [keyD k, d] :: itmD ks ds
  | _, _ => []
def keysD (ks : List Key) (_ : List D) : List D := ks.map keyD
def valsD (_ : List Key) (ds : List D) : List D := ds
abbrev frzD (od : Obj) (kvs : List (Key × V)) : HO := .frz od (.dK kvs)
def lockM (M : Fm) (d : Addr) (u : HO) : Fm := ⟨M.P, M.S0, upd M.H0 d u⟩
section
variable {G : Gam} {M : Fm} {ρ : Env} {τ : List Ent} {σ : St} {H : Hp} {d : Addr} {od : Obj} {kvs : List (Key × V)}
theorem RS.locked (R : RS G M ρ τ σ H) (hd : H d = some (.dK kvs)) (n : ¬ avoid M.S0 (ents σ ρ ++ τ) d) : RS G (lockM M d (frzD od kvs)) ρ τ σ (upd H d (frzD od kvs)) := by
  refine ⟨R.len, fun a o e => ?_, fun p hp => ?_, R.re.nd, fun p hp => ?_, fun e he => ?_⟩
  · by_cases z : a = d
    · subst z
      have e' : upd M.H0 a (frzD od kvs) a = some o := e
      rw [upd_same] at e' ⊢
      exact e'
    · have e' : upd M.H0 d (frzD od kvs) a = some o := e
      rw [upd_ne z] at e' ⊢
      exact R.re.same a o e'
  · by_cases z : p = d
    · subst z; exact ⟨_, upd_same⟩
    · obtain ⟨o, e⟩ := R.re.inb p hp
      exact ⟨o, by show upd M.H0 d (frzD od kvs) p = some o; rw [upd_ne z]; exact e⟩
  · have z : p ≠ d := fun z => by subst z; exact n (.inr hp)
    show upd M.H0 d (frzD od kvs) p = none
    rw [upd_ne z]
    exact R.re.new p hp
  · refine (R.re.all e he).tr ⟨fun a u na nf r => ?_, fun a o na e nd => ?_, fun a o na e => na⟩ fun p hp => ?_
    · by_cases z : a = d
      · subst z
        rcases r with r | ⟨o, r⟩
        · rw [hd] at r
          cases r
          exact .inr ⟨od, upd_same⟩
        · rw [hd] at r; cases r
      · rcases r with r | ⟨o, r⟩
        · exact .inl (by rw [upd_ne z]; exact r)
        · exact .inr ⟨o, by rw [upd_ne z]; exact r⟩
    · have z : a ≠ d := fun z => by subst z; rw [hd] at e; cases e; exact nd
      rw [upd_ne z]; exact e
    · have z : p ≠ d := fun z => by subst z; exact n (.inr (mem_owns.mpr ⟨e, he, hp⟩))
      rw [upd_ne z]
/-- the dict is known locked already -/
theorem RS.lockedF (R : RS G M ρ τ σ H) (hd : H d = some (frzD od kvs)) (n : ¬ avoid M.S0 (ents σ ρ ++ τ) d) : RS G (lockM M d (frzD od kvs)) ρ τ σ H := by
  refine ⟨R.len, fun a o e => ?_, fun p hp => ?_, R.re.nd, fun p hp => ?_, R.re.all⟩
  · by_cases z : a = d
    · subst z
      have e' : upd M.H0 a (frzD od kvs) a = some o := e
      rw [upd_same] at e'
      cases e'
      exact hd
    · have e' : upd M.H0 d (frzD od kvs) a = some o := e
      rw [upd_ne z] at e'
      exact R.re.same a o e'
  · by_cases z : p = d
    · subst z; exact ⟨_, upd_same⟩
    · obtain ⟨o, e⟩ := R.re.inb p hp
      exact ⟨o, by show upd M.H0 d (frzD od kvs) p = some o; rw [upd_ne z]; exact e⟩
  · have z : p ≠ d := fun z => by subst z; exact n (.inr hp)
    show upd M.H0 d (frzD od kvs) p = none
    rw [upd_ne z]
    exact R.re.new p hp
theorem lock_at (R : RS G (lockM M d (frzD od kvs)) ρ τ σ H) : H d = some (frzD od kvs) := R.re.same d _ upd_same
theorem RS.unlocked (inb : ∀ p, M.S0 p → ∃ o, M.H0 p = some o) (h0 : M.H0 d = none ∨ M.H0 d = some (.dK kvs)) (R : RS G (lockM M d (frzD od kvs)) ρ τ σ H) : RS G M ρ τ σ (upd H d (.dK kvs)) := by
  have hd := lock_at R
  have ne : ∀ p, p ∈ owns (ents σ ρ ++ τ) → p ≠ d := fun p hp z => by
    subst z
    have := R.re.new p hp
    have e' : upd M.H0 p (frzD od kvs) p = none := this
    rw [upd_same] at e'
    cases e'
  refine ⟨R.len, fun a o e => ?_, inb, R.re.nd, fun p hp => ?_, fun e he => ?_⟩
  · by_cases z : a = d
    · subst z
      rw [upd_same]
      rcases h0 with h0 | h0
      · rw [h0] at e; cases e
      · rw [h0] at e; exact e
    · rw [upd_ne z]
      exact R.re.same a o (by show upd M.H0 d (frzD od kvs) a = some o; rw [upd_ne z]; exact e)
  · have := R.re.new p hp
    have e' : upd M.H0 d (frzD od kvs) p = none := this
    rwa [upd_ne (ne p hp)] at e'
  · refine (R.re.all e he).tr ⟨fun a u na nf r => ?_, fun a o na e nd => ?_, fun a o na e => na⟩ fun p hp => ?_
    · by_cases z : a = d
      · subst z
        rcases r with r | ⟨o, r⟩
        · rw [hd] at r
          exact absurd (Option.some.inj r).symm (nf _ _)
        · rw [hd] at r
          cases r
          exact .inl upd_same
      · rcases r with r | ⟨o, r⟩
        · exact .inl (by rw [upd_ne z]; exact r)
        · exact .inr ⟨o, by rw [upd_ne z]; exact r⟩
    · have z : a ≠ d := fun z => by subst z; rw [hd] at e; cases e; exact nd
      rw [upd_ne z]; exact e
    · rw [upd_ne (ne p (mem_owns.mpr ⟨e, he, hp⟩))]
/-- it may stay locked -/
theorem RS.keepLock (inb : ∀ p, M.S0 p → ∃ o, M.H0 p = some o) (h0 : M.H0 d = none ∨ M.H0 d = some (frzD od kvs)) (R : RS G (lockM M d (frzD od kvs)) ρ τ σ H) : RS G M ρ τ σ H := by
  have hd := lock_at R
  have ne : ∀ p, p ∈ owns (ents σ ρ ++ τ) → p ≠ d := fun p hp z => by
    subst z
    have := R.re.new p hp
    have e' : upd M.H0 p (frzD od kvs) p = none := this
    rw [upd_same] at e'
    cases e'
  refine ⟨R.len, fun a o e => ?_, inb, R.re.nd, fun p hp => ?_, R.re.all⟩
  · by_cases z : a = d
    · subst z
      rcases h0 with h0 | h0
      · rw [h0] at e; cases e
      · rw [h0] at e; cases e; exact hd
    · exact R.re.same a o (by show upd M.H0 d (frzD od kvs) a = some o; rw [upd_ne z]; exact e)
  · have := R.re.new p hp
    have e' : upd M.H0 d (frzD od kvs) p = none := this
    rwa [upd_ne (ne p hp)] at e'
theorem h0_cases (R : RS G M ρ τ σ H) {u : HO} (hd : H d = some u) : M.H0 d = none ∨ M.H0 d = some u := by
  cases e : M.H0 d with
  | none => exact .inl rfl
  | some o =>
    have := R.re.same d o e
    rw [hd] at this
    exact .inr this.symm
/-- the dict's entry, where it is locked -/
theorem dic_at (hM : M.H0 d = some (frzD od kvs)) (R : RS G M ρ τ σ H) {ks : List Key} {ds : List D} (hm : (some (V.ref d), Sl.val (.dic ks ds)) ∈ τ) : H d = some (frzD od kvs) ∧ kvs.map (·.1) = ks ∧ Reps G (avoid M.S0 (ents σ ρ ++ τ)) H ds (kvs.map (·.2)) := by
  have hd := R.re.same d _ hM
  obtain ⟨u, eu, r⟩ := R.val hm
  cases eu
  obtain ⟨p, kvs', ep, na, hrd, hk, r⟩ := rep_dic r
  cases ep
  have e : kvs' = kvs := by
    rcases hrd with h | ⟨o, h⟩
    · rw [hd] at h; cases h
    · rw [hd] at h; cases h; rfl
  subst e
  exact ⟨hd, hk, r⟩
theorem itmD_get : ∀ {ks : List Key} {ds : List D} {i : Nat} {x : D}, (itmD ks ds)[i]? = some x → ∃ k e, ks[i]? = some k ∧ ds[i]? = some e ∧ x = .tup [keyD k, e]
  | [], ds, i, x, h => by simp [itmD] at h
  | k :: ks, [], i, x, h => by simp [itmD] at h
  | k :: ks, d :: ds, i, x, h => by
    unfold itmD at h
    cases i with
    | zero =>
      have h' : D.tup [keyD k, d] = x := by simpa using h
      subst h'
      exact ⟨k, d, rfl, rfl, rfl⟩
    | succ i =>
      obtain ⟨k', e', h1, h2, h3⟩ := itmD_get (by simpa using h)
      exact ⟨k', e', by simpa using h1, by simpa using h2, h3⟩
theorem itmD_len : ∀ {ks : List Key} {ds : List D}, (itmD ks ds).length = min ks.length ds.length
  | [], ds => by simp [itmD]
  | k :: ks, [] => by simp [itmD]
  | k :: ks, d :: ds => by unfold itmD; rw [List.length_cons, itmD_len, List.length_cons, List.length_cons]; omega
theorem kv_at {ks : List Key} {i : Nat} {k : Key} (hk : kvs.map (·.1) = ks) (h : ks[i]? = some k) : ∃ v, kvs[i]? = some (k, v) ∧ (kvs.map (·.2))[i]? = some v := by
  subst hk
  rw [List.getElem?_map] at h
  obtain ⟨kv, h1, h2⟩ := Option.map_eq_some_iff.mp h
  exact ⟨kv.2, by rw [h1, ← h2], by rw [List.getElem?_map, h1]; rfl⟩
theorem src_items {ks : List Key} {ds : List D} (hM : M.H0 d = some (frzD od kvs)) : SrcOk G M (Iti d od kvs) [(some (.ref d), .val (.dic ks ds))] (itmD ks ds) := by
  intro ρ τ σ H i R
  obtain ⟨hd, hk, r⟩ := dic_at hM R List.mem_cons_self
  have l1 : kvs.length = ks.length := by rw [← hk, List.length_map]
  have l2 : kvs.length = ds.length := by have := r.len; rwa [List.length_map] at this
  refine ⟨fun e => ⟨hd, by rw [itmD_len] at e; omega⟩, fun x hx => ?_⟩
  obtain ⟨k, e, h1, h2, rfl⟩ := itmD_get hx
  have hi : i < kvs.length := by have := (List.getElem?_eq_some_iff.mp h1).1; omega
  refine ⟨⟨hd, hi⟩, fun y H' ⟨T, k', v', g1, g2, g3, g4⟩ => ?_⟩
  subst g2 g4
  obtain ⟨v, g5, g6⟩ := kv_at hk h1
  rw [g5] at g1
  cases g1
  obtain ⟨v2, g7, rv⟩ := r.get h2
  rw [g6] at g7
  cases g7
  exact R.newT (Reps.cons keyD_rep (Reps.cons rv Reps.nil)) g3
theorem src_keys {ks : List Key} {ds : List D} (hM : M.H0 d = some (frzD od kvs)) : SrcOk G M (Itk d od kvs) [(some (.ref d), .val (.dic ks ds))] (keysD ks ds) := by
  intro ρ τ σ H i R
  obtain ⟨hd, hk, r⟩ := dic_at hM R List.mem_cons_self
  have l1 : kvs.length = ks.length := by rw [← hk, List.length_map]
  refine ⟨fun e => ⟨hd, by unfold keysD at e; rw [List.length_map] at e; omega⟩, fun x hx => ?_⟩
  unfold keysD at hx
  rw [List.getElem?_map] at hx
  obtain ⟨k, h1, rfl⟩ := Option.map_eq_some_iff.mp hx
  have hi : i < kvs.length := by have := (List.getElem?_eq_some_iff.mp h1).1; omega
  refine ⟨⟨hd, hi⟩, fun y H' ⟨g0, k', v', g1, g2⟩ => ?_⟩
  subst g0 g2
  obtain ⟨v, g5, g6⟩ := kv_at hk h1
  rw [g5] at g1
  cases g1
  exact R.addVal keyD_rep
theorem src_vals {ks : List Key} {ds : List D} (hM : M.H0 d = some (frzD od kvs)) : SrcOk G M (Itd d od kvs) [(some (.ref d), .val (.dic ks ds))] (valsD ks ds) := by
  intro ρ τ σ H i R
  obtain ⟨hd, hk, r⟩ := dic_at hM R List.mem_cons_self
  have l2 : kvs.length = ds.length := by have := r.len; rwa [List.length_map] at this
  refine ⟨fun e => ⟨hd, by unfold valsD at e; omega⟩, fun x hx => ?_⟩
  unfold valsD at hx
  have hi : i < kvs.length := by have := (List.getElem?_eq_some_iff.mp hx).1; omega
  refine ⟨⟨hd, hi⟩, fun y H' ⟨g0, k', g1⟩ => ?_⟩
  subst g0
  obtain ⟨v2, g7, rv⟩ := r.get hx
  rw [List.getElem?_map, g1] at g7
  cases g7
  exact R.addVal rv
end
/-- the dict in the slot i -/
def dcAt (i : Nat) (ρ : Env) : Option (List Key × List D) := match ρ[i]? with
  | some (.val (.dic ks ds)) => some (ks, ds)
  | _ => none
/-- the dict in the field k of the object in the slot i -/
def dcFl (i c k : Nat) (ρ : Env) : Option (List Key × List D) := match ρ[i]? with
  | some w => (match slD w with
    | some d => (match fldD c k d with
      | some (.dic ks ds) => some (ks, ds)
      | _ => none)
    | none => none)
  | none => none
def cItDc (g : Env → Option (List Key × List D)) (sel : List Key → List D → List D) : FI := fun ρ => match g ρ with
  | some (ks, ds) => .ok (sel ks ds, ρ)
  | none => .stuck
theorem dcAt_ok {i : Nat} {ρ : Env} {ks : List Key} {ds : List D} (h : dcAt i ρ = some (ks, ds)) : ρ[i]? = some (.val (.dic ks ds)) := by
  unfold dcAt at h
  split at h
  · cases h; assumption
  · cases h
theorem dcFl_ok {i c k : Nat} {ρ : Env} {ks : List Key} {ds : List D} (h : dcFl i c k ρ = some (ks, ds)) : ∃ w d, ρ[i]? = some w ∧ slD w = some d ∧ fldD c k d = some (.dic ks ds) := by
  unfold dcFl at h
  split at h
  · rename_i w ew
    split at h
    · rename_i d ed
      split at h
      · cases h; exact ⟨w, d, ew, ed, by assumption⟩
      · cases h
    · cases h
  · cases h
def MonoE (td : TE) : Prop := ∀ σ H (Q Q' : VK), (∀ x H, Q x H → Q' x H) → td σ H Q → td σ H Q'
/-- a source of the three kinds: what the layer's rule wants of the dict's expression -/
structure SelOk (sel : List Key → List D → List D) (It' : Addr → Obj → List (Key × V) → It) (i' : TE → TI) : Prop where
  src : ∀ {G : Gam} {M : Fm} {d : Addr} {od : Obj} {kvs : List (Key × V)} {ks : List Key} {ds : List D}, M.H0 d = some (frzD od kvs) → SrcOk G M (It' d od kvs) [(some (.ref d), .val (.dic ks ds))] (sel ks ds)
  imp : ∀ {td : TE} {σ : St} {H : Hp} {R : It → Hp → Prop}, MonoE td → (td σ H fun x H1 => ∃ d o kvs, x = .ref d ∧ H1 d = some (frzD o kvs) ∧ R (It' d o kvs) H1) → i' td σ H R
theorem selItems : SelOk itmD Iti iItems := ⟨src_items, fun _ h => h⟩
theorem selVals : SelOk valsD Itd iVals := ⟨src_vals, fun _ h => h⟩
theorem selKeys : SelOk keysD Itk iKeys := ⟨src_keys, fun m h => m _ _ _ _ (fun x H ⟨d, o, kvs, e, h1, r⟩ => ⟨d, o, e, .inl ⟨kvs, h1, r⟩⟩) h⟩
theorem mono_var {i : Nat} : MonoE (tVar i) := fun σ H Q Q' k ⟨v, e, q⟩ => ⟨v, e, k _ _ q⟩
theorem mono_fld {K : PySem.W.Frag} {i : Nat} {f : Str} : MonoE (tFld K (tVar i) f) := fun σ H Q Q' k ⟨v, e, a, C, dx, fs, y, h1, h2, h3, h4, h5, q⟩ => ⟨v, e, a, C, dx, fs, y, h1, h2, h3, h4, h5, k _ _ q⟩
/-- the frame knows the dict in the slot as locked -/
def ExAt (i : Nat) : Fm → St → Hp → Prop := fun M σ _ => ∃ d od kvs, σ[i]? = some (some (.ref d)) ∧ M.H0 d = some (frzD od kvs)
def ExFl (i : Nat) (f : Str) : Fm → St → Hp → Prop := fun M σ H => ∃ a C dx fs d od kvs, σ[i]? = some (some (.ref a)) ∧ H a = some (.ins C dx fs) ∧ fs.lookup f = some (.ref d) ∧ M.H0 d = some (frzD od kvs)
section
variable {X : Cx} {G : Gam} {Wt : WX} {tg : Expr} {i c k : Nat} {x f : Str} {p pos apos cpos : Pos} {sel : List Key → List D → List D} {It' : Addr → Obj → List (Key × V) → It} {i' : TE → TI}
theorem at_imp (hs : SelOk sel It' i') {σ : St} {H : Hp} {R : It → Hp → Prop} (q0 : tIX (ExAt i) G Wt (cItDc (dcAt i) sel) σ H R) : i' (tVar i) σ H R := by
  obtain ⟨M, ρ, τ, RR, ⟨d, od, kvs, e1, hM⟩, q⟩ := q0
  refine hs.imp mono_var ?_
  unfold cItDc at q
  cases e : dcAt i ρ with
  | none => rw [e] at q; exact q.elim
  | some a =>
    obtain ⟨ks, ds⟩ := a
    rw [e] at q
    have hw := dcAt_ok e
    obtain ⟨v, e2, e3⟩ := RR.at_ hw
    rw [e1] at e2
    cases e2
    obtain ⟨u, eu, r⟩ := RR.re.val (List.mem_append_left _ (List.mem_of_getElem? e3))
    cases eu
    exact ⟨_, e1, d, od, kvs, rfl, RR.re.same d _ hM, q M _ _ H (fun _ _ _ _ z => z) (hs.src hM) (RR.addVal r)⟩
theorem fl_imp (hK : X.K = G.K) (hs : SelOk sel It' i') (cl : Cls G.K (G.ca c)) (na : NoAttr G.K (G.ca c) f) (hk : fIx (G.fs c) f = k) {σ : St} {H : Hp} {R : It → Hp → Prop} (q0 : tIX (ExFl i f) G Wt (cItDc (dcFl i c k) sel) σ H R) : i' (tFld X.K (tVar i) f) σ H R := by
  subst hk
  obtain ⟨M, ρ, τ, RR, ⟨a, C, dx, fs, d, od, kvs, e1, ha, hl, hM⟩, q⟩ := q0
  refine hs.imp mono_fld ?_
  unfold cItDc at q
  cases e : dcFl i c (fIx (G.fs c) f) ρ with
  | none => rw [e] at q; exact q.elim
  | some z =>
    obtain ⟨ks, ds⟩ := z
    rw [e] at q
    obtain ⟨w, dd, hw, hd, hf⟩ := dcFl_ok e
    obtain ⟨ds0, rfl, hd0⟩ := fldD_eq hf
    obtain ⟨v, e2, e3⟩ := RR.at_ hw
    rw [e1] at e2
    cases e2
    obtain ⟨a', dx', fs', ea, ha', hn, r⟩ := (RR.re.all _ (List.mem_append_left _ (List.mem_of_getElem? e3))).obj hd
    cases ea
    rw [ha] at ha'
    cases ha'
    obtain ⟨y, hy, ry⟩ := r.get hd0
    have hl2 := lookup_ix hn hy
    rw [hl] at hl2
    cases hl2
    refine ⟨_, e1, a, _, dx, fs, .ref d, rfl, ha, by rw [hK]; exact cl, by rw [hK]; exact na, hl, d, od, kvs, rfl, RR.re.same d _ hM, q M _ _ H (fun _ _ _ _ z => z) (hs.src hM) (RR.addVal ry)⟩
theorem i_itemsAt {elts : List Expr} {kk : Nat} {tpos : Pos} (hN : X.N[i]? = some x) (hv : Vis X.env.scope x) (hbase : attributeBase (.Name x p) "items" X.env (eval (.Name x p) X.env) = eval (.Name x p) X.env := by rfl) (hline : (apos.endLine == cpos.line) = true := by rfl) (hd : (x == ("__debug__" : Str)) = false := by decide) (hcd : (x == ("__classdict__" : Str)) = false := by decide) :
    PI X (.Tuple elts kk tpos) (.Call (.Attribute (.Name x p) "items" apos) [] [] cpos) (tIX (ExAt i) G Wt (cItDc (dcAt i) itmD)) := (pi_items (pe_var hN hv hd hcd) hbase hline).weak fun _ _ _ q => at_imp selItems q
theorem i_keysAt (hN : X.N[i]? = some x) (hv : Vis X.env.scope x) (hd : (x == ("__debug__" : Str)) = false := by decide) (hcd : (x == ("__classdict__" : Str)) = false := by decide) :
    PI X tg (.Name x p) (tIX (ExAt i) G Wt (cItDc (dcAt i) keysD)) := (pi_keys (pe_var hN hv hd hcd)).weak fun _ _ _ q => at_imp selKeys q
theorem i_itemsFl {elts : List Expr} {kk : Nat} {tpos p2 : Pos} (hK : X.K = G.K) (cl : Cls G.K (G.ca c)) (na : NoAttr G.K (G.ca c) f) (hk : fIx (G.fs c) f = k) (hN : X.N[i]? = some x) (hv : Vis X.env.scope x) (hb : attributeBase (.Name x p) f X.env (eval (.Name x p) X.env) = eval (.Name x p) X.env := by rfl)
    (hbase : attributeBase (.Attribute (.Name x p) f p2) "items" X.env (eval (.Attribute (.Name x p) f p2) X.env) = eval (.Attribute (.Name x p) f p2) X.env := by rfl) (hline : (apos.endLine == cpos.line) = true := by rfl) (hd : (x == ("__debug__" : Str)) = false := by decide) (hcd : (x == ("__classdict__" : Str)) = false := by decide) :
    PI X (.Tuple elts kk tpos) (.Call (.Attribute (.Attribute (.Name x p) f p2) "items" apos) [] [] cpos) (tIX (ExFl i f) G Wt (cItDc (dcFl i c k) itmD)) := (pi_items (pe_fld (pe_var hN hv hd hcd) hb) hbase hline).weak fun _ _ _ q => fl_imp hK selItems cl na hk q
theorem i_valsFl {p2 : Pos} (hK : X.K = G.K) (cl : Cls G.K (G.ca c)) (na : NoAttr G.K (G.ca c) f) (hk : fIx (G.fs c) f = k) (hN : X.N[i]? = some x) (hv : Vis X.env.scope x) (hb : attributeBase (.Name x p) f X.env (eval (.Name x p) X.env) = eval (.Name x p) X.env := by rfl)
    (hbase : attributeBase (.Attribute (.Name x p) f p2) "values" X.env (eval (.Attribute (.Name x p) f p2) X.env) = eval (.Attribute (.Name x p) f p2) X.env := by rfl) (hline : (apos.endLine == cpos.line) = true := by rfl) (hd : (x == ("__debug__" : Str)) = false := by decide) (hcd : (x == ("__classdict__" : Str)) = false := by decide) :
    PI X tg (.Call (.Attribute (.Attribute (.Name x p) f p2) "values" apos) [] [] cpos) (tIX (ExFl i f) G Wt (cItDc (dcFl i c k) valsD)) := (pi_values (pe_fld (pe_var hN hv hd hcd) hb) hbase hline).weak fun _ _ _ q => fl_imp hK selVals cl na hk q
theorem i_keysFl {p2 : Pos} (hK : X.K = G.K) (cl : Cls G.K (G.ca c)) (na : NoAttr G.K (G.ca c) f) (hk : fIx (G.fs c) f = k) (hN : X.N[i]? = some x) (hv : Vis X.env.scope x) (hb : attributeBase (.Name x p) f X.env (eval (.Name x p) X.env) = eval (.Name x p) X.env := by rfl) (hd : (x == ("__debug__" : Str)) = false := by decide) (hcd : (x == ("__classdict__" : Str)) = false := by decide) :
    PI X tg (.Attribute (.Name x p) f p2) (tIX (ExFl i f) G Wt (cItDc (dcFl i c k) keysD)) := (pi_keys (pe_fld (pe_var hN hv hd hcd) hb)).weak fun _ _ _ q => fl_imp hK selKeys cl na hk q
/-! #### the lock around a statement, an expression -/
theorem ps_or {st : Stmt} {t t' : TS} (h : PS X st t) (h' : PS X st t') : PS X st (fun D σ H => t D σ H ∨ t' D σ H) := ⟨fun pins s σ H D I q => by
  rcases q with q | q
  · exact h.run pins s σ H D I q
  · exact h'.run pins s σ H D I q⟩
theorem pe_or2 {e : Expr} {t t' : TE} (h : PE X e t) (h' : PE X e t') : PE X e (fun σ H Q => t σ H Q ∨ t' σ H Q) := ⟨fun pins s σ H Q I q => by
  rcases q with q | q
  · exact h.run pins s σ H Q I q
  · exact h'.run pins s σ H Q I q⟩
/-- the place g tells a dict that may be locked -/
def GOk (G : Gam) (g : Env → Option (List Key × List D)) (Ex : Fm → St → Hp → Prop) : Prop := ∀ (M : Fm) (ρ : Env) (τ : List Ent) (σ : St) (H : Hp) (ks : List Key) (ds : List D), RS G M ρ τ σ H → g ρ = some (ks, ds) →
  ∃ d kvs, Rd H d (.dK kvs) ∧ ¬ avoid M.S0 (ents σ ρ ++ τ) d ∧ ∀ (M2 : Fm) (H2 : Hp) (od : Obj), M2.H0 d = some (frzD od kvs) → (∀ a C dx fs, H a = some (.ins C dx fs) → H2 a = some (.ins C dx fs)) → Ex M2 σ H2
theorem gok_at : GOk G (dcAt i) (ExAt i) := fun M ρ τ σ H ks ds R e => by
  have hw := dcAt_ok e
  obtain ⟨v, e2, e3⟩ := R.at_ hw
  obtain ⟨u, eu, r⟩ := R.re.val (List.mem_append_left _ (List.mem_of_getElem? e3))
  subst eu
  obtain ⟨d, kvs, rfl, na, hrd, _, _⟩ := rep_dic r
  exact ⟨d, kvs, hrd, na, fun M2 H2 od hM _ => ⟨d, od, kvs, e2, hM⟩⟩
theorem gok_fl (hk : fIx (G.fs c) f = k) : GOk G (dcFl i c k) (ExFl i f) := fun M ρ τ σ H ks ds R e => by
  subst hk
  obtain ⟨w, dd, hw, hd, hf⟩ := dcFl_ok e
  obtain ⟨ds0, rfl, hd0⟩ := fldD_eq hf
  obtain ⟨v, e2, e3⟩ := R.at_ hw
  obtain ⟨a, dx, fs, rfl, ha, hn, r⟩ := (R.re.all _ (List.mem_append_left _ (List.mem_of_getElem? e3))).obj hd
  obtain ⟨y, hy, ry⟩ := r.get hd0
  obtain ⟨d, kvs, rfl, na, hrd, _, _⟩ := rep_dic ry
  exact ⟨d, kvs, hrd, na, fun M2 H2 od hM kp => ⟨a, _, dx, fs, d, od, kvs, e2, kp _ _ _ _ ha, lookup_ix hn hy, hM⟩⟩
end
def cNoE (F : FE) : FE := fun ρ => match F ρ with
  | .ok a => .ok a
  | _ => .stuck
/-- an expression whose rule is told over a frame that knows the dict as locked: told of any frame -/
theorem e_lockX {X : Cx} {G : Gam} {Wt : WX} {e : Expr} {t : TE} {g : Env → Option (List Key × List D)} {Ex : Fm → St → Hp → Prop} {F : FE} (hg : GOk G g Ex) (h : PE X e t) (hg2 : ∀ ρ a, F ρ = .ok a → ∃ ks ds, g ρ = some (ks, ds))
    (hi : ∀ σ H Q, (∃ M ρ τ, RS G M ρ τ σ H ∧ Ex M σ H ∧ post G W0 M τ σ (F ρ) Q) → t σ H Q) : PE X e (tE G Wt (cNoE F)) := by
  refine (pe_or2 (pe_lock h) h).weak fun σ H Q ⟨M, ρ, τ, R, q⟩ => ?_
  unfold cNoE at q
  cases eF : F ρ with
  | exc c fs ρ' => rw [eF] at q; exact q.elim
  | stuck => rw [eF] at q; exact q.elim
  | ok a =>
    rw [eF] at q
    obtain ⟨ks, ds, eg⟩ := hg2 ρ a eF
    obtain ⟨d, kvs, hrd, na, hEx⟩ := hg M ρ τ σ H ks ds R eg
    obtain ⟨w, ρ'⟩ := a
    rcases hrd with hd | ⟨od, hd⟩
    · left
      refine ⟨d, .dK kvs, hd, True.intro, fun od => ?_⟩
      have h00 := h0_cases R hd
      have RL := R.locked (od := od) hd na
      refine hi _ _ _ ⟨_, ρ, τ, RL, hEx _ _ od upd_same (fun a C dx fs e => by
        have z : a ≠ d := fun z => by subst z; rw [hd] at e; cases e
        rw [upd_ne z]; exact e), ?_⟩
      rw [eF]
      exact fun v H' R' => ⟨lock_at R', q v _ (RS.unlocked R.re.inb h00 R')⟩
    · right
      have h00 := h0_cases R hd
      have RL := R.lockedF (od := od) hd na
      refine hi _ _ _ ⟨_, ρ, τ, RL, hEx _ _ od upd_same (fun a C dx fs e => e), ?_⟩
      rw [eF]
      exact fun v H' R' => q v _ (RS.keepLock R.re.inb h00 R')
section
variable {X : Cx} {G : Gam} {Wt : WX} {A : FG} {pos : Pos} {vs : List Nat} {T : FT} {F : FE} {g : Env → Option (List Key × List D)} {Ex : Fm → St → Hp → Prop} {sel : List Key → List D → List D}
theorem lc_some {ρ : Env} {a : Sl × Env} (h : cLc (cItDc g sel) A T F vs ρ = .ok a) : ∃ ks ds, g ρ = some (ks, ds) := by
  unfold cLc cItDc at h
  cases e : g ρ with
  | none => rw [e] at h; cases h
  | some a => exact ⟨a.1, a.2, rfl⟩
theorem e_lcL {elt tg iter : Expr} {ifs : List Expr} {scope : Scope} {own : List (Str × Nat)} (hc : X.calm = true) (hN : X.N.Nodup) (hgo : GOk G g Ex) (hi : PI X tg iter (tIX Ex G W0 (cItDc g sel))) (ok : BlkOk X.N X.env.scope scope own) (hvs : own.map (·.2) = vs)
    (hg : ∀ (s : Shared) (H : Hp) (C : Addr) (cl : List (Str × Addr)) (fp : List Addr), PG (X.blk s H scope (compEnvC scope cl C X.env) fp) tg (tGv G vs A)) (ht : ∀ (s : Shared) (H : Hp) (C : Addr) (cl : List (Str × Addr)) (fp : List Addr), PTs (X.blk s H scope (compEnvC scope cl C X.env) fp) ifs (tT G W0 T))
    (he : ∀ (s : Shared) (H : Hp) (C : Addr) (cl : List (Str × Addr)) (fp : List Addr), PE (X.blk s H scope (compEnvC scope cl C X.env) fp) elt (tE G W0 F)) (hs : ∀ x, foldedSetIterable iter X.env x = pure x := by intro _; rfl) :
    PE X (.ListComp elt [⟨tg, iter, ifs, 0⟩] scope pos) (tE G Wt (cNoE (cLc (cItDc g sel) A T F vs))) := by
  subst hvs
  exact e_lockX hgo (pe_lc hc hN hi ok hg ht he hs) (fun ρ a h => lc_some h) fun σ H Q ⟨M, ρ, τ, R, hE, q⟩ => lc_imp ⟨M, ρ, τ, R, hE, q⟩
end
/-! #### a dict just made, walked -/
section
variable {X : Cx} {G : Gam} {Wt : WX} {tg e : Expr} {Fe : FE} {p pos apos cpos : Pos} {sel : List Key → List D → List D} {It' : Addr → Obj → List (Key × V) → It} {i' : TE → TI}
theorem pe_lockAfter {td : TE} (he : PE X e td) : PE X e (fun σ H Q => td σ H fun x H1 => ∃ d kvs, x = .ref d ∧ H1 d = some (.dK kvs) ∧ ∀ od, Q x (upd H1 d (frzD od kvs))) := ⟨fun pins s σ H Q I q => thn (he.run pins s σ H _ I q) fun u s1 ⟨x, H1, I1, r, d, kvs, ex, hd, q1⟩ => by
  obtain ⟨od, I2⟩ := I1.lock hd True.intro
  exact ⟨x, _, I2, r, q1 od⟩⟩
def cItDx (Fe : FE) (sel : List Key → List D → List D) : FI := fun ρ => (Fe ρ).bind fun (w, ρ1) => match w with
  | .own (.dic ks ds) => .ok (sel ks ds, ρ1)
  | _ => .stuck
theorem dx_imp {σ : St} {H : Hp} {R : It → Hp → Prop} (hs : SelOk sel It' i') (hm : MonoE (fun σ H Q => (tE G Wt Fe) σ H fun x H1 => ∃ d kvs, x = V.ref d ∧ H1 d = some (.dK kvs) ∧ ∀ od, Q x (upd H1 d (frzD od kvs)))) (q0 : tI G Wt (cItDx Fe sel) σ H R) : i' (fun σ H Q => (tE G Wt Fe) σ H fun x H1 => ∃ d kvs, x = V.ref d ∧ H1 d = some (.dK kvs) ∧ ∀ od, Q x (upd H1 d (frzD od kvs))) σ H R := by
  obtain ⟨M, ρ, τ, RR, _, q⟩ := q0
  refine hs.imp hm ⟨M, ρ, τ, RR, ?_⟩
  unfold cItDx at q
  cases e : Fe ρ with
  | exc c fs ρ' => rw [e] at q; exact q
  | stuck => rw [e] at q; exact q
  | ok a =>
    obtain ⟨w, ρ1⟩ := a
    rw [e] at q
    intro x H1 R1
    cases w with
    | own dd =>
      cases dd with
      | dic ks ds =>
        obtain ⟨d, ed, kvs, hd, hk, r⟩ := R1.re.all (some x, Sl.own (.dic ks ds)) (List.mem_append_right _ List.mem_cons_self)
        have ed' : x = .ref d := Option.some.inj ed
        subst ed'
        refine ⟨d, kvs, rfl, hd, fun od => ⟨d, od, kvs, rfl, upd_same, ?_⟩⟩
        have h0 : M.H0 d = none := R1.re.new d (by rw [owns_append]; exact List.mem_append_right _ (by rw [owns_own]; exact List.mem_cons_self))
        have R2 : RS G M ρ1 ((some (.ref d), .val (.dic ks ds)) :: τ) σ H1 := R1.share
        obtain ⟨u, eu, r2⟩ := R2.val List.mem_cons_self
        cases eu
        obtain ⟨d', kvs', ed', na, _, _, _⟩ := rep_dic r2
        cases ed'
        have RL := R2.locked (od := od) hd na
        exact q (lockM M d (frzD od kvs)) _ _ _ (fun ρ τ σ H R' => RS.keepLock R1.re.inb (.inl h0) R') (hs.src upd_same) RL
      | _ => exact q.elim
    | _ => exact q.elim
theorem mono_dx : MonoE (fun σ H Q => (tE G Wt Fe) σ H fun x H1 => ∃ d kvs, x = V.ref d ∧ H1 d = some (.dK kvs) ∧ ∀ od, Q x (upd H1 d (frzD od kvs))) := fun σ H Q Q' k ⟨M, ρ, τ, R, q⟩ =>
  ⟨M, ρ, τ, R, post_mono q fun v H ⟨d, kvs, e, h, q⟩ => ⟨d, kvs, e, h, fun od => k _ _ (q od)⟩⟩
theorem i_itemsX {elts : List Expr} {kk : Nat} {tpos : Pos} (he : PE X e (tE G Wt Fe)) (hbase : attributeBase e "items" X.env (eval e X.env) = eval e X.env := by rfl) (hline : (apos.endLine == cpos.line) = true := by rfl) :
    PI X (.Tuple elts kk tpos) (.Call (.Attribute e "items" apos) [] [] cpos) (tI G Wt (cItDx Fe itmD)) := (pi_items (pe_lockAfter he) hbase hline).weak fun _ _ _ q => dx_imp selItems mono_dx q
theorem i_valsX (he : PE X e (tE G Wt Fe)) (hbase : attributeBase e "values" X.env (eval e X.env) = eval e X.env := by rfl) (hline : (apos.endLine == cpos.line) = true := by rfl) :
    PI X tg (.Call (.Attribute e "values" apos) [] [] cpos) (tI G Wt (cItDx Fe valsD)) := (pi_values (pe_lockAfter he) hbase hline).weak fun _ _ _ q => dx_imp selVals mono_dx q
end
end Dl
namespace Dl
open PySem PySem.Spec L2
open PyProof.Rows hiding St
/-! ### dict comprehensions -/
abbrev KD := List Key × List D
def putAcc (wk wv : Sl) (acc : KD) : Option KD := match wk, shr wv with
  | .val kd, .val d => (match keyOf kd with
    | some k => some (dPut k d acc.1 acc.2)
    | none => none)
  | _, _ => none
theorem putAcc_ok {wk wv : Sl} {acc acc' : KD} (h : putAcc wk wv acc = some acc') : ∃ kd d k, wk = .val kd ∧ shr wv = .val d ∧ keyOf kd = some k ∧ acc' = dPut k d acc.1 acc.2 := by
  unfold putAcc at h
  split at h
  · split at h
    · cases h
      exact ⟨_, _, _, rfl, by assumption, by assumption, rfl⟩
    · cases h
  · cases h
def dcD (A : FG) (T : FT) (Fk Fv : FE) (vs : List Nat) : List D → KD → Env → Res (KD × Env)
  | [], acc, ρ => .ok (acc, ρ)
  | d :: ds, acc, ρ => match A (.val d) (wipeE ρ vs) with
    | none => .stuck
    | some ρ1 => (T ρ1).bind fun (b, ρ2) => match b with
      | true => (Fk ρ2).bind fun (wk, ρ3) => (Fv ρ3).bind fun (wv, ρ4) => (match putAcc wk wv acc with
        | some acc' => dcD A T Fk Fv vs ds acc' ρ4
        | none => .stuck)
      | false => dcD A T Fk Fv vs ds acc ρ2
def cDc (Fi : FI) (A : FG) (T : FT) (Fk Fv : FE) (vs : List Nat) : FE := fun ρ => (Fi ρ).bind fun (ds, ρ1) => match shortN ds.length with
  | true => (match dcD A T Fk Fv vs ds ([], []) (wipeE ρ1 vs) with
    | .ok (r, ρ2) => .ok (.own (.dic r.1 r.2), backE ρ1 (wipeE ρ2 vs) vs)
    | _ => .stuck)
  | false => .stuck
theorem dPut_len {k : Key} {d : D} {ks : List Key} {ds : List D} : (dPut k d ks ds).1.length ≤ ks.length + 1 := by
  unfold dPut
  split
  · exact Nat.le_succ _
  · simp
section
variable {X : Cx} {G : Gam} {Wt : WX} {A : FG} {pos : Pos} {vs : List Nat} {T : FT} {Fk Fv : FE}
theorem dc_imp {Ex : Fm → St → Hp → Prop} {Fi : FI} {σ : St} {H : Hp} {Q : VK} (q0 : ∃ M ρ τ, RS G M ρ τ σ H ∧ Ex M σ H ∧ post G Wt M τ σ (cDc Fi A T Fk Fv vs ρ) Q) : tDc (tIX Ex G Wt Fi) (tGv G vs A) (tT G W0 T) (tE G W0 Fk) (tE G W0 Fv) vs σ H Q := by
  obtain ⟨M, ρ, τ, R, hE, q⟩ := q0
  refine ⟨M, ρ, τ, R, hE, ?_⟩
  unfold cDc at q
  cases ei : Fi ρ with
  | exc c fs ρ' => rw [ei] at q; exact fun dd vs H' hx R' => q dd vs H' hx R'
  | stuck => rw [ei] at q; exact q
  | ok x =>
    obtain ⟨ds, ρ1⟩ := x
    rw [ei] at q
    intro M' J Se H1 bk sk R1 Da hD
    have q1 : post G Wt M τ σ (match shortN ds.length with
      | true => (match dcD A T Fk Fv vs ds ([], []) (wipeE ρ1 vs) with
        | .ok (r, ρ2) => .ok (.own (.dic r.1 r.2), backE ρ1 (wipeE ρ2 vs) vs)
        | _ => .stuck)
      | false => .stuck) Q := q
    clear q
    split at q1
    · rename_i esh
      have hsh := short_ok esh
      cases el : dcD A T Fk Fv vs ds ([], []) (wipeE ρ1 vs) with
      | exc c fs ρ' => rw [el] at q1; exact q1.elim
      | stuck => rw [el] at q1; exact q1.elim
      | ok y =>
        obtain ⟨r, ρ2⟩ := y
        rw [el] at q1
        have R2 : RS G M' (wipeE ρ1 vs) (saveE σ ρ1 vs ++ (Se ++ τ)) (wipe σ vs) H1 := R1.save vs
        have R3 := R2.newDc (kvs := []) (ks := []) (ds := []) rfl Reps.nil hD
        have ew : wipe (wipe σ vs) vs = wipe σ vs := by
          apply List.ext_getElem?
          intro j
          rw [wipe_at, wipe_length]
          by_cases hj : j ∈ vs
          · rw [if_pos hj, wipe_at, if_pos hj]
          · rw [if_neg hj]
        refine ⟨fun i m H => m = ds.length - i ∧ i ≤ ds.length ∧ ∃ ρi acc, RS G M' (wipeE ρi vs) ((some (.ref Da), .own (.dic acc.1 acc.2)) :: (saveE σ ρ1 vs ++ (Se ++ τ))) (wipe σ vs) H ∧ acc.1.length ≤ i ∧ dcD A T Fk Fv vs (ds.drop i) acc ρi = .ok (r, ρ2), ⟨ds.length, by simp, Nat.zero_le _, wipeE ρ1 vs, ([], []), ?_, Nat.le_refl _, el⟩, ?_⟩
        · have R4 := R3.wiped vs
          rw [ew] at R4
          exact R4
        · rintro i m H2 ⟨rfl, hi, ρi, acc, Ri, hacc, hl⟩
          have Rj : RS G M' (wipeE ρi vs) (Se ++ ((some (.ref Da), .own (.dic acc.1 acc.2)) :: (saveE σ ρ1 vs ++ τ))) (wipe σ vs) H2 := Ri.perm (by
            have e1 : ((some (V.ref Da), Sl.own (.dic acc.1 acc.2)) :: (saveE σ ρ1 vs ++ (Se ++ τ))) = ((some (V.ref Da), Sl.own (.dic acc.1 acc.2)) :: saveE σ ρ1 vs) ++ (Se ++ τ) := by simp
            have e2 : Se ++ ((some (V.ref Da), Sl.own (.dic acc.1 acc.2)) :: (saveE σ ρ1 vs ++ τ)) = Se ++ (((some (V.ref Da), Sl.own (.dic acc.1 acc.2)) :: saveE σ ρ1 vs) ++ τ) := by simp
            rw [e1, e2, ← List.append_assoc, ← List.append_assoc]
            exact List.perm_append_comm.append_right τ)
          obtain ⟨k1, k2⟩ := sk _ _ _ H2 i Rj
          by_cases hlt : i < ds.length
          · obtain ⟨g1, g2⟩ := k2 _ (List.getElem?_eq_getElem hlt)
            refine .inr ⟨g1, fun H' => ∃ ρn acc, RS G M' (wipeE ρn vs) ((some (.ref Da), .own (.dic acc.1 acc.2)) :: (saveE σ ρ1 vs ++ (Se ++ τ))) (wipe σ vs) H' ∧ acc.1.length ≤ i + 1 ∧ dcD A T Fk Fv vs (ds.drop (i + 1)) acc ρn = .ok (r, ρ2), fun H' h => ⟨ds.length - (i + 1), by omega, rfl, hlt, h⟩, fun x H' y => ?_⟩
            have R4 := g2 x H' y
            rw [List.drop_eq_getElem_cons hlt] at hl
            have hl' : (match A (.val ds[i]) (wipeE ρi vs) with
              | none => Res.stuck
              | some ρ1 => (T ρ1).bind fun (b, ρ2) => match b with
                | true => (Fk ρ2).bind fun (wk, ρ3) => (Fv ρ3).bind fun (wv, ρ4) => (match putAcc wk wv acc with
                  | some acc' => dcD A T Fk Fv vs (ds.drop (i + 1)) acc' ρ4
                  | none => .stuck)
                | false => dcD A T Fk Fv vs (ds.drop (i + 1)) acc ρ2) = .ok (r, ρ2) := hl
            cases ea : A (.val ds[i]) (wipeE ρi vs) with
            | none => rw [ea] at hl'; cases hl'
            | some ρa =>
              rw [ea] at hl'
              refine ⟨M', _, _, _, ρa, R4, ea, fun σ3 H3 R5 hw0 => ?_⟩
              have hw : wipe σ3 vs = wipe σ vs := hw0.trans ew
              refine ⟨hw, M', ρa, _, R5, ?_⟩
              dsimp only at hl'
              have toNext : ∀ {ρn : Env} {acc : KD} {H4 : Hp}, RS G M' ρn (Se ++ ((some (.ref Da), .own (.dic acc.1 acc.2)) :: (saveE σ ρ1 vs ++ τ))) σ3 H4 → RS G M' (wipeE ρn vs) ((some (.ref Da), .own (.dic acc.1 acc.2)) :: (saveE σ ρ1 vs ++ (Se ++ τ))) (wipe σ vs) H4 := fun {ρn acc H4} Rn => by
                have R6 := Rn.wiped vs
                rw [hw] at R6
                refine R6.perm ?_
                have e1 : ((some (V.ref Da), Sl.own (.dic acc.1 acc.2)) :: (saveE σ ρ1 vs ++ (Se ++ τ))) = ((some (V.ref Da), Sl.own (.dic acc.1 acc.2)) :: saveE σ ρ1 vs) ++ (Se ++ τ) := by simp
                have e2 : Se ++ ((some (V.ref Da), Sl.own (.dic acc.1 acc.2)) :: (saveE σ ρ1 vs ++ τ)) = Se ++ (((some (V.ref Da), Sl.own (.dic acc.1 acc.2)) :: saveE σ ρ1 vs) ++ τ) := by simp
                rw [e1, e2, ← List.append_assoc, ← List.append_assoc]
                exact List.perm_append_comm.append_right τ
              cases et : T ρa with
              | exc c fs ρ' => rw [et] at hl'; cases hl'
              | stuck => rw [et] at hl'; cases hl'
              | ok z =>
                obtain ⟨b, ρb⟩ := z
                rw [et] at hl'
                intro H4 R6
                cases b with
                | false =>
                  refine iteF ⟨ρb, acc, toNext R6, by omega, hl'⟩
                | true =>
                  refine iteT ⟨M', ρb, _, R6, ?_⟩
                  have hl2 : ((Fk ρb).bind fun (wk, ρ3) => (Fv ρ3).bind fun (wv, ρ4) => (match putAcc wk wv acc with
                    | some acc' => dcD A T Fk Fv vs (ds.drop (i + 1)) acc' ρ4
                    | none => .stuck)) = .ok (r, ρ2) := hl'
                  cases ek : Fk ρb with
                  | exc c fs ρ' => rw [ek] at hl2; cases hl2
                  | stuck => rw [ek] at hl2; cases hl2
                  | ok z =>
                    obtain ⟨wk, ρk⟩ := z
                    rw [ek] at hl2
                    intro y Hk Rk
                    refine ⟨M', ρk, _, Rk, ?_⟩
                    have hl3 : ((Fv ρk).bind fun (wv, ρ4) => (match putAcc wk wv acc with
                      | some acc' => dcD A T Fk Fv vs (ds.drop (i + 1)) acc' ρ4
                      | none => .stuck)) = .ok (r, ρ2) := hl2
                    cases ev : Fv ρk with
                    | exc c fs ρ' => rw [ev] at hl3; cases hl3
                    | stuck => rw [ev] at hl3; cases hl3
                    | ok z =>
                      obtain ⟨wv, ρv⟩ := z
                      rw [ev] at hl3
                      intro u Hv Rv
                      have hl4 : (match putAcc wk wv acc with
                        | some acc' => dcD A T Fk Fv vs (ds.drop (i + 1)) acc' ρv
                        | none => .stuck) = .ok (r, ρ2) := hl3
                      cases ep : putAcc wk wv acc with
                      | none => rw [ep] at hl4; cases hl4
                      | some acc' =>
                        rw [ep] at hl4
                        obtain ⟨kd, d, k, rfl, esv, ekk, rfl⟩ := putAcc_ok ep
                        have Rv1 := Rv.shr1
                        rw [esv] at Rv1
                        have Rv2 : RS G M' ρv ((some (.ref Da), .own (.dic acc.1 acc.2)) :: (some u, .val d) :: (some y, .val kd) :: (Se ++ (saveE σ ρ1 vs ++ τ))) σ3 Hv := Rv1.perm (by
                          refine (List.Perm.cons _ (List.Perm.cons _ List.perm_middle)).trans ?_
                          exact (List.Perm.cons _ (List.Perm.swap _ _ _)).trans (List.Perm.swap _ _ _))
                        obtain ⟨pa, epa, kvs, hva, hks, ra⟩ := Rv2.re.all (some (V.ref Da), .own (.dic acc.1 acc.2)) (List.mem_append_right _ List.mem_cons_self)
                        cases epa
                        obtain ⟨u2, eu, ru⟩ := Rv2.re.val (v := some u) (d := d) (List.mem_append_right _ (List.mem_cons_of_mem _ List.mem_cons_self))
                        cases eu
                        obtain ⟨y2, ey, ry⟩ := Rv2.re.val (v := some y) (d := kd) (List.mem_append_right _ (List.mem_cons_of_mem _ (List.mem_cons_of_mem _ List.mem_cons_self)))
                        cases ey
                        have eyk := keyOf_rep ekk ry
                        obtain ⟨p1, p2⟩ := put_ok (k := k) hks ra ru
                        have R10 := Rv2.mutDc p1 p2
                        have R11 : RS G M' ρv (Se ++ ((some (.ref Da), .own (.dic (dPut k d acc.1 acc.2).1 (dPut k d acc.1 acc.2).2)) :: (saveE σ ρ1 vs ++ τ))) σ3 (upd Hv Da (.dK (putK kvs k u))) := RS.drop (τ' := [(some u, Sl.val d), (some y, .val kd)]) (R10.perm (by
                          refine (List.Perm.swap _ _ _).trans (List.Perm.cons _ ((List.Perm.swap _ _ _).trans (List.Perm.cons _ List.perm_middle.symm)))))
                        have hlen := congrArg List.length hks
                        rw [List.length_map] at hlen
                        exact ⟨kvs, k, eyk, hva, by omega, ρv, dPut k d acc.1 acc.2, toNext R11, Nat.le_trans dPut_len (by omega), hl4⟩
          · have hi' : i = ds.length := by omega
            subst hi'
            rw [List.drop_length] at hl
            have hl' : Res.ok (acc, ρi) = .ok (r, ρ2) := hl
            cases hl'
            refine .inl ⟨k1 rfl, q1 _ H2 ?_⟩
            have R5 : RS G M' (wipeE ρ2 vs) (saveE σ ρ1 vs ++ ((some (.ref Da), .own (.dic r.1 r.2)) :: τ)) (wipe σ vs) H2 := RS.drop (Rj.perm (List.Perm.append_left _ List.perm_middle.symm))
            exact bk _ _ _ _ (RS.unsave vs R5)
    · exact q1.elim
variable {kx vx tg iter : Expr} {ifs : List Expr} {scope : Scope} {own : List (Str × Nat)}
theorem e_dc {Fi : FI} (hc : X.calm = true) (hN : X.N.Nodup) (hi : PI X tg iter (tI G Wt Fi)) (ok : BlkOk X.N X.env.scope scope own) (hvs : own.map (·.2) = vs)
    (hg : ∀ (s : Shared) (H : Hp) (C : Addr) (cl : List (Str × Addr)) (fp : List Addr), PG (X.blk s H scope (compEnvC scope cl C X.env) fp) tg (tGv G vs A)) (ht : ∀ (s : Shared) (H : Hp) (C : Addr) (cl : List (Str × Addr)) (fp : List Addr), PTs (X.blk s H scope (compEnvC scope cl C X.env) fp) ifs (tT G W0 T))
    (hk : ∀ (s : Shared) (H : Hp) (C : Addr) (cl : List (Str × Addr)) (fp : List Addr), PE (X.blk s H scope (compEnvC scope cl C X.env) fp) kx (tE G W0 Fk)) (he : ∀ (s : Shared) (H : Hp) (C : Addr) (cl : List (Str × Addr)) (fp : List Addr), PE (X.blk s H scope (compEnvC scope cl C X.env) fp) vx (tE G W0 Fv)) (hs : ∀ x, foldedSetIterable iter X.env x = pure x := by intro _; rfl) :
    PE X (.DictComp kx vx [⟨tg, iter, ifs, 0⟩] scope pos) (tE G Wt (cDc Fi A T Fk Fv vs)) := by
  subst hvs
  exact (pe_dc hc hN hi ok hg ht hk he hs).weak fun σ H Q ⟨M, ρ, τ, R, q⟩ => dc_imp ⟨M, ρ, τ, R, True.intro, q⟩
variable {g : Env → Option (List Key × List D)} {Ex : Fm → St → Hp → Prop} {sel : List Key → List D → List D}
end
/-! ### dict(x), list(d), len(d) -/
def fDict (d : D) : RD := match d with
  | .dic ks ds => .ok (.own (.dic ks ds))
  | _ => .stuck
def fListD (d : D) : RD := match d with
  | .dic ks ds => .ok (.own (.lst (ks.map keyD)))
  | _ => .stuck
def fLenD (d : D) : RD := match d with
  | .dic ks _ => okI ks.length
  | _ => .stuck
section
variable {X : Cx} {G : Gam} {Wt : WX}
theorem cb_dict : CbOk G Wt (fun xs H Q => ∃ (a : Addr) (kvs : List (Key × V)), xs = [.ref a] ∧ Rd H a (.dK kvs) ∧ ∀ p, H p = none → Q (.ref p) (upd H p (.dK kvs))) (g1 fDict) := cb1 fun M ρ τ σ H x d Q R rp p => by
  unfold fDict at p
  split at p
  · obtain ⟨a, kvs, rfl, _, hrd, hk, r⟩ := rep_dic rp
    exact ⟨a, kvs, rfl, hrd, fun q hq => p _ _ (R.newDc hk r hq)⟩
  · exact p.elim
theorem reps_keys {S : Addr → Prop} {H : Hp} : ∀ {kvs : List (Key × V)}, Reps G S H ((kvs.map (·.1)).map keyD) (kvs.map fun kv => kV kv.1)
  | [] => Reps.nil
  | kv :: kvs => Reps.cons keyD_rep reps_keys
theorem cb_listD : CbOk G Wt (fun xs H Q => ∃ (a : Addr) (kvs : List (Key × V)), xs = [.ref a] ∧ Rd H a (.dK kvs) ∧ ∀ p, H p = none → Q (.ref p) (upd H p (.lst (kvs.map fun kv => kV kv.1)))) (g1 fListD) := cb1 fun M ρ τ σ H x d Q R rp p => by
  unfold fListD at p
  split at p
  · obtain ⟨a, kvs, rfl, _, hrd, hk, r⟩ := rep_dic rp
    subst hk
    exact ⟨a, kvs, rfl, hrd, fun q hq => p _ _ (R.newL reps_keys hq)⟩
  · exact p.elim
theorem call_lenR : CallR X (.builtin "len") (fun xs H Q => ∃ a kvs, xs = [V.ref a] ∧ Rd H a (.dK kvs) ∧ Q (.int kvs.length) H) := by
  intro pins s σ H xs us Q I r h
  obtain ⟨a, kvs, rfl, ha, q⟩ := h
  obtain ⟨u, rfl, ru⟩ := vals1 r
  cases ru
  exact d_len I ha fun t s' I' => ⟨.int kvs.length, H, I', ⟨t, rfl⟩, q⟩
theorem cb_lenD : CbOk G Wt (fun xs H Q => ∃ a kvs, xs = [V.ref a] ∧ Rd H a (.dK kvs) ∧ Q (.int kvs.length) H) (g1 fLenD) := cb1 fun M ρ τ σ H x d Q R rp p => by
  unfold fLenD at p
  split at p
  · rename_i ks ds
    obtain ⟨a, kvs, rfl, _, hrd, hk, r⟩ := rep_dic rp
    rw [okI_eq] at p
    have e : kvs.length = ks.length := by rw [← hk, List.length_map]
    refine ⟨a, kvs, rfl, hrd, ?_⟩
    have : Q (.int (ks.length : Nat)) H := p _ H (R.addFlat rfl)
    rw [e]
    exact this
  · exact p.elim
end
end Dl
/-! == and != of lists and tuples by an item's ==, with both answers -/
namespace DlQ
open PySem PySem.SeqAt
open AutoSeq1 (wpAny_loadPart')
open MeetsSeq MeetsSeq2 MeetsSeq3 SeqRoads2
open GQ (FinOf call_here)
section
variable {prog : Program} {w : World} {A : Around} {R : Result → Shared → Prop}
def allB (e : Nat → Bool) (N : Nat) : Bool := (List.range N).all e
theorem allB_true {e : Nat → Bool} {N : Nat} (h : ∀ j, j < N → e j = true) : allB e N = true := by
  unfold allB
  rw [List.all_eq_true]
  intro x hx
  exact h x (List.mem_range.mp hx)
theorem allB_false {e : Nat → Bool} {N j : Nat} (hj : j < N) (h : e j = false) : allB e N = false := by
  unfold allB
  rw [List.all_eq_false]
  exact ⟨j, List.mem_range.mpr hj, by simp [h]⟩
def ListB (prog : Program) (w : World) (A : Around) (E : Value → Shared → Prop) (l b : Addr) (N : Nat) (e : Nat → Bool) (I : Nat → Shared → Prop) : Prop :=
  ∀ i s, I i s → ∃ (items items2 : Array Value), s.heap.IsList l items ∧ s.heap.IsList b items2 ∧ items.size = N ∧ items2.size = N ∧
    ∀ (h1 : i < items.size) (h2 : i < items2.size), wpAny (model prog w) A.in1 (eqBool items[i] items2[i]) (fun r s' => r = e i ∧ I (i + 1) s') E s
theorem isList_get {h : Heap} {l : Addr} {items : Array Value} (p : h.IsList l items) : ∃ n dd sl, h.get? l = some { cls := .type "list", dict := dd, data := .seq items n, slots := sl } := by
  obtain ⟨⟨cls, dd, data, sl⟩, ho, hc, n, hd⟩ := p
  simp only at hc hd
  subst hc hd
  exact ⟨n, dd, sl, ho⟩
theorem loopB (l b : Addr) (N : Nat) (e : Nat → Bool) (I : Nat → Shared → Prop) (hl : ListB prog w A (fun e s' => R (.error e) s') l b N e I) (ne : Bool)
    (fin : ∀ j s, I j s → R (.ok (.ret (.bool (allB e N != ne)))) s) (k : Nat) :
    ∀ i : Nat, N - i = k → i ≤ N → (∀ j, j < i → e j = true) → ∀ s, I i s →
      wpAny (model prog w) A.in1 (Builtin.«list.__eq__.loop» ⟨[.ref l, .ref b, rawInt i, rawInt (if ne = true then 3 else 2)], []⟩) (FinOf prog w A R) (fun e s' => R (.error e) s') s := by
  induction k with
  | zero =>
    intro i hk hi he s h
    obtain ⟨items, items2, p1, p2, hs1, hs2, _⟩ := hl _ _ h
    obtain ⟨n, dd, sl, hl1⟩ := isList_get p1
    obtain ⟨n2, dd2, sl2, hb1⟩ := isList_get p2
    have hi' : i = N := by omega
    have hR := fin i s h
    rw [allB_true (fun j hj => he j (by omega))] at hR
    obtain ⟨hp, g, d, tk, os⟩ := s
    have hi1 : items[((i : Nat) : Int).toNat]? = none := by simp; omega
    have hi2 : items2[((i : Nat) : Int).toNat]? = none := by simp; omega
    cases ne with
    | false =>
      wp_walk using wpAny_loadPart' hl1, wpAny_loadPart' hb1
      rw [hi1, hi2]
      wp_walk using wpAny_loadPart' hl1, wpAny_loadPart' hb1
      show R (.ok (.ret (.bool (items.size == items2.size)))) _
      rw [hs1, hs2]
      simpa using hR
    | true =>
      wp_walk using wpAny_loadPart' hl1, wpAny_loadPart' hb1
      rw [hi1, hi2]
      wp_walk using wpAny_loadPart' hl1, wpAny_loadPart' hb1
      show R (.ok (.ret (.bool (items.size != items2.size)))) _
      rw [hs1, hs2]
      simpa using hR
  | succ k ih =>
    intro i hk hi he s h
    obtain ⟨items, items2, p1, p2, hs1, hs2, turn⟩ := hl _ _ h
    obtain ⟨n, dd, sl, hl1⟩ := isList_get p1
    obtain ⟨n2, dd2, sl2, hb1⟩ := isList_get p2
    have hlt : i < items.size := by omega
    have hlt2 : i < items2.size := by omega
    have ht := turn hlt hlt2
    obtain ⟨hp, g, d, tk, os⟩ := s
    have hi1 : items[((i : Nat) : Int).toNat]? = some items[i] := by simp [hlt]
    have hi2 : items2[((i : Nat) : Int).toNat]? = some items2[i] := by simp [hlt2]
    have hc : ((i : Int) + 1) = ((i + 1 : Nat) : Int) := by omega
    have body : ∀ (r : Bool) (s2 : Shared), (r = e i ∧ I (i + 1) s2) → (r = true → wpAny (model prog w) A.in1 (Builtin.«list.__eq__.loop» ⟨[.ref l, .ref b, rawInt ((i + 1 : Nat) : Int), rawInt (if ne = true then 3 else 2)], []⟩) (FinOf prog w A R) (fun e s' => R (.error e) s') s2) := fun r s2 ⟨hr, h2⟩ er =>
      ih (i + 1) (by omega) (by omega) (fun j hj => by
        rcases Nat.lt_or_ge j i with z | z
        · exact he j z
        · have : j = i := by omega
          subst this
          rw [← hr]; exact er) s2 h2
    cases ne with
    | false =>
      wp_walk using wpAny_loadPart' hl1, wpAny_loadPart' hb1
      rw [hi1, hi2]
      refine wpAny_bind (wpAny_mono ht (fun r s2 q => ?_) fun _ _ x => x)
      have hb := body r s2 q
      obtain ⟨hr, h2⟩ := q
      cases r with
      | true =>
        have hrec := hb rfl
        obtain ⟨hp2, g2, d2, tk2, os2⟩ := s2
        wp_walk
        rw [hc]
        exact ⟨plainId_quiet plain_eq_loop _, codeAny_builtin entry_eq_loop (by
          rw [Around.under_plainId plain_eq_loop _]
          exact hrec)⟩
      | false =>
        have hR := fin (i + 1) s2 h2
        rw [allB_false (j := i) (by omega) hr.symm] at hR
        obtain ⟨items', items2', p1', p2', hs1', hs2', _⟩ := hl _ _ h2
        obtain ⟨n', dd', sl', hl1'⟩ := isList_get p1'
        obtain ⟨n2', dd2', sl2', hb1'⟩ := isList_get p2'
        have hj1 : items'[((i : Nat) : Int).toNat]? = some (items'[i]'(by omega)) := by
          have : i < items'.size := by omega
          simp [this]
        have hj2 : items2'[((i : Nat) : Int).toNat]? = some (items2'[i]'(by omega)) := by
          have : i < items2'.size := by omega
          simp [this]
        obtain ⟨hp2, g2, d2, tk2, os2⟩ := s2
        wp_walk using wpAny_loadPart' hl1', wpAny_loadPart' hb1'
        rw [hj1, hj2]
        wp_walk
        simpa using hR
    | true =>
      wp_walk using wpAny_loadPart' hl1, wpAny_loadPart' hb1
      rw [hi1, hi2]
      refine wpAny_bind (wpAny_mono ht (fun r s2 q => ?_) fun _ _ x => x)
      have hb := body r s2 q
      obtain ⟨hr, h2⟩ := q
      cases r with
      | true =>
        have hrec := hb rfl
        obtain ⟨hp2, g2, d2, tk2, os2⟩ := s2
        wp_walk
        rw [hc]
        exact ⟨plainId_quiet plain_eq_loop _, codeAny_builtin entry_eq_loop (by
          rw [Around.under_plainId plain_eq_loop _]
          exact hrec)⟩
      | false =>
        have hR := fin (i + 1) s2 h2
        rw [allB_false (j := i) (by omega) hr.symm] at hR
        obtain ⟨items', items2', p1', p2', hs1', hs2', _⟩ := hl _ _ h2
        obtain ⟨n', dd', sl', hl1'⟩ := isList_get p1'
        obtain ⟨n2', dd2', sl2', hb1'⟩ := isList_get p2'
        have hj1 : items'[((i : Nat) : Int).toNat]? = some (items'[i]'(by omega)) := by
          have : i < items'.size := by omega
          simp [this]
        have hj2 : items2'[((i : Nat) : Int).toNat]? = some (items2'[i]'(by omega)) := by
          have : i < items2'.size := by omega
          simp [this]
        obtain ⟨hp2, g2, d2, tk2, os2⟩ := s2
        wp_walk using wpAny_loadPart' hl1', wpAny_loadPart' hb1'
        rw [hj1, hj2]
        wp_walk
        simpa using hR
end
section
variable {prog : Program} {w : World} {A : Around} {E : Value → Shared → Prop} {s : Shared}
theorem rc_listEq {l b : Addr} {N : Nat} {e : Nat → Bool} {Q : Value → Shared → Prop} (hu : A.units < cLine) (I : Nat → Shared → Prop) (hl : ListB prog w A E l b N e I)
    (fin : ∀ j s, I j s → Q (.bool (allB e N)) s) (h : I 0 s) : wpAny (model prog w) A (richCompare .Eq (.ref l) (.ref b)) Q E s := by
  obtain ⟨items, items2, p1, p2, hs1, hs2, _⟩ := hl _ _ h
  refine wpAny_richCompare_same_room (op := .Eq) p1.typeIs p2.typeIs F.slot_list_eq (call_here F.slot_list_eq p1.typeIs F.entry_list_eq (F.args_list_eq_2 _ _) ?_) hu
  have hrec := loopB (A := A) (R := wants (fun v s' => v ≠ .notImplemented ∧ Q v s') E) l b N e I hl false (fun j s' q => ⟨(fun x => nomatch x), by simpa using fin j s' q⟩) _ 0 rfl (Nat.zero_le _) (fun j hj => absurd hj (Nat.not_lt_zero _)) s h
  obtain ⟨n, dd, sl, hl1⟩ := isList_get p1
  obtain ⟨n2, dd2, sl2, hb1⟩ := isList_get p2
  obtain ⟨hp, g, d, tk, os⟩ := s
  have f3 := AutoSeq1.sub_list_list
  have hne : ¬ (items.size != items2.size) = true := by simp [hs1, hs2]
  wp_walk using wpAny_loadPart' hl1, wpAny_loadPart' hb1
  exact ⟨plainId_quiet plain_eq_loop _, codeAny_builtin entry_eq_loop (by
    rw [Around.under_plainId plain_eq_loop _]
    exact hrec)⟩
theorem rc_listNe {l b : Addr} {N : Nat} {e : Nat → Bool} {Q : Value → Shared → Prop} (hu : A.units < cLine) (I : Nat → Shared → Prop) (hl : ListB prog w A E l b N e I)
    (fin : ∀ j s, I j s → Q (.bool (!allB e N)) s) (h : I 0 s) : wpAny (model prog w) A (richCompare .NotEq (.ref l) (.ref b)) Q E s := by
  obtain ⟨items, items2, p1, p2, hs1, hs2, _⟩ := hl _ _ h
  refine wpAny_richCompare_same_room (op := .NotEq) p1.typeIs p2.typeIs F.slot_list_ne (call_here F.slot_list_ne p1.typeIs F.entry_list_ne (F.args_list_ne_2 _ _) ?_) hu
  have hrec := loopB (A := A) (R := wants (fun v s' => v ≠ .notImplemented ∧ Q v s') E) l b N e I hl true (fun j s' q => ⟨(fun x => nomatch x), by
    have := fin j s' q
    cases h : allB e N <;> rw [h] at this <;> exact this⟩) _ 0 rfl (Nat.zero_le _) (fun j hj => absurd hj (Nat.not_lt_zero _)) s h
  obtain ⟨n, dd, sl, hl1⟩ := isList_get p1
  obtain ⟨n2, dd2, sl2, hb1⟩ := isList_get p2
  obtain ⟨hp, g, d, tk, os⟩ := s
  have f3 := AutoSeq1.sub_list_list
  have hne : ¬ (items.size != items2.size) = true := by simp [hs1, hs2]
  wp_walk using wpAny_loadPart' hl1, wpAny_loadPart' hb1
  exact ⟨plainId_quiet plain_eq_loop _, codeAny_builtin entry_eq_loop (by
    rw [Around.under_plainId plain_eq_loop _]
    exact hrec)⟩
/-- lengths that differ -/
theorem rc_listLen {l b : Addr} {items items2 : Array Value} {ne : Bool} {Q : Value → Shared → Prop} (hu : A.units < cLine) (p1 : s.heap.IsList l items) (p2 : s.heap.IsList b items2) (hs : items.size ≠ items2.size) (q : Q (.bool ne) s) :
    wpAny (model prog w) A (richCompare (if ne = true then .NotEq else .Eq) (.ref l) (.ref b)) Q E s := by
  obtain ⟨n, dd, sl, hl1⟩ := isList_get p1
  obtain ⟨n2, dd2, sl2, hb1⟩ := isList_get p2
  have f3 := AutoSeq1.sub_list_list
  have hne : (items.size != items2.size) = true := by simpa using hs
  cases ne with
  | false =>
    refine wpAny_richCompare_same_room (op := .Eq) p1.typeIs p2.typeIs F.slot_list_eq (call_here F.slot_list_eq p1.typeIs F.entry_list_eq (F.args_list_eq_2 _ _) ?_) hu
    obtain ⟨hp, g, d, tk, os⟩ := s
    wp_walk using wpAny_loadPart' hl1, wpAny_loadPart' hb1
    exact ⟨(fun x => nomatch x), q⟩
  | true =>
    refine wpAny_richCompare_same_room (op := .NotEq) p1.typeIs p2.typeIs F.slot_list_ne (call_here F.slot_list_ne p1.typeIs F.entry_list_ne (F.args_list_ne_2 _ _) ?_) hu
    obtain ⟨hp, g, d, tk, os⟩ := s
    wp_walk using wpAny_loadPart' hl1, wpAny_loadPart' hb1
    exact ⟨(fun x => nomatch x), q⟩
end
end DlQ
namespace DlQ
open PySem PySem.SeqAt
open AutoSeq1 (wpAny_loadPart')
open MeetsSeq MeetsSeq2 MeetsSeq3 SeqRoads2
open GQ (FinOf call_here)
section
variable {prog : Program} {w : World} {A : Around} {R : Result → Shared → Prop}
theorem tupB (l b : Addr) (items items2 : Array Value) (n n2 : Nat) (dd dd2 : Option Addr) (sl sl2 : Array (Option Value)) (e : Nat → Bool) (I : Nat → Shared → Prop)
    (turn : ∀ i (h1 : i < items.size) (h2 : i < items2.size) s, I i s → wpAny (model prog w) A.in1 (eqBool items[i] items2[i]) (fun r s' => r = e i ∧ I (i + 1) s') (fun e s' => R (.error e) s') s)
    (fin : ∀ j s, I j s → R (.ok (.ret (.bool (allB e (min items.size items2.size) && (items.size == items2.size))))) s) {s : Shared} (hl1 : s.heap.get? l = some { cls := .type "tuple", dict := dd, data := .seq items n, slots := sl }) (hb1 : s.heap.get? b = some { cls := .type "tuple", dict := dd2, data := .seq items2 n2, slots := sl2 }) (h : I 0 s) :
    wpAny (model prog w) A.in1 (Builtin.«tuple.__eq__» ⟨[.ref l, .ref b], []⟩) (FinOf prog w A R) (fun e s' => R (.error e) s') s := by
  have f2 := AutoSeq1.sub_tuple_tuple
  have hZ : (items.toList.zip items2.toList).length = min items.size items2.size := by simp
  have h0 := h
  obtain ⟨hp, g, d, tk, os⟩ := s
  wp_walk using wpAny_loadPart' hl1, wpAny_loadPart' hb1, wpAny_forIn_list _ (fun rest b s' => b.1 = none ∧ ∃ i, rest = (items.toList.zip items2.toList).drop i ∧ i ≤ min items.size items2.size ∧ (∀ j, j < i → e j = true) ∧ I i s') _
  case turn =>
    rintro ⟨y, x⟩ rest b s' ⟨hb', i, hz, hi, he, hI⟩
    have hlt : i < (items.toList.zip items2.toList).length := by
      rcases Nat.lt_or_ge i (items.toList.zip items2.toList).length with h' | h'
      · exact h'
      · rw [List.drop_of_length_le h'] at hz; cases hz
    have h1 : i < items.size := by omega
    have h2 : i < items2.size := by omega
    rw [List.drop_eq_getElem_cons hlt] at hz
    injection hz with hyx hrest
    have hy : y = items[i] := by have := congrArg Prod.fst hyx; simpa using this
    have hx : x = items2[i] := by have := congrArg Prod.snd hyx; simpa using this
    subst hy hx
    refine wpAny_bind (wpAny_mono (turn i h1 h2 s' hI) (fun r s2 q2 => ?_) fun _ _ x => x)
    obtain ⟨hr, q2⟩ := q2
    cases r with
    | true =>
      wp_walk
      refine ⟨rfl, i + 1, hrest, by omega, fun j hj => ?_, q2⟩
      rcases Nat.lt_or_ge j i with z | z
      · exact he j z
      · have : j = i := by omega
        subst this
        exact hr.symm
    | false =>
      have hR := fin _ _ q2
      rw [allB_false (j := i) (by omega) hr.symm] at hR
      wp_walk
      simpa using hR
  case fin =>
    rintro ⟨b1, b2⟩ s' ⟨hb', i, hz, hi, he, hI⟩
    simp only at hb'
    subst hb'
    have hge : min items.size items2.size ≤ i := by
      rcases Nat.lt_or_ge i (items.toList.zip items2.toList).length with h' | h'
      · rw [List.drop_eq_getElem_cons h'] at hz; cases hz
      · omega
    have hR := fin _ _ hI
    rw [allB_true (fun j hj => he j (by omega))] at hR
    wp_walk
    simpa [Builtin.Tuple.tupleCompareSizes] using hR
  case h =>
    exact ⟨rfl, 0, rfl, Nat.zero_le _, fun j hj => absurd hj (Nat.not_lt_zero _), h0⟩
theorem tupNB (l b : Addr) (items items2 : Array Value) (n n2 : Nat) (dd dd2 : Option Addr) (sl sl2 : Array (Option Value)) (e : Nat → Bool) (I : Nat → Shared → Prop)
    (turn : ∀ i (h1 : i < items.size) (h2 : i < items2.size) s, I i s → wpAny (model prog w) A.in1 (eqBool items[i] items2[i]) (fun r s' => r = e i ∧ I (i + 1) s') (fun e s' => R (.error e) s') s)
    (fin : ∀ j s, I j s → R (.ok (.ret (.bool (!(allB e (min items.size items2.size) && (items.size == items2.size)))))) s) {s : Shared} (hl1 : s.heap.get? l = some { cls := .type "tuple", dict := dd, data := .seq items n, slots := sl }) (hb1 : s.heap.get? b = some { cls := .type "tuple", dict := dd2, data := .seq items2 n2, slots := sl2 }) (h : I 0 s) :
    wpAny (model prog w) A.in1 (Builtin.«tuple.__ne__» ⟨[.ref l, .ref b], []⟩) (FinOf prog w A R) (fun e s' => R (.error e) s') s := by
  have f2 := AutoSeq1.sub_tuple_tuple
  have hZ : (items.toList.zip items2.toList).length = min items.size items2.size := by simp
  have h0 := h
  obtain ⟨hp, g, d, tk, os⟩ := s
  wp_walk using wpAny_loadPart' hl1, wpAny_loadPart' hb1, wpAny_forIn_list _ (fun rest b s' => b.1 = none ∧ ∃ i, rest = (items.toList.zip items2.toList).drop i ∧ i ≤ min items.size items2.size ∧ (∀ j, j < i → e j = true) ∧ I i s') _
  case turn =>
    rintro ⟨y, x⟩ rest b s' ⟨hb', i, hz, hi, he, hI⟩
    have hlt : i < (items.toList.zip items2.toList).length := by
      rcases Nat.lt_or_ge i (items.toList.zip items2.toList).length with h' | h'
      · exact h'
      · rw [List.drop_of_length_le h'] at hz; cases hz
    have h1 : i < items.size := by omega
    have h2 : i < items2.size := by omega
    rw [List.drop_eq_getElem_cons hlt] at hz
    injection hz with hyx hrest
    have hy : y = items[i] := by have := congrArg Prod.fst hyx; simpa using this
    have hx : x = items2[i] := by have := congrArg Prod.snd hyx; simpa using this
    subst hy hx
    refine wpAny_bind (wpAny_mono (turn i h1 h2 s' hI) (fun r s2 q2 => ?_) fun _ _ x => x)
    obtain ⟨hr, q2⟩ := q2
    cases r with
    | true =>
      wp_walk
      refine ⟨rfl, i + 1, hrest, by omega, fun j hj => ?_, q2⟩
      rcases Nat.lt_or_ge j i with z | z
      · exact he j z
      · have : j = i := by omega
        subst this
        exact hr.symm
    | false =>
      have hR := fin _ _ q2
      rw [allB_false (j := i) (by omega) hr.symm] at hR
      wp_walk
      simpa using hR
  case fin =>
    rintro ⟨b1, b2⟩ s' ⟨hb', i, hz, hi, he, hI⟩
    simp only at hb'
    subst hb'
    have hge : min items.size items2.size ≤ i := by
      rcases Nat.lt_or_ge i (items.toList.zip items2.toList).length with h' | h'
      · rw [List.drop_eq_getElem_cons h'] at hz; cases hz
      · omega
    have hR := fin _ _ hI
    rw [allB_true (fun j hj => he j (by omega))] at hR
    wp_walk
    have e1 : (items.size != items2.size) = !(items.size == items2.size) := rfl
    simpa [Builtin.Tuple.tupleCompareSizes, e1] using hR
  case h =>
    exact ⟨rfl, 0, rfl, Nat.zero_le _, fun j hj => absurd hj (Nat.not_lt_zero _), h0⟩
end
section
variable {prog : Program} {w : World} {A : Around} {E : Value → Shared → Prop} {s : Shared}
theorem rc_tupEq {l b : Addr} {items items2 : Array Value} {e : Nat → Bool} {Q : Value → Shared → Prop} (hu : A.units < cLine) (I : Nat → Shared → Prop)
    (hl : s.heap.IsTuple l items) (hb : s.heap.IsTuple b items2)
    (turn : ∀ i (h1 : i < items.size) (h2 : i < items2.size) s, I i s → wpAny (model prog w) A.in1 (eqBool items[i] items2[i]) (fun r s' => r = e i ∧ I (i + 1) s') E s)
    (fin : ∀ j s, I j s → Q (.bool (allB e (min items.size items2.size) && (items.size == items2.size))) s) (h : I 0 s) : wpAny (model prog w) A (richCompare .Eq (.ref l) (.ref b)) Q E s := by
  obtain ⟨⟨cls, dd, data, sl⟩, ho, hc, n, hd⟩ := id hl
  obtain ⟨⟨cls2, dd2, data2, sl2⟩, ho2, hc2, n2, hd2⟩ := id hb
  simp only at hc hd hc2 hd2
  subst hc hd hc2 hd2
  refine wpAny_richCompare_same_room (op := .Eq) ⟨_, ho, rfl⟩ ⟨_, ho2, rfl⟩ F.slot_tuple_eq (call_here F.slot_tuple_eq ⟨_, ho, rfl⟩ F.entry_tuple_eq (F.args_tuple_eq_2 _ _) ?_) hu
  exact tupB (R := wants (fun v s' => v ≠ .notImplemented ∧ Q v s') E) l b items items2 n n2 dd dd2 sl sl2 e I turn (fun j s' q => ⟨(fun x => nomatch x), fin j s' q⟩) ho ho2 h
theorem rc_tupNe {l b : Addr} {items items2 : Array Value} {e : Nat → Bool} {Q : Value → Shared → Prop} (hu : A.units < cLine) (I : Nat → Shared → Prop)
    (hl : s.heap.IsTuple l items) (hb : s.heap.IsTuple b items2)
    (turn : ∀ i (h1 : i < items.size) (h2 : i < items2.size) s, I i s → wpAny (model prog w) A.in1 (eqBool items[i] items2[i]) (fun r s' => r = e i ∧ I (i + 1) s') E s)
    (fin : ∀ j s, I j s → Q (.bool (!(allB e (min items.size items2.size) && (items.size == items2.size)))) s) (h : I 0 s) : wpAny (model prog w) A (richCompare .NotEq (.ref l) (.ref b)) Q E s := by
  obtain ⟨⟨cls, dd, data, sl⟩, ho, hc, n, hd⟩ := id hl
  obtain ⟨⟨cls2, dd2, data2, sl2⟩, ho2, hc2, n2, hd2⟩ := id hb
  simp only at hc hd hc2 hd2
  subst hc hd hc2 hd2
  refine wpAny_richCompare_same_room (op := .NotEq) ⟨_, ho, rfl⟩ ⟨_, ho2, rfl⟩ F.slot_tuple_ne (call_here F.slot_tuple_ne ⟨_, ho, rfl⟩ F.entry_tuple_ne (F.args_tuple_ne_2 _ _) ?_) hu
  exact tupNB (R := wants (fun v s' => v ≠ .notImplemented ∧ Q v s') E) l b items items2 n n2 dd dd2 sl sl2 e I turn (fun j s' q => ⟨(fun x => nomatch x), fin j s' q⟩) ho ho2 h
end
end DlQ
namespace Dl
open PySem PySem.Spec L2
open PyProof.Rows hiding St
/-! ### == of data of any depth -/
abbrev DEq := D → D → Option Bool
def EqD (X : Cx) (n : Nat) (G : Gam) (f : DEq) : Prop :=
  ∀ (A : Around) (pins : List (Addr × Obj)) (s : Shared) (σ : St) (H : Hp) (x y : V) (u v : Value) (S : Addr → Prop) (d d' : D) (b : Bool), L2.Sub X n A → Inv X pins σ H s → RelV x u → RelV y v → (∀ p, S p → ∃ o, H p = some o) → Rep G S H d x → Rep G S H d' y → f d d' = some b →
    wpAny (model X.prog X.w) A (eqBool u v) (fun r s' => r = b ∧ ∃ H', Inv X pins σ H' s' ∧ Ext H H') X.xe s
def cop (ne : Bool) : CmpOp := if ne = true then .NotEq else .Eq
def RcD (ne : Bool) (X : Cx) (n : Nat) (G : Gam) (f : DEq) : Prop :=
  ∀ (A : Around) (pins : List (Addr × Obj)) (s : Shared) (σ : St) (H : Hp) (x y : V) (u v : Value) (S : Addr → Prop) (d d' : D) (b : Bool), L2.Sub X n A → Inv X pins σ H s → RelV x u → RelV y v → (∀ p, S p → ∃ o, H p = some o) → Rep G S H d x → Rep G S H d' y → f d d' = some b →
    wpAny (model X.prog X.w) A (richCompare (cop ne) u v) (fun r s' => r = .bool (b != ne) ∧ ∃ H', Inv X pins σ H' s' ∧ Ext H H') X.xe s
/-- what is the same is told equal -/
def RefD (X : Cx) (G : Gam) (f : DEq) : Prop := ∀ (pins : List (Addr × Obj)) (s : Shared) (σ : St) (S : Addr → Prop) (H : Hp) (d d' : D) (v : V) (b : Bool), Inv X pins σ H s → Rep G S H d v → Rep G S H d' v → f d d' = some b → b = true
section
variable {X : Cx} {n m : Nat} {G : Gam} {f g : DEq} {ne : Bool}
theorem EqD.mono (h : EqD X n G f) (hn : n ≤ m) : EqD X m G f := fun A pins s σ H x y u v S d d' b sb => h A pins s σ H x y u v S d d' b (sb.mono hn)
theorem RcD.mono (h : RcD ne X n G f) (hn : n ≤ m) : RcD ne X m G f := fun A pins s σ H x y u v S d d' b sb => h A pins s σ H x y u v S d d' b (sb.mono hn)
def altE (f g : DEq) : DEq := fun d d' => match f d d' with
  | some b => some b
  | none => g d d'
theorem RcD.alt (h : RcD ne X n G f) (h' : RcD ne X n G g) : RcD ne X n G (altE f g) := fun A pins s σ H x y u v S d d' b sb I rx ry hS r r' e => by
  unfold altE at e
  split at e
  · rename_i b' e'
    cases e
    exact h A pins s σ H x y u v S d d' b sb I rx ry hS r r' e'
  · exact h' A pins s σ H x y u v S d d' b sb I rx ry hS r r' e
/-! #### flat -/
def flE : DEq
  | .non, .non => some true
  | .int i, .int j => some (decide (i = j))
  | .str i, .str j => some (strEq i j)
  | .bl i, .bl j => some (i == j)
  | .non, .int _ => some false
  | .int _, .non => some false
  | .non, .str _ => some false
  | .str _, .non => some false
  | .int _, .str _ => some false
  | .str _, .int _ => some false
  | .bl _, .str _ => some false
  | .str _, .bl _ => some false
  | .bl _, .non => some false
  | .non, .bl _ => some false
  | _, _ => none
theorem flE_ok {d d' : D} {b : Bool} (h : flE d d' = some b) : ∃ x y, flat d = some x ∧ flat d' = some y ∧ flatV x = true ∧ flatV y = true ∧ eqV x y = b := by
  cases d <;> cases d' <;> simp only [flE, Option.some.injEq, reduceCtorEq] at h <;> subst h <;>
    first
    | (refine ⟨_, _, rfl, rfl, rfl, rfl, rfl⟩; done)
    | (refine ⟨_, _, rfl, rfl, rfl, rfl, ?_⟩; simp [eqV, strEq, Bool.beq_eq_decide_eq]; done)
theorem eqD_flat : EqD X 0 G flE := fun A pins s σ H x y u v S d d' b sb I rx ry hS r r' e => by
  obtain ⟨x', y', f1, f2, g1, g2, g3⟩ := flE_ok e
  have ex := (flat_rep f1).mp r
  have ey := (flat_rep f2).mp r'
  subst ex; subst ey
  have q := eqAt_V (A := A) (s := s) rx ry g1 g2
  rw [g3] at q
  exact q X.prog X.w X.xe _ ⟨rfl, H, I, Ext.rfl'⟩
theorem refD_flat : RefD X G flE := fun pins s σ S H d d' v b I r r' e => by
  obtain ⟨x', y', f1, f2, g1, g2, g3⟩ := flE_ok e
  have ex := (flat_rep f1).mp r
  have ey := (flat_rep f2).mp r'
  subst ex
  rw [← ey] at g3
  rw [← g3]
  cases v <;> simp [eqV, flatV] at g1 ⊢
/-! #### items -/
def allE (f : DEq) : List D → List D → Option Bool
  | a :: as, b :: bs => (match f a b, allE f as bs with
    | some r, some q => some (r && q)
    | _, _ => none)
  | _, _ => some true
def eAt (f : DEq) (as bs : List D) (i : Nat) : Bool := match as[i]?, bs[i]? with
  | some a, some b => (match f a b with
    | some r => r
    | none => true)
  | _, _ => true
theorem allE_ok : ∀ {as bs : List D} {r : Bool}, allE f as bs = some r → (∀ (i : Nat) (a b : D), as[i]? = some a → bs[i]? = some b → ∃ q, f a b = some q) ∧ DlQ.allB (eAt f as bs) (min as.length bs.length) = r
  | [], bs, r, h => by
    cases h
    exact ⟨fun i a b h1 _ => by simp at h1, DlQ.allB_true fun j hj => by simp at hj⟩
  | a :: as, [], r, h => by
    cases h
    exact ⟨fun i a b _ h2 => by simp at h2, DlQ.allB_true fun j hj => by simp at hj⟩
  | a :: as, b :: bs, r, h => by
    unfold allE at h
    split at h
    · rename_i r1 q1 e1 e2
      cases h
      obtain ⟨h1, h2⟩ := allE_ok e2
      refine ⟨fun i a' b' g1 g2 => ?_, ?_⟩
      · cases i with
        | zero =>
          have : a = a' := by simpa using g1
          subst this
          have : b = b' := by simpa using g2
          subst this
          exact ⟨r1, e1⟩
        | succ i => exact h1 i a' b' (by simpa using g1) (by simpa using g2)
      · rw [← h2]
        have e0 : eAt f (a :: as) (b :: bs) 0 = r1 := by simp [eAt, e1]
        have es : ∀ j, eAt f (a :: as) (b :: bs) (j + 1) = eAt f as bs j := fun j => by simp [eAt]
        unfold DlQ.allB
        rw [List.length_cons, List.length_cons, Nat.succ_min_succ, List.range_succ_eq_map, List.all_cons, e0, List.all_map]
        congr 1
    · cases h
theorem turnD (h : EqD X n G f) {A : Around} (sb : L2.Sub X (n + 1) A) {pins : List (Addr × Obj)} {σ : St} {H : Hp} {S : Addr → Prop} {xs ys : List V} {as bs : List D} {its its2 : List Value} (hS : ∀ p, S p → ∃ o, H p = some o)
    (ra : Reps G S H as xs) (rb : Reps G S H bs ys) (hall : ∀ (i : Nat) (a b : D), as[i]? = some a → bs[i]? = some b → ∃ q, f a b = some q) (r : Vals xs its) (r2 : Vals ys its2)
    (i : Nat) (h1 : i < its.toArray.size) (h2 : i < its2.toArray.size) (s' : Shared) (l : LoopI X pins σ H s') :
    wpAny (model X.prog X.w) A.in1 (eqBool its.toArray[i] its2.toArray[i]) (fun r s2 => r = eAt f as bs i ∧ LoopI X pins σ H s2) X.xe s' := by
  obtain ⟨H1, I1, e1⟩ := l
  have g1 : its[i]? = some its.toArray[i] := by
    have h1' : i < its.length := by simpa using h1
    rw [List.getElem?_eq_getElem h1'] <;> simp
  have g2 : its2[i]? = some its2.toArray[i] := by
    have h2' : i < its2.length := by simpa using h2
    rw [List.getElem?_eq_getElem h2'] <;> simp
  have k1 : i < as.length := by rw [← ra.len, r.length]; simpa using h1
  have k2 : i < bs.length := by rw [← rb.len, r2.length]; simpa using h2
  obtain ⟨x, hx, rx⟩ := ra.get (List.getElem?_eq_getElem k1)
  obtain ⟨y, hy, ry⟩ := rb.get (List.getElem?_eq_getElem k2)
  obtain ⟨u, hu, ru⟩ := r.get hx
  obtain ⟨v, hv, rv⟩ := r2.get hy
  rw [g1] at hu
  rw [g2] at hv
  rw [Option.some.inj hu, Option.some.inj hv]
  obtain ⟨q, hq⟩ := hall i _ _ (List.getElem?_eq_getElem k1) (List.getElem?_eq_getElem k2)
  have ee : eAt f as bs i = q := by
    unfold eAt
    rw [List.getElem?_eq_getElem k1, List.getElem?_eq_getElem k2]
    simp [hq]
  have tr : Tr S H S H1 := tr_grow fun a o e => e1 a o e
  refine wpAny_mono (h A.in1 pins s' σ H1 x y u v S _ _ q sb.in1 I1 ru rv (fun p hp => by obtain ⟨o, e⟩ := hS p hp; exact ⟨o, e1 _ _ e⟩) (rx.tr tr) (ry.tr tr) hq) (fun r s2 z => ?_) fun _ _ x => x
  obtain ⟨hr, H2, I2, e2⟩ := z
  exact ⟨by rw [hr, ee], H2, I2, e1.trans e2⟩
def lsOf : D → Option (List D)
  | .lst a => some a
  | .frl a => some a
  | _ => none
def lstE (f : DEq) : DEq := fun d d' => match lsOf d, lsOf d' with
  | some a, some b => (match Nat.beq a.length b.length with
    | true => allE f a b
    | false => some false)
  | _, _ => none
def tupE (f : DEq) : DEq := fun d d' => match d, d' with
  | .tup a, .tup b => (match allE f a b with
    | some r => some (r && Nat.beq a.length b.length)
    | none => none)
  | _, _ => none
theorem lsOf_rep {S : Addr → Prop} {H : Hp} {d : D} {a : List D} {v : V} (h : lsOf d = some a) (r : Rep G S H d v) : ∃ p vs, v = .ref p ∧ SqL G.K H p vs ∧ Reps G S H a vs := by
  refine rep_lstD ?_ r
  cases d with
  | lst _ => exact h
  | frl _ => exact h
  | _ => cases h
theorem rcD_list (hK : X.K = G.K) (h : EqD X n G f) : RcD ne X (n + 1) G (lstE f) := fun A pins s σ H x y u v S d d' b sb I rx ry hS r r' e => by
  unfold lstE at e
  split at e
  · rename_i as bs ea eb
    obtain ⟨p, xs, rfl, hp, ra⟩ := lsOf_rep ea r
    obtain ⟨q, ys, rfl, hq, rb⟩ := lsOf_rep eb r'
    cases rx
    cases ry
    rw [← hK] at hp hq
    obtain ⟨its, rv, pl, hz⟩ := I.list hp
    obtain ⟨its2, rv2, pl2, hz2⟩ := I.list hq
    have l1 : its.toArray.size = as.length := by rw [List.size_toArray, ← rv.length, ra.len]
    have l2 : its2.toArray.size = bs.length := by rw [List.size_toArray, ← rv2.length, rb.len]
    split at e
    · rename_i el
      have hl : as.length = bs.length := Nat.eq_of_beq_eq_true el
      obtain ⟨hall, hb⟩ := allE_ok e
      have LB : DlQ.ListB X.prog X.w A X.xe p q as.length (eAt f as bs) (fun _ s' => LoopI X pins σ H s') := fun i s' ⟨H1, I1, e1⟩ => by
        obtain ⟨its', rv', pl', _⟩ := I1.list (hp.ext e1)
        obtain ⟨its2', rv2', pl2', _⟩ := I1.list (hq.ext e1)
        exact ⟨its'.toArray, its2'.toArray, pl'.isList, pl2'.isList, by rw [List.size_toArray, ← rv'.length, ra.len], by rw [List.size_toArray, ← rv2'.length, rb.len, hl], fun h1 h2 => turnD h sb hS ra rb hall rv' rv2' i h1 h2 s' ⟨H1, I1, e1⟩⟩
      have hm : min as.length bs.length = as.length := by omega
      rw [hm] at hb
      cases ne with
      | false => exact DlQ.rc_listEq sb.room.units0 _ LB (fun j s' q => ⟨by rw [hb]; simp, q⟩) ⟨H, I, Ext.rfl'⟩
      | true => exact DlQ.rc_listNe sb.room.units0 _ LB (fun j s' q => ⟨by rw [hb]; simp, q⟩) ⟨H, I, Ext.rfl'⟩
    · rename_i el
      cases e
      have hl : as.length ≠ bs.length := fun z => by rw [z, Nat.beq_refl] at el; cases el
      have hne : its.toArray.size ≠ its2.toArray.size := by rw [l1, l2]; exact hl
      exact DlQ.rc_listLen (ne := ne) sb.room.units0 pl.isList pl2.isList hne ⟨by simp, H, I, Ext.rfl'⟩
  · cases e
theorem rcD_tup (hK : X.K = G.K) (h : EqD X n G f) : RcD ne X (n + 1) G (tupE f) := fun A pins s σ H x y u v S d d' b sb I rx ry hS r r' e => by
  unfold tupE at e
  split at e
  · rename_i as bs
    obtain ⟨p, xs, rfl, hp, ra⟩ := rep_tup hK r
    obtain ⟨q, ys, rfl, hq, rb⟩ := rep_tup hK r'
    cases rx
    cases ry
    obtain ⟨its, rv, pl, hz⟩ := I.tuple hp
    obtain ⟨its2, rv2, pl2, hz2⟩ := I.tuple hq
    have l1 : its.toArray.size = as.length := by rw [List.size_toArray, ← rv.length, ra.len]
    have l2 : its2.toArray.size = bs.length := by rw [List.size_toArray, ← rv2.length, rb.len]
    split at e
    · rename_i r0 er
      cases e
      obtain ⟨hall, hb⟩ := allE_ok er
      have ew : (DlQ.allB (eAt f as bs) (min its.toArray.size its2.toArray.size) && (its.toArray.size == its2.toArray.size)) = (r0 && Nat.beq as.length bs.length) := by
        rw [l1, l2, hb]
        congr 1
        cases hn : Nat.beq as.length bs.length with
        | true => simp [Nat.eq_of_beq_eq_true hn]
        | false => simp [Nat.ne_of_beq_eq_false hn]
      cases ne with
      | false => exact DlQ.rc_tupEq (e := eAt f as bs) sb.room.units0 (fun _ s' => LoopI X pins σ H s') pl pl2 (fun i h1 h2 s' l => turnD h sb hS ra rb hall rv rv2 i h1 h2 s' l) (fun j s' q => ⟨by rw [ew]; simp, q⟩) ⟨H, I, Ext.rfl'⟩
      | true => exact DlQ.rc_tupNe (e := eAt f as bs) sb.room.units0 (fun _ s' => LoopI X pins σ H s') pl pl2 (fun i h1 h2 s' l => turnD h sb hS ra rb hall rv rv2 i h1 h2 s' l) (fun j s' q => ⟨by rw [ew]; simp, q⟩) ⟨H, I, Ext.rfl'⟩
    · cases e
  · cases e
theorem allE_ref {pins : List (Addr × Obj)} {s : Shared} {σ : St} {S : Addr → Prop} {H : Hp} (hf : RefD X G f) (I : Inv X pins σ H s) : ∀ {as bs : List D} {vs : List V} {r : Bool}, Reps G S H as vs → Reps G S H bs vs → allE f as bs = some r → r = true
  | [], bs, vs, r, _, _, e => by cases e; rfl
  | a :: as, [], vs, r, _, _, e => by cases e; rfl
  | a :: as, b :: bs, vs, r, h1, h2, e => by
    obtain ⟨v, r1, rfl, g1, g2⟩ := h1
    obtain ⟨v', r1', ev, g3, g4⟩ := h2
    cases ev
    unfold allE at e
    split at e
    · rename_i q1 q2 e1 e2
      cases e
      rw [hf pins s σ S H a b v q1 I g1 g3 e1, allE_ref hf I g2 g4 e2]
      rfl
    · cases e
theorem refD_tup (hK : X.K = G.K) (hf : RefD X G f) : RefD X G (tupE f) := fun pins s σ S H d d' v b I r r' e => by
  unfold tupE at e
  split at e
  · rename_i as bs
    obtain ⟨p, xs, rfl, hp, ra⟩ := rep_tup hK r
    obtain ⟨q, ys, eq, hq, rb⟩ := rep_tup hK r'
    cases eq
    have : xs = ys := I.tuple_inj hp hq
    subst this
    split at e
    · rename_i r0 er
      cases e
      have : as.length = bs.length := by rw [← ra.len, rb.len]
      rw [allE_ref hf I ra rb er, this, Nat.beq_refl]
      rfl
    · cases e
  · cases e
/-- from a rich comparison of references to == of items -/
theorem RcD.eqD (h : RcD false X n G f) (hf : RefD X G f) (hr : ∀ d d' b, f d d' = some b → flat d = none ∧ flat d' = none) : EqD X n G f := by
  intro A pins s σ H x y u v S d d' b sb I rx ry hS r r' e
  obtain ⟨f1, f2⟩ := hr d d' b e
  have isRef : ∀ {d : D} {x : V}, flat d = none → Rep G S H d x → ∃ a, x = .ref a := fun {d x} hn r => by
    cases d with
    | non => cases hn
    | bl _ => cases hn
    | int _ => cases hn
    | str _ => cases hn
    | tup ds => unfold Rep at r; obtain ⟨p, vs, e, _⟩ := r; exact ⟨p, e⟩
    | lst ds => unfold Rep at r; obtain ⟨p, vs, e, _⟩ := r; exact ⟨p, e⟩
    | frl ds => unfold Rep at r; obtain ⟨p, vs, e, _⟩ := r; exact ⟨p, e⟩
    | dic ks ds => unfold Rep at r; obtain ⟨p, vs, e, _⟩ := r; exact ⟨p, e⟩
    | obj c ds => unfold Rep at r; obtain ⟨p, dx, vs, e, _⟩ := r; exact ⟨p, e⟩
    | cls c => exact ⟨_, r⟩
  obtain ⟨a, rfl⟩ := isRef f1 r
  obtain ⟨a', rfl⟩ := isRef f2 r'
  cases rx
  cases ry
  by_cases hab : a = a'
  · subst hab
    have hb := hf pins s σ S H d d' _ b I r r' e
    exact SeqAt.EqAt.same (A := A) (s := s) (.ref a) X.prog X.w X.xe _ ⟨hb.symm, H, I, Ext.rfl'⟩
  · refine GQ.eqBool_refG hab (wpAny_mono (h A pins s σ H (.ref a) (.ref a') _ _ S d d' b sb I rfl rfl hS r r' e) (fun r s' q => ?_) fun _ _ x => x)
    obtain ⟨hr', q⟩ := q
    exact ⟨b, by simpa using hr', rfl, q⟩
theorem tupE_refs : ∀ d d' b, tupE f d d' = some b → flat d = none ∧ flat d' = none := fun d d' b e => by
  unfold tupE at e
  split at e
  · exact ⟨rfl, rfl⟩
  · cases e
/-! #### by an own __eq__ -/
/-! #### as an operation -/
def opE (f : DEq) (ne : Bool) (wa wb : Sl) : RD := match shr wa, shr wb with
  | .val d, .val d' => (match f d d' with
    | some b => okB (b != ne)
    | none => .stuck)
  | _, _ => .stuck
theorem opE_ok {wa wb w : Sl} (h : opE f ne wa wb = .ok w) : ∃ d d' b, shr wa = .val d ∧ shr wb = .val d' ∧ f d d' = some b ∧ w = .val (.bl (b != ne)) := by
  unfold opE at h
  split at h
  · split at h
    · rw [okB_eq] at h
      cases h
      exact ⟨_, _, _, by assumption, by assumption, by assumption, rfl⟩
    · cases h
  · cases h
theorem opE_or (wa wb : Sl) : (∃ w, opE f ne wa wb = .ok w) ∨ opE f ne wa wb = .stuck := by
  unfold opE
  split
  · split
    · rw [okB_eq]; exact .inl ⟨_, rfl⟩
    · exact .inr rfl
  · exact .inr rfl
theorem opD_deep {Wt : WX} (h : RcD ne X n G f) (hr : Room n X.A) : OpD G Wt X (compareOp (cop ne)) (opE f ne) := by
  intro pins s σ H x y v u Q M ρ τ wa wb I rx ry R p
  rcases opE_or (f := f) (ne := ne) wa wb with ⟨w, e⟩ | e
  · rw [e] at p
    obtain ⟨d, d', b, ea, eb, ef, rfl⟩ := opE_ok e
    have R2 : RS G M ρ ((some x, shr wa) :: (some y, shr wb) :: τ) σ H := RS.shr1 ((RS.shr1 R).perm (List.Perm.swap _ _ _))
    rw [ea, eb] at R2
    obtain ⟨x', ex, r⟩ := R2.val List.mem_cons_self
    cases ex
    obtain ⟨y', ey, r'⟩ := R2.val (List.mem_cons_of_mem _ List.mem_cons_self)
    cases ey
    have hS : ∀ p, avoid M.S0 (ents σ ρ ++ ((some x, Sl.val d) :: (some y, Sl.val d') :: τ)) p → ∃ o, H p = some o := fun p z => by
      rcases z with z | z
      · exact R2.re.s0 z
      · exact R2.re.there z
    have e1 : compareOp (cop ne) v u = richCompare (cop ne) v u := by cases ne <;> rfl
    rw [e1]
    refine wpAny_mono (h X.A pins s σ H x y v u _ d d' b ⟨hr, rfl⟩ I rx ry hS r r' ef) (fun r s' z => ?_) fun _ _ x => x
    obtain ⟨hr', H', I', ex⟩ := z
    subst hr'
    exact ⟨.bl (b != ne), H', I', rfl, p _ H' (((R2.drop1.drop1).grow fun a o e => ex a o e).addFlat rfl)⟩
  · rw [e] at p
    exact p.elim
end
end Dl
namespace Dl
open PySem PySem.Spec L2
open PyProof.Rows hiding St
/-! ### in, not in: flat things in lists and tuples; one sign in a text -/
def seqOf : D → Option (List D)
  | .lst a => some a
  | .frl a => some a
  | .tup a => some a
  | _ => none
def inD (x : D) : List D → Option Bool
  | [] => some false
  | d :: ds => match flE d x, inD x ds with
    | some true, some _ => some true
    | some false, some b => some b
    | _, _ => none
section
variable {G : Gam} {S : Addr → Prop} {H : Hp}
theorem reps_flat : ∀ {ds : List D} {vs : List V} {x : D} {b : Bool} {xv : V}, Reps G S H ds vs → inD x ds = some b → Rep G S H x xv → vs.all flatV = true ∧ inV xv vs = b
  | [], vs, x, b, xv, r, e, rx => by cases r; cases e; exact ⟨rfl, rfl⟩
  | d :: ds, vs, x, b, xv, r, e, rx => by
    obtain ⟨v, r1, rfl, h1, h2⟩ := r
    unfold inD at e
    split at e
    · rename_i b' e1 e2
      cases e
      obtain ⟨g1, g2⟩ := reps_flat h2 e2 rx
      obtain ⟨x', y', f1, f2, p1, p2, p3⟩ := flE_ok e1
      have ev := (flat_rep f1).mp h1
      have ex := (flat_rep f2).mp rx
      subst ev; subst ex
      refine ⟨by rw [List.all_cons, p1, g1]; rfl, ?_⟩
      unfold inV
      rw [List.any_cons, p3]
      rfl
    · rename_i b' e1 e2
      cases e
      obtain ⟨g1, g2⟩ := reps_flat h2 e2 rx
      obtain ⟨x', y', f1, f2, p1, p2, p3⟩ := flE_ok e1
      have ev := (flat_rep f1).mp h1
      have ex := (flat_rep f2).mp rx
      subst ev; subst ex
      refine ⟨by rw [List.all_cons, p1, g1]; rfl, ?_⟩
      unfold inV
      rw [List.any_cons, p3]
      exact g2
    · cases e
end
def isFl : D → Bool
  | .non => true
  | .bl _ => true
  | .int _ => true
  | .str _ => true
  | _ => false
def dIn (neg : Bool) (wa wb : Sl) : RD := match wa, shr wb with
  | .val x, .val s => (match isFl x, seqOf s with
    | true, some ds => (match inD x ds with
      | some b => okB (b != neg)
      | none => .stuck)
    | _, _ => .stuck)
  | _, _ => .stuck
theorem dIn_ok {neg : Bool} {wa wb w : Sl} (h : dIn neg wa wb = .ok w) : ∃ x s ds b, wa = .val x ∧ shr wb = .val s ∧ isFl x = true ∧ seqOf s = some ds ∧ inD x ds = some b ∧ w = .val (.bl (b != neg)) := by
  unfold dIn at h
  split at h
  · split at h
    · split at h
      · rw [okB_eq] at h
        cases h
        exact ⟨_, _, _, _, rfl, by assumption, by assumption, by assumption, by assumption, rfl⟩
      · cases h
    · cases h
  · cases h
theorem dIn_or (neg : Bool) (wa wb : Sl) : (∃ w, dIn neg wa wb = .ok w) ∨ dIn neg wa wb = .stuck := by
  unfold dIn
  split
  · split
    · split
      · rw [okB_eq]; exact .inl ⟨_, rfl⟩
      · exact .inr rfl
    · exact .inr rfl
  · exact .inr rfl
section
variable {X : Cx} {G : Gam} {Wt : WX}
theorem seqOf_rep {S : Addr → Prop} {H : Hp} {d : D} {a : List D} {v : V} (hK : X.K = G.K) (h : seqOf d = some a) (r : Rep G S H d v) : ∃ p vs, v = .ref p ∧ (SqL X.K H p vs ∨ SqT X.K H p vs) ∧ Reps G S H a vs := by
  have l : ∀ a, lstD (.val d) = some a → ∃ p vs, v = .ref p ∧ (SqL X.K H p vs ∨ SqT X.K H p vs) ∧ Reps G S H a vs := fun a e => by
    obtain ⟨p, vs, e1, h1, h2⟩ := rep_lstD e r
    exact ⟨p, vs, e1, .inl (by rw [hK]; exact h1), h2⟩
  cases d with
  | lst ds => cases h; exact l _ rfl
  | frl ds => cases h; exact l _ rfl
  | tup ds =>
    cases h
    obtain ⟨p, vs, e1, h1, h2⟩ := rep_tup hK r
    exact ⟨p, vs, e1, .inr h1, h2⟩
  | _ => cases h
theorem isFl_rep {S : Addr → Prop} {H : Hp} {d : D} {v : V} (h : isFl d = true) (r : Rep G S H d v) : flatV v = true := by
  cases d with
  | non => cases r; rfl
  | bl b => cases r; rfl
  | int b => cases r; rfl
  | str b => cases r; rfl
  | _ => cases h
theorem in_imp (hK : X.K = G.K) {neg : Bool} {fn : Value → Value → Sem Value} (hr : OpR X fn (rIn X.K neg)) : OpD G Wt X fn (dIn neg) := by
  intro pins s σ H x y v u Q M ρ τ wa wb I rx ry R p
  rcases dIn_or neg wa wb with ⟨w, e⟩ | e
  · rw [e] at p
    obtain ⟨xd, sd, ds, b, rfl, es, ef, ed, eb, rfl⟩ := dIn_ok e
    have R2 : RS G M ρ ((some y, shr wb) :: (some x, .val xd) :: τ) σ H := RS.shr1 R
    rw [es] at R2
    obtain ⟨y', ey, r'⟩ := R2.val List.mem_cons_self
    cases ey
    obtain ⟨x', ex, r⟩ := R2.val (List.mem_cons_of_mem _ List.mem_cons_self)
    cases ex
    obtain ⟨q, vs, rfl, hq, rs⟩ := seqOf_rep hK ed r'
    obtain ⟨g1, g2⟩ := reps_flat rs eb r
    refine hr pins s σ H x (.ref q) v u Q I rx ry ⟨q, vs, rfl, hq, isFl_rep ef r, g1, ?_⟩
    rw [g2]
    have e0 : (if neg = true then !b else b) = (b != neg) := by cases neg <;> cases b <;> rfl
    rw [e0]
    exact p _ H ((R2.drop1.drop1).addFlat rfl)
  · rw [e] at p
    exact p.elim
theorem opD_in (hK : X.K = G.K) : OpD G Wt X (compareOp .In) (dIn false) := in_imp hK op_in_seq
theorem opD_notin (hK : X.K = G.K) : OpD G Wt X (compareOp .NotIn) (dIn true) := in_imp hK op_notIn_seq
/-- one sign in a text -/
def sgnOf : Str → Option Nat
  | ⟨⟨[c]⟩⟩ => some c
  | _ => none
def memNat (c : Nat) : List Nat → Bool
  | [] => false
  | a :: l => match Nat.beq c a with
    | true => true
    | false => memNat c l
theorem memNat_eq {c : Nat} : ∀ {l : List Nat}, memNat c l = decide (c ∈ l)
  | [] => by simp [memNat]
  | a :: l => by
    show (match Nat.beq c a with | true => true | false => memNat c l) = _
    cases h : Nat.beq c a with
    | true => simp [Nat.eq_of_beq_eq_true h]
    | false =>
      have : c ≠ a := Nat.ne_of_beq_eq_false h
      rw [memNat_eq]
      simp [this]
def dInC (neg : Bool) (wa wb : Sl) : RD := match wa, wb with
  | .val (.str x), .val (.str y) => (match sgnOf x with
    | some c => okB (memNat c y.cps.toList != neg)
    | none => .stuck)
  | _, _ => .stuck
theorem sgnOf_eq {x : Str} {c : Nat} (h : sgnOf x = some c) : x = ⟨#[c]⟩ := by
  unfold sgnOf at h
  split at h
  · cases h; rfl
  · cases h
theorem dInC_ok {neg : Bool} {wa wb w : Sl} (h : dInC neg wa wb = .ok w) : ∃ c y, wa = .val (.str ⟨#[c]⟩) ∧ wb = .val (.str y) ∧ w = .val (.bl (decide (c ∈ y.cps.toList) != neg)) := by
  unfold dInC at h
  split at h
  · split at h
    · rename_i c hc
      rw [okB_eq, memNat_eq] at h
      cases h
      exact ⟨_, _, by rw [sgnOf_eq hc], rfl, rfl⟩
    · cases h
  · cases h
theorem dInC_or (neg : Bool) (wa wb : Sl) : (∃ w, dInC neg wa wb = .ok w) ∨ dInC neg wa wb = .stuck := by
  unfold dInC
  split
  · split
    · rw [okB_eq]; exact .inl ⟨_, rfl⟩
    · exact .inr rfl
  · exact .inr rfl
theorem inC_imp {neg : Bool} {fn : Value → Value → Sem Value} {r : R2} (hr : OpR X fn r) (hq : ∀ c z H (Q : VK), Q (.bl (decide (c ∈ z.cps.toList) != neg)) H → r (.str ⟨#[c]⟩) (.str z) H Q) : OpD G Wt X fn (dInC neg) := by
  intro pins s σ H x y v u Q M ρ τ wa wb I rx ry R p
  rcases dInC_or neg wa wb with ⟨w, e⟩ | e
  · rw [e] at p
    obtain ⟨c, z, rfl, rfl, rfl⟩ := dInC_ok e
    have ey := Option.some.inj (R.flat (v := some y) (d := .str z) List.mem_cons_self rfl)
    have ex := Option.some.inj (R.flat (v := some x) (d := .str ⟨#[c]⟩) (List.mem_cons_of_mem _ List.mem_cons_self) rfl)
    subst ex; subst ey
    exact hr pins s σ H _ _ v u Q I rx ry (hq c z H Q (p _ H ((R.drop1.drop1).addFlat rfl)))
  · rw [e] at p
    exact p.elim
theorem opD_inC : OpD G Wt X (compareOp .In) (dInC false) := inC_imp op_in_sign fun c z H Q h => ⟨c, z, rfl, rfl, by simpa using h⟩
/-! ### a + b of lists, of tuples -/
def dCatL (wa wb : Sl) : RD := match shr wa, shr wb with
  | .val (.lst a), .val (.lst b) => (match shortN (a.length + b.length) with
    | true => .ok (.own (.lst (a ++ b)))
    | false => .stuck)
  | _, _ => .stuck
theorem dCatL_ok {wa wb w : Sl} (h : dCatL wa wb = .ok w) : ∃ a b, shr wa = .val (.lst a) ∧ shr wb = .val (.lst b) ∧ a.length + b.length < sizeLine ∧ w = .own (.lst (a ++ b)) := by
  unfold dCatL at h
  split at h
  · split at h
    · rename_i e
      cases h
      exact ⟨_, _, by assumption, by assumption, short_ok e, rfl⟩
    · cases h
  · cases h
theorem dCatL_or (wa wb : Sl) : (∃ w, dCatL wa wb = .ok w) ∨ dCatL wa wb = .stuck := by
  unfold dCatL
  split
  · split
    · exact .inl ⟨_, rfl⟩
    · exact .inr rfl
  · exact .inr rfl
theorem opD_catL : OpD G Wt X (binaryOp .Add) dCatL := by
  intro pins s σ H x y v u Q M ρ τ wa wb I rx ry R p
  rcases dCatL_or wa wb with ⟨w, e⟩ | e
  · rw [e] at p
    obtain ⟨a, b, ea, eb, hl, rfl⟩ := dCatL_ok e
    have R2 : RS G M ρ ((some x, shr wa) :: (some y, shr wb) :: τ) σ H := RS.shr1 ((RS.shr1 R).perm (List.Perm.swap _ _ _))
    rw [ea, eb] at R2
    obtain ⟨R3, rr⟩ := RS.reps (vs := [x, y]) (ws := [.val (.lst a), .val (.lst b)]) (ds := [.lst a, .lst b]) R2 rfl rfl
    obtain ⟨x', r1, e1, g1, g2⟩ := rr
    cases e1
    obtain ⟨y', r2, e2, g3, _⟩ := g2
    cases e2
    unfold Rep at g1 g3
    obtain ⟨pa, xs, rfl, _, ha, ra⟩ := g1
    obtain ⟨pb, ys, rfl, _, hb, rb⟩ := g3
    exact op_cat pins s σ H _ _ v u Q I rx ry ⟨pa, pb, xs, ys, rfl, rfl, ha, hb, by rw [ra.len, rb.len]; omega, fun q hq => p _ _ (R3.newL (ra.append rb) hq)⟩
  · rw [e] at p
    exact p.elim
end
/-! ### slices -/
def sixD (n dflt : Nat) : Option Int → Nat
  | none => dflt
  | some (.ofNat k) => Nat.min k n
  | some (.negSucc k) => n - (k + 1)
theorem sixD_eq (n dflt : Nat) (o : Option Int) : sixD n dflt o = HT.sIx n dflt o := by
  cases o with
  | none => rfl
  | some i =>
    cases i with
    | ofNat k => exact (HT.sIx_nat n dflt k).symm
    | negSucc k =>
      show n - (k + 1) = if Int.negSucc k < 0 then (Int.negSucc k + (n : Int)).toNat else min (Int.negSucc k).toNat n
      rw [if_pos (Int.negSucc_lt_zero k)]
      omega
def cutD {α : Type} (xs : List α) (lo hi : Option Int) : List α := fN (sixD xs.length 0 lo) fun a => fN (sixD xs.length xs.length hi) fun b => (xs.drop a).take (b - a)
theorem cutD_eq {α : Type} (xs : List α) (lo hi : Option Int) : cutD xs lo hi = (xs.drop (HT.sIx xs.length 0 lo)).take (HT.sIx xs.length xs.length hi - HT.sIx xs.length 0 lo) := by
  unfold cutD
  rw [fN_eq, fN_eq, sixD_eq, sixD_eq]
abbrev FO := Env → Res (Option Int × Env)
def cNoPart : FO := fun ρ => .ok (none, ρ)
def partS (w : Sl) (ρ : Env) : Res (Option Int × Env) := match w with
  | .val (.int i) => .ok (some i, ρ)
  | _ => .stuck
def cPart (F : FE) : FO := fun ρ => (F ρ).bind fun (w, ρ1) => partS w ρ1
def postO (G : Gam) (Wt : WX) (M : Fm) (τ : List Ent) (σ : St) (r : Res (Option Int × Env)) (Q : Option Int → Hp → Prop) : Prop := match r with
  | .ok (o, ρ') => ∀ H', RS G M ρ' τ σ H' → Q o H'
  | .exc c fs ρ' => ∀ dd vs H', RX G c fs dd vs H' → RS G M ρ' (xents vs fs ++ τ) σ H' → Wt (.ref (G.ca c)) dd σ H'
  | .stuck => False
def tO (G : Gam) (Wt : WX) (F : FO) : TO := fun σ H Q => ∃ M ρ τ, RS G M ρ τ σ H ∧ postO G Wt M τ σ (F ρ) Q
def slD' (wa : Sl) (lo hi : Option Int) : RD := match shr wa with
  | .val (.lst ds) => .ok (.own (.lst (cutD ds lo hi)))
  | .val (.frl ds) => .ok (.own (.lst (cutD ds lo hi)))
  | .val (.tup ds) => (match Nat.beq (sixD ds.length 0 lo) 0 && Nat.beq (sixD ds.length ds.length hi) ds.length with
    | true => .ok (.val (.tup ds))
    | false => .ok (.val (.tup (cutD ds lo hi))))
  | _ => .stuck
def cSlice (F : FE) (L U : FO) : FE := fun ρ => (F ρ).bind fun (wa, ρ1) => (L ρ1).bind fun (lo, ρ2) => (U ρ2).bind fun (hi, ρ3) => liftD (slD' wa lo hi) ρ3
section
variable {X : Cx} {G : Gam} {Wt : WX} {e : Expr} {lo hi : Option Expr} {F : FE} {L U : FO} {pos p2 : Pos}
theorem PO.weak {X : Cx} {e : Option Expr} {t t' : TO} (h : PO X e t) (k : ∀ σ H Q, t' σ H Q → t σ H Q) : PO X e t' := ⟨fun pins s σ H Q I q => h.run pins s σ H Q I (k σ H Q q)⟩
theorem o_none : PO X none (tO G Wt cNoPart) := PO.weak po_none fun σ H Q ⟨M, ρ, τ, R, q⟩ => q H R
theorem o_some (h : PE X e (tE G Wt F)) : PO X (some e) (tO G Wt (cPart F)) := PO.weak (po_some h) fun σ H Q ⟨M, ρ, τ, R, q⟩ => ⟨M, ρ, τ, R, by
  unfold cPart at q
  cases ef : F ρ with
  | exc c fs ρ' => rw [ef] at q; exact q
  | stuck => rw [ef] at q; exact q
  | ok a =>
    obtain ⟨w, ρ1⟩ := a
    rw [ef] at q
    intro v H' R1
    have q1 : postO G Wt M τ σ (partS w ρ1) Q := q
    unfold partS at q1
    split at q1
    · rename_i i
      have ev := Option.some.inj (R1.flat (v := some v) (d := .int i) List.mem_cons_self rfl)
      exact ⟨i, ev, q1 H' R1.drop1⟩
    · exact q1.elim⟩
theorem cutV_reps {S : Addr → Prop} {H : Hp} {ds : List D} {vs : List V} {l u : Option Int} (r : Reps G S H ds vs) : Reps G S H (cutD ds l u) (cutV vs l u) := by
  rw [cutD_eq]
  unfold cutV
  rw [r.len]
  exact (r.drop _).take _
theorem e_slice (hK : X.K = G.K) (ha : PE X e (tE G Wt F)) (hl : PO X lo (tO G Wt L)) (hu : PO X hi (tO G Wt U)) : PE X (.Subscript e (.Slice lo hi none p2) pos) (tE G Wt (cSlice F L U)) := by
  refine (pe_slice (SlR.or sl_list sl_tupA) ha hl hu).weak fun σ H Q ⟨M, ρ, τ, R, q⟩ => ⟨M, ρ, τ, R, post_bind0 q fun wa ρ1 x H1 _ R1 q1 => ?_⟩
  refine ⟨M, ρ1, _, R1, ?_⟩
  dsimp only at q1
  cases el : L ρ1 with
  | exc c fs ρ' => rw [el] at q1; exact fun dd vs H' hx R' => q1 dd vs H' hx (xe_drop R')
  | stuck => rw [el] at q1; exact q1
  | ok a =>
    obtain ⟨l, ρ2⟩ := a
    rw [el] at q1
    intro H2 R2
    refine ⟨M, ρ2, _, R2, ?_⟩
    have q2 : post G Wt M τ σ ((U ρ2).bind fun (hi, ρ3) => liftD (slD' wa l hi) ρ3) Q := q1
    cases eu : U ρ2 with
    | exc c fs ρ' => rw [eu] at q2; exact fun dd vs H' hx R' => q2 dd vs H' hx (xe_drop R')
    | stuck => rw [eu] at q2; exact q2
    | ok b =>
      obtain ⟨u, ρ3⟩ := b
      rw [eu] at q2
      intro H3 R3
      have q3 : post G Wt M τ σ (liftD (slD' wa l u) ρ3) Q := q2
      have R4 := R3.shr1
      unfold slD' at q3
      split at q3
      · rename_i ds ew
        rw [ew] at R4
        obtain ⟨R5, rr⟩ := RS.reps (vs := [x]) (ws := [.val (.lst ds)]) (ds := [.lst ds]) R4 rfl rfl
        obtain ⟨x', r1, e1, g1, _⟩ := rr
        cases e1
        obtain ⟨p, vs, rfl, hp, r⟩ := rep_lstD rfl g1
        exact .inl ⟨p, vs, rfl, by rw [hK]; exact hp, fun q hq => q3 _ _ (R5.newL (cutV_reps r) hq)⟩
      · rename_i ds ew
        rw [ew] at R4
        obtain ⟨R5, rr⟩ := RS.reps (vs := [x]) (ws := [.val (.frl ds)]) (ds := [.frl ds]) R4 rfl rfl
        obtain ⟨x', r1, e1, g1, _⟩ := rr
        cases e1
        obtain ⟨p, vs, rfl, hp, r⟩ := rep_lstD rfl g1
        exact .inl ⟨p, vs, rfl, by rw [hK]; exact hp, fun q hq => q3 _ _ (R5.newL (cutV_reps r) hq)⟩
      · rename_i ds ew
        rw [ew] at R4
        obtain ⟨R5, rr⟩ := RS.reps (vs := [x]) (ws := [.val (.tup ds)]) (ds := [.tup ds]) R4 rfl rfl
        obtain ⟨x', r1, e1, g1, _⟩ := rr
        cases e1
        obtain ⟨p, vs, rfl, hp, r⟩ := rep_tup hK g1
        have hl := r.len
        refine .inr ⟨p, vs, rfl, hp, fun z => ?_, fun z q hq => ?_⟩
        · rw [hl] at z
          have e1 : (Nat.beq (sixD ds.length 0 l) 0 && Nat.beq (sixD ds.length ds.length u) ds.length) = true := by
            rw [sixD_eq, sixD_eq, z.1, z.2, Nat.beq_refl, Nat.beq_refl]
            rfl
          rw [e1] at q3
          exact q3 _ H3 (R5.addVal g1)
        · rw [hl] at z
          have e1 : (Nat.beq (sixD ds.length 0 l) 0 && Nat.beq (sixD ds.length ds.length u) ds.length) = false := by
            cases h : (Nat.beq (sixD ds.length 0 l) 0 && Nat.beq (sixD ds.length ds.length u) ds.length) with
            | false => rfl
            | true =>
              rw [Bool.and_eq_true, sixD_eq, sixD_eq] at h
              exact absurd ⟨Nat.eq_of_beq_eq_true h.1, Nat.eq_of_beq_eq_true h.2⟩ z
          rw [e1] at q3
          exact q3 _ _ (R5.newT (cutV_reps r) hq)
      · exact q3.elim
end
end Dl
namespace Dl
open PySem PySem.Spec L2
open PyProof.Rows hiding St
/-! ### classes as values, classmethods -/
theorem fnR_ok {P : Program} {w : World} {K : PySem.W.Frag} {mg : Str → Option Value} {base : Heap} {CX : CXT} {k : Nat} {f : Addr} {fd : FuncData} {ps : List Str} {sp : Sp} (F : FnOk P w K mg base CX k f fd ps sp) (hb : Binds K fd ps []) : FnR P w K mg base CX k f sp := by
  intro A outer s H us vs Q E hr e0 r hs
  have hl : (us ++ ([] : List Value)).length = ps.length := by rw [List.append_nil, ← r.length]; exact F.len _ _ _ _ hs
  exact F.run A outer s H ⟨us, []⟩ us vs Q E hr e0 (by have := hb s us (fun a o e => (e0.bs a o (e0.mod.kin a o e)).1) hl; rwa [List.append_nil] at this) r hs
section
variable {X : Cx} {G : Gam} {Wt : WX} {k n i c : Nat} {fa g pa : Addr} {fd : FuncData} {ps : List Str} {e : Expr} {es : List Expr} {Fa : FE} {Fs : FA} {Ff Fi : FF} {p p2 pos apos : Pos} {x m : Str} {mc : Value}
theorem RS.addCls {M : Fm} {ρ : Env} {τ : List Ent} {σ : St} {H : Hp} (R : RS G M ρ τ σ H) (c : Nat) : RS G M ρ ((some (.ref (G.ca c)), .val (.cls c)) :: τ) σ H := R.addVal (by unfold Rep; rfl)
/-- x(e, ..), x a name that holds the class c -/
def cMakeL (i c : Nat) (Fi : FF) (Fs : FA) : FE := fun ρ => match ρ[i]? with
  | some (.val (.cls c')) => (match okC c c' with
    | true => (Fs ρ).bind fun (ws, ρ1) => makeF c Fi ws ρ1
    | false => .stuck)
  | _ => .stuck
theorem e_makeL (hK : X.K = G.K) (Mk1 : Mk G.K (G.ca c) fa) (F : FnOk X.prog X.w X.K X.mg X.base (L2.CX X.prog X.w) k fa fd ps (spF G n Fi)) (hr : Room (k + 1) X.A) (hN : X.N[i]? = some x) (hv : Vis X.env.scope x) (hb : Binds X.K fd ps []) (tk : Takes X Wt)
    (ha : PA X (e :: es) (tA G Wt Fs)) (hn : ∀ ρ ws ρ', Fs ρ = .ok (ws, ρ') → ws.length + 1 = n) (hdb : (x == ("__debug__" : Str)) = false := by decide) (hcd : (x == ("__classdict__" : Str)) = false := by decide) (he : starEach (e :: es) X.env = (false, eval e X.env) :: starEach es X.env := by rfl) (hpl : (backTo pos (starEach es X.env)).any (·.1) = false := by rfl) :
    PE X (.Call (.Name x p) (e :: es) [] pos) (tE G Wt (cMakeL i c Fi Fs)) := by
  refine ⟨fun pins s σ H Q I h => ?_⟩
  obtain ⟨M, ρ, τ, R, q⟩ := h
  unfold cMakeL at q
  split at q
  · rename_i c' ew
    split at q
    · rename_i ec
      have ec' := okC_eq ec
      subst ec'
      obtain ⟨v0, e1, e2⟩ := R.at_ ew
      obtain ⟨u0, eu, r0⟩ := R.re.val (List.mem_append_left _ (List.mem_of_getElem? e2))
      subst eu
      have r0' : u0 = .ref (G.ca c) := r0
      subst r0'
      refine wpAny_Call_Name_kw (thn ((pe_var (pos := p) hN hv hdb hcd).run pins s σ H (fun v H1 => v = .ref (G.ca c) ∧ H1 = H) I ⟨_, e1, rfl, rfl⟩) fun u s1 ⟨v, H1, I1, r1, q1⟩ => ?_)
      obtain ⟨rfl, rfl⟩ := q1
      cases r1
      have Mk2 : Mk X.K (G.ca c) fa := by rw [hK]; exact Mk1
      have harg : tA G Wt Fs σ H1 (fun vs H2 => ∀ x dx, H2 x = none → H2 dx = none → dx ≠ x → spF G n Fi (.ref x :: vs) (upd (upd H2 dx (.own x)) x (.ins (G.ca c) dx [])) (fun v H3 => v = .non ∧ Q (.ref x) H3) (WE Wt σ)) :=
        ⟨M, ρ, τ, R, post_bindA q (fun _ _ _ _ z => z) fun ws ρ1 vs H2 e3 l R1 p => fun a dx h1 h2 h3 => sp_make (n := n) l (by have := hn _ _ _ e3; omega) R1 h1 h2 h3 p⟩
      refine PySem.W.callWith_K (h₀ := X.base) I1.ok.mod.kin Mk2.kp (thn (ha.run pos pins s1 σ _ _ I1 harg) fun us s2 ⟨vs, H2, I2, r, q2⟩ => ⟨I2.kIn, ?_⟩) he hpl
      show wpAny (model X.prog X.w) X.A (call (.ref (G.ca c)) us) (EP X pins σ Q) X.xe s2
      have hq := q2 (s2.heap.objs.size + 1) s2.heap.objs.size (I2.hok.fresh (Nat.le_succ _)) (I2.hok.fresh (Nat.le_refl _)) (Nat.ne_of_lt (Nat.lt_succ_self _))
      have I3 := Inv.made (C := G.ca c) I2
      have r2 : Vals (V.ref (s2.heap.objs.size + 1) :: vs) (Value.ref (s2.heap.objs.size + 1) :: us) := .cons rfl r
      have FR := fnR_ok F hb
      refine wpAny_call (make_map (f := fa) I2.kIn Mk2.makes Mk2.init (beq_iff_eq.mp Mk2.fn) (codeAny_mono (FR _ X.stack _ _ (Value.ref (s2.heap.objs.size + 1) :: us) _ _ (WE Wt σ) (hr.make (G.ca c) us []) (I3.env0.make (G.ca c) us []) r2 hq) fun r s' hq' => ?_))
      cases r with
      | error e => exact passAt tk σ pins _ _ e s' I3 hq'
      | ok fl =>
        cases fl with
        | ret u =>
          obtain ⟨v, H', I4, rv, ev, q3⟩ := I3.after hq'
          subst ev
          exact ⟨rv, ⟨V.ref (s2.heap.objs.size + 1), H', I4, rfl, q3⟩⟩
        | next => exact False.elim hq'
        | brk => exact False.elim hq'
        | cont => exact False.elim hq'
    · exact q.elim
  · exact q.elim
/-- C.m(e, ..), m a classmethod -/
def cCM (c : Nat) (Ff : FF) (Fs : FA) : FE := fun ρ => (Fs ρ).bind fun (ws, ρ1) => callF0 Ff (.val (.cls c) :: ws) ρ1
theorem e_cmeth {pl : Sem Bool} (hK : X.K = G.K) (hg : Gl X x) (hm : X.mg x = some (.ref (G.ca c))) (rd : ClX.CRead G.K (G.ca c) mc) (cm : ClX.CMet G.K (G.ca c) mc m pa g) (F : FnOk X.prog X.w X.K X.mg X.base (L2.CX X.prog X.w) k g fd ps (spF G n Ff)) (hr : Room k X.A) (hb : Binds X.K fd ps []) (ha : PA X (e :: es) (tA G Wt Fs)) (hn : ∀ ρ ws ρ', Fs ρ = .ok (ws, ρ') → ws.length + 1 = n)
    (hst : starEach (e :: es) X.env = (false, eval e X.env) :: starEach es X.env := by rfl) (hpl : (backTo pos (starEach es X.env)).any (·.1) = false := by rfl)
    (ht : eval (.Call (.Attribute (.Name x p2) m apos) (e :: es) [] pos) X.env = (do
      let ov ← eval (.Name x p2) X.env
      standAt apos.atName
      let (f, first) ← holding [ov] (getMethod ov m pl)
      callWith pos f first (backTo pos (starEach (e :: es) X.env)) (backToKw pos (keywordEach [] X.env))) := by rfl) (hd : (x == ("__debug__" : Str)) = false := by decide) :
    PE X (.Call (.Attribute (.Name x p2) m apos) (e :: es) [] pos) (tE G Wt (cCM c Ff Fs)) := by
  refine (ClX.pe_cmeth (E := fun _ _ _ => False) (pe_glob (v := .ref (G.ca c)) hg hm rfl hd) (by rw [hK]; exact rd) (by rw [hK]; exact cm) (fnR_ok F hb) hr passL ha hst hpl ht).weak fun σ H Q ⟨M, ρ, τ, R, q⟩ => ?_
  refine ⟨rfl, M, ρ, τ, R, post_bindA q (fun _ _ _ _ z => z) fun ws ρ1 vs H1 e1 l R1 p => ?_⟩
  exact sp_call0 (vs := .ref (G.ca c) :: vs) (by simp [l]) (by have := hn _ _ _ e1; simp [← l]; omega) (show RS G M ρ1 (aents (.ref (G.ca c) :: vs) (.val (.cls c) :: ws) ++ τ) σ H1 from RS.addCls R1 c) p
/-! ### a class's constant through an instance -/
/-! ### the signs of a text -/
def signsD (s : Str) : List D := s.cps.toList.map fun c => .str ⟨#[c]⟩
def cItStr (F : FE) : FI := fun ρ => (F ρ).bind fun (w, ρ1) => match w with
  | .val (.str s) => .ok (signsD s, ρ1)
  | _ => .stuck
theorem i_str {tg : Expr} (he : PE X e (tE G Wt Fa)) : PI X tg e (tI G Wt (cItStr Fa)) := by
  refine (pi_str he).weak fun σ H R ⟨M, ρ, τ, RR, _, q⟩ => ⟨M, ρ, τ, RR, ?_⟩
  unfold cItStr at q
  cases e1 : Fa ρ with
  | exc c fs ρ' => rw [e1] at q; exact q
  | stuck => rw [e1] at q; exact q
  | ok a =>
    obtain ⟨w, ρ1⟩ := a
    rw [e1] at q
    intro v H1 R1
    cases w with
    | val d =>
      cases d with
      | str s =>
        have ev := Option.some.inj (R1.flat (v := some v) (d := .str s) List.mem_cons_self rfl)
        subst ev
        refine ⟨s, rfl, q M (Its s) [] H1 (fun _ _ _ _ z => z) (fun ρ τ σ H i R => ?_) R1.drop1⟩
        have hl : (signsD s).length = s.cps.size := by simp [signsD]
        refine ⟨fun e => by show s.cps.size ≤ i; omega, fun d hd => ?_⟩
        have hi : i < s.cps.size := by have := (List.getElem?_eq_some_iff.mp hd).1; omega
        refine ⟨hi, fun x H' ⟨e1, c, e2, e3⟩ => ?_⟩
        subst e1 e3
        have : d = .str ⟨#[c]⟩ := by
          unfold signsD at hd
          rw [List.getElem?_map, Array.getElem?_toList, e2] at hd
          exact (Option.some.inj hd).symm
        subst this
        exact R.addFlat rfl
      | _ => exact q.elim
    | _ => exact q.elim
end
end Dl
namespace Dl
open PySem PySem.Spec L2
open PyProof.Rows hiding St
/-! ### y = {k: v for ..} -/
section
variable {X : Cx}
theorem ps_setDc {i : Nat} {y : Str} {py : Pos} {kx vx tg iter : Expr} {ifs : List Expr} {scope : Scope} {own : List (Str × Nat)} {pos spos : Pos} {wi : TI} {g : TG} {tt : TT} {tk tv : TE} (hc : X.calm = true) (hN : X.N.Nodup) (hy : X.N[i]? = some y) (hyl : X.env.scope.names.lookup y = some .local)
    (hsw : swapsWith (.DictComp kx vx [⟨tg, iter, ifs, 0⟩] scope pos) (some (.Name y py)) spos.line X.env = pure true) (hi : PI X tg iter wi) (ok : BlkOk X.N X.env.scope scope own)
    (hg : ∀ (s : Shared) (H : Hp) (C : Addr) (cl : List (Str × Addr)) (fp : List Addr), PG (X.blk s H scope (compEnvC scope cl C X.env) fp) tg g) (ht : ∀ (s : Shared) (H : Hp) (C : Addr) (cl : List (Str × Addr)) (fp : List Addr), PTs (X.blk s H scope (compEnvC scope cl C X.env) fp) ifs tt)
    (hk : ∀ (s : Shared) (H : Hp) (C : Addr) (cl : List (Str × Addr)) (fp : List Addr), PE (X.blk s H scope (compEnvC scope cl C X.env) fp) kx tk)
    (he : ∀ (s : Shared) (H : Hp) (C : Addr) (cl : List (Str × Addr)) (fp : List Addr), PE (X.blk s H scope (compEnvC scope cl C X.env) fp) vx tv) (hs : ∀ x, foldedSetIterable iter X.env x = pure x := by intro _; rfl) :
    PS X (.Assign [.Name y py] (.DictComp kx vx [⟨tg, iter, ifs, 0⟩] scope pos) spos) (tAsg (tDc wi g tt tk tv (own.map (·.2))) (gName i)) := by
  refine ⟨fun pins s σ H D I h => ?_⟩
  rw [exec_Assign_Name_used _ _ _ _ hsw]
  refine wpAny_bind (wpAny_standAt (wpAny_bind ?_))
  show wpAny _ X.A (do let _ ← comprehension (.DictComp kx vx [⟨tg, iter, ifs, 0⟩] scope pos) scope X.env (firstIterPos [⟨tg, iter, ifs, 0⟩] pos) newDict false (eval iter X.env) (some (assign (.Name y py) X.env))) _ _ s
  have h : tDc wi g tt tk tv (own.map (·.2)) σ H (fun x H1 => gName i x σ H1 D.nx) := h
  refine wpAny_bind (thn (dc_core (Qf := fun _ s' => SP X pins D .next s') hc hN I hi ok hg ht hk he hs h fun L C s' m H' I' q hn f => ?_) fun _ s' hq => wpAny_pure (wpAny_pure hq))
  show wpAny _ _ (assign (.Name y py) X.env (.ref L)) _ _ _
  refine wpAny_assign_Name (store_ok2 (v := V.ref L) I' hN hy (.inl hyl) rfl (fun s2 I2 ⟨a, sb, ha⟩ => ?_) (.inr hyl))
  obtain ⟨f0, f1, f2, f3, f4, f5⟩ := f
  have haC : C ≠ a := by
    rcases ha with z | z
    · rw [z]; exact f1
    · exact fun e => f4 y a z e.symm
  refine ⟨m, hn.sameBut sb haC, fun h3 sb3 => ?_⟩
  exact ⟨_, H', I2.turned (t' := s2.toks) (fun b o hb e => (sb3.2 b hb).trans e) f0 f1 f3 f4 f5, q⟩
variable {G : Gam} {Wt : WX} {A : FG} {pos : Pos} {vs : List Nat} {T : FT} {Fk Fv : FE}
theorem s_setDc {i : Nat} {y : Str} {py : Pos} {kx vx tg iter : Expr} {ifs : List Expr} {scope : Scope} {own : List (Str × Nat)} {spos : Pos} {Fi : FI} (hc : X.calm = true) (hN : X.N.Nodup) (hy : X.N[i]? = some y) (hyl : X.env.scope.names.lookup y = some .local)
    (hsw : swapsWith (.DictComp kx vx [⟨tg, iter, ifs, 0⟩] scope pos) (some (.Name y py)) spos.line X.env = pure true) (hi : PI X tg iter (tI G Wt Fi)) (ok : BlkOk X.N X.env.scope scope own) (hvs : own.map (·.2) = vs)
    (hg : ∀ (s : Shared) (H : Hp) (C : Addr) (cl : List (Str × Addr)) (fp : List Addr), PG (X.blk s H scope (compEnvC scope cl C X.env) fp) tg (tGv G vs A)) (ht : ∀ (s : Shared) (H : Hp) (C : Addr) (cl : List (Str × Addr)) (fp : List Addr), PTs (X.blk s H scope (compEnvC scope cl C X.env) fp) ifs (tT G W0 T))
    (hk : ∀ (s : Shared) (H : Hp) (C : Addr) (cl : List (Str × Addr)) (fp : List Addr), PE (X.blk s H scope (compEnvC scope cl C X.env) fp) kx (tE G W0 Fk))
    (he : ∀ (s : Shared) (H : Hp) (C : Addr) (cl : List (Str × Addr)) (fp : List Addr), PE (X.blk s H scope (compEnvC scope cl C X.env) fp) vx (tE G W0 Fv)) (hs : ∀ x, foldedSetIterable iter X.env x = pure x := by intro _; rfl) :
    PS X (.Assign [.Name y py] (.DictComp kx vx [⟨tg, iter, ifs, 0⟩] scope pos) spos) (tS G Wt (cAsg (cDc Fi A T Fk Fv vs) (gSet i))) := by
  subst hvs
  refine (ps_setDc hc hN hy hyl hsw hi ok hg ht hk he hs).weak fun DD σ H ⟨M, ρ, τ, R, q⟩ => ?_
  refine dc_imp ⟨M, ρ, τ, R, True.intro, postES_bind q fun w ρ' v H' R1 p => ?_⟩
  dsimp only at p
  split at p
  · rename_i ρ2 e2
    exact p _ H' (R1.put e2)
  · exact p.elim
end
/-! ### starred arguments of displays: *x, x a tuple or a list -/
def cStar (F : FE) (Fs : FA) : FA := fun ρ => (F ρ).bind fun (w, ρ1) => match shr w with
  | .val d => (match seqOf d with
    | some ds => (Fs ρ1).bind fun (ws, ρ2) => .ok (ds.map Sl.val ++ ws, ρ2)
    | none => .stuck)
  | _ => .stuck
section
variable {X : Cx} {G : Gam} {Wt : WX} {e o : Expr} {es : List Expr} {Fa Fo : FE} {Fs : FA} {p pos ap cp : Pos}
theorem RS.addReps {M : Fm} {ρ : Env} {σ : St} {H : Hp} : ∀ {ds : List D} {us : List V} {τ : List Ent}, RS G M ρ τ σ H → Reps G (avoid M.S0 (ents σ ρ ++ τ)) H ds us → RS G M ρ (aents us (ds.map Sl.val) ++ τ) σ H
  | [], us, τ, R, r => by cases r; exact R
  | d :: ds, us, τ, R, r => by
    obtain ⟨u, r1, rfl, h1, h2⟩ := r
    have R1 := R.addVal h1
    have ha : avoid M.S0 (ents σ ρ ++ ((some u, Sl.val d) :: τ)) = avoid M.S0 (ents σ ρ ++ τ) := by
      rw [RS.avoid_mid]
      funext b
      unfold avoid
      rw [owns_val]
    exact (RS.addReps R1 (by rw [ha]; exact h2)).perm List.perm_middle
theorem a_star (hK : X.K = G.K) (he : PE X e (tE G Wt Fa)) (hs : PA X es (tA G Wt Fs)) (h1 : starEach (.Starred e p :: es) X.env = (true, eval e X.env) :: starEach es X.env := by rfl) : PA X (.Starred e p :: es) (tA G Wt (cStar Fa Fs)) := by
  refine PA.weak (StX.pa_star he hs h1) fun σ H Q ⟨M, ρ, τ, R, q⟩ => ⟨M, ρ, τ, R, postA_bindE q fun w ρ1 v H1 R1 q1 => ?_⟩
  dsimp only at q1
  have R2 := R1.shr1
  split at q1
  · rename_i d ew
    rw [ew] at R2
    split at q1
    · rename_i ds ed
      obtain ⟨u, eu, r⟩ := R2.val List.mem_cons_self
      cases eu
      obtain ⟨a, vs, rfl, hq, rs⟩ := seqOf_rep hK ed r
      have R3 := RS.addReps R2 rs
      refine ⟨a, vs, rfl, hq.symm, M, ρ1, _, R3, ?_⟩
      have hl := rs.len
      cases e2 : Fs ρ1 with
      | exc c fs ρ' =>
        rw [e2] at q1
        exact fun dd us H' hx R' => q1 dd us H' hx (by
          have R4 : RS G M ρ' ((aents vs (ds.map Sl.val) ++ [(some (V.ref a), Sl.val d)]) ++ (xents us fs ++ τ)) σ H' := R'.perm (by
            rw [← List.append_assoc, ← List.append_assoc]
            refine ((List.perm_append_comm (l₁ := xents us fs) (l₂ := aents vs (ds.map Sl.val))).append_right _).trans ?_
            rw [List.append_assoc, List.append_assoc, List.append_assoc]
            refine List.Perm.append_left _ ?_
            exact List.perm_middle)
          exact R4.drop)
      | stuck => rw [e2] at q1; exact q1
      | ok z =>
        obtain ⟨ws, ρ2⟩ := z
        rw [e2] at q1
        intro us H2 hlen R4
        refine q1 (vs ++ us) H2 (by simp [hlen, hl]) ?_
        have e3 : aents (vs ++ us) (ds.map Sl.val ++ ws) = aents vs (ds.map Sl.val) ++ aents us ws := by
          unfold aents
          rw [List.map_append, List.zip_append (by simp [hl])]
        rw [e3]
        have R5 : RS G M ρ2 ([(some (V.ref a), Sl.val d)] ++ ((aents vs (ds.map Sl.val) ++ aents us ws) ++ τ)) σ H2 := R4.perm (by
          refine (List.Perm.append_left _ ?_ : (aents us ws ++ (aents vs (ds.map Sl.val) ++ ((some (V.ref a), Sl.val d) :: τ))).Perm (aents us ws ++ ([(some (V.ref a), Sl.val d)] ++ (aents vs (ds.map Sl.val) ++ τ)))).trans ?_
          · exact List.perm_middle
          · rw [← List.append_assoc]
            refine ((List.perm_append_comm (l₁ := aents us ws) (l₂ := [(some (V.ref a), Sl.val d)])).append_right _).trans ?_
            rw [List.append_assoc]
            refine List.Perm.append_left _ ?_
            rw [← List.append_assoc]
            exact (List.perm_append_comm).append_right τ)
        exact R5.drop
    · exact q1.elim
  · exact q1.elim
/-! ### xs.index(y), flat -/
def ixOf (x : D) : List D → Nat → Option Nat
  | [], _ => none
  | d :: ds, n => match flE d x with
    | some true => (match inD x ds with
      | some _ => some n
      | none => none)
    | some false => ixOf x ds (n + 1)
    | none => none
theorem ixOf_ok {S : Addr → Prop} {H : Hp} : ∀ {ds : List D} {vs : List V} {x : D} {n j : Nat} {xv : V}, Reps G S H ds vs → ixOf x ds n = some j → Rep G S H x xv → isFl x = true → ∃ k z, j = n + k ∧ vs.all flatV = true ∧ vs[k]? = some z ∧ eqV z xv = true ∧ ∀ m z', m < k → vs[m]? = some z' → eqV z' xv = false
  | [], vs, x, n, j, xv, r, e, rx, hx => by cases e
  | d :: ds, vs, x, n, j, xv, r, e, rx, hx => by
    obtain ⟨v, r1, rfl, h1, h2⟩ := r
    unfold ixOf at e
    split at e
    · rename_i e1
      split at e
      · rename_i b e2
        cases e
        obtain ⟨g1, g2⟩ := reps_flat h2 e2 rx
        obtain ⟨x', y', f1, f2, p1, p2, p3⟩ := flE_ok e1
        have ev := (flat_rep f1).mp h1
        have ex := (flat_rep f2).mp rx
        subst ev; subst ex
        exact ⟨0, v, rfl, by rw [List.all_cons, p1, g1]; rfl, rfl, p3, fun m z' hm => absurd hm (Nat.not_lt_zero _)⟩
      · cases e
    · rename_i e1
      obtain ⟨k, z, rfl, g1, g2, g3, g4⟩ := ixOf_ok h2 e rx hx
      obtain ⟨x', y', f1, f2, p1, p2, p3⟩ := flE_ok e1
      have ev := (flat_rep f1).mp h1
      have ex := (flat_rep f2).mp rx
      subst ev; subst ex
      refine ⟨k + 1, z, by omega, by rw [List.all_cons, p1, g1]; rfl, by simpa using g2, g3, fun m z' hm hz => ?_⟩
      cases m with
      | zero =>
        have : v = z' := by simpa using hz
        subst this
        exact p3
      | succ m => exact g4 m z' (by omega) (by simpa using hz)
    · cases e
def ixS (ds : List D) (wa : Sl) : RD := match wa with
  | .val x => (match isFl x, ixOf x ds 0 with
    | true, some j => okI j
    | _, _ => .stuck)
  | _ => .stuck
theorem ixS_ok {ds : List D} {wa w : Sl} (h : ixS ds wa = .ok w) : ∃ x j, wa = .val x ∧ isFl x = true ∧ ixOf x ds 0 = some j ∧ w = .val (.int (j : Nat)) := by
  unfold ixS at h
  split at h
  · split at h
    · rw [okI_eq] at h
      cases h
      exact ⟨_, _, rfl, by assumption, by assumption, rfl⟩
    · cases h
  · cases h
theorem ixS_or (ds : List D) (wa : Sl) : (∃ w, ixS ds wa = .ok w) ∨ ixS ds wa = .stuck := by
  unfold ixS
  split
  · split
    · rw [okI_eq]; exact .inl ⟨_, rfl⟩
    · exact .inr rfl
  · exact .inr rfl
def cIndex (Fo Fa : FE) : FE := fun ρ => (Fo ρ).bind fun (wo, ρ1) => match lstD (shr wo) with
  | some ds => (Fa ρ1).bind fun (wa, ρ2) => liftD (ixS ds wa) ρ2
  | none => .stuck
theorem e_index (hK : X.K = G.K) (ho : PE X o (tE G Wt Fo)) (he : PE X e (tE G Wt Fa)) (hline : (ap.endLine == cp.line) = true := by rfl)
    (hbase : attributeBase o "index" X.env (eval o X.env) = eval o X.env := by rfl)
    (hfew : ((backTo cp (starEach [e] X.env)).all (fun x => !x.1) && (backToKw cp (keywordEach [] X.env)).all (fun x => x.1.isSome)
      && decide ([e].length + ([] : List Keyword).length + (if ([] : List Keyword).isEmpty then 0 else 1) < 30)) = true := by rfl)
    (hs : starEach [e] X.env = (false, eval e X.env) :: starEach [] X.env := by rfl) (hplain : (backTo cp (starEach [] X.env)).any (·.1) = false := by rfl) :
    PE X (.Call (.Attribute o "index" ap) [e] [] cp) (tE G Wt (cIndex Fo Fa)) := by
  refine (pe_bm PySem.F.plainAttrs_list PySem.F.slot_list_index PySem.F.type_list_index mt_index ho (pa_cons he pa_nil hs) hbase hfew hline hs hplain).weak fun σ H Q ⟨M, ρ, τ, R, q⟩ => ⟨M, ρ, τ, R, ?_⟩
  unfold cIndex at q
  cases e1 : Fo ρ with
  | exc c fs ρ' => rw [e1] at q; exact q
  | stuck => rw [e1] at q; exact q
  | ok a =>
    obtain ⟨wo, ρ1⟩ := a
    rw [e1] at q
    intro x H1 R1
    have R2 := R1.shr1
    have q1 : post G Wt M τ σ (match lstD (shr wo) with
      | some ds => (Fa ρ1).bind fun (wa, ρ2) => liftD (ixS ds wa) ρ2
      | none => .stuck) Q := q
    clear q
    cases el : lstD (shr wo) with
    | none => rw [el] at q1; exact q1.elim
    | some ds =>
      rw [el] at q1
      obtain ⟨p, vs, rfl, hq, rs⟩ := lst_ent R2 List.mem_cons_self el
      refine ⟨.inl ⟨rfl, vs, by rw [hK]; exact hq⟩, M, ρ1, _, R2, post_bind q1 (fun _ _ _ _ z => xe_drop z) fun wa ρ2 y H2 _ R3 q2 => ?_⟩
      dsimp only at q2
      rcases ixS_or ds wa with ⟨w, e2⟩ | e2
      · rw [e2] at q2
        obtain ⟨xd, j, rfl, ef, ej, rfl⟩ := ixS_ok e2
        have hm : (some (V.ref p), shr wo) ∈ ((some y, Sl.val xd) :: (some (V.ref p), shr wo) :: τ) := List.mem_cons_of_mem _ List.mem_cons_self
        obtain ⟨p', vs', ep, hq', rs'⟩ := lst_ent R3 hm el
        cases ep
        obtain ⟨y', ey, ry⟩ := R3.val List.mem_cons_self
        cases ey
        obtain ⟨k, z, ek, g1, g2, g3, g4⟩ := ixOf_ok rs' ej ry ef
        have ej' : j = k := by omega
        subst ej'
        exact ⟨p, vs', y, j, z, rfl, rfl, by rw [hK]; exact hq', isFl_rep ef ry, g1, g2, g3, g4, q2 _ H2 (R3.drop1.drop1.addFlat rfl)⟩
      · rw [e2] at q2
        exact q2.elim
/-! ### abs of an own object -/
def gAbsO (c : Nat) (Ff : FF) (ws : List Sl) : RD := match ws with
  | [w] => (match isObjC c (shr w) with
    | true => (match dCall Ff [w] with
      | .ok r => .ok r
      | _ => .stuck)
    | false => .stuck)
  | _ => .stuck
variable {c k : Nat} {fa : Addr} {fd : FuncData} {ps : List Str} {Ff : FF}
theorem call_absO (hK : X.K = G.K) (hm : Meth G.K (G.ca c) "__abs__" fa) (F : FnOk X.prog X.w X.K X.mg X.base (L2.CX X.prog X.w) k fa fd ps (spF G 1 Ff)) (hr : Room (k + 1) X.A) (hb : Binds X.K fd ps []) : CallR X (.builtin "abs") (fun xs H Q => ∃ a dx fs, xs = [.ref a] ∧ H a = some (.ins (G.ca c) dx fs) ∧ spF G 1 Ff [.ref a] H Q (fun _ _ _ => False)) := by
  intro pins s σ H xs us Q I r h
  obtain ⟨a, dx, fs, rfl, ha, sp⟩ := h
  obtain ⟨u, rfl, ru⟩ := vals1 r
  cases ru
  obtain ⟨ox, od, J⟩ := inst_of I ha
  have hl : ([Value.ref a] ++ ([] : List Value)).length = ps.length := by rw [List.append_nil]; exact F.len _ _ _ _ sp
  refine abs_K I.kIn J (by rw [hK]; exact hm.at_) (by rw [hK]; exact hm.fn) ?_
  refine wpAny_call (codeAny_mono (F.run X.A.in1 X.stack s H ⟨[.ref a], []⟩ [.ref a] [.ref a] Q _ hr.in1 I.env0.in1 (by have := hb s [.ref a] I.kIn hl; rwa [List.append_nil] at this) (.cons rfl .nil) sp) fun r s' hq => ?_)
  cases r with
  | error e =>
    obtain ⟨_, _, _, _, _, _, _, _, _, _, _, _, z⟩ := hq
    exact z.elim
  | ok fl =>
    cases fl with
    | ret u => exact I.after hq
    | next => exact False.elim hq
    | brk => exact False.elim hq
    | cont => exact False.elim hq
theorem cb_absO : CbOk G Wt (fun xs H Q => ∃ a dx fs, xs = [V.ref a] ∧ H a = some (.ins (G.ca c) dx fs) ∧ spF G 1 Ff [.ref a] H Q (fun _ _ _ => False)) (gAbsO c Ff) := by
  intro M ρ τ σ H xs ws Q l R p
  unfold gAbsO at p
  split at p
  · rename_i w
    split at p
    · rename_i eo
      obtain ⟨x, rfl⟩ : ∃ x, xs = [x] := by
        cases xs with
        | nil => cases l
        | cons x r => cases r with
          | nil => exact ⟨x, rfl⟩
          | cons _ _ => simp at l
      obtain ⟨a, dx, fs, rfl, ha⟩ := snd_obj (show RS G M ρ ((some x, w) :: τ) σ H from R) eo
      refine ⟨a, dx, fs, rfl, ha, sp_call0 (Wt := Wt) (ρ := ρ) (τ := τ) (vs := [.ref a]) (ws := [w]) rfl rfl R ?_⟩
      unfold callF0
      rw [← liftD_dCall]
      cases ed : dCall Ff [w] with
      | ok r => rw [ed] at p; exact p
      | exc c fs ρ' => rw [ed] at p; exact p.elim
      | stuck => rw [ed] at p; exact p.elim
    · exact p.elim
  · exact p.elim
end
end Dl
namespace Dl
open PySem PySem.Spec L2
open PyProof.Rows hiding St
section
variable {X : Cx} {G : Gam} {Wt : WX} {x : Str} {c : Value} {body suite : List Stmt} {b₀ : Stmt} {np pos pos' : Pos} {Fb : FS}
theorem names_own {C : Addr} (hg : Gl X x) (hm : X.mg x = some (.ref C)) (hd : (x == ("__debug__" : Str)) = false := by decide) : Names X x (.ref C) := ⟨hg, hd, .inl hm⟩
end
theorem cm_of {K : PySem.W.Frag} {C g : Addr} {m : Str} {Pp : Prop} (h : ∃ mc, ClX.CRead K C mc ∧ ∃ p, ClX.CMet K C mc m p g) (k : ∀ mc p, ClX.CRead K C mc → ClX.CMet K C mc m p g → Pp) : Pp := by
  obtain ⟨mc, h1, p, h2⟩ := h
  exact k mc p h1 h2
end Dl
/-! len(set(..)) of any number of texts -/
namespace Dl
open PySem PySem.Spec L2
open PyProof.Rows hiding St
def metStep (acc : List Str) (x : Str) : List Str := match acc.any (· == x) with
  | true => acc
  | false => acc ++ [x]
/-- the texts of a list, each once, as they are met -/
def metAll (xs : List Str) : List Str := xs.foldl metStep []
theorem metAll_snoc (xs : List Str) (x : Str) : metAll (xs ++ [x]) = metStep (metAll xs) x := by
  unfold metAll
  rw [List.foldl_append]
  rfl
theorem metAll_le (xs : List Str) : (metAll xs).length ≤ xs.length := by
  have h : ∀ (l : List Str) (acc : List Str), (l.foldl metStep acc).length ≤ acc.length + l.length := by
    intro l
    induction l with
    | nil => intro acc; simp
    | cons x l ih =>
      intro acc
      have h1 := ih (metStep acc x)
      have h2 : (metStep acc x).length ≤ acc.length + 1 := by
        unfold metStep
        split <;> simp
      rw [List.foldl_cons, List.length_cons]
      omega
  have h0 := h xs []
  unfold metAll
  simpa using h0
theorem metStep_any (acc : List Str) (x k : Str) : (metStep acc x).any (· == k) = (acc.any (· == k) || decide (k = x)) := by
  unfold metStep
  by_cases e : k = x
  · subst e
    cases hh : acc.any (· == k) <;> simp [hh]
  · have hb : (x == k) = false := by simpa [beq_iff_eq] using fun z : x = k => e z.symm
    cases hh : acc.any (· == x) <;> simp [hb, e]
theorem metStep_len (acc : List Str) (x : Str) : (metStep acc x).length = if acc.any (· == x) then acc.length else acc.length + 1 := by
  unfold metStep
  cases hh : acc.any (· == x) <;> simp
section
variable {prog : Program} {w : World} {A : Around} {fp wr : List Addr} {G : Array GenState → Array GenState → Prop} {Pv : Nat → Value → Prop} {St : Nat → Shared → Prop} {R : Result → Shared → Prop}
/-- the set holds what was met so far -/
abbrev MetTo (prog : Program) (w : World) (h : Heap) (T : Addr) (xs : List Str) (i : Nat) : Prop :=
  h.SetOf (PySem.strKind prog w) T (fun y => (metAll (xs.take i)).any (· == y)) (metAll (xs.take i)).length
theorem MetTo.at' {h h' : Heap} {T : Addr} {xs : List Str} {i : Nat} (m : MetTo prog w h T xs i) (k : ∀ o, h.get? T = some o → h'.get? T = some o) : MetTo prog w h' T xs i := by
  obtain ⟨o, es, ep, tb, ho, rest⟩ := m
  exact ⟨o, es, ep, tb, k o ho, rest⟩
theorem fillTexts {I T : Addr} {xs : List Str} (W : WalksS prog w A.in1 I fp wr G xs.length Pv St) (hT : T ∉ fp) (hroom : xs.length + 1 < scanBound)
    (hv : ∀ i v, Pv i v → ∃ t, v = .str (xs.getD i Str.empty) t) (left : Nat) :
    ∀ (i : Nat) (s : Shared), i + left = xs.length → St i s → MetTo prog w s.heap T xs i →
      (∀ z, Moved (T :: wr) G s z → MetTo prog w z.heap T xs xs.length → R (.ok (.ret .none)) z) →
      codeAny (model prog w) A (.builtin "set.update.loop" ⟨[.ref T, .ref I], []⟩) R s := by
  have hw : T ∉ wr := fun z => hT (W.sub _ z)
  have up : ∀ b ∈ wr, b ∈ T :: wr := fun b hb => List.mem_cons_of_mem _ hb
  induction left with
  | zero =>
    intro i s hi hs hm hR
    have ei : i = xs.length := hi
    subst ei
    refine codeAny_builtin PyProof.Rows.F.entry_set_update_loop ?_
    rw [Around.under_plainId PyProof.Rows.F.plain_set_update_loop _]
    refine wpAny_bind (W.done s _ _ hs fun z mz => ?_)
    exact wpAny_pure (hR z (mz.mono up) (hm.at' fun o e => mz.heap T o hw e))
  | succ left ih =>
    intro i s hi hs hm hR
    have hlt : i < xs.length := by omega
    refine codeAny_builtin PyProof.Rows.F.entry_set_update_loop ?_
    rw [Around.under_plainId PyProof.Rows.F.plain_set_update_loop _]
    refine wpAny_bind (W.item i s _ _ hlt hs fun v z hP hz mz => ?_)
    obtain ⟨t, rfl⟩ := hv i v hP
    have ex : xs.getD i Str.empty = xs[i] := by rw [List.getD_eq_getElem?_getD, List.getElem?_eq_getElem hlt]; rfl
    rw [ex]
    have hm2 : MetTo prog w z.heap T xs i := hm.at' fun o e => mz.heap T o hw e
    refine wpAny_bind (m := holding [Value.str xs[i] t] (setAdd T (.str xs[i] t))) (wpAny_holding ?_)
    unfold setAdd
    refine wpAny_holding (wpAny_bind ((PySem.strKind prog w).pyHash (k := xs[i]) (strKind_is _ _ _ _) ?_))
    have hle := metAll_le (xs.take i)
    have hl2 : (xs.take i).length ≤ xs.length := by rw [List.length_take]; omega
    refine wpAny_setAddHashed_of (knd := PySem.strKind prog w) (s := { z with toks := z.toks + 1 }) (strKind_is _ _ _ _) rfl hm2 (by omega) fun h' sb hm3 => ?_
    have et : xs.take (i + 1) = xs.take i ++ [xs[i]] := by rw [List.take_add_one, List.getElem?_eq_getElem hlt]; rfl
    have hm4 : MetTo prog w h' T xs (i + 1) := by
      unfold MetTo
      rw [et, metAll_snoc]
      exact SetOf_congr hm3 (fun y => (metStep_any _ _ _).symm) (metStep_len _ _).symm
    refine wpAny_pure ⟨plainId_quiet PyProof.Rows.F.plain_set_update_loop _, ih (i + 1) _ (by omega) (W.frame _ z _ _ hz (Nat.le_succ _) fun b hb o e => ?_) hm4 fun y my hy => ?_⟩
    · rw [sb.2 b fun q => hT (q ▸ hb)]
      exact e
    · refine hR y (Moved.trans W.gtrans ((mz.mono up).then_heap (Nat.le_succ _) fun b o hb e => ?_) my) hy
      rw [sb.2 b fun q => hb (q ▸ List.mem_cons_self)]
      exact e
end
section
variable {prog : Program} {w : World} {A : Around} {E : Value → Shared → Prop} {s : Shared}
/-- the empty set object that set(..) starts from -/
abbrev bareSet (led : Bool) : Obj := { cls := .type "set", dict := none, data := .set #[] 0 (.fresh 0 0 led) }
theorem metTo_zero {h : Heap} {T : Addr} {led : Bool} (e : h.get? T = some (bareSet led)) (xs : List Str) : MetTo prog w h T xs 0 :=
  PyProof.Rows.SetOf_congr ((PyProof.Rows.setObjOf_fresh (knd := PySem.strKind prog w) led).setOf e (by unfold scanBound; omega)) (fun _ => rfl) rfl
/-- what the filled set is wanted for -/
def FillOk (prog : Program) (w : World) (s : Shared) (xs : List Str) (r : Value) (z : Shared) : Prop :=
  r = .none ∧ ∃ h' tk, z = { s with heap := h', toks := tk } ∧ MetTo prog w h' s.heap.objs.size xs xs.length ∧ ∀ b o, b < s.heap.objs.size → s.heap.get? b = some o → h'.get? b = some o
theorem setTexts_list {l : Addr} {items : Array Value} {xs : List Str} {Q : Value → Shared → Prop} (hh : A.handled = none) (hl : s.heap.IsList l items) (hi : StrsAre items.toList xs) (hroom : xs.length + 1 < scanBound)
    (h : ∀ (h' : Heap) (tk : Nat), MetTo prog w h' s.heap.objs.size xs xs.length → (∀ b o, b < s.heap.objs.size → s.heap.get? b = some o → h'.get? b = some o) → Q (.ref s.heap.objs.size) { s with heap := h', toks := tk }) :
    wpAny (model prog w) A (call (.type "set") [.ref l]) Q E s := by
  obtain ⟨c, tl, mroE⟩ := F.called_set.mro
  have madeE := F.called_set.made
  have subE := F.called_set.sub
  refine wpAny_call (codeAny_of_tree ?_)
  refine wpAny_pure (M := model prog w) ⟨Code.quiet_builtin _ (by decide +kernel), codeAny_builtin F.entry_type_call ?_⟩
  rw [Around.under_plain (weight_type_call_type "set" [.ref l] []) rfl]
  have e1 := F.called_set.notType
  have e2 := F.called_set.canCreate
  have e3 := F.typeCall_set_1 (.ref l)
  repeat (any_goals (first | assumption | wp_step))
  refine codeAny_mono (code_set_new_1 (.ref l) (E := E) (Q₁ := fun ob z => ∃ led : Bool, ob = .ref s.heap.objs.size ∧ z = { s with heap := s.heap.push (bareSet led) }) fun led => ⟨led, rfl, rfl⟩) fun r z hr => ?_
  cases r with
  | error e => exact hr
  | ok fl =>
    cases fl with
    | ret ob =>
      obtain ⟨led, rfl, rfl⟩ := hr
      have new : (s.heap.push (bareSet led)).get? s.heap.objs.size = some (bareSet led) := Heap.get?_push_size _ rfl
      have isSet : Shared.TypeIs { s with heap := s.heap.push (bareSet led) } (.ref s.heap.objs.size) "set" := ⟨_, new, rfl⟩
      have e4 := F.called_set.init.lookup
      have e5 := F.called_set.init.bind (.ref s.heap.objs.size)
      repeat (any_goals (first | assumption | wp_step))
      refine codeAny_mono (codeAny_call_builtin (R := wants (FillOk prog w s xs) E) F.called_set.init.plain F.entry_set_init (check_set_init_1 isSet ?_)) fun r2 z2 hr2 => ?_
      · obtain ⟨⟨kc, kd, kx, ks⟩, hol, hc, nl, hd⟩ := hl
        simp only at hc hd
        subst hc
        subst hd
        have there : (s.heap.push (bareSet led)).get? l = some { cls := .type "list", dict := kd, data := .seq items nl, slots := ks } := Heap.get?_push_of_some _ hol
        have f1 := F.sub_list_set
        have f2 := F.sub_list_frozenset
        have f3 : (Value.type "list" == Value.type "dict") = false := by decide
        have isl : (s.heap.push (bareSet led)).IsList l items := ⟨_, there, rfl, nl, rfl⟩
        unfold Builtin.«set.__init__» noKeywords Builtin.Frozenset.updateFrom
        generalize hPI : pyIter = PI
        wp_walk
        subst hPI
        refine wpAny_pyIter_list isl (wpAny_bind (wpAny_runValue ?_))
        have below : l < s.heap.objs.size := Heap.lt_size hol
        have hsz : items.size = xs.length := by rw [← StrsAre.len_eq hi, Array.length_toList]
        have ne2 : l ≠ (s.heap.push (bareSet led)).objs.size := by rw [Heap.size_push]; exact Nat.ne_of_lt (Nat.lt_succ_of_lt below)
        have free : s.heap.objs.size ∉ [(s.heap.push (bareSet led)).objs.size, l] := by
          rw [Heap.size_push]
          intro z
          rcases List.mem_cons.mp z with z | z
          · exact Nat.ne_of_lt (Nat.lt_succ_self _) z
          · exact Nat.ne_of_gt below (List.mem_singleton.mp z)
        have W := (Walks.list (prog := prog) (w := w) (show A.in1.in1.in1.handled = none by simp [hh]) _ l ne2 items).toS
        rw [hsz] at W
        refine fillTexts W free hroom (fun i v hv => SS.strs_at hi i v (by rw [Array.getElem?_toList]; exact hv)) xs.length 0 _ (by omega) ⟨⟨_, Heap.get?_push_size _ rfl, rfl, rfl⟩, isl.push _⟩ (metTo_zero (Heap.get?_push_of_some _ new) xs) fun z mz hz => ?_
        obtain ⟨zh, zg, zd, zt, zo⟩ := z
        have g1 : zg = s.gens := mz.gens
        have g2 : zd = s.drawn := mz.drawn
        have g3 : zo = s.os := mz.os
        subst g1
        subst g2
        subst g3
        refine wpAny_pure (M := model prog w) (wpAny_pure ⟨rfl, zh, zt, rfl, hz, fun b o hb e => ?_⟩)
        refine mz.heap b o (fun m => ?_) (Heap.get?_push_of_some _ (Heap.get?_push_of_some _ e))
        rcases List.mem_cons.mp m with m | m
        · exact Nat.ne_of_lt hb m
        · have q := List.mem_singleton.mp m
          rw [Heap.size_push] at q
          exact Nat.ne_of_lt (Nat.lt_succ_of_lt hb) q
      · cases r2 with
        | error e => exact hr2
        | ok fl2 =>
          cases fl2 with
          | ret r =>
            obtain ⟨rfl, h', tk, rfl, hz, hk⟩ := hr2
            repeat (any_goals (first | assumption | wp_step))
            exact h _ _ hz hk
          | _ => exact hr2.elim
    | _ => exact hr.elim
theorem setTexts_tuple {l : Addr} {items : Array Value} {xs : List Str} {Q : Value → Shared → Prop} (hh : A.handled = none) (hl : s.heap.IsTuple l items) (hi : StrsAre items.toList xs) (hroom : xs.length + 1 < scanBound)
    (h : ∀ (h' : Heap) (tk : Nat), MetTo prog w h' s.heap.objs.size xs xs.length → (∀ b o, b < s.heap.objs.size → s.heap.get? b = some o → h'.get? b = some o) → Q (.ref s.heap.objs.size) { s with heap := h', toks := tk }) :
    wpAny (model prog w) A (call (.type "set") [.ref l]) Q E s := by
  obtain ⟨c, tl, mroE⟩ := F.called_set.mro
  have madeE := F.called_set.made
  have subE := F.called_set.sub
  refine wpAny_call (codeAny_of_tree ?_)
  refine wpAny_pure (M := model prog w) ⟨Code.quiet_builtin _ (by decide +kernel), codeAny_builtin F.entry_type_call ?_⟩
  rw [Around.under_plain (weight_type_call_type "set" [.ref l] []) rfl]
  have e1 := F.called_set.notType
  have e2 := F.called_set.canCreate
  have e3 := F.typeCall_set_1 (.ref l)
  repeat (any_goals (first | assumption | wp_step))
  refine codeAny_mono (code_set_new_1 (.ref l) (E := E) (Q₁ := fun ob z => ∃ led : Bool, ob = .ref s.heap.objs.size ∧ z = { s with heap := s.heap.push (bareSet led) }) fun led => ⟨led, rfl, rfl⟩) fun r z hr => ?_
  cases r with
  | error e => exact hr
  | ok fl =>
    cases fl with
    | ret ob =>
      obtain ⟨led, rfl, rfl⟩ := hr
      have new : (s.heap.push (bareSet led)).get? s.heap.objs.size = some (bareSet led) := Heap.get?_push_size _ rfl
      have isSet : Shared.TypeIs { s with heap := s.heap.push (bareSet led) } (.ref s.heap.objs.size) "set" := ⟨_, new, rfl⟩
      have e4 := F.called_set.init.lookup
      have e5 := F.called_set.init.bind (.ref s.heap.objs.size)
      repeat (any_goals (first | assumption | wp_step))
      refine codeAny_mono (codeAny_call_builtin (R := wants (FillOk prog w s xs) E) F.called_set.init.plain F.entry_set_init (check_set_init_1 isSet ?_)) fun r2 z2 hr2 => ?_
      · obtain ⟨⟨kc, kd, kx, ks⟩, hol, hc, nl, hd⟩ := hl
        simp only at hc hd
        subst hc
        subst hd
        have there : (s.heap.push (bareSet led)).get? l = some { cls := .type "tuple", dict := kd, data := .seq items nl, slots := ks } := Heap.get?_push_of_some _ hol
        have f1 := F.sub_tuple_set
        have f2 := F.sub_tuple_frozenset
        have f3 : (Value.type "tuple" == Value.type "dict") = false := by decide
        have isl : (s.heap.push (bareSet led)).IsTuple l items := ⟨_, there, rfl, nl, rfl⟩
        unfold Builtin.«set.__init__» noKeywords Builtin.Frozenset.updateFrom
        generalize hPI : pyIter = PI
        wp_walk
        subst hPI
        refine wpAny_pyIter_tuple isl (wpAny_bind (wpAny_runValue ?_))
        have below : l < s.heap.objs.size := Heap.lt_size hol
        have hsz : items.size = xs.length := by rw [← StrsAre.len_eq hi, Array.length_toList]
        have ne2 : l ≠ (s.heap.push (bareSet led)).objs.size := by rw [Heap.size_push]; exact Nat.ne_of_lt (Nat.lt_succ_of_lt below)
        have free : s.heap.objs.size ∉ [(s.heap.push (bareSet led)).objs.size, l] := by
          rw [Heap.size_push]
          intro z
          rcases List.mem_cons.mp z with z | z
          · exact Nat.ne_of_lt (Nat.lt_succ_self _) z
          · exact Nat.ne_of_gt below (List.mem_singleton.mp z)
        have W := (Walks.tuple (prog := prog) (w := w) (show A.in1.in1.in1.handled = none by simp [hh]) _ l ne2 items).toS
        rw [hsz] at W
        refine fillTexts W free hroom (fun i v hv => SS.strs_at hi i v (by rw [Array.getElem?_toList]; exact hv)) xs.length 0 _ (by omega) ⟨⟨_, Heap.get?_push_size _ rfl, rfl, rfl⟩, isl.push _⟩ (metTo_zero (Heap.get?_push_of_some _ new) xs) fun z mz hz => ?_
        obtain ⟨zh, zg, zd, zt, zo⟩ := z
        have g1 : zg = s.gens := mz.gens
        have g2 : zd = s.drawn := mz.drawn
        have g3 : zo = s.os := mz.os
        subst g1
        subst g2
        subst g3
        refine wpAny_pure (M := model prog w) (wpAny_pure ⟨rfl, zh, zt, rfl, hz, fun b o hb e => ?_⟩)
        refine mz.heap b o (fun m => ?_) (Heap.get?_push_of_some _ (Heap.get?_push_of_some _ e))
        rcases List.mem_cons.mp m with m | m
        · exact Nat.ne_of_lt hb m
        · have q := List.mem_singleton.mp m
          rw [Heap.size_push] at q
          exact Nat.ne_of_lt (Nat.lt_succ_of_lt hb) q
      · cases r2 with
        | error e => exact hr2
        | ok fl2 =>
          cases fl2 with
          | ret r =>
            obtain ⟨rfl, h', tk, rfl, hz, hk⟩ := hr2
            repeat (any_goals (first | assumption | wp_step))
            exact h _ _ hz hk
          | _ => exact hr2.elim
    | _ => exact hr.elim
end
end Dl
/-! len(set(..)), sorted(..) of texts, zip of tuples -/
namespace Dl
open PySem PySem.Spec L2
open PyProof.Rows hiding St
section
/-- how many unlike texts -/
def fMet (d : D) : RD := match (match d with | .lst ds => some ds | .frl ds => some ds | .tup ds => some ds | _ => none) with
  | some ds => (match strsOf ds with
    | some xs => (match Nat.blt xs.length 1000 with
      | true => fN (metAll xs).length fun n => .ok (.val (.int n))
      | false => .stuck)
    | none => .stuck)
  | none => .stuck
theorem scan1000 : 1000 + 1 < scanBound := by unfold scanBound; omega
variable {X : Cx} {G : Gam} {Wt : WX} {a : Expr} {Fa : FE} {p p2 q pos : Pos}
theorem e_lenset (hK : X.K = G.K) (hc : X.calm = true) (hg : Gl X "len") (hm : X.mg "len" = none) (hg2 : Gl X "set") (hm2 : X.mg "set" = none) (ha : PE X a (tE G Wt Fa))
    (na : starEach [a] X.env = (false, eval a X.env) :: starEach [] X.env := by rfl) : PE X (.Call (.Name "len" p) [.Call (.Name "set" p2) [a] [] q] [] pos) (tE G Wt (cUn (fun w => g1 fMet [w]) Fa)) := by
  refine ⟨fun pins s σ H Q I ⟨M, ρ, τ, R, h⟩ => ?_⟩
  refine Call_ (ld_blt I hg hm boot_len (PyProof.Rows.callWith_builtin1 (PyProof.Rows.args_cons ?_ rfl) rfl rfl))
  refine Call_ (ld_blt I hg2 hm2 boot_set (PyProof.Rows.callWith_type1 (PyProof.Rows.args_cons (thn (ha.run pins s σ H (fun x H1 => ∃ wa ρ1, RS G M ρ1 ((some x, wa) :: τ) σ H1 ∧ post G Wt M τ σ (liftD (g1 fMet [wa]) ρ1) Q) I ⟨M, ρ, τ, R, post_bind0 h fun w ρ1 v H1 _ R1 p => ⟨w, ρ1, R1, p⟩⟩) fun v s1 ⟨x, H1, I1, r1, w, ρ1, R1, p1⟩ => PyProof.Rows.args_nil ?_) na) na rfl))
  have R2 := R1.shr1
  unfold g1 at p1
  split at p1
  · rename_i w' ew
    cases ew
    split at p1
    · rename_i d ed
      rw [ed] at R2
      obtain ⟨u, eu, r⟩ := R2.val List.mem_cons_self
      cases eu
      unfold fMet at p1
      split at p1
      · rename_i ds eds
        split at p1
        · rename_i xs exs
          split at p1
          · rename_i hl
            have hl' : xs.length < 1000 := Nat.le_of_ble_eq_true hl
            have hroom : xs.length + 1 < scanBound := by have := scan1000; omega
            have fin : ∀ (h' : Heap) (tk : Nat), MetTo X.prog X.w h' s1.heap.objs.size xs xs.length → (∀ b o, b < s1.heap.objs.size → s1.heap.get? b = some o → h'.get? b = some o) →
                wpAny (model X.prog X.w) X.A (spliced (backTo pos (starEach [] X.env))) (fun vs s₂ => wpAny (model X.prog X.w) X.A (call (.builtin "len") (Value.ref s1.heap.objs.size :: vs)) (EP X pins σ Q) X.xe s₂) X.xe { s1 with heap := h', toks := tk } := fun h' tk hS hk => by
              refine PyProof.Rows.args_nil ?_
              obtain ⟨o, es, ep, t, ho, hex, hd, _, _, _, hf, hn⟩ := hS
              rw [List.take_length] at hn
              have I2 : Inv X pins σ H1 { s1 with heap := h', toks := tk } := I1.kept fun b o e => hk b o (Heap.lt_size e) e
              have hle := metAll_le xs
              rw [fN_eq] at p1
              refine call_len_set ho hex hd hf (by rw [hn] <;> omega) ⟨.int ((metAll xs).length : Nat), H1, I2.tok _, ⟨_, by rw [hn]⟩, p1 _ H1 (R2.drop1.addFlat rfl)⟩
            split at eds
            · cases eds
              obtain ⟨l, vs, rfl, hq, rr⟩ := rep_lstD (by rfl) r
              rw [← hK] at hq
              cases r1
              rw [reps_strs exs rr] at hq
              obtain ⟨its, rv, pl, hz⟩ := I1.list hq
              exact setTexts_list (I1.ok.hd hc) pl.isList (by simpa using strsAre_of rv) hroom fin
            · cases eds
              obtain ⟨l, vs, rfl, hq, rr⟩ := rep_lstD (by rfl) r
              rw [← hK] at hq
              cases r1
              rw [reps_strs exs rr] at hq
              obtain ⟨its, rv, pl, hz⟩ := I1.list hq
              exact setTexts_list (I1.ok.hd hc) pl.isList (by simpa using strsAre_of rv) hroom fin
            · cases eds
              obtain ⟨l, vs, rfl, hq, rr⟩ := rep_tup hK r
              cases r1
              rw [reps_strs exs rr] at hq
              obtain ⟨its, rv, pl, hz⟩ := I1.tuple hq
              exact setTexts_tuple (I1.ok.hd hc) pl (by simpa using strsAre_of rv) hroom fin
            · cases eds
          · exact (show False from p1).elim
        · exact (show False from p1).elim
      · exact (show False from p1).elim
    · exact (show False from p1).elim
  · rename_i no
    exact absurd rfl (no w)
end
/-! ### sorted texts -/
def strLt (x y : Str) : Bool := ltCps x.cps.toList y.cps.toList
def insS (x : Str) : List Str → List Str
  | [] => [x]
  | y :: r => (match strLt y x with
    | true => y :: insS x r
    | false => x :: y :: r)
def sortS : List Str → List Str
  | [] => []
  | x :: r => insS x (sortS r)
/-- not greater -/
abbrev strLe (x y : Str) : Prop := strLt y x = false
theorem strLt_iff (x y : Str) : strLt x y = decide (x.cps.toList < y.cps.toList) := by
  unfold strLt
  exact PyProof.Rows.ltCps_eq _ _
theorem strLe_iff {x y : Str} : strLe x y ↔ x.cps.toList ≤ y.cps.toList := by
  unfold strLe
  rw [strLt_iff, decide_eq_false_iff_not]
  exact List.not_lt
theorem strLe_trans {x y z : Str} (h : strLe x y) (k : strLe y z) : strLe x z := strLe_iff.mpr (List.le_trans (strLe_iff.mp h) (strLe_iff.mp k))
theorem str_ext {x y : Str} (h : x.cps.toList = y.cps.toList) : x = y := by
  cases x
  cases y
  congr
  exact Array.toList_inj.mp h
theorem strLe_anti {x y : Str} (h : strLe x y) (k : strLe y x) : x = y := str_ext (List.le_antisymm (strLe_iff.mp h) (strLe_iff.mp k))
theorem strLe_of_lt {x y : Str} (h : strLt x y = true) : strLe x y := by
  rw [strLt_iff, decide_eq_true_iff] at h
  exact strLe_iff.mpr (List.le_of_lt h)
theorem insS_perm (x : Str) : ∀ l : List Str, (insS x l).Perm (x :: l)
  | [] => .refl _
  | y :: r => by
    unfold insS
    split
    · exact (List.Perm.cons y (insS_perm x r)).trans (List.Perm.swap x y r)
    · exact .refl _
theorem sortS_perm : ∀ l : List Str, (sortS l).Perm l
  | [] => .refl _
  | x :: r => (insS_perm x (sortS r)).trans (List.Perm.cons x (sortS_perm r))
theorem insS_sorted (x : Str) : ∀ l : List Str, l.Pairwise strLe → (insS x l).Pairwise strLe
  | [], h => List.pairwise_singleton _ _
  | y :: r, h => by
    obtain ⟨h1, h2⟩ := List.pairwise_cons.mp h
    unfold insS
    split
    · rename_i e
      refine List.pairwise_cons.mpr ⟨fun z hz => ?_, insS_sorted x r h2⟩
      rcases List.mem_cons.mp ((insS_perm x r).mem_iff.mp hz) with q | q
      · rw [q]; exact strLe_of_lt e
      · exact h1 z q
    · rename_i e
      refine List.pairwise_cons.mpr ⟨fun z hz => ?_, h⟩
      rcases List.mem_cons.mp hz with q | q
      · rw [q]; exact e
      · exact strLe_trans e (h1 z q)
theorem sortS_sorted : ∀ l : List Str, (sortS l).Pairwise strLe
  | [] => List.Pairwise.nil
  | x :: r => insS_sorted x _ (sortS_sorted r)
theorem rising_sorted : ∀ (l : List Str) (p : Str), PyProof.Rows.risingS p l = true → (p :: l).Pairwise strLe
  | [], p, h => List.pairwise_singleton _ _
  | x :: r, p, h => by
    unfold PyProof.Rows.risingS at h
    rw [Bool.and_eq_true, Bool.not_eq_true'] at h
    have h0 : strLe p x := h.1
    have ih := rising_sorted r x h.2
    refine List.pairwise_cons.mpr ⟨fun z hz => ?_, ih⟩
    rcases List.mem_cons.mp hz with q | q
    · rw [q]; exact h0
    · exact strLe_trans h0 ((List.pairwise_cons.mp ih).1 z q)
theorem sorted_is {ys xs : List Str} (p : ys.Perm xs) (h : PyProof.Rows.sortedS ys = true) : ys = sortS xs := by
  refine List.Perm.eq_of_pairwise (le := strLe) (fun a b _ _ => strLe_anti) ?_ (sortS_sorted xs) (p.trans (sortS_perm xs).symm)
  cases ys with
  | nil => exact List.Pairwise.nil
  | cons y r => exact rising_sorted r y h
/-- sorted(list of texts) -/
def fSortS (d : D) : RD := match lstD (.val d) with
  | some ds => (match strsOf ds with
    | some xs => (match Nat.blt xs.length 64 with
      | true => .ok (.own (.lst ((sortS xs).map D.str)))
      | false => .stuck)
    | none => .stuck)
  | none => .stuck
theorem reps_ofStrs {G : Gam} {S : Addr → Prop} {H : Hp} : ∀ xs : List Str, Reps G S H (xs.map D.str) (xs.map V.str)
  | [] => Reps.nil
  | x :: xs => Reps.cons (show V.str x = V.str x from rfl) (reps_ofStrs xs)
section
variable {X : Cx} {G : Gam} {Wt : WX}
theorem cb_sortS (hK : X.K = G.K) : CbOk G Wt (rSortedS X.K) (g1 fSortS) := cb1 fun M ρ τ σ H x d Q R rp p => by
  unfold fSortS at p
  split at p
  · rename_i ds eds
    split at p
    · rename_i xs exs
      split at p
      · rename_i hl
        obtain ⟨a, vs, rfl, hq, rr⟩ := rep_lstD eds rp
        rw [reps_strs exs rr, ← hK] at hq
        refine ⟨a, xs, rfl, hq, Nat.le_of_ble_eq_true hl, fun ys q hp hs hn => ?_⟩
        rw [sorted_is hp hs]
        exact p _ _ (R.newL (reps_ofStrs _) hn)
      · exact (show False from p).elim
    · exact (show False from p).elim
  · exact (show False from p).elim
end
/-! ### zip of two lists or two tuples -/
def zip2A (ws : List Sl) (ρ1 : Env) : Res (List D × Env) := match ws with
  | [w, u] => (match lstD (shr w), lstD (shr u) with
    | some ds, some es => .ok (zipD ds es, ρ1)
    | _, _ => (match shr w, shr u with
      | .val (.tup ds), .val (.tup es) => .ok (zipD ds es, ρ1)
      | _, _ => .stuck))
  | _ => .stuck
theorem zip2A_or (ws : List Sl) (ρ1 : Env) : (∃ w u ds es, ws = [w, u] ∧ ((lstD (shr w) = some ds ∧ lstD (shr u) = some es) ∨ (shr w = .val (.tup ds) ∧ shr u = .val (.tup es))) ∧ zip2A ws ρ1 = .ok (zipD ds es, ρ1)) ∨ zip2A ws ρ1 = .stuck := by
  unfold zip2A
  split
  · split
    · exact .inl ⟨_, _, _, _, rfl, .inl ⟨by assumption, by assumption⟩, rfl⟩
    · split
      · exact .inl ⟨_, _, _, _, rfl, .inr ⟨by assumption, by assumption⟩, rfl⟩
      · exact .inr rfl
  · exact .inr rfl
section
variable {X : Cx} {G : Gam} {Wt : WX} {e e2 tg : Expr} {Fs : FA} {pos p tpos : Pos} {elts : List Expr} {kk : Nat}
theorem tup_ent {M : Fm} {ρ : Env} {τ : List Ent} {σ : St} {H : Hp} {ds : List D} {v : V} (R : RS G M ρ τ σ H) (hm : (some v, .val (.tup ds)) ∈ τ) : ∃ a vs, v = .ref a ∧ SqT G.K H a vs ∧ Reps G (avoid M.S0 (ents σ ρ ++ τ)) H ds vs := by
  obtain ⟨u, eu, r⟩ := R.val hm
  cases eu
  exact rep_tup rfl r
theorem src_zipT {M : Fm} {a b : Addr} {ds es : List D} : SrcOk G M (RZ.ItzT G.K a b) [(some (.ref a), .val (.tup ds)), (some (.ref b), .val (.tup es))] (zipD ds es) := by
  intro ρ τ σ H i R
  obtain ⟨a', vs, ea, hq, r⟩ := tup_ent R List.mem_cons_self
  cases ea
  obtain ⟨b', us, eb, hq2, r2⟩ := tup_ent R (List.mem_cons_of_mem _ List.mem_cons_self)
  cases eb
  refine ⟨fun e => ⟨vs, us, hq, hq2, by rw [r.len, r2.len, e, zipD_len]; omega⟩, fun d hd => ?_⟩
  obtain ⟨d1, d2, h1, h2, rfl⟩ := zipD_get ds es i d hd
  obtain ⟨x, hx, rx⟩ := r.get h1
  obtain ⟨y, hy, ry⟩ := r2.get h2
  refine ⟨⟨vs, us, x, y, hq, hq2, hx, hy⟩, fun z H' ⟨T, x', y', g1, g2, g3, g4, g5⟩ => ?_⟩
  subst g1 g3
  have e5 := g4 vs hq
  rw [hx] at e5
  cases e5
  have e6 := g5 us hq2
  rw [hy] at e6
  cases e6
  exact R.newT (Reps.cons rx (Reps.cons ry Reps.nil)) g2
theorem i_zipA (hK : X.K = G.K) (hg : Gl X "zip") (hm : X.mg "zip" = none) (ha : PA X [e, e2] (tA G Wt Fs)) (hs : starEach [e, e2] X.env = (false, eval e X.env) :: starEach [e2] X.env := by rfl) (hpl : (backTo pos (starEach [e2] X.env)).any (·.1) = false := by rfl) :
    PI X (.Tuple elts kk tpos) (.Call (.Name "zip" p) [e, e2] [] pos) (tI G Wt (cItA zip2A Fs)) := by
  refine (RZ.pi_zipA hg hm ha hs hpl).weak fun σ H R ⟨M, ρ, τ, RR, _, q⟩ => ⟨M, ρ, τ, RR, ?_⟩
  unfold cItA at q
  cases e1 : Fs ρ with
  | ok x =>
    obtain ⟨ws, ρ1⟩ := x
    rw [e1] at q
    dsimp only [Res.bind] at q
    intro vs H' l R1
    rw [hK]
    rcases zip2A_or ws ρ1 with ⟨w, u, ds, es, rfl, e2, e3⟩ | e3
    · rw [e3] at q
      obtain ⟨v, v2, rfl⟩ : ∃ v u, vs = [v, u] := by
        cases vs with
        | nil => cases l
        | cons v r => cases r with
          | nil => simp at l
          | cons u r => cases r with
            | nil => exact ⟨v, u, rfl⟩
            | cons _ _ => simp at l
      have R2 : RS G M ρ1 ((some v, shr w) :: (some v2, shr u) :: τ) σ H' := RS.shrAll (vs := [v, v2]) (ws := [w, u]) R1
      rcases e2 with ⟨e2, e4⟩ | ⟨e2, e4⟩
      · obtain ⟨a, us, rfl, hq, r⟩ := lst_ent R2 List.mem_cons_self e2
        obtain ⟨b, us2, rfl, hq2, r2⟩ := lst_ent R2 (List.mem_cons_of_mem _ List.mem_cons_self) e4
        exact ⟨a, b, us, us2, rfl, .inl ⟨hq, hq2, q _ _ _ _ (fun _ _ _ _ z => z) (src_zip e2 e4) R2⟩⟩
      · rw [e2, e4] at R2
        obtain ⟨a, us, rfl, hq, r⟩ := tup_ent R2 List.mem_cons_self
        obtain ⟨b, us2, rfl, hq2, r2⟩ := tup_ent R2 (List.mem_cons_of_mem _ List.mem_cons_self)
        exact ⟨a, b, us, us2, rfl, .inr ⟨hq, hq2, q _ _ _ _ (fun _ _ _ _ z => z) src_zipT R2⟩⟩
    · rw [e3] at q
      exact q.elim
  | exc c fs ρ' => rw [e1] at q; exact q
  | stuck => rw [e1] at q; exact q
end
end Dl
namespace Dl
open PySem PySem.Spec L2
open PyProof.Rows hiding St
/-! ### displays of dicts, without a list in the goal -/
structure PPd (X : Cx) (G : Gam) (Wt : WX) (pos : Pos) (keys : List (Option Expr)) (values : List Expr) (l : List (FE × FE)) : Prop where
  pps : PPs X pos keys values (l.map fun q => (tE G Wt q.1, tE G Wt q.2))
section
variable {X : Cx} {G : Gam} {Wt : WX} {pos : Pos} {keys : List (Option Expr)} {values : List Expr} {l : List (FE × FE)} {k v : Expr} {Fk Fv : FE}
theorem pp_nil : PPd X G Wt pos [] [] [] := ⟨pps_nil⟩
theorem pp_cons (hk : PE X k (tE G Wt Fk)) (hv : PE X v (tE G Wt Fv)) (h : PPd X G Wt pos keys values l) : PPd X G Wt pos (some k :: keys) (v :: values) ((Fk, Fv) :: l) := ⟨pps_cons hk hv h.pps⟩
theorem e_dispP (h : PPd X G Wt pos keys values l) (hall : keys.all (·.isSome) = true := by rfl) (hl : keys.length = values.length := by rfl) (h0 : keys ≠ [] := by exact fun z => nomatch z) (h15 : Nat.ble keys.length 15 = true := by rfl) : PE X (.Dict keys values pos) (tE G Wt (cDisp l)) :=
  e_disp l h.pps hall hl h0 (Nat.le_of_ble_eq_true h15)
end
end Dl
/-! comprehensions with two fors -/
namespace Dl
open PySem PySem.Spec L2
open PyProof.Rows hiding St
def lcD2 (A : FG) (T : FT) (Fi1 : FI) (A1 : FG) (T1 : FT) (F : FE) (vs vs1 : List Nat) : List D → Env → Res (List D × Env)
  | [], ρ => .ok ([], ρ)
  | d :: ds, ρ => match A (.val d) (wipeE ρ vs) with
    | none => .stuck
    | some ρ1 => (T ρ1).bind fun (b, ρ2) => match b with
      | true => (Fi1 ρ2).bind fun (es, ρ3) => (lcD A1 T1 F vs1 es ρ3).bind fun (r1, ρ4) =>
          (lcD2 A T Fi1 A1 T1 F vs vs1 ds (wipeE ρ4 vs1)).bind fun (r2, ρ5) => .ok (r1 ++ r2, ρ5)
      | false => lcD2 A T Fi1 A1 T1 F vs vs1 ds ρ2
def cLc2 (Fi : FI) (A : FG) (T : FT) (Fi1 : FI) (A1 : FG) (T1 : FT) (F : FE) (vs vs1 : List Nat) : FE := fun ρ => (Fi ρ).bind fun (ds, ρ1) =>
  match lcD2 A T Fi1 A1 T1 F vs vs1 ds (wipeE ρ1 vs) with
    | .ok (r, ρ2) => (match shortN r.length with
      | true => .ok (.own (.lst r), backE ρ1 (wipeE ρ2 vs) vs)
      | false => .stuck)
    | _ => .stuck
section
variable {X : Cx} {G : Gam} {Wt : WX} {A A1 : FG} {vs vs1 : List Nat} {T T1 : FT} {F : FE} {Fi Fi1 : FI}
theorem wipe_wipe {σ : St} {us ws : List Nat} (h : ∀ i ∈ ws, i ∈ us) : wipe (wipe σ ws) us = wipe σ us := by
  apply List.ext_getElem?
  intro j
  rw [wipe_at (σ := wipe σ ws), wipe_at (σ := σ) (vs := us), wipe_length]
  by_cases hj : j ∈ us
  · rw [if_pos hj, if_pos hj]
  · rw [if_neg hj, if_neg hj, wipe_at, if_neg fun z => hj (h j z)]
theorem perm_mid3 {α : Type} (a b c : List α) : (a ++ (b ++ c)).Perm (b ++ (a ++ c)) := by
  rw [← List.append_assoc, ← List.append_assoc]
  exact List.perm_append_comm.append_right c
/-- the inner loop: from a state of the block to the next turn -/
theorem lc2_imp {σ : St} {H : Hp} {Q : VK} (hv : ∀ i ∈ vs1, i ∈ vs) (q0 : ∃ M ρ τ, RS G M ρ τ σ H ∧ post G Wt M τ σ (cLc2 Fi A T Fi1 A1 T1 F vs vs1 ρ) Q) :
    tLc2 (tI G Wt Fi) (tGv G vs A) (tT G W0 T) (tI G W0 Fi1) (tGv G vs1 A1) (tT G W0 T1) (tE G W0 F) vs vs1 σ H Q := by
  obtain ⟨M, ρ, τ, R, q⟩ := q0
  refine ⟨M, ρ, τ, R, True.intro, ?_⟩
  unfold cLc2 at q
  cases ei : Fi ρ with
  | exc c fs ρ' => rw [ei] at q; exact fun dd vs H' hx R' => q dd vs H' hx R'
  | stuck => rw [ei] at q; exact q
  | ok x =>
    obtain ⟨ds, ρ1⟩ := x
    rw [ei] at q
    intro M' J Se H1 bk sk R1 Da hD
    have q1 : post G Wt M τ σ (match lcD2 A T Fi1 A1 T1 F vs vs1 ds (wipeE ρ1 vs) with
      | .ok (r, ρ2) => (match shortN r.length with
        | true => .ok (.own (.lst r), backE ρ1 (wipeE ρ2 vs) vs)
        | false => .stuck)
      | _ => .stuck) Q := q
    clear q
    cases el : lcD2 A T Fi1 A1 T1 F vs vs1 ds (wipeE ρ1 vs) with
    | exc c fs ρ' => rw [el] at q1; exact q1.elim
    | stuck => rw [el] at q1; exact q1.elim
    | ok y =>
      obtain ⟨r, ρ2⟩ := y
      rw [el] at q1
      dsimp only at q1
      split at q1
      · rename_i esh
        have hsh := short_ok esh
        have R3 := (R1.save vs).newL (vs := []) (ds := []) Reps.nil hD
        have ew : wipe (wipe σ vs) vs = wipe σ vs := wipe_wipe fun _ z => z
        refine ⟨fun i m H => m = ds.length - i ∧ i ≤ ds.length ∧ ∃ ρi acc rest, RS G M' (wipeE ρi vs) ((some (.ref Da), .own (.lst acc)) :: (saveE σ ρ1 vs ++ (Se ++ τ))) (wipe σ vs) H ∧ lcD2 A T Fi1 A1 T1 F vs vs1 (ds.drop i) ρi = .ok (rest, ρ2) ∧ acc ++ rest = r, ⟨ds.length, by simp, Nat.zero_le _, wipeE ρ1 vs, [], r, ?_, el, rfl⟩, ?_⟩
        · have R4 := R3.wiped vs
          rw [ew] at R4
          exact R4
        · rintro i m H2 ⟨rfl, hi, ρi, acc, rest, Ri, hl, hr⟩
          have Rj : RS G M' (wipeE ρi vs) (Se ++ ((some (.ref Da), .own (.lst acc)) :: (saveE σ ρ1 vs ++ τ))) (wipe σ vs) H2 := Ri.perm (perm_mid3 ((some (V.ref Da), Sl.own (.lst acc)) :: saveE σ ρ1 vs) Se τ)
          obtain ⟨k1, k2⟩ := sk _ _ _ H2 i Rj
          by_cases hlt : i < ds.length
          · obtain ⟨g1, g2⟩ := k2 _ (List.getElem?_eq_getElem hlt)
            refine .inr ⟨g1, fun H' => ∃ ρn acc rest, RS G M' (wipeE ρn vs) ((some (.ref Da), .own (.lst acc)) :: (saveE σ ρ1 vs ++ (Se ++ τ))) (wipe σ vs) H' ∧ lcD2 A T Fi1 A1 T1 F vs vs1 (ds.drop (i + 1)) ρn = .ok (rest, ρ2) ∧ acc ++ rest = r, fun H' h => ⟨ds.length - (i + 1), by omega, rfl, hlt, h⟩, fun x H' y => ?_⟩
            have R4 := g2 x H' y
            rw [List.drop_eq_getElem_cons hlt] at hl
            unfold lcD2 at hl
            cases ea : A (.val ds[i]) (wipeE ρi vs) with
            | none => rw [ea] at hl; cases hl
            | some ρa =>
              rw [ea] at hl
              refine ⟨M', _, _, _, ρa, R4, ea, fun σ3 H3 R5 hw0 => ?_⟩
              have hw : wipe σ3 vs = wipe σ vs := hw0.trans ew
              refine ⟨hw, M', ρa, _, R5, ?_⟩
              dsimp only at hl
              cases et : T ρa with
              | exc c fs ρ' => rw [et] at hl; cases hl
              | stuck => rw [et] at hl; cases hl
              | ok z =>
                obtain ⟨b, ρb⟩ := z
                rw [et] at hl
                intro H4 R6
                cases b with
                | false =>
                  refine iteF ⟨ρb, acc, rest, ?_, hl, hr⟩
                  have R7 := R6.wiped vs
                  rw [hw] at R7
                  exact R7.perm (perm_mid3 Se ((some (V.ref Da), Sl.own (.lst acc)) :: saveE σ ρ1 vs) τ)
                | true =>
                  refine iteT ⟨M', ρb, _, R6, True.intro, ?_⟩
                  dsimp only [Res.bind] at hl
                  cases e1 : Fi1 ρb with
                  | exc c fs ρ' => rw [e1] at hl; cases hl
                  | stuck => rw [e1] at hl; cases hl
                  | ok z1 =>
                    obtain ⟨es, ρ3⟩ := z1
                    rw [e1] at hl
                    dsimp only at hl
                    intro M2 J1 Se1 H5 bk1 sk1 R7
                    cases e2 : lcD A1 T1 F vs1 es ρ3 with
                    | exc c fs ρ' => rw [e2] at hl; cases hl
                    | stuck => rw [e2] at hl; cases hl
                    | ok z2 =>
                      obtain ⟨r1, ρ4⟩ := z2
                      rw [e2] at hl
                      dsimp only at hl
                      cases e3 : lcD2 A T Fi1 A1 T1 F vs vs1 (ds.drop (i + 1)) (wipeE ρ4 vs1) with
                      | exc c fs ρ' => rw [e3] at hl; cases hl
                      | stuck => rw [e3] at hl; cases hl
                      | ok z3 =>
                        obtain ⟨r2, ρ5⟩ := z3
                        rw [e3] at hl
                        cases hl
                        have ew1 : wipe (wipe σ3 vs1) vs1 = wipe σ3 vs1 := wipe_wipe fun _ z => z
                        refine ⟨fun j k H => k = es.length - j ∧ j ≤ es.length ∧ ∃ ρj acc' rest', RS G M2 (wipeE ρj vs1) (Se1 ++ ((some (.ref Da), .own (.lst acc')) :: (Se ++ (saveE σ ρ1 vs ++ τ)))) (wipe σ3 vs1) H ∧ lcD A1 T1 F vs1 (es.drop j) ρj = .ok (rest', ρ4) ∧ acc' ++ rest' = acc ++ r1, ⟨es.length, by simp, Nat.zero_le _, ρ3, acc, r1, ?_, e2, rfl⟩, ?_⟩
                        · exact (R7.wiped vs1).perm (List.Perm.append_left _ List.perm_middle)
                        · rintro j k H6 ⟨rfl, hj, ρj, acc', rest', R8, hl1, hr1⟩
                          obtain ⟨n1, n2⟩ := sk1 _ _ _ H6 j R8
                          by_cases hjl : j < es.length
                          · obtain ⟨m1, m2⟩ := n2 _ (List.getElem?_eq_getElem hjl)
                            refine .inr ⟨m1, fun H => ∃ ρj acc' rest', RS G M2 (wipeE ρj vs1) (Se1 ++ ((some (.ref Da), .own (.lst acc')) :: (Se ++ (saveE σ ρ1 vs ++ τ)))) (wipe σ3 vs1) H ∧ lcD A1 T1 F vs1 (es.drop (j + 1)) ρj = .ok (rest', ρ4) ∧ acc' ++ rest' = acc ++ r1, fun H' h => ⟨es.length - (j + 1), by omega, rfl, hjl, h⟩, fun x1 H7 y1 => ?_⟩
                            have R9 := m2 x1 H7 y1
                            rw [List.drop_eq_getElem_cons hjl] at hl1
                            unfold lcD at hl1
                            cases ea1 : A1 (.val es[j]) (wipeE ρj vs1) with
                            | none => rw [ea1] at hl1; cases hl1
                            | some ρc =>
                              rw [ea1] at hl1
                              refine ⟨M2, _, _, _, ρc, R9, ea1, fun σ5 H8 R10 hw1 => ?_⟩
                              have hw5 : wipe σ5 vs1 = wipe σ3 vs1 := hw1.trans ew1
                              refine ⟨hw5, M2, ρc, _, R10, ?_⟩
                              dsimp only at hl1
                              cases et1 : T1 ρc with
                              | exc c fs ρ' => rw [et1] at hl1; cases hl1
                              | stuck => rw [et1] at hl1; cases hl1
                              | ok z4 =>
                                obtain ⟨b1, ρd⟩ := z4
                                rw [et1] at hl1
                                intro H9 R11
                                have back : ∀ {ρn : Env} {acc : List D} {H : Hp}, RS G M2 ρn (Se1 ++ ((some (.ref Da), .own (.lst acc)) :: (Se ++ (saveE σ ρ1 vs ++ τ)))) σ5 H → RS G M2 (wipeE ρn vs1) (Se1 ++ ((some (.ref Da), .own (.lst acc)) :: (Se ++ (saveE σ ρ1 vs ++ τ)))) (wipe σ3 vs1) H := fun Rn => by
                                  have Rm := Rn.wiped vs1
                                  rw [hw5] at Rm
                                  exact Rm
                                cases b1 with
                                | false => exact iteF ⟨ρd, acc', rest', back R11, hl1, hr1⟩
                                | true =>
                                  refine iteT ⟨M2, ρd, _, R11, ?_⟩
                                  dsimp only [Res.bind] at hl1
                                  cases ef : F ρd with
                                  | exc c fs ρ' => rw [ef] at hl1; cases hl1
                                  | stuck => rw [ef] at hl1; cases hl1
                                  | ok z5 =>
                                    obtain ⟨w, ρe⟩ := z5
                                    rw [ef] at hl1
                                    dsimp only at hl1
                                    intro y5 H10 R12
                                    have R13 := R12.shr1
                                    split at hl1
                                    · rename_i dy edy
                                      rw [edy] at R13
                                      cases er : lcD A1 T1 F vs1 (es.drop (j + 1)) ρe with
                                      | exc c fs ρ' => rw [er] at hl1; cases hl1
                                      | stuck => rw [er] at hl1; cases hl1
                                      | ok z6 =>
                                        obtain ⟨rr, ρg⟩ := z6
                                        rw [er] at hl1
                                        cases hl1
                                        have R14 : RS G M2 ρe ((some (.ref Da), .own (.lst acc')) :: (some y5, .val dy) :: (Se1 ++ (Se ++ (saveE σ ρ1 vs ++ τ)))) σ5 H10 := R13.perm ((List.Perm.cons _ List.perm_middle).trans (List.Perm.swap _ _ _))
                                        obtain ⟨pa, epa, vsa, hva, ra⟩ := R14.re.all (some (V.ref Da), .own (.lst acc')) (List.mem_append_right _ List.mem_cons_self)
                                        cases epa
                                        obtain ⟨u, eu, ry⟩ := R14.re.val (v := some y5) (d := dy) (List.mem_append_right _ (List.mem_cons_of_mem _ List.mem_cons_self))
                                        cases eu
                                        have R15 := R14.mutL (ra.append (Reps.cons ry Reps.nil))
                                        have R16 : RS G M2 ρe (Se1 ++ ((some (.ref Da), .own (.lst (acc' ++ [dy]))) :: (Se ++ (saveE σ ρ1 vs ++ τ)))) σ5 (upd H10 Da (.lst (vsa ++ [y5]))) := RS.drop1 (R15.perm ((List.Perm.swap _ _ _).trans (List.Perm.cons _ List.perm_middle.symm)))
                                        have hlen : acc'.length < sizeLine := by
                                          have h1 := congrArg List.length hr1
                                          have h2 := congrArg List.length hr
                                          simp only [List.length_append, List.length_cons] at h1 h2
                                          omega
                                        exact ⟨vsa, hva, by rw [ra.len]; exact hlen, ρe, acc' ++ [dy], rr, back R16, er, by simp [← hr1]⟩
                                    · cases hl1
                          · have ej : j = es.length := by omega
                            subst ej
                            rw [List.drop_length] at hl1
                            unfold lcD at hl1
                            cases hl1
                            rw [List.append_nil] at hr1
                            subst hr1
                            refine .inl ⟨n1 rfl, wipeE ρ4 vs1, acc ++ r1, r2, ?_, e3, by rw [List.append_assoc]; exact hr⟩
                            have R9 := bk1 _ _ _ _ R8.drop
                            have R10 := R9.wiped vs
                            rw [wipe_wipe hv, hw] at R10
                            exact R10.perm (List.Perm.cons _ (perm_mid3 Se (saveE σ ρ1 vs) τ))
          · have hi' : i = ds.length := by omega
            subst hi'
            rw [List.drop_length] at hl
            unfold lcD2 at hl
            cases hl
            rw [List.append_nil] at hr
            subst hr
            refine .inl ⟨k1 rfl, q1 _ H2 ?_⟩
            have R5 : RS G M' (wipeE ρ2 vs) (saveE σ ρ1 vs ++ ((some (.ref Da), .own (.lst acc)) :: τ)) (wipe σ vs) H2 := RS.drop (Rj.perm (List.Perm.append_left _ List.perm_middle.symm))
            exact bk _ _ _ _ (RS.unsave vs R5)
      · exact q1.elim
theorem e_lc2 {elt tg iter tg1 iter1 : Expr} {ifs ifs1 : List Expr} {scope : Scope} {own : List (Str × Nat)} {pos : Pos} (hc : X.calm = true) (hN : X.N.Nodup) (hi : PI X tg iter (tI G Wt Fi)) (ok : BlkOk X.N X.env.scope scope own) (hvs : own.map (·.2) = vs) (hv : ∀ i ∈ vs1, i ∈ vs)
    (hg : ∀ (s : Shared) (H : Hp) (C : Addr) (cl : List (Str × Addr)) (fp : List Addr), PG (X.blk s H scope (compEnvC scope cl C X.env) fp) tg (tGv G vs A)) (ht : ∀ (s : Shared) (H : Hp) (C : Addr) (cl : List (Str × Addr)) (fp : List Addr), PTs (X.blk s H scope (compEnvC scope cl C X.env) fp) ifs (tT G W0 T))
    (hi1 : ∀ (s : Shared) (H : Hp) (C : Addr) (cl : List (Str × Addr)) (fp : List Addr), PI (X.blk s H scope (compEnvC scope cl C X.env) fp) tg1 iter1 (tI G W0 Fi1))
    (hg1 : ∀ (s : Shared) (H : Hp) (C : Addr) (cl : List (Str × Addr)) (fp : List Addr), PG (X.blk s H scope (compEnvC scope cl C X.env) fp) tg1 (tGv G vs1 A1)) (ht1 : ∀ (s : Shared) (H : Hp) (C : Addr) (cl : List (Str × Addr)) (fp : List Addr), PTs (X.blk s H scope (compEnvC scope cl C X.env) fp) ifs1 (tT G W0 T1))
    (he : ∀ (s : Shared) (H : Hp) (C : Addr) (cl : List (Str × Addr)) (fp : List Addr), PE (X.blk s H scope (compEnvC scope cl C X.env) fp) elt (tE G W0 F)) (hs : ∀ x, foldedSetIterable iter X.env x = pure x := by intro _; rfl) (hs1 : ∀ env x, foldedSetIterable iter1 env x = pure x := by intro _ _; rfl) :
    PE X (.ListComp elt [⟨tg, iter, ifs, 0⟩, ⟨tg1, iter1, ifs1, 0⟩] scope pos) (tE G Wt (cLc2 Fi A T Fi1 A1 T1 F vs vs1)) := by
  subst hvs
  exact (pe_lc2 hc hN hi ok hv hg ht hi1 hg1 ht1 he hs hs1).weak fun σ H Q ⟨M, ρ, τ, R, q⟩ => lc2_imp hv ⟨M, ρ, τ, R, q⟩
theorem s_setLc2 {i : Nat} {y : Str} {py : Pos} {elt tg iter tg1 iter1 : Expr} {ifs ifs1 : List Expr} {scope : Scope} {own : List (Str × Nat)} {pos spos : Pos} (hc : X.calm = true) (hN : X.N.Nodup) (hy : X.N[i]? = some y) (hyl : X.env.scope.names.lookup y = some .local)
    (hsw : swapsWith (.ListComp elt [⟨tg, iter, ifs, 0⟩, ⟨tg1, iter1, ifs1, 0⟩] scope pos) (some (.Name y py)) spos.line X.env = pure true) (hi : PI X tg iter (tI G Wt Fi)) (ok : BlkOk X.N X.env.scope scope own) (hvs : own.map (·.2) = vs) (hv : ∀ i ∈ vs1, i ∈ vs)
    (hg : ∀ (s : Shared) (H : Hp) (C : Addr) (cl : List (Str × Addr)) (fp : List Addr), PG (X.blk s H scope (compEnvC scope cl C X.env) fp) tg (tGv G vs A)) (ht : ∀ (s : Shared) (H : Hp) (C : Addr) (cl : List (Str × Addr)) (fp : List Addr), PTs (X.blk s H scope (compEnvC scope cl C X.env) fp) ifs (tT G W0 T))
    (hi1 : ∀ (s : Shared) (H : Hp) (C : Addr) (cl : List (Str × Addr)) (fp : List Addr), PI (X.blk s H scope (compEnvC scope cl C X.env) fp) tg1 iter1 (tI G W0 Fi1))
    (hg1 : ∀ (s : Shared) (H : Hp) (C : Addr) (cl : List (Str × Addr)) (fp : List Addr), PG (X.blk s H scope (compEnvC scope cl C X.env) fp) tg1 (tGv G vs1 A1)) (ht1 : ∀ (s : Shared) (H : Hp) (C : Addr) (cl : List (Str × Addr)) (fp : List Addr), PTs (X.blk s H scope (compEnvC scope cl C X.env) fp) ifs1 (tT G W0 T1))
    (he : ∀ (s : Shared) (H : Hp) (C : Addr) (cl : List (Str × Addr)) (fp : List Addr), PE (X.blk s H scope (compEnvC scope cl C X.env) fp) elt (tE G W0 F)) (hs : ∀ x, foldedSetIterable iter X.env x = pure x := by intro _; rfl) (hs1 : ∀ env x, foldedSetIterable iter1 env x = pure x := by intro _ _; rfl) :
    PS X (.Assign [.Name y py] (.ListComp elt [⟨tg, iter, ifs, 0⟩, ⟨tg1, iter1, ifs1, 0⟩] scope pos) spos) (tS G Wt (cAsg (cLc2 Fi A T Fi1 A1 T1 F vs vs1) (gSet i))) := by
  subst hvs
  refine (ps_setLc2 hc hN hy hyl hsw hi ok hv hg ht hi1 hg1 ht1 he hs hs1).weak fun DD σ H ⟨M, ρ, τ, R, q⟩ => ?_
  refine lc2_imp hv ⟨M, ρ, τ, R, postES_bind q fun w ρ' v H' R1 p => ?_⟩
  dsimp only at p
  split at p
  · rename_i ρ2 e2
    exact p _ H' (R1.put e2)
  · exact p.elim
end
end Dl
/-! == of dicts, whose values may be told equal by a def of the program -/
namespace Dl
open PySem PySem.Spec L2
open PyProof.Rows hiding St
section
variable {prog : Program} {w : World} {K : Type} [DecidableEq K] {knd : KeyKind prog w K} {A : Around} {E : Value → Shared → Prop} {J : Shared → Prop}
/-- what the walk over the first dict's items finds in the second -/
inductive FindsB (prog : Program) (w : World) (A : Around) (E : Value → Shared → Prop) (J : Shared → Prop) (kb : List (K × Value)) : List (K × Value) → Bool → Prop
  | done : FindsB prog w A E J kb [] true
  | lacks {k : K} {v : Value} {r : List (K × Value)} : valueAt kb k = none → FindsB prog w A E J kb ((k, v) :: r) false
  | other {k : K} {v y : Value} {r : List (K × Value)} : valueAt kb k = some y → (∀ s, J s → wpAny (model prog w) A (eqBool v y) (fun q s' => q = false ∧ J s') E s) → FindsB prog w A E J kb ((k, v) :: r) false
  | same {k : K} {v y : Value} {r : List (K × Value)} {b : Bool} : valueAt kb k = some y → (∀ s, J s → wpAny (model prog w) A (eqBool v y) (fun q s' => q = true ∧ J s') E s) → FindsB prog w A E J kb r b → FindsB prog w A E J kb ((k, v) :: r) b
theorem FindsB.look {kb : List (K × Value)} {k : K} {v : Value} {r : List (K × Value)} {b : Bool} (h : FindsB prog w A E J kb ((k, v) :: r) b) :
    (valueAt kb k = none ∧ b = false) ∨ ∃ y e, valueAt kb k = some y ∧ (∀ s, J s → wpAny (model prog w) A (eqBool v y) (fun q s' => q = e ∧ J s') E s) ∧ ((e = false ∧ b = false) ∨ (e = true ∧ FindsB prog w A E J kb r b)) := by
  cases h with
  | lacks hn => exact .inl ⟨hn, rfl⟩
  | other hy he => exact .inr ⟨_, false, hy, he, .inl ⟨rfl, rfl⟩⟩
  | same hy he hr => exact .inr ⟨_, true, hy, he, .inr ⟨rfl, hr⟩⟩
end
/-! #### over the data -/
end Dl
/-! methods with one keyword -/
namespace Dl
open PySem PySem.Spec L2
open PyProof.Rows hiding St
end Dl
/-! an object's own __eq__ with itself -/
namespace Dl
open PySem PySem.Spec L2
open PyProof.Rows hiding St
end Dl
/-! owned things lent to an expression whose value holds nothing of their kinds -/
namespace Dl
open PySem PySem.Spec L2
open PyProof.Rows hiding St
mutual
/-- l, d, o: a list, a dict, an object is lent -/
def pureK (l d o : Bool) : D → Bool
  | .non => true
  | .bl _ => true
  | .int _ => true
  | .str _ => true
  | .cls _ => true
  | .tup ds => pureKs l d o ds
  | .lst ds => (match l with | true => false | false => pureKs l d o ds)
  | .frl ds => (match l with | true => false | false => pureKs l d o ds)
  | .dic _ ds => (match d with | true => false | false => pureKs l d o ds)
  | .obj _ ds => (match o with | true => false | false => pureKs l d o ds)
def pureKs (l d o : Bool) : List D → Bool
  | [] => true
  | x :: ds => match pureK l d o x with
    | true => pureKs l d o ds
    | false => false
end
def pureSK (l d o : Bool) : Sl → Bool
  | .val x => pureK l d o x
  | .own (.lst ds) => pureKs l d o ds
  | .own (.obj _ ds) => pureKs l d o ds
  | .own (.dic _ ds) => pureKs l d o ds
  | _ => false
def kindD : D → Nat
  | .lst _ => 1
  | .dic _ _ => 2
  | .obj _ _ => 3
  | _ => 0
def kindS : Sl → Nat
  | .own d => kindD d
  | .self d => kindD d
  | _ => 0
def hasK (k : Nat) (js : List Nat) : Nat → Env → Bool
  | _, [] => false
  | i, w :: ρ => match Nat.beq (kindS w) k && memN i js with
    | true => true
    | false => hasK k js (i + 1) ρ
theorem hasK_at {k : Nat} {js : List Nat} : ∀ {ρ : Env} {i j : Nat} {w : Sl}, ρ[j]? = some w → kindS w = k → memN (i + j) js = true → hasK k js i ρ = true
  | [], i, j, w, h, e, m => by simp at h
  | x :: ρ, i, 0, w, h, e, m => by
    have h' : x = w := by simpa using h
    subst h'
    unfold hasK
    rw [e, Nat.beq_refl, show memN i js = true from m]
    rfl
  | x :: ρ, i, j + 1, w, h, e, m => by
    unfold hasK
    split
    · rfl
    · exact hasK_at (i := i + 1) (j := j) (by simpa using h) e (by rw [show i + 1 + j = i + (j + 1) by omega]; exact m)
def cBorK (js : List Nat) (F : FE) : FE := fun ρ => match F (mask js 0 ρ) with
  | .ok (w, _) => (match pureSK (hasK 1 js 0 ρ) (hasK 2 js 0 ρ) (hasK 3 js 0 ρ) w with
    | true => .ok (w, ρ)
    | false => .stuck)
  | .exc c fs _ => (match pureDs fs with
    | true => .exc c fs ρ
    | false => .stuck)
  | .stuck => .stuck
/-- what each kind may be taken over from S to S2 -/
structure KOk (l d o : Bool) (S S2 : Addr → Prop) (H : Hp) : Prop where
  t : ∀ p vs, ¬ S p → Rd H p (.tup vs) → ¬ S2 p
  l_ : l = false → ∀ p vs, ¬ S p → Rd H p (.lst vs) → ¬ S2 p
  d_ : d = false → ∀ p kvs, ¬ S p → Rd H p (.dK kvs) → ¬ S2 p
  o_ : o = false → ∀ p c dx fs, ¬ S p → H p = some (.ins c dx fs) → ¬ S2 p
theorem nBoth {b x : Bool} (h : (match b with | true => false | false => x) = true) : b = false ∧ x = true := by
  cases b with
  | true => cases h
  | false => exact ⟨rfl, h⟩
section
variable {G : Gam} {S S2 : Addr → Prop} {H : Hp} {l d o : Bool}
mutual
theorem pureK_rep (k : KOk l d o S S2 H) : ∀ (x : D) (v : V), pureK l d o x = true → Rep G S H x v → Rep G S2 H x v
  | .non, v, _, r => r
  | .bl _, v, _, r => r
  | .int _, v, _, r => r
  | .str _, v, _, r => r
  | .cls _, v, _, r => r
  | .tup ds, v, h, r => by
    unfold Rep at r ⊢
    obtain ⟨p, vs, e, hp, r⟩ := r
    refine ⟨p, vs, e, ?_, pureK_reps k ds vs (by unfold pureK at h; exact h) r⟩
    rcases hp with ⟨n, hp⟩ | hp
    · exact .inl ⟨k.t p vs n hp, hp⟩
    · exact .inr hp
  | .lst ds, v, h, r => by
    unfold Rep at r ⊢
    obtain ⟨p, vs, e, n, hp, r⟩ := r
    unfold pureK at h
    obtain ⟨hb, h⟩ := nBoth h
    exact ⟨p, vs, e, k.l_ hb p vs n (.inl hp), hp, pureK_reps k ds vs h r⟩
  | .frl ds, v, h, r => by
    unfold Rep at r ⊢
    obtain ⟨p, vs, e, hp, r⟩ := r
    unfold pureK at h
    obtain ⟨hb, h⟩ := nBoth h
    refine ⟨p, vs, e, ?_, pureK_reps k ds vs h r⟩
    rcases hp with ⟨n, hp⟩ | hp
    · exact .inl ⟨k.l_ hb p vs n hp, hp⟩
    · exact .inr hp
  | .dic ks ds, v, h, r => by
    unfold Rep at r ⊢
    obtain ⟨p, kvs, e, n, hp, q, r⟩ := r
    unfold pureK at h
    obtain ⟨hb, h⟩ := nBoth h
    exact ⟨p, kvs, e, k.d_ hb p kvs n hp, hp, q, pureK_reps k ds _ h r⟩
  | .obj c ds, v, h, r => by
    unfold Rep at r ⊢
    obtain ⟨p, dx, fs, e, n, hp, q, r⟩ := r
    unfold pureK at h
    obtain ⟨hb, h⟩ := nBoth h
    exact ⟨p, dx, fs, e, k.o_ hb p _ dx fs n hp, hp, q, pureK_reps k ds _ h r⟩
theorem pureK_reps (k : KOk l d o S S2 H) : ∀ (ds : List D) (vs : List V), pureKs l d o ds = true → Reps G S H ds vs → Reps G S2 H ds vs
  | [], vs, _, r => r
  | x :: ds, vs, h, r => by
    unfold pureKs at h
    obtain ⟨v, q, e, h1, h2⟩ := r
    cases e1 : pureK l d o x with
    | true =>
      rw [e1] at h
      exact ⟨v, q, e, pureK_rep k x v e1 h1, pureK_reps k ds q h h2⟩
    | false => rw [e1] at h; cases h
end
end
section
variable {G : Gam} {Wt : WX} {M : Fm} {ρ : Env} {τ : List Ent} {σ : St} {H : Hp} {js : List Nat}
/-- who is avoided again is what was lent -/
theorem lent_at {H' : Hp} (R : RS G M ρ τ σ H) (same : Same H H') {L : List Ent} {p : Addr} (n : ¬ avoid (borM M js ρ τ σ H).S0 L p) (z : avoid M.S0 (ents σ ρ ++ τ) p) :
    (∃ vs, H' p = some (.lst vs) ∧ hasK 1 js 0 ρ = true) ∨ (∃ kvs, H' p = some (.dK kvs) ∧ hasK 2 js 0 ρ = true) ∨ ∃ c dx fs, H' p = some (.ins c dx fs) ∧ hasK 3 js 0 ρ = true := by
  have n2 : ¬ (borM M js ρ τ σ H).S0 p := fun q => n (.inl q)
  have : ∃ j w, memN j js = true ∧ ρ[j]? = some w ∧ isOwn w = true ∧ σ[j]? = some (some (.ref p)) := by
    by_cases q : ∃ j w, memN j js = true ∧ ρ[j]? = some w ∧ isOwn w = true ∧ σ[j]? = some (some (.ref p))
    · exact q
    · exact absurd ⟨z, q⟩ n2
  obtain ⟨j, w, hm, hw, ho, hs⟩ := this
  obtain ⟨v, e1, e2⟩ := R.at_ hw
  rw [hs] at e1
  cases e1
  have hh := R.re.all _ (List.mem_append_left _ (List.mem_of_getElem? e2))
  have has : ∀ k, kindS w = k → hasK k js 0 ρ = true := fun k e => hasK_at hw e (by rw [Nat.zero_add]; exact hm)
  have own : ∀ d S, kindS w = kindD d → OwnAt G S H p d → (∃ vs, H' p = some (.lst vs) ∧ hasK 1 js 0 ρ = true) ∨ (∃ kvs, H' p = some (.dK kvs) ∧ hasK 2 js 0 ρ = true) ∨ ∃ c dx fs, H' p = some (.ins c dx fs) ∧ hasK 3 js 0 ρ = true := fun d S ek o => by
    cases d with
    | lst ds => obtain ⟨_, e, _⟩ := o; exact .inl ⟨_, same p _ e, has 1 ek⟩
    | dic ks ds => obtain ⟨_, e, _⟩ := o; exact .inr (.inl ⟨_, same p _ e, has 2 ek⟩)
    | obj c ds => obtain ⟨_, _, e, _⟩ := o; exact .inr (.inr ⟨_, _, _, same p _ e, has 3 ek⟩)
    | _ => exact o.elim
  cases w with
  | own d =>
    obtain ⟨q, e, o⟩ := hh
    cases e
    exact own _ _ rfl o
  | self d =>
    obtain ⟨e, o⟩ := hh
    have e' : M.P = p := by
      have e' : some (V.ref p) = some (V.ref M.P) := e
      cases e'; rfl
    rw [e'] at o
    exact own _ _ rfl o
  | none => cases ho
  | val d => cases ho
theorem lent_kok {H' : Hp} (R : RS G M ρ τ σ H) (same : Same H H') {L : List Ent} {S2 : Addr → Prop} (h2 : ∀ p, ¬ avoid (borM M js ρ τ σ H).S0 L p → S2 p → avoid M.S0 (ents σ ρ ++ τ) p) : KOk (hasK 1 js 0 ρ) (hasK 2 js 0 ρ) (hasK 3 js 0 ρ) (avoid (borM M js ρ τ σ H).S0 L) S2 H' where
  t := fun p vs n rd z => by
    rcases lent_at R same n (h2 p n z) with ⟨x, e, _⟩ | ⟨x, e, _⟩ | ⟨_, _, _, e, _⟩ <;> rcases rd with rd | ⟨_, rd⟩ <;> rw [rd] at e <;> cases e
  l_ := fun hf p vs n rd z => by
    rcases lent_at R same n (h2 p n z) with ⟨x, e, hk⟩ | ⟨x, e, _⟩ | ⟨_, _, _, e, _⟩
    · rw [hf] at hk; cases hk
    · rcases rd with rd | ⟨_, rd⟩ <;> rw [rd] at e <;> cases e
    · rcases rd with rd | ⟨_, rd⟩ <;> rw [rd] at e <;> cases e
  d_ := fun hf p vs n rd z => by
    rcases lent_at R same n (h2 p n z) with ⟨x, e, _⟩ | ⟨x, e, hk⟩ | ⟨_, _, _, e, _⟩
    · rcases rd with rd | ⟨_, rd⟩ <;> rw [rd] at e <;> cases e
    · rw [hf] at hk; cases hk
    · rcases rd with rd | ⟨_, rd⟩ <;> rw [rd] at e <;> cases e
  o_ := fun hf p c dx fs n rd z => by
    rcases lent_at R same n (h2 p n z) with ⟨x, e, _⟩ | ⟨x, e, _⟩ | ⟨_, _, _, e, hk⟩
    · rw [rd] at e; cases e
    · rw [rd] at e; cases e
    · rw [hf] at hk; cases hk
theorem RS.lentK {w : Sl} {v : V} {H' : Hp} {ρ' : Env} (R : RS G M ρ τ σ H) (h : pureSK (hasK 1 js 0 ρ) (hasK 2 js 0 ρ) (hasK 3 js 0 ρ) w = true) (B0 : RS G (borM M js ρ τ σ H) ρ' [(some v, w)] σ H') : RS G M ρ ((some v, w) :: τ) σ H' := by
  have B : RE G M.P (borM M js ρ τ σ H).S0 H [(some v, w)] H' := B0.re.drop
  have hh := B.all _ List.mem_cons_self
  cases w with
  | val d =>
    obtain ⟨u, e, r⟩ := hh
    cases e
    exact (R.grow B.same).addVal (pureK_rep (lent_kok R B.same fun p _ z => z) d v h r)
  | own d =>
    obtain ⟨p, e, o⟩ := hh
    cases e
    have hp : H p = none := B.new p (by simp [ownOf])
    have kk : KOk (hasK 1 js 0 ρ) (hasK 2 js 0 ρ) (hasK 3 js 0 ρ) (avoid (borM M js ρ τ σ H).S0 [(some (V.ref p), .own d)]) (avoid M.S0 ([(some (V.ref p), .own d)] ++ (ents σ ρ ++ τ))) H' :=
      lent_kok R B.same fun q n z => by
        rcases z with z | z
        · exact .inl z
        · rw [owns_append] at z
          rcases List.mem_append.mp z with z | z
          · exact absurd (.inr z) n
          · exact .inr z
    have o2 : OwnAt G (avoid M.S0 ([(some (V.ref p), .own d)] ++ (ents σ ρ ++ τ))) H' p d := by
      cases d with
      | lst ds => obtain ⟨vs, e, r⟩ := o; exact ⟨vs, e, pureK_reps kk ds vs h r⟩
      | dic ks ds => obtain ⟨vs, e, m, r⟩ := o; exact ⟨vs, e, m, pureK_reps kk ds _ h r⟩
      | obj c ds => obtain ⟨dx, vs, e, m, r⟩ := o; exact ⟨dx, vs, e, m, pureK_reps kk ds _ h r⟩
      | _ => exact o.elim
    refine RS.unfront (τ' := [_]) R.len (RE.next (A := []) (B := ents σ ρ ++ τ) R.re (R.re.same.trans B.same) (by simp [ownOf]) (fun q hq => ?_) (fun q hq z => ?_) (fun q o hq ho => ?_) (fun a o e _ => B.same a o e) fun e he => ?_)
    · have e : q = p := by simpa [ownOf] using hq
      rw [e]; exact Same.free R.re.same hp
    · have e : q = p := by simpa [ownOf] using hq
      obtain ⟨o, ho⟩ := R.re.there z
      rw [e, hp] at ho; cases ho
    · have e : q = p := by simpa [ownOf] using hq
      rw [e, hp] at ho; cases ho
    · have e' : e = (some (.ref p), .own d) := by simpa using he
      subst e'
      exact ⟨p, rfl, o2⟩
  | none => cases h
  | self d => cases h
end
section
variable {X : Cx} {G : Gam} {Wt : WX} {e : Expr} {F : FE}
theorem e_borK (js : List Nat) (h : PE X e (tE G Wt F)) : PE X e (tE G Wt (cBorK js F)) := by
  refine h.weak fun σ H Q ⟨M, ρ, τ, R, q⟩ => ⟨_, _, _, R.lend (js := js), ?_⟩
  unfold cBorK at q
  cases ef : F (mask js 0 ρ) with
  | ok a =>
    obtain ⟨w, ρ'⟩ := a
    rw [ef] at q
    dsimp only at q
    split at q
    · rename_i ep
      exact fun v H' B => q v H' (R.lentK ep B)
    · exact q.elim
  | exc c fs ρ' =>
    rw [ef] at q
    dsimp only at q
    split at q
    · rename_i ep
      exact fun dd vs H' hx B => q dd vs H' hx (R.lentX ep hx B)
    · exact q.elim
  | stuck => rw [ef] at q; exact q
end
end Dl
namespace Dl
open PySem PySem.Spec L2
open PyProof.Rows hiding St
open PySem.W (InstAt findIn isFn selfFirst typeIn subIn)
/-! ### int op object: the reflected method -/
section
variable {X : Cx} {G : Gam} {Wt : WX} {c k : Nat} {Ff : FF} {fa : Addr} {fd : FuncData} {ps : List Str} {op : Operator} {nm : String}
/-! len of an own object -/
def gLenO (c : Nat) (Ff : FF) (ws : List Sl) : RD := match ws with
  | [w] => (match isObjC c (shr w) with
    | true => (match dCall Ff [w] with
      | .ok (.val (.int i)) => (match decide (0 ≤ i) && decide (i < 4611686018427387904) with
        | true => .ok (.val (.int i))
        | false => .stuck)
      | _ => .stuck)
    | false => .stuck)
  | _ => .stuck
end
end Dl
namespace Dl
open PySem PySem.Spec L2
open PyProof.Rows hiding St
open PySem.W (InstAt findIn isFn selfFirst typeIn subIn)
section
variable {X : Cx} {G : Gam} {Wt : WX} {c k : Nat} {Ff : FF} {fa : Addr} {fd : FuncData} {ps : List Str}
theorem call_lenO (hK : X.K = G.K) (hm : Meth G.K (G.ca c) "__len__" fa) (F : FnOk X.prog X.w X.K X.mg X.base (L2.CX X.prog X.w) k fa fd ps (spF G 1 Ff)) (hr : Room (k + 1) X.A) (hb : Binds X.K fd ps []) : CallR X (.builtin "len") (fun xs H Q => ∃ a dx fs, xs = [.ref a] ∧ H a = some (.ins (G.ca c) dx fs) ∧ spF G 1 Ff [.ref a] H (fun v H' => ∃ i : Int, v = .int i ∧ 0 ≤ i ∧ i < 4611686018427387904 ∧ Q v H') (fun _ _ _ => False)) := by
  intro pins s σ H xs us Q I r h
  obtain ⟨a, dx, fs, rfl, ha, sp⟩ := h
  obtain ⟨u, rfl, ru⟩ := vals1 r
  cases ru
  obtain ⟨ox, od, J⟩ := inst_of I ha
  obtain ⟨mm, hF⟩ := I.fr
  have hl : ([Value.ref a] ++ ([] : List Value)).length = ps.length := by rw [List.append_nil]; exact F.len _ _ _ _ sp
  refine PySem.W.len_K hF I.ok.mod.kin J (by rw [hK]; exact hm.at_) (by rw [hK]; exact hm.fn) ?_
  refine wpAny_call (codeAny_mono (F.run X.A.in1 X.stack s H ⟨[.ref a], []⟩ [.ref a] [.ref a] _ _ hr.in1 I.env0.in1 (by have := hb s [.ref a] I.kIn hl; rwa [List.append_nil] at this) (.cons rfl .nil) sp) fun r s' hq => ?_)
  cases r with
  | error e =>
    obtain ⟨_, _, _, _, _, _, _, _, _, _, _, _, z⟩ := hq
    exact z.elim
  | ok fl =>
    cases fl with
    | ret u =>
      obtain ⟨v, H', I', rv, i, ev, h1, h2, qq⟩ := I.after hq
      subst ev
      obtain ⟨t, rfl⟩ := rv
      exact ⟨⟨h1, by omega⟩, .int i, H', I'.tok _, ⟨_, rfl⟩, qq⟩
    | next => exact False.elim hq
    | brk => exact False.elim hq
    | cont => exact False.elim hq
theorem cb_lenO : CbOk G Wt (fun xs H Q => ∃ a dx fs, xs = [V.ref a] ∧ H a = some (.ins (G.ca c) dx fs) ∧ spF G 1 Ff [.ref a] H (fun v H' => ∃ i : Int, v = .int i ∧ 0 ≤ i ∧ i < 4611686018427387904 ∧ Q v H') (fun _ _ _ => False)) (gLenO c Ff) := by
  intro M ρ τ σ H xs ws Q l R p
  unfold gLenO at p
  split at p
  · rename_i w
    split at p
    · rename_i eo
      obtain ⟨x, rfl⟩ : ∃ x, xs = [x] := by
        cases xs with
        | nil => cases l
        | cons x r => cases r with
          | nil => exact ⟨x, rfl⟩
          | cons _ _ => simp at l
      obtain ⟨a, dx, fs, rfl, ha⟩ := snd_obj (show RS G M ρ ((some x, w) :: τ) σ H from R) eo
      refine ⟨a, dx, fs, rfl, ha, sp_call0 (Wt := Wt) (ρ := ρ) (τ := τ) (vs := [.ref a]) (ws := [w]) rfl rfl R ?_⟩
      unfold callF0
      rw [← liftD_dCall]
      cases ed : dCall Ff [w] with
      | ok r =>
        rw [ed] at p
        split at p
        · rename_i i e2
          cases e2
          split at p
          · rename_i eb
            simp only [Bool.and_eq_true, decide_eq_true_eq] at eb
            intro v H' R'
            have : v = .int i := Option.some.inj (R'.flat (v := some v) (d := .int i) List.mem_cons_self rfl)
            exact ⟨i, this, eb.1, eb.2, p v H' R'⟩
          · exact p.elim
        · exact p.elim
      | exc c fs ρ' => rw [ed] at p; exact p.elim
      | stuck => rw [ed] at p; exact p.elim
    · exact p.elim
  · exact p.elim
/-! bool of an own object -/
end
end Dl
namespace Dl
open PySem PySem.Spec L2
open PyProof.Rows hiding St
open PySem.W (InstAt findIn isFn selfFirst typeIn subIn)
/-! ### a def that returns NotImplemented: its mirror returns True -/
end Dl
namespace Dl
open PySem PySem.Spec L2
open PyProof.Rows hiding St
open PySem.W (InstAt findIn isFn selfFirst typeIn subIn)
end Dl
/-! the facts of a program's top, looked at once, over a part of the heap that is evaluated early -/
namespace Dl
open PySem PySem.Spec L2
open PyProof.Rows hiding St
/-! ### evaluated early -/
/-! ### where a thing stands -/
/-! ### checks: c, j: the c-th class, the j-th def -/
theorem eqOB_ok {a b : Option Bool} (h : eqOB a b = true) : a = b := by
  unfold eqOB at h
  split at h
  · rw [beq_iff_eq.mp h]
  · rfl
  · cases h
theorem noneOrRef_ok {r : Option (Option Value)} (h : noneOrRef r = true) : ∃ rc, r = some rc ∧ (rc = none ∨ ∃ g : Addr, rc = some (.ref g)) := by
  unfold noneOrRef at h
  split at h
  · exact ⟨_, rfl, .inl rfl⟩
  · exact ⟨_, rfl, .inr ⟨_, rfl⟩⟩
  · cases h
theorem isSomeO_ok {r : Option (Option Value)} (h : isSomeO r = true) : ∃ x, r = some x := by
  unfold isSomeO at h
  split at h
  · exact ⟨_, rfl⟩
  · cases h
theorem isRefO_ok {r : Option (Option Value)} (h : isRefO r = true) : ∃ g, r = some (some (.ref g)) := by
  unfold isRefO at h
  split at h
  · exact ⟨_, rfl⟩
  · cases h
theorem headRef_ok {r : Option (List Value)} {g : Addr} (h : headRef r g = true) : ∃ rest, r = some (.ref g :: rest) := by
  unfold headRef at h
  split at h
  · rw [Nat.eq_of_beq_eq_true h]
    exact ⟨_, rfl⟩
  · cases h
/-! ### what a check tells -/
section
variable {K : PySem.W.Frag} {ca fa : Nat → Addr}
theorem eqOO_ok {a b : Option (Option Value)} (h : eqOO a b = true) : a = b := of_decide_eq_true h
theorem clB_ok {C : Addr} (h : clB K C = true) : Cls K C := by
  obtain ⟨h1, h⟩ := He.ba h
  obtain ⟨h2, h⟩ := He.ba h
  obtain ⟨h3, h4⟩ := He.ba h
  exact ⟨h1, h2, h3, eqOO_ok h4⟩
theorem ck_na {c : Nat} {f : Str} (h : (Ck.na c f).ok K ca fa = true) : NoAttr K (ca c) f := eqOO_ok h
theorem ck_cl {c : Nat} (h : (Ck.cl c).ok K ca fa = true) : Cls K (ca c) := clB_ok h
theorem ck_me {c j : Nat} {m : Str} (h : (Ck.me c m j).ok K ca fa = true) : Meth K (ca c) m (fa j) := by
  obtain ⟨h1, h⟩ := He.ba h
  obtain ⟨h2, h3⟩ := He.ba h
  exact ⟨eqOO_ok h1, h2, h3⟩
theorem ck_mk {c j : Nat} (h : (Ck.mk c j).ok K ca fa = true) : Mk K (ca c) (fa j) := by
  obtain ⟨h1, h⟩ := He.ba h
  obtain ⟨h2, h⟩ := He.ba h
  obtain ⟨h3, h4⟩ := He.ba h
  exact ⟨h1, eqOO_ok h2, h3, h4⟩
theorem ck_sf {c : Nat} (h : (Ck.sf c).ok K ca fa = true) : PySem.W.selfFirst K (ca c) = true := h
theorem ck_si {c : Nat} (h : (Ck.si c).ok K ca fa = true) : PySem.W.subIn K (.type "int") (.ref (ca c)) = some false := eqOB_ok h
theorem ck_oi {c : Nat} {op : String} (h : (Ck.oi c op).ok K ca fa = true) : OpI K (ca c) op := by
  obtain ⟨h1, h⟩ := He.ba h
  obtain ⟨h2, h⟩ := He.ba h
  obtain ⟨h3, h4⟩ := He.ba h
  exact ⟨noneOrRef_ok h1, isSomeO_ok h2, isSomeO_ok h3, eqOB_ok h4⟩
theorem ck_ot {c c2 : Nat} {op : String} (h : (Ck.ot c c2 op).ok K ca fa = true) : OpT K (ca c) (ca c2) op := by
  obtain ⟨h1, h⟩ := He.ba h
  obtain ⟨h2, h⟩ := He.ba h
  obtain ⟨h3, h⟩ := He.ba h
  obtain ⟨h4, h⟩ := He.ba h
  obtain ⟨h5, h6⟩ := He.ba h
  refine ⟨fun e => ?_, h2, noneOrRef_ok h3, isRefO_ok h4, noneOrRef_ok h5, eqOB_ok h6⟩
  rw [e, Nat.beq_refl] at h1
  cases h1
theorem ck_pr {c j : Nat} {m : Str} (h : (Ck.pr c m j).ok K ca fa = true) : ∃ pr, PropOf K (ca c) m pr (fa j) := by
  obtain ⟨h1, h⟩ := He.ba h
  obtain ⟨h2, h⟩ := He.ba h
  obtain ⟨h3, h4⟩ := He.ba h
  exact ⟨_, eqOO_ok h1, eqOO_ok h2, eqOB_ok h3, headRef_ok h4⟩
theorem ck_co {c j : Nat} (h : (Ck.co c j).ok K ca fa = true) : StX.CallO K (ca c) (fa j) := by
  obtain ⟨h1, h⟩ := He.ba h
  obtain ⟨h2, h3⟩ := He.ba h
  exact ⟨eqOO_ok h1, h2, h3⟩
theorem ck_cc {c : Nat} {f z : Str} (h : (Ck.cc c f z).ok K ca fa = true) : ∃ u, Con K (ca c) f (.str z) u := by
  have h' : (match PySem.W.findIn K (.ref (ca c)) f with
    | some (some u) => He.relB (.str z) u && (eqOO (PySem.W.specialIn K u "__get__") (some none) && !(PySem.W.copiedNames.contains f))
    | _ => false) = true := h
  split at h'
  · rename_i u e
    obtain ⟨h1, h2⟩ := He.ba h'
    obtain ⟨h3, h4⟩ := He.ba h2
    exact ⟨u, e, He.relB_ok h1, eqOO_ok h3, by simpa using h4⟩
  · cases h'
theorem ck_cr {c j : Nat} {m : Str} (h : (Ck.cr c m j).ok K ca fa = true) : ∃ mc, ClX.CRead K (ca c) mc ∧ ∃ p, ClX.CMet K (ca c) mc m p (fa j) := by
  obtain ⟨h1, h⟩ := He.ba h
  obtain ⟨h2, h⟩ := He.ba h
  obtain ⟨h3, h4⟩ := He.ba h
  refine ⟨.type "type", ⟨h1, eqOO_ok h2⟩, ?_⟩
  split at h3
  · rename_i gg p o t e
    obtain ⟨g1, h3⟩ := He.ba h3
    obtain ⟨g2, h3⟩ := He.ba h3
    obtain ⟨g3, g4⟩ := He.ba h3
    rw [of_decide_eq_true g1, of_decide_eq_true g2, of_decide_eq_true g3] at e
    exact ⟨p, e, headRef_ok g4, h4⟩
  · cases h3
theorem infB_ok {c : Nat} {fs : Nat → List Str} (h : infB K (ca c) = true) : InsF ⟨K, ca, fs⟩ c := by
  obtain ⟨h1, h⟩ := He.ba h
  obtain ⟨h2, h⟩ := He.ba h
  obtain ⟨h3, h⟩ := He.ba h
  obtain ⟨h4, h⟩ := He.ba h
  obtain ⟨h5, h6⟩ := He.ba h
  refine ⟨clB_ok h1, eqOO_ok h2, eqOO_ok h3, eqOB_ok h4, eqOB_ok h5, fun b => ?_⟩
  have := List.all_eq_true.mp h6 b (by cases b <;> simp)
  exact eqOB_ok this
theorem ck_inf {n : Nat} {fs : Nat → List Str} (h : (Ck.inf n).ok K ca fa = true) : ∀ c, c < n → InsF ⟨K, ca, fs⟩ c := fun c hc => infB_ok (List.all_eq_true.mp h c (List.mem_range.mpr hc))
theorem ck_isc {n c : Nat} {subs : List Nat} {fs : Nat → List Str} (h : (Ck.isc n c subs).ok K ca fa = true) : IsC ⟨K, ca, fs⟩ n c subs := by
  obtain ⟨h1, h2⟩ := He.ba h
  exact ⟨fun a ha => eqOB_ok (List.all_eq_true.mp h1 a ha), fun c' hc => eqOB_ok (List.all_eq_true.mp h2 c' (List.mem_range.mpr hc))⟩
theorem memN_mem {i : Nat} : ∀ {l : List Nat}, memN i l = true → i ∈ l
  | [], h => by cases h
  | j :: js, h => by
    unfold memN at h
    split at h
    · rename_i e
      rw [Nat.eq_of_beq_eq_true e]
      exact List.mem_cons_self
    · exact List.mem_cons_of_mem _ (memN_mem h)
theorem ck_em {x : Nat} {hits pass : List Nat} (h : (Ck.em x hits pass).ok K ca fa = true) : (∀ a, memN a hits = true → PySem.W.exmOne K (.ref (ca a)) (.ref (ca x)) = some true) ∧ ∀ a, memN a pass = true → PySem.W.exmOne K (.ref (ca a)) (.ref (ca x)) = some false := by
  obtain ⟨h1, h2⟩ := He.ba h
  exact ⟨fun a ha => eqOB_ok (List.all_eq_true.mp h1 a (memN_mem ha)), fun a ha => eqOB_ok (List.all_eq_true.mp h2 a (memN_mem ha))⟩
theorem ck_ss {cs : List Nat} (h : (Ck.ss cs).ok K ca fa = true) : ∀ c, memN c cs = true → PySem.W.subIn K (.ref (ca c)) (.type "StopIteration") = some false := fun c hc => eqOB_ok (List.all_eq_true.mp h c (memN_mem hc))
theorem ck_ex {c : Nat} (h : (Ck.ex c).ok K ca fa = true) : PySem.W.excIn K (ca c) He.veBase "ValueError.__new__" = true ∧ PySem.W.keepIn K (.ref (ca c)) = true ∧ PySem.W.subIn K (.ref (ca c)) (.type "BaseException") = some true ∧ PySem.W.typeIn K (.ref (ca c)) = some (.type "type") := by
  obtain ⟨h1, h⟩ := He.ba h
  obtain ⟨h2, h⟩ := He.ba h
  obtain ⟨h3, h4⟩ := He.ba h
  exact ⟨h1, h2, eqOB_ok h3, of_decide_eq_true h4⟩
variable {h : Heap} {mg : Str → Option Value} (X : K.In h) (G : h.Ns mainGlobals mg)
include X G
theorem ck_fr {x : Str} (c : (Ck.fr x).ok K ca fa = true) : mg x = none := PySem.W.mg_none_of X G (eqOO_ok c)
theorem ck_g {x : Str} {j : Nat} (c : (Ck.g x j).ok K ca fa = true) : mg x = some (.ref (fa j)) := PySem.W.mg_of X G (eqOO_ok c)
theorem ck_gc {x : Str} {j : Nat} (c : (Ck.gc x j).ok K ca fa = true) : mg x = some (.ref (ca j)) := PySem.W.mg_of X G (eqOO_ok c)
theorem ck_gi {x : Str} {i : Int} (c : (Ck.gi x i).ok K ca fa = true) : ∃ t, mg x = some (.int i t) := by
  have c' : (match nsMain K x with | some (some (.int j _)) => decide (j = i) | _ => false) = true := c
  split at c'
  · rename_i j t e
    rw [of_decide_eq_true c'] at e
    exact ⟨t, PySem.W.mg_of X G e⟩
  · cases c'
theorem ck_gs {x z : Str} (c : (Ck.gs x z).ok K ca fa = true) : ∃ t, mg x = some (.str z t) := by
  have c' : (match nsMain K x with | some (some (.str j _)) => decide (j = z) | _ => false) = true := c
  split at c'
  · rename_i j t e
    rw [of_decide_eq_true c'] at e
    exact ⟨t, PySem.W.mg_of X G e⟩
  · cases c'
theorem ck_gt {x : Str} {zs : List Str} (c : (Ck.gt x zs).ok K ca fa = true) : ∃ a, mg x = some (.ref a) ∧ KT K a (zs.map V.str) := by
  have c' : (match nsMain K x with
    | some (some (.ref a)) => (match K.lookup a with
      | some ⟨.type c, _, .seq its _, _⟩ => decide (c = "tuple") && (decide (its.size ≤ sizeLine) && He.relAll (zs.map V.str) its.toList)
      | _ => false)
    | _ => false) = true := c
  split at c'
  · rename_i a e
    split at c'
    · rename_i cc d its n sl el
      obtain ⟨h1, h2⟩ := He.ba c'
      obtain ⟨h3, h4⟩ := He.ba h2
      exact ⟨a, PySem.W.mg_of X G e, _, its, n, el, congrArg Value.type (of_decide_eq_true h1), rfl, of_decide_eq_true h3, He.relAll_ok h4⟩
    · cases c'
  · cases c'
end
/-! ### the defs -/
def fdAt (K : PySem.W.Frag) (a : Addr) : FuncData := match K.lookup a with
  | some ⟨_, _, .func fd, _⟩ => fd
  | _ => PySem.W.fnOf "" "" ⟨[], [], none, [], [], none, []⟩ [] ⟨.function, [], false, false, []⟩ .none .none .none .none none .none .none
theorem DefP.funD {K : PySem.W.Frag} {a : Addr} {d : DefP} (e : fnAt K a = d.val) (c : d.ok K a = true) : FunD K d.name d.qual d.params d.body d.scope d.dfl d.kwd a (fdAt K a) := by
  obtain ⟨kp, c2⟩ := He.ba c
  unfold fnAt at e
  unfold fdAt
  cases q : K.lookup a with
  | none =>
    rw [q] at c2
    cases c2
  | some o =>
    obtain ⟨oc, od, dt, osl⟩ := o
    rw [q] at c2 e
    cases dt with
    | func fd =>
      obtain ⟨n1, n2, n3, n4, n5, n6, n7, n8, n9, n10, n11, n12, n13, n14, n15⟩ := fd
      have e2 : (some (n1, n2, n3, n4, n5, n6, n7, n15) : He.FnW) = some (d.name, d.qual, d.params, .stmts d.body, d.scope, mainGlobals, [], builtinsNs) := e
      simp only [Option.some.injEq, Prod.mk.injEq] at e2
      obtain ⟨h1, h2, h3, h4, h5, h6, h7, h8⟩ := e2
      subst h1 h2 h3 h4 h5 h6 h7 h8
      have c3 : (PySem.W.codeIn K n13 d.qual && (He.dflB K n8 d.dfl && He.kwdB K n9 d.kwd)) = true := c2
      obtain ⟨k1, k2⟩ := He.ba c3
      obtain ⟨k3, k4⟩ := He.ba k2
      exact ⟨⟨oc, od, n8, n9, n10, n11, n12, n13, n14, osl, rfl, q, k1, He.dflB_ok k3, He.kwdB_ok k4⟩, kp⟩
    | _ => cases c2
/-! ### the Hook -/
theorem obsP_eq {hp : HeadP} {g : Addr → Option Obj} {s : Shared} (h : ∀ a, g a = s.heap.get? a) : obsP hp g = (hookP hp).obs s := by
  have e : g = s.heap.get? := funext h
  rw [e]
  rfl
section
variable {hp : HeadP} {K : PySem.W.Frag} {cl fl : List Addr}
theorem SaysP.ck (c : SaysP hp K cl fl) (i : Nat) {f : Ck} (h : hp.cks[i]? = some f := by rfl) : f.ok K (atL cl) (atL fl) = true := by
  have c1 := (He.ba (show ((hp.cks.all fun c => c.ok K (atL cl) (atL fl)) && allDefs K fl hp.defs) = true from congrArg (fun z : AlP => z.1) c)).1
  exact List.all_eq_true.mp c1 f (List.mem_of_getElem? h)
theorem allDefs_at : ∀ {as : List Addr} {ds : List DefP} {i : Nat} {a : Addr} {d : DefP}, allDefs K as ds = true → as[i]? = some a → ds[i]? = some d → d.ok K a = true
  | [], ds, i, a, d, h, e, e' => by simp at e
  | b :: as, [], i, a, d, h, e, e' => by simp at e'
  | b :: as, x :: ds, 0, a, d, h, e, e' => by
    have e1 : b = a := by simpa using e
    have e2 : x = d := by simpa using e'
    subst e1
    subst e2
    exact (He.ba h).1
  | b :: as, x :: ds, i + 1, a, d, h, e, e' => allDefs_at (He.ba h).2 (by simpa using e) (by simpa using e')
theorem SaysP.def_ (c : SaysP hp K cl fl) (i : Nat) {d : DefP} (h : hp.defs[i]? = some d := by rfl) : FunD K d.name d.qual d.params d.body d.scope d.dfl d.kwd (atL fl i) (fdAt K (atL fl i)) := by
  have c2 := (He.ba (show ((hp.cks.all fun c => c.ok K (atL cl) (atL fl)) && allDefs K fl hp.defs) = true from congrArg (fun z : AlP => z.1) c)).2
  have e : ((fl.take hp.defs.length).map fun a => fnAt K a) = hp.defs.map DefP.val := congrArg (fun z : AlP => z.2) c
  have hi : i < hp.defs.length := (List.getElem?_eq_some_iff.mp h).1
  have e2 : ((fl.take hp.defs.length).map fun a => fnAt K a)[i]? = (hp.defs.map DefP.val)[i]? := by rw [e]
  rw [List.getElem?_map, List.getElem?_map, h, List.getElem?_take, if_pos hi] at e2
  cases ea : fl[i]? with
  | none => rw [ea] at e2; cases e2
  | some a =>
    rw [ea] at e2
    have e3 : fnAt K a = d.val := Option.some.inj e2
    have e4 : atL fl i = a := by
      unfold atL
      rw [List.getD_eq_getElem?_getD, ea]
      rfl
    rw [e4]
    exact DefP.funD e3 (allDefs_at c2 ea h)
end
/-! ### the law's end -/
theorem reps_ints_of {G : Gam} {S : Addr → Prop} {H : Hp} : ∀ ns : List Int, Reps G S H (ns.map D.int) (ns.map V.int)
  | [] => Reps.nil
  | n :: ns => Reps.cons (show V.int n = V.int n from rfl) (reps_ints_of ns)
theorem law_spF {G : Gam} {Ff : FF} {H : Hp} {a : Addr} {ns : List Int} {ρ : Env} (hS : SqL G.K H a (ns.map V.int)) (h : Ff [.val (.frl (ns.map D.int))] = .ok (.val (.bl true), ρ)) :
    spF G 1 Ff [.ref a] H (fun v _ => v = .bl true) fun _ _ _ => False := by
  refine ⟨rfl, ⟨0, fun _ => False, H⟩, [.val (.frl (ns.map D.int))], rfl, ?_, ?_⟩
  · have eo : owns (aents [V.ref a] [Sl.val (.frl (ns.map D.int))]) = [] := owns_vals rfl
    refine ⟨Same.refl H, fun _ z => z.elim, by rw [eo]; exact List.nodup_nil, (by rw [eo]; exact fun _ z => nomatch z), fun e he => ?_⟩
    have he' : e = (some (.ref a), Sl.val (.frl (ns.map D.int))) := by simpa [aents] using he
    subst he'
    refine ⟨_, rfl, ?_⟩
    unfold Rep
    refine ⟨a, _, rfl, ?_, reps_ints_of ns⟩
    rcases hS with hS | hS
    · refine .inl ⟨fun z => ?_, hS⟩
      rcases z with z | z
      · exact z
      · rw [eo] at z
        cases z
    · exact .inr hS
  · rw [h]
    intro v H' R
    obtain ⟨u, eu, r⟩ := R.val (v := some v) (d := .bl true) List.mem_cons_self
    cases eu
    exact r
theorem walk_ofD {l : PySem.W.OpenLaw} {n k : Nat} {q : Program} {loose : List Str} {XP : (Str → Option Value) → Heap → Prop} {d : DefRec} {x : Str} {hp : HeadP} {fs : Nat → List Str} {Ff : FF} {j : Nat}
    (hn : l.most = some n) (hn2 : n ≤ sizeLine) (hdf : d.params.defaults = []) (hr : Room k callerA)
    (hj : ∀ (K : PySem.W.Frag) (cl fl : List Addr) (h : Heap) (mg : Str → Option Value), SaysP hp K cl fl → K.In h → h.Ns mainGlobals mg → mg d.name = some (.ref (atL fl j)))
    (F : ∀ (w : World) (K : PySem.W.Frag) (cl fl : List Addr) (h : Heap) (mg : Str → Option Value), SaysP hp K cl fl → K.In h → h.Ns mainGlobals mg →
      (∀ (s : Shared) (u : Value), BindsTo s (fdAt K (atL fl j)) ⟨[u], []⟩ [(x, u)]) ∧ ∀ base : Heap, FnOk l.prog w K mg base (L2.CX l.prog w) k (atL fl j) (fdAt K (atL fl j)) [x] (spF ⟨K, atL cl, fs⟩ 1 Ff))
    (law : ∀ ns : List Int, ns.length ≤ n → (∀ z ∈ ns, Builtin.Int.intBits z ≤ 1048576) → ∃ ρ, Ff [.val (.frl (ns.map D.int))] = .ok (.val (.bl true), ρ)) :
    PySem.W.WalkO q loose XP (hookP hp).says l.row.toRowW d [] (fun f vs => PySem.call f vs) := by
  refine Att.attach_callB hn hdf fun w s₀ s₁ mg mb fa o pm cd doc a vs ns G Y ho hd hcd hmg hobj hints hlen hbits hg => ?_
  obtain ⟨K, cl, fl, KX, c⟩ := Y
  have e := hmg.symm.trans (hj K cl fl _ mg c KX G.T.g)
  have ef : fa = atL fl j := by
    have := Option.some.inj e
    cases this
    rfl
  subst ef
  obtain ⟨hb, hF⟩ := F w K cl fl _ mg c KX G.T.g
  obtain ⟨ρ, hl⟩ := law ns hlen hbits
  exact law_call KX G.T.g G.T.b G.T.builtins G.T.nolimit hg hobj hints (Nat.le_trans hlen hn2) hr (fun base _ _ => hF base) hb (fun H _ hS => law_spF (G := ⟨K, atL cl, fs⟩) hS hl) fun H e s' z => by
    obtain ⟨_, _, _, _, _, _, _, _, _, _, _, _, z⟩ := z
    exact z.elim
end Dl
/-! raise, and try .. except that catches -/
namespace Dl
open PySem PySem.Spec L2
open PyProof.Rows hiding St
def cRaise (c : Nat) : FS := fun ρ => .exc c [] ρ
/-- what a clause does with an exception: taken, let by, not known -/
def cTry (hits pass : List Nat) (Fb Fh : FS) : FS := fun ρ => match Fb ρ with
  | .exc c fs ρ' => (match memN c hits with
    | true => (match Fh ρ' with
      | .exc _ _ _ => .stuck
      | r => r)
    | false => (match memN c pass with
      | true => .exc c fs ρ'
      | false => .stuck))
  | r => r
section
variable {X : Cx} {G : Gam} {Wt : WX}
/-- raise X('m') -/
theorem s_raise {c : Nat} {x m : Str} {j : Nat} {p p2 pos pos' : Pos} (hc : X.calm = true) (tk : Takes X Wt) (q : PySem.W.excIn X.K (G.ca c) He.veBase "ValueError.__new__" = true ∧ PySem.W.keepIn X.K (.ref (G.ca c)) = true ∧ PySem.W.subIn X.K (.ref (G.ca c)) (.type "BaseException") = some true ∧ PySem.W.typeIn X.K (.ref (G.ca c)) = some (.type "type")) (gC : X.mg x = some (.ref (G.ca c))) (hg : Gl X x) (hd : (x == ("__debug__" : Str)) = false := by decide) :
    PS X (.Raise (some (.Call (.Name x p) [.Constant (.str m) j p2] [] pos)) none pos') (tS G Wt (cRaise c)) :=
  (ps_raise hc tk (pmk_own PySem.F.excBase_ValueError q.1 gC q.2.1 (raises_own q.2.2.1 q.2.2.2) hg hd)).weak fun D σ H ⟨M, ρ, τ, R, h⟩ => h none [] σ H (.inl ⟨rfl, rfl, rfl⟩) R
/-- try: .. except x: .. -/
theorem s_try {x : Str} {c : Nat} {body suite : List Stmt} {b₀ : Stmt} {np pos pos' : Pos} {hits pass : List Nat} {Fb Fh : FS} (hc : Names X x (.ref (G.ca c))) (tk : Takes X Wt)
    (hh : ∀ a, memN a hits = true → PySem.W.exmOne X.K (.ref (G.ca a)) (.ref (G.ca c)) = some true)
    (hp : ∀ a, memN a pass = true → PySem.W.exmOne X.K (.ref (G.ca a)) (.ref (G.ca c)) = some false)
    (hb : ∀ (W : WX) (pn : List (Addr × Obj)) (xe : Value → Shared → Prop), Takes (X.tr pn xe) W → PassesOwn (model X.prog X.w) X.A X.env xe → PSs (X.tr pn xe) body (tS G W Fb))
    (hs : ∀ (a : Addr) (pn : List (Addr × Obj)), PSs (X.suite a pn) (b₀ :: suite) (tS G (fun _ _ _ _ => False) Fh)) (h1 : X.stack = X.env :: X.outer := by rfl) (h2 : X.env.frame = some X.env.locals := by rfl) :
    PS X (.Try body [.ExceptHandler (some (.Name x np)) none (b₀ :: suite) pos'] [] [] pos) (tS G Wt (cTry hits pass Fb Fh)) := by
  refine (ps_try_only (ts := fun a _ _ => tS G (fun _ _ _ _ => False) Fh) h1 h2 hc tk hb fun a oe cls d pn _ _ => hs a ((a, oe) :: pn)).weak fun D σ H ⟨M, ρ, τ, R, q⟩ => ⟨M, ρ, τ, R, ?_⟩
  unfold cTry at q
  cases e : Fb ρ with
  | ok a =>
    rw [e] at q
    obtain ⟨f, ρ'⟩ := a
    cases f with
    | nx => exact q
    | bk => exact q
    | ct => exact q
    | rt w => exact q
  | stuck => rw [e] at q; exact q.elim
  | exc a fs ρ' =>
    rw [e] at q
    dsimp only at q
    intro dd vs σ' H' hx R'
    cases m1 : memN a hits with
    | true =>
      rw [m1] at q
      refine ⟨true, hh a m1, fun _ b hb => ⟨M, ρ', τ, R'.drop, ?_⟩, fun z => by cases z⟩
      dsimp only at q
      cases e2 : Fh ρ' with
      | ok r =>
        rw [e2] at q
        obtain ⟨f, ρ2⟩ := r
        cases f with
        | nx => exact q
        | bk => exact q
        | ct => exact q
        | rt w => exact q
      | exc c2 fs2 ρ2 => rw [e2] at q; exact q.elim
      | stuck => rw [e2] at q; exact q.elim
    | false =>
      rw [m1] at q
      dsimp only at q
      cases m2 : memN a pass with
      | true =>
        rw [m2] at q
        exact ⟨false, hp a m2, fun z => (by cases z), fun _ => q dd vs σ' H' hx R'⟩
      | false => rw [m2] at q; exact q.elim
end
end Dl
/-! list(d.items()), list(d.values()), also of a dict that is walked meanwhile -/
namespace Dl
open PySem PySem.Spec L2
open PyProof.Rows hiding St
end Dl
/-! a walk over a dict whose body may raise -/
namespace Dl
open PySem PySem.Spec L2
open PyProof.Rows hiding St
section
variable {X : Cx} {G : Gam} {Wt : WX} {tg iter : Expr} {pos : Pos} {body : List Stmt} {g : Env → Option (List Key × List D)} {Ex : Fm → St → Hp → Prop} {sel : List Key → List D → List D} {A : FG} {F : FS}
/-- what is asked of an exception that leaves while a dict is walked -/
def wLk (X : Cx) (W : WX) : WX := fun cls dd σ H => W cls dd σ H ∨ ∃ d od kvs, (∀ o' u', X.H_0 d ≠ some (.frz o' u')) ∧ H d = some (frzD od kvs) ∧ W cls dd σ (upd H d (.dK kvs))
theorem takes_lk (tk : Takes X Wt) : Takes X (wLk X Wt) := fun u s' ⟨a, B, sI, pins, σ, H, cls, d, e, I, nb, up, sky, na, os, ag, w⟩ => by
  rcases w with w | ⟨d0, od, kvs, hn, hd, w⟩
  · exact tk u s' ⟨a, B, sI, pins, σ, H, cls, d, e, I, nb, up, sky, na, os, ag, w⟩
  · refine tk u s' ⟨a, B, sI, pins, σ, upd H d0 (.dK kvs), cls, d, e, I.unlock hd hn, nb, up, sky, ?_, os, ag, w⟩
    rw [upd_ne (fun z => by rw [z, hd] at na; cases na)]
    exact na
theorem ps_nofrz {st : Stmt} {t : TS} (h : PS X st t) : PS X st (fun D σ H => ∃ d u, H d = some u ∧ Mut (some u) ∧ ((∀ o' u', X.H_0 d ≠ some (.frz o' u')) → t D σ H)) :=
  ⟨fun pins s σ H D I ⟨d, u, hd, mu, q⟩ => h.run pins s σ H D I (q (I.nofrz hd mu))⟩
theorem cItDc_some2 {ρ : Env} {M : Fm} {τ : List Ent} {DD : Ends} (q : postS G Wt M τ (cFor (cItDc g sel) A F ρ) DD) : ∃ ks ds, g ρ = some (ks, ds) := by
  unfold cFor cItDc at q
  cases e : g ρ with
  | none => rw [e] at q; exact q.elim
  | some a => exact ⟨a.1, a.2, rfl⟩
theorem rx_upd {c : Nat} {fs : List D} {dd : Option Addr} {vs : List V} {H : Hp} {d : Addr} {o o' : HO} (h : RX G c fs dd vs H) (hd : H d = some o) (hx : ∀ l, o ≠ .xd l) : RX G c fs dd vs (upd H d o') := by
  rcases h with h | ⟨d0, e, v, n, h1, h2, h3, h4, h5⟩
  · exact .inl h
  · refine .inr ⟨d0, e, v, n, h1, h2, h3, h4, ?_⟩
    rw [upd_ne (fun z => by rw [z, hd] at h5; cases h5; exact hx _ rfl)]
    exact h5
theorem s_forLX (hp : PassesOwn (model X.prog X.w) X.A X.env X.xe) (hc : X.calm = true) (tk : Takes X Wt) (hg : GOk G g Ex) (hi : ∀ W : WX, PI X tg iter (tIX Ex G W (cItDc g sel))) (ht : PG X tg (tG G A)) (hb : ∀ W : WX, Takes X W → PSs X body (tS G W F)) (hs : ∀ x, foldedSetIterable iter X.env x = pure x := by intro _; rfl) :
    PS X (.For tg iter body [] pos) (tS G Wt (cFor (cItDc g sel) A F)) := by
  have h0 := s_forX hp hc (hi (wLk X Wt)) ht (hb (wLk X Wt) (takes_lk tk)) hs (pos := pos)
  refine (ps_or (ps_nofrz (ps_lock h0)) h0).weak fun DD σ H ⟨M, ρ, τ, R, q⟩ => ?_
  obtain ⟨ks, ds, eg⟩ := cItDc_some2 q
  obtain ⟨d, kvs, hrd, na, hEx⟩ := hg M ρ τ σ H ks ds R eg
  rcases hrd with hd | ⟨od, hd⟩
  · left
    refine ⟨d, .dK kvs, hd, True.intro, fun hn => ⟨d, .dK kvs, hd, True.intro, fun od => ?_⟩⟩
    have h00 := h0_cases R hd
    have RL := R.locked (od := od) hd na
    have go : ∀ {ρ' τ' σ' H'}, RS G (lockM M d (frzD od kvs)) ρ' τ' σ' H' → H' d = some (frzD od kvs) ∧ RS G M ρ' τ' σ' (upd H' d (.dK kvs)) := fun R' => ⟨lock_at R', RS.unlocked R.re.inb h00 R'⟩
    refine ⟨_, ρ, τ, RL, hEx _ _ od upd_same (fun a C dx fs e => by
      have z : a ≠ d := fun z => by subst z; rw [hd] at e; cases e
      rw [upd_ne z]; exact e), ?_⟩
    cases ef : cFor (cItDc g sel) A F ρ with
    | stuck => rw [ef] at q; exact q.elim
    | exc c fs ρ' =>
      rw [ef] at q
      exact fun dd vs σ' H' hx R' => .inr ⟨d, od, kvs, hn, (go R').1, q dd vs σ' _ (rx_upd hx (go R').1 (fun _ z => nomatch z)) (go R').2⟩
    | ok a =>
      rw [ef] at q
      obtain ⟨f, ρ'⟩ := a
      cases f with
      | nx => exact fun σ' H' R' => ⟨(go R').1, q σ' _ (go R').2⟩
      | bk => exact fun σ' H' R' => ⟨(go R').1, q σ' _ (go R').2⟩
      | ct => exact fun σ' H' R' => ⟨(go R').1, q σ' _ (go R').2⟩
      | rt w => exact fun v σ' H' R' => ⟨(go R').1, q v σ' _ (go R').2⟩
  · right
    have h00 := h0_cases R hd
    have RL := R.lockedF (od := od) hd na
    have go : ∀ {ρ' τ' σ' H'}, RS G (lockM M d (frzD od kvs)) ρ' τ' σ' H' → RS G M ρ' τ' σ' H' := fun R' => RS.keepLock R.re.inb h00 R'
    refine ⟨_, ρ, τ, RL, hEx _ _ od upd_same (fun a C dx fs e => e), ?_⟩
    cases ef : cFor (cItDc g sel) A F ρ with
    | stuck => rw [ef] at q; exact q.elim
    | exc c fs ρ' =>
      rw [ef] at q
      exact fun dd vs σ' H' hx R' => .inl (q dd vs σ' _ hx (go R'))
    | ok a =>
      rw [ef] at q
      obtain ⟨f, ρ'⟩ := a
      cases f with
      | nx => exact fun σ' H' R' => q σ' _ (go R')
      | bk => exact fun σ' H' R' => q σ' _ (go R')
      | ct => exact fun σ' H' R' => q σ' _ (go R')
      | rt w => exact fun v σ' H' R' => q v σ' _ (go R')
end
end Dl
/-! dict(pairs) -/
namespace Dl
open PySem PySem.Spec L2
open PyProof.Rows hiding St
end Dl
/-! x, y = a, b where a name lies in a cell -/
namespace Dl
open PySem PySem.Spec L2
open PyProof.Rows hiding St
section
variable {X : Cx} {G : Gam} {Wt : WX} {Fs : FA} {i j l : Nat} {a b c t1 t2 t3 : Expr} {pos : Pos}
theorem par_tup {M : Fm} {ρ : Env} {τ : List Ent} {σ : St} {H : Hp} {vs : List V} {p : Addr} (R : RS G M ρ τ σ H) (hp : H p = none) : RS G M ρ τ σ (upd H p (.tup vs)) ∧ SqT X.K (upd H p (.tup vs)) p vs :=
  ⟨R.grow (kept_upd hp), .inl (.inl upd_same)⟩
theorem s_par2C {kt k2 : Nat} {pt pt2 : Pos} (hc : X.calm = true) (h1 : PG X t1 (tG G (gSet i))) (h2 : PG X t2 (tG G (gSet j))) (ha : PA X [a, b] (tA G Wt Fs))
    (hs : swapsWithSole [.Tuple [t1, t2] kt pt] (.Tuple [a, b] k2 pt2) pos.line X.env = pure false := by rfl) (hw : swappedStores [.Tuple [t1, t2] kt pt] (.Tuple [a, b] k2 pt2) X.env = pure none := by rfl)
    (hs1 : (assignEach [t1, t2] X.env).map (·.2) = assign t1 X.env :: (assignEach [t2] X.env).map (·.2) := by rfl) (hs2 : (assignEach [t2] X.env).map (·.2) = assign t2 X.env :: (assignEach [] X.env).map (·.2) := by rfl)
    (hn : (assignEach [t1, t2] X.env).length = 2 := by rfl) (hst : (assignEach [t1, t2] X.env).findIdx? (·.1) = none := by rfl)
    (h0 : (assignEach [.Tuple [t1, t2] kt pt] X.env).map (·.2) = [assign (.Tuple [t1, t2] kt pt) X.env] := by rfl) :
    PS X (.Assign [.Tuple [t1, t2] kt pt] (.Tuple [a, b] k2 pt2) pos) (tS G Wt (cPar2 i j Fs)) := by
  refine (ps_asg (pe_tup ha) (pg_tup hc (pgs_cons h1 (pgs_cons h2 pgs_nil hs2) hs1) hn hst) hs hw h0).weak fun D σ H ⟨M, ρ, τ, R, q⟩ => ⟨M, ρ, τ, R, postA_S q fun ws ρ1 vs H1 l R1 p => ?_⟩
  unfold par2 at p
  split at p
  · rename_i w1 w2
    obtain ⟨v, u, rfl⟩ : ∃ v u, vs = [v, u] := by
      cases vs with
      | nil => cases l
      | cons v r => cases r with
        | nil => simp at l
        | cons u r => cases r with
          | nil => exact ⟨v, u, rfl⟩
          | cons _ _ => simp at l
    refine ⟨by rw [sizeLine_eq]; simp, fun z hz => ?_⟩
    have R2 : RS G M ρ1 ((some v, w1) :: (some u, w2) :: τ) σ H1 := R1
    obtain ⟨R3, hq⟩ := par_tup (X := X) (vs := [v, u]) R2 hz
    split at p
    · rename_i ρ2 e2
      split at p
      · rename_i ρ3 e3
        exact ⟨z, [v, u], rfl, hq, rfl, v, [u], rfl, M, ρ1, _, w1, ρ2, R3, e2, fun σ1 H2 R4 => ⟨u, [], rfl, M, ρ2, τ, w2, ρ3, R4, e3, fun σ2 H3 R5 => ⟨rfl, p σ2 H3 R5⟩⟩⟩
      · exact p.elim
    · exact p.elim
  · exact p.elim
end
end Dl
/-! x in a list, by an item's == of any depth -/
namespace Dl
open PySem PySem.Spec L2
open PyProof.Rows hiding St
end Dl
namespace Dl
open PySem PySem.Spec L2
open PyProof.Rows hiding St
end Dl
namespace Dl
open PySem PySem.Spec L2
open PyProof.Rows hiding St
open PySem.W (findIn subIn)
end Dl
namespace Dl
open PySem PySem.Spec L2
open PyProof.Rows hiding St
/-! ### enumerate of a tuple -/
/-! a slot read without being moved: an owned value is lent for good -/
end Dl
/-! own subscripts, own `in`; tuples times an int -/
namespace Dl
open PySem PySem.Spec L2
open PyProof.Rows hiding St
open PySem.W (InstAt findIn isFn selfFirst typeIn subIn)
/-! ### tuple * int -/
end Dl
/-! max, min of a list of ints; a list times an int -/
namespace Dl
open PySem PySem.Spec L2
open PyProof.Rows hiding St
end Dl
set_option maxHeartbeats 1000000
/-! zip of a list and a tuple: the library knows two lists and two tuples -/
namespace Dl.ZM
open PySem PySem.Spec PyProof.Rows L2 RZ
open PySem.Sem (wp)
/-! ### zip of a list with a list or a tuple: the rule -/
end Dl.ZM
namespace Dl
open PySem PySem.Spec L2
/-! ### texts are compared -/
end Dl
namespace Dl
open PySem PySem.Spec L2
open PyProof.Rows hiding St
/-! ### objects that nothing represented speaks of: frozen in the frame -/
def frzF (M : Fm) (F : Hp) : Fm := ⟨M.P, fun a => M.S0 a ∨ ∃ o, F a = some o, fun a => match F a with
  | some o => some o
  | none => M.H0 a⟩
section
variable {G : Gam} {M : Fm} {F : Hp} {ρ : Env} {τ : List Ent} {σ : St} {H : Hp}
theorem RS.frz0 (R : RS G M ρ τ σ H) : RS G (frzF M fun _ => none) ρ τ σ H := by
  have e : frzF M (fun _ => none) = M := by
    cases M with
    | mk P S0 H0 =>
      unfold frzF
      congr 1
      funext a
      simp
  rw [e]
  exact R
theorem frz_at (R : RS G (frzF M F) ρ τ σ H) {a : Addr} {o : HO} (h : F a = some o) : H a = some o := R.re.same a o (by
  show (match F a with | some o => some o | none => M.H0 a) = some o
  rw [h])
theorem frz_own (R : RS G (frzF M F) ρ τ σ H) {a : Addr} {o : HO} (h : F a = some o) : a ∉ owns (ents σ ρ ++ τ) := fun z => by
  have n : (match F a with | some o => some o | none => M.H0 a) = none := R.re.new a z
  rw [h] at n
  cases n
theorem RS.frz (R : RS G (frzF M F) ρ τ σ H) {p : Addr} {o : HO} (h : H p = none ∨ ∃ o, F p = some o) : RS G (frzF M (upd F p o)) ρ τ σ (upd H p o) := by
  have np : p ∉ owns (ents σ ρ ++ τ) := fun z => by
    rcases h with h | ⟨o', h⟩
    · obtain ⟨o', e⟩ := R.re.there z
      rw [h] at e
      cases e
    · exact frz_own R h z
  refine ⟨R.len, fun a o' e => ?_, fun a ha => ?_, R.re.nd, fun a ha => ?_, fun e he => ?_⟩
  · by_cases z : a = p
    · subst z
      have e' : (match upd F a o a with | some o => some o | none => M.H0 a) = some o' := e
      rw [upd_same] at e' ⊢
      exact e'
    · have e' : (match upd F p o a with | some o => some o | none => M.H0 a) = some o' := e
      rw [upd_ne z] at e' ⊢
      exact R.re.same a o' e'
  · show ∃ o', (match upd F p o a with | some o => some o | none => M.H0 a) = some o'
    by_cases z : a = p
    · subst z
      rw [upd_same]
      exact ⟨_, rfl⟩
    · rw [upd_ne z]
      refine R.re.inb a ?_
      rcases ha with ha | ⟨o', ha⟩
      · exact .inl ha
      · rw [upd_ne z] at ha
        exact .inr ⟨o', ha⟩
  · have z : a ≠ p := fun z => by subst z; exact np ha
    show (match upd F p o a with | some o => some o | none => M.H0 a) = none
    rw [upd_ne z]
    exact R.re.new a ha
  · refine (R.re.all e he).tr (Tr.of fun a o' na e' => ?_) fun a ha => ?_
    · have z : a ≠ p := fun z => by
        subst z
        rcases h with h | ⟨o2, h⟩
        · rw [h] at e'
          cases e'
        · exact na (.inl (.inr ⟨o2, h⟩))
      refine ⟨by rw [upd_ne z]; exact e', fun y => na ?_⟩
      rcases y with (y | ⟨o2, y⟩) | y
      · exact .inl (.inl y)
      · rw [upd_ne z] at y
        exact .inl (.inr ⟨o2, y⟩)
      · exact .inr y
    · have z : a ≠ p := fun z => by subst z; exact np (mem_owns.mpr ⟨e, he, ha⟩)
      rw [upd_ne z]
theorem RS.unfrz (R : RS G (frzF M F) ρ τ σ H) (h0 : ∀ a o, F a = some o → M.H0 a = none) (hb : ∀ p, M.S0 p → ∃ o, M.H0 p = some o) : RS G M ρ τ σ H := by
  refine ⟨R.len, fun a o e => R.re.same a o ?_, hb, R.re.nd, fun a ha => ?_, fun e he => ?_⟩
  · show (match F a with | some o => some o | none => M.H0 a) = some o
    cases ef : F a with
    | none => exact e
    | some o' =>
      rw [h0 a o' ef] at e
      cases e
  · have n : (match F a with | some o => some o | none => M.H0 a) = none := R.re.new a ha
    cases ef : F a with
    | none =>
      rw [ef] at n
      exact n
    | some o' =>
      rw [ef] at n
      cases n
  · refine (R.re.all e he).tr (Tr.of fun a o' na e' => ⟨e', fun y => na ?_⟩) fun a ha => rfl
    rcases y with y | y
    · exact .inl (.inl y)
    · exact .inr y
/-- a frozen object is none of what is avoided without it -/
theorem frz_free (R : RS G (frzF M F) ρ τ σ H) (h0 : ∀ a o, F a = some o → M.H0 a = none) (hb : ∀ p, M.S0 p → ∃ o, M.H0 p = some o) {a : Addr} {o : HO} (h : F a = some o) : ¬ avoid M.S0 (ents σ ρ ++ τ) a := fun y => by
  rcases y with y | y
  · obtain ⟨o', e⟩ := hb a y
    rw [h0 a o h] at e
    cases e
  · exact frz_own R h y
end
/-! ### a list of fresh lists that are appended to -/
structure Nst (M : Fm) (F : Hp) (Da : Addr) (as : List Addr) (vss : List (List V)) : Prop where
  top : F Da = some (.lst (as.map V.ref))
  out : Da ∉ as
  nd : as.Nodup
  inn : ∀ (i : Nat) (a : Addr), as[i]? = some a → ∃ vs, vss[i]? = some vs ∧ F a = some (.lst vs)
  len : vss.length = as.length
  fr : ∀ a o, F a = some o → M.H0 a = none
def CT (τc : List Ent) (vss : List (List V)) (acc : List (List D)) : Prop :=
  acc.length = vss.length ∧ ∀ (i : Nat) (vs : List V) (ds : List D), vss[i]? = some vs → acc[i]? = some ds → vs.length = ds.length ∧ ∀ (j : Nat) (v : V) (d : D), vs[j]? = some v → ds[j]? = some d → (some v, Sl.val d) ∈ τc
def NstS (G : Gam) (M : Fm) (Da : Addr) (as : List Addr) (iRows : Nat) (τ0 : List Ent) (ρ : Env) (acc : List (List D)) (σ : St) (H : Hp) : Prop :=
  ∃ (F : Hp) (vss : List (List V)) (τc : List Ent), RS G (frzF M F) ρ (τc ++ τ0) σ H ∧ Nst M F Da as vss ∧ CT τc vss acc ∧ σ[iRows]? = some (some (.ref Da))
theorem CT.mono {τc τc' : List Ent} {vss : List (List V)} {acc : List (List D)} (h : CT τc vss acc) (k : ∀ e ∈ τc, e ∈ τc') : CT τc' vss acc :=
  ⟨h.1, fun i vs ds h1 h2 => ⟨(h.2 i vs ds h1 h2).1, fun j v d h3 h4 => k _ ((h.2 i vs ds h1 h2).2 j v d h3 h4)⟩⟩
theorem CT.app {τc : List Ent} {vss : List (List V)} {acc : List (List D)} (h : CT τc vss acc) {k : Nat} {vs : List V} {ds : List D} {v : V} {d : D} (h1 : vss[k]? = some vs) (h2 : acc[k]? = some ds) : CT ((some v, .val d) :: τc) (vss.set k (vs ++ [v])) (acc.set k (ds ++ [d])) := by
  obtain ⟨l1, l2⟩ := h
  refine ⟨by rw [List.length_set, List.length_set]; exact l1, fun i vs' ds' g1 g2 => ?_⟩
  obtain ⟨e1, e2⟩ := l2 k vs ds h1 h2
  have hk1 : k < vss.length := (List.getElem?_eq_some_iff.mp h1).1
  have hk2 : k < acc.length := (List.getElem?_eq_some_iff.mp h2).1
  by_cases hik : i = k
  · subst hik
    rw [List.getElem?_set_self hk1] at g1
    rw [List.getElem?_set_self hk2] at g2
    cases g1
    cases g2
    refine ⟨by simp [e1], fun j v' d' j1 j2 => ?_⟩
    by_cases hj : j < vs.length
    · rw [List.getElem?_append_left hj] at j1
      rw [List.getElem?_append_left (by omega)] at j2
      exact List.mem_cons_of_mem _ (e2 j v' d' j1 j2)
    · rw [List.getElem?_append_right (by omega)] at j1
      rw [List.getElem?_append_right (by omega), ← e1] at j2
      generalize j - vs.length = m at *
      cases m with
      | zero =>
        have a1 : v = v' := by simpa using j1
        have a2 : d = d' := by simpa using j2
        subst a1 a2
        exact List.mem_cons_self
      | succ m => simp at j1
  · rw [List.getElem?_set_ne (Ne.symm hik)] at g1 g2
    obtain ⟨a1, a2⟩ := l2 i vs' ds' g1 g2
    exact ⟨a1, fun j v' d' j1 j2 => List.mem_cons_of_mem _ (a2 j v' d' j1 j2)⟩
theorem Nst.app {M : Fm} {F : Hp} {Da : Addr} {as : List Addr} {vss : List (List V)} (h : Nst M F Da as vss) {k : Nat} {a : Addr} {vs : List V} (ha : as[k]? = some a) : Nst M (upd F a (.lst vs)) Da as (vss.set k vs) := by
  have hd : Da ≠ a := fun z => h.out (by rw [z]; exact List.mem_of_getElem? ha)
  have hk : k < as.length := (List.getElem?_eq_some_iff.mp ha).1
  obtain ⟨vs0, _, fa⟩ := h.inn k a ha
  refine ⟨by rw [upd_ne hd]; exact h.top, h.out, h.nd, fun i b hb => ?_, by rw [List.length_set]; exact h.len, fun b o hb => ?_⟩
  · by_cases hik : i = k
    · subst hik
      rw [ha] at hb
      cases hb
      exact ⟨vs, by rw [List.getElem?_set_self (by rw [h.len]; exact hk)], upd_same⟩
    · obtain ⟨us, u1, u2⟩ := h.inn i b hb
      have hne : b ≠ a := fun z => by
        subst z
        obtain ⟨i1, i2⟩ := List.getElem?_eq_some_iff.mp hb
        exact hik ((List.getElem?_inj i1 h.nd).mp (hb.trans ha.symm))
      exact ⟨us, by rw [List.getElem?_set_ne (Ne.symm hik)]; exact u1, by rw [upd_ne hne]; exact u2⟩
  · by_cases z : b = a
    · subst z
      exact h.fr b _ fa
    · rw [upd_ne z] at hb
      exact h.fr b o hb
section
variable {G : Gam} {M : Fm} {ρ : Env} {τ : List Ent} {σ : St} {H : Hp}
theorem RS.addNo (R : RS G M ρ τ σ H) (v : Option V) : RS G M ρ ((v, .none) :: τ) σ H := by
  refine ⟨R.len, ?_⟩
  have k := RE.next (A := []) (A' := [(v, Sl.none)]) (B := ents σ ρ ++ τ) (H' := H) R.re R.re.same (by rw [owns_none]; exact List.nodup_nil) (fun p h => by rw [owns_none] at h; cases h) (fun p h => by rw [owns_none] at h; cases h) (fun p o h => by rw [owns_none] at h; cases h) (fun a o e _ => e) (fun e he => by
    rw [List.mem_singleton] at he
    subst he
    cases v <;> trivial)
  exact k.perm (by
    show ((v, Sl.none) :: (ents σ ρ ++ τ)).Perm (ents σ ρ ++ ((v, Sl.none) :: τ))
    exact List.perm_middle.symm)
/-- the leaving: the lists are data that all may see -/
theorem NstS.leave {Da : Addr} {as : List Addr} {iRows : Nat} {τ0 : List Ent} {acc : List (List D)} (h : NstS G M Da as iRows τ0 ρ acc σ H) (hb : ∀ p, M.S0 p → ∃ o, M.H0 p = some o) : RS G M ρ ((some (.ref Da), .val (.lst (acc.map D.lst))) :: τ0) σ H := by
  obtain ⟨F, vss, τc, R, n, c, hr⟩ := h
  have R0 := R.unfrz n.fr hb
  have reps : ∀ (i : Nat) (a : Addr) (ds : List D), as[i]? = some a → acc[i]? = some ds → Rep G (avoid M.S0 (ents σ ρ ++ (τc ++ τ0))) H (.lst ds) (.ref a) := fun i a ds ha hd => by
    obtain ⟨vs, v1, v2⟩ := n.inn i a ha
    obtain ⟨e1, e2⟩ := c.2 i vs ds v1 hd
    have rr : Reps G (avoid M.S0 (ents σ ρ ++ (τc ++ τ0))) H ds vs := by
      have : ∀ (vs : List V) (ds : List D), vs.length = ds.length → (∀ (j : Nat) (v : V) (d : D), vs[j]? = some v → ds[j]? = some d → (some v, Sl.val d) ∈ τc) → Reps G (avoid M.S0 (ents σ ρ ++ (τc ++ τ0))) H ds vs := by
        intro vs
        induction vs with
        | nil =>
          intro ds hl _
          cases ds with
          | nil => exact Reps.nil
          | cons d ds => simp at hl
        | cons v vs ih =>
          intro ds hl hm
          cases ds with
          | nil => simp at hl
          | cons d ds =>
            obtain ⟨u, eu, r⟩ := R0.val (List.mem_append_left _ (hm 0 v d rfl rfl))
            cases eu
            exact Reps.cons r (ih ds (by simpa using hl) fun j v' d' j1 j2 => hm (j + 1) v' d' (by simpa using j1) (by simpa using j2))
      exact this vs ds e1 e2
    have fa := frz_at R v2
    exact OwnAt.rep (d := .lst ds) ⟨vs, fa, rr⟩ (frz_free R n.fr hb v2)
  have rD : Rep G (avoid M.S0 (ents σ ρ ++ (τc ++ τ0))) H (.lst (acc.map D.lst)) (.ref Da) := by
    refine OwnAt.rep (d := .lst (acc.map D.lst)) ⟨as.map V.ref, frz_at R n.top, ?_⟩ (frz_free R n.fr hb n.top)
    have hl : acc.length = as.length := by rw [c.1, n.len]
    have : ∀ (acc : List (List D)) (as : List Addr), acc.length = as.length → (∀ (i : Nat) (a : Addr) (ds : List D), as[i]? = some a → acc[i]? = some ds → Rep G (avoid M.S0 (ents σ ρ ++ (τc ++ τ0))) H (.lst ds) (.ref a)) → Reps G (avoid M.S0 (ents σ ρ ++ (τc ++ τ0))) H (acc.map D.lst) (as.map V.ref) := by
      intro acc
      induction acc with
      | nil =>
        intro as hl _
        cases as with
        | nil => exact Reps.nil
        | cons a as => simp at hl
      | cons ds acc ih =>
        intro as hl hm
        cases as with
        | nil => simp at hl
        | cons a as => exact Reps.cons (hm 0 a ds rfl rfl) (ih as (by simpa using hl) fun i a' ds' i1 i2 => hm (i + 1) a' ds' (by simpa using i1) (by simpa using i2))
    exact this acc as hl reps
  have R1 := R0.addVal rD
  exact RS.drop (τ' := τc) (R1.perm List.perm_middle.symm)
end
/-! ### the two statements: data and rule -/
def nestD (iOne iRow : Nat) (T : FT) (E : FE) : List D → Env → List (List D) → Res (List (List D) × Env)
  | [], ρ, acc => .ok (acc, ρ)
  | d :: ds, ρ, acc => match setSl iOne (.val d) ρ with
    | none => .stuck
    | some ρ1 => match T ρ1 with
      | .ok (true, ρ2) => (match E ρ2 with
        | .ok (.val (.int (.ofNat k)), ρ3) => (match acc[k]?, setSl iRow .none ρ3 with
          | some r, some ρ4 => (match shortN r.length with
            | true => nestD iOne iRow T E ds ρ4 (acc.set k (r ++ [d]))
            | false => .stuck)
          | _, _ => .stuck)
        | _ => .stuck)
      | .ok (false, ρ2) => nestD iOne iRow T E ds ρ2 acc
      | _ => .stuck
def cNest (iRows iOne iRow : Nat) (Ns : FA) (L : FE) (T : FT) (E : FE) : FS := fun ρ => match Ns ρ with
  | .ok ([.val (.int (.ofNat n))], ρ1) => (match Nat.blt n 100000, setSl iRows .none ρ1 with
    | true, some ρ2 => (match L ρ2 with
      | .ok (w, ρ3) => (match lstD (shr w) with
        | some ds => (match nestD iOne iRow T E ds ρ3 (List.replicate n []) with
          | .ok (acc, ρ4) => (match setSl iRows (.val (.lst (acc.map D.lst))) ρ4 with
            | some ρ5 => .ok (.nx, ρ5)
            | none => .stuck)
          | _ => .stuck)
        | none => .stuck)
      | _ => .stuck)
    | _, _ => .stuck)
  | _ => .stuck
theorem cNest_or (iRows iOne iRow : Nat) (Ns : FA) (L : FE) (T : FT) (E : FE) (ρ : Env) : (∃ (n : Nat) (ρ1 ρ2 : Env) (w : Sl) (ρ3 : Env) (ds : List D) (acc : List (List D)) (ρ4 ρ5 : Env), Ns ρ = .ok ([.val (.int (n : Nat))], ρ1) ∧ n < 100000 ∧ setSl iRows .none ρ1 = some ρ2 ∧ L ρ2 = .ok (w, ρ3) ∧ lstD (shr w) = some ds ∧ nestD iOne iRow T E ds ρ3 (List.replicate n []) = .ok (acc, ρ4) ∧ setSl iRows (.val (.lst (acc.map D.lst))) ρ4 = some ρ5 ∧ cNest iRows iOne iRow Ns L T E ρ = .ok (.nx, ρ5)) ∨ cNest iRows iOne iRow Ns L T E ρ = .stuck := by
  unfold cNest
  split
  · rename_i n ρ1 e1
    split
    · rename_i ρ2 e2 e3
      split
      · rename_i w ρ3 e4
        split
        · rename_i ds e5
          split
          · rename_i acc ρ4 e6
            split
            · rename_i ρ5 e7
              exact .inl ⟨n, ρ1, ρ2, w, ρ3, ds, acc, ρ4, ρ5, e1, Nat.le_of_ble_eq_true e2, e3, e4, e5, e6, e7, rfl⟩
            · exact .inr rfl
          · exact .inr rfl
        · exact .inr rfl
      · exact .inr rfl
    · exact .inr rfl
  · exact .inr rfl
section
variable {X : Cx} {G : Gam} {Wt : WX} {M : Fm} {T : FT} {E : FE} {Da : Addr} {as : List Addr} {iRows iOne iRow : Nat} {τ0 : List Ent}
theorem sl_len {i : Nat} {w : Sl} {ρ ρ' : Env} (h : setSl i w ρ = some ρ') : i < ρ.length := by
  unfold setSl at h
  split at h
  · cases h
  · rename_i e
    exact (List.getElem?_eq_some_iff.mp e).1
  · cases h
/-- the body of the loop -/
theorem nest_body (h1 : iRows ≠ iOne) (h2 : iRows ≠ iRow) (h3 : iOne ≠ iRow) (hK : X.K = G.K) {d : D} {ds : List D} {ρ ρ1 ρF : Env} {acc accF : List (List D)} {σ : St} {H : Hp} {x : V} {F : Hp} {vss : List (List V)} {τc : List Ent}
    (R : RS G (frzF M F) ρ ((some x, .val d) :: (τc ++ τ0)) σ H) (n : Nst M F Da as vss) (c : CT τc vss acc) (hr : σ[iRows]? = some (some (.ref Da))) (hs : setSl iOne (.val d) ρ = some ρ1) (run : nestD iOne iRow T E (d :: ds) ρ acc = .ok (accF, ρF)) (D : Ends)
    (hD : ∀ σ' H' ρ' acc', NstS G M Da as iRows τ0 ρ' acc' σ' H' → nestD iOne iRow T E ds ρ' acc' = .ok (accF, ρF) → D.nx σ' H') :
    tIfS (tT G Wt T) (tSeq (tAsg (tOp (rIxL X.K) (tVar iRows) (tE G Wt E)) (gName iRow)) (tSeq (tDrop (tBM X.K "list" rAppend (tVar iRow) (tCons (tVar iOne) tNil))) tNext)) tNext D (σ.set iOne (some x)) H := by
  -- the item stays known
  have Rd : RS G (frzF M F) ρ ((some x, .val d) :: ((some x, .val d) :: (τc ++ τ0))) σ H := by
    obtain ⟨u, eu, r⟩ := R.val List.mem_cons_self
    cases eu
    exact R.addVal r
  have R1 : RS G (frzF M F) ρ1 ((some x, .val d) :: (τc ++ τ0)) (σ.set iOne (some x)) H := Rd.put hs
  have ho : iOne < σ.length := by rw [← R.len]; exact sl_len hs
  have hr1 : (σ.set iOne (some x))[iRows]? = some (some (.ref Da)) := by rw [List.getElem?_set_ne (Ne.symm h1)]; exact hr
  have hx1 : (σ.set iOne (some x))[iOne]? = some (some x) := List.getElem?_set_self ho
  generalize σ.set iOne (some x) = σ1 at *
  have run : (match setSl iOne (.val d) ρ with
    | none => Res.stuck
    | some ρ1 => match T ρ1 with
      | .ok (true, ρ2) => (match E ρ2 with
        | .ok (.val (.int (.ofNat k)), ρ3) => (match acc[k]?, setSl iRow .none ρ3 with
          | some r, some ρ4 => (match shortN r.length with
            | true => nestD iOne iRow T E ds ρ4 (acc.set k (r ++ [d]))
            | false => .stuck)
          | _, _ => .stuck)
        | _ => .stuck)
      | .ok (false, ρ2) => nestD iOne iRow T E ds ρ2 acc
      | _ => .stuck) = .ok (accF, ρF) := run
  rw [hs] at run
  dsimp only at run
  refine ⟨frzF M F, ρ1, (some x, .val d) :: (τc ++ τ0), R1, ?_⟩
  split at run
  · rename_i ρ2 eT
    rw [eT]
    intro H2 R2
    show (if true = true then _ else _)
    rw [if_pos rfl]
    split at run
    · rename_i k ρ3 eE
      split at run
      · rename_i r ρ4 ea e4
        split at run
        · rename_i esh
          refine ⟨.ref Da, hr1, frzF M F, ρ2, (some x, .val d) :: (τc ++ τ0), R2, ?_⟩
          rw [eE]
          intro v H3 R3
          have ev := Option.some.inj (R3.flat (v := some v) (d := .int (k : Nat)) List.mem_cons_self rfl)
          subst ev
          have R4 := R3.drop1
          have hk : k < acc.length := (List.getElem?_eq_some_iff.mp ea).1
          have hka : k < as.length := by rw [← n.len, ← c.1]; exact hk
          have hak : as[k]? = some as[k] := List.getElem?_eq_getElem hka
          obtain ⟨vs, v1, v2⟩ := n.inn k _ hak
          generalize as[k] = a at *
          have top := frz_at R4 n.top
          refine ⟨Da, as.map V.ref, (k : Int), .ref a, rfl, rfl, SqL.of top, atI_nat (by rw [List.getElem?_map, hak]; rfl), ?_⟩
          have hrl : iRow < σ1.length := by rw [← R4.len]; exact sl_len e4
          have R5 : RS G (frzF M F) ρ4 ((some x, .val d) :: (τc ++ τ0)) (σ1.set iRow (some (.ref a))) H3 := (R4.addNo (some (.ref a))).put e4
          have hrow : (σ1.set iRow (some (.ref a)))[iRow]? = some (some (.ref a)) := List.getElem?_set_self hrl
          have hone : (σ1.set iRow (some (.ref a)))[iOne]? = some (some x) := by rw [List.getElem?_set_ne (Ne.symm h3)]; exact hx1
          have hrows : (σ1.set iRow (some (.ref a)))[iRows]? = some (some (.ref Da)) := by rw [List.getElem?_set_ne (Ne.symm h2)]; exact hr1
          have va := frz_at R5 v2
          obtain ⟨e1, _⟩ := c.2 k vs r v1 ea
          refine ⟨.ref a, hrow, .inl ⟨rfl, vs, SqL.of va⟩, x, hone, a, vs, x, rfl, rfl, va, by rw [e1]; exact short_ok esh, ?_⟩
          have R6 := R5.frz (p := a) (o := .lst (vs ++ [x])) (.inr ⟨_, v2⟩)
          exact hD _ _ _ _ ⟨_, _, (some x, .val d) :: τc, R6, n.app hak, c.app v1 ea, hrows⟩ run
        · cases run
      · cases run
    · cases run
  · rename_i ρ2 eT
    rw [eT]
    intro H2 R2
    show (if false = true then _ else _)
    rw [if_neg Bool.false_ne_true]
    exact hD _ _ _ _ ⟨F, vss, (some x, .val d) :: τc, R2, n, c.mono fun e he => List.mem_cons_of_mem _ he, hr1⟩ run
  · cases run
end
section
variable {X : Cx} {G : Gam} {Wt : WX}
theorem yes_i {σ : St} {H : Hp} {P Q : Hp → Prop} (h : P H) : tYes σ H fun b H3 => if b = true then P H3 else Q H3 := by
  show (if true = true then P H else Q H)
  rw [if_pos rfl]
  exact h
theorem set_same' {σ : St} {i : Nat} {v : Option V} (h : σ[i]? = some v) : σ.set i v = σ := by
  apply List.ext_getElem?
  intro j
  by_cases hj : i = j
  · subst hj
    rw [List.getElem?_set_self (List.getElem?_eq_some_iff.mp h).1, h]
  · rw [List.getElem?_set_ne hj]
/-- rows = [[] for _ in range(n)]; for one in l: if c: row = rows[e]; row.append(one) -/
theorem pss_nest {iRows iOne iRow it : Nat} {y yr : Str} {py pr : Pos} {pe : Pos} {tgt N L c e cpe one : Expr} {scope : Scope} {own : List (Str × Nat)} {pos spos fpos ifpos apos xpos : Pos} {rest : List Stmt} {Ns : FA} {FL : FE} {T : FT} {E : FE} {F : FS}
    (h1 : iRows ≠ iOne) (h2 : iRows ≠ iRow) (h3 : iOne ≠ iRow) (hm : it ∈ own.map (·.2)) (hK : X.K = G.K)
    (h1st : PS X (.Assign [.Name y py] (.ListComp (.List [] pe) [⟨tgt, N, [], 0⟩] scope pos) spos) (tAsg (tLc (iRng1 (tA G Wt Ns)) (gName it) tYes (tLst tNil) (own.map (·.2))) (gName iRows)))
    (h2st : PS X (.For one L [.If c [.Assign [.Name yr pr] e apos, .Expr cpe xpos] [] ifpos] [] fpos) (tFor (iList X.K (tE G Wt FL)) (gName iOne) (tSeq (tIfS (tT G Wt T) (tSeq (tAsg (tOp (rIxL X.K) (tVar iRows) (tE G Wt E)) (gName iRow)) (tSeq (tDrop (tBM X.K "list" rAppend (tVar iRow) (tCons (tVar iOne) tNil))) tNext)) tNext) tNext)))
    (hrest : PSs X rest (tS G Wt F)) :
    PSs X (.Assign [.Name y py] (.ListComp (.List [] pe) [⟨tgt, N, [], 0⟩] scope pos) spos :: .For one L [.If c [.Assign [.Name yr pr] e apos, .Expr cpe xpos] [] ifpos] [] fpos :: rest) (tS G Wt (cSeq (cNest iRows iOne iRow Ns FL T E) F)) := by
  refine (pss_cons h1st (pss_cons h2st hrest)).weak fun DD σ H ⟨M, ρ, τ, R, q⟩ => ?_
  rcases cNest_or iRows iOne iRow Ns FL T E ρ with ⟨n, ρ1, ρ2, w, ρ3, ds, accF, ρ4, ρ5, eN, hn, e2, eL, eds, run, e5, eC⟩ | eC
  · unfold cSeq at q
    rw [eC] at q
    have q : postS G Wt M τ (F ρ5) DD := q
    refine ⟨M, ρ, τ, R, ?_⟩
    rw [eN]
    intro vs H1 hl R1
    obtain ⟨v, rfl⟩ : ∃ v, vs = [v] := by
      cases vs with
      | nil => cases hl
      | cons v r => cases r with
        | nil => exact ⟨v, rfl⟩
        | cons _ _ => simp at hl
    have ev := Option.some.inj (R1.flat (v := some v) (d := .int (n : Nat)) (by simp [aents]) rfl)
    subst ev
    refine ⟨(n : Int), rfl, by omega, by omega, ?_⟩
    rw [Int.toNat_natCast]
    intro Da hDa
    have R2 : RS G M ρ1 τ σ H1 := R1.drop (τ' := aents [.int (n : Int)] [.val (.int (n : Nat))])
    have hb := R2.re.inb
    have f0 : ∀ a, H1 a = none → M.H0 a = none := fun a ha => by
      cases e0 : M.H0 a with
      | none => rfl
      | some o =>
        rw [R2.re.same a o e0] at ha
        cases ha
    have R3 : RS G (frzF M (upd (fun _ => none) Da (.lst []))) ρ1 τ σ (upd H1 Da (.lst [])) := R2.frz0.frz (.inl hDa)
    refine ⟨fun i m H => m = n - i ∧ i ≤ n ∧ ∃ (F : Hp) (as : List Addr), RS G (frzF M F) ρ1 τ σ H ∧ Nst M F Da as (List.replicate i []) ∧ as.length = i, ⟨n, rfl, Nat.zero_le _, _, [], R3, ⟨upd_same, by simp, List.nodup_nil, fun i a h => by simp at h, rfl, fun a o h => ?_⟩, rfl⟩, ?_⟩
    · by_cases z : a = Da
      · subst z
        exact f0 a hDa
      · rw [upd_ne z] at h
        cases h
    rintro i m H2 ⟨rfl, hi, F1, as, Ri, ni, hlen⟩
    by_cases hlt : i < n
    · refine .inr ⟨hlt, fun H => i + 1 ≤ n ∧ ∃ (F : Hp) (as : List Addr), RS G (frzF M F) ρ1 τ σ H ∧ Nst M F Da as (List.replicate (i + 1) []) ∧ as.length = i + 1, fun H' h => ⟨n - (i + 1), by omega, rfl, h⟩, ?_⟩
      rintro x H' ⟨rfl, rfl⟩
      refine ⟨(wipe_set hm).trans (wipe_wipe fun i h => h), ?_⟩
      refine yes_i ?_
      refine ⟨Nat.zero_le _, fun p hp => ?_⟩
      have top := frz_at Ri ni.top
      have hpD : Da ≠ p := fun z => by
        subst z
        rw [top] at hp
        cases hp
      have hpa : p ∉ as := fun z => by
        obtain ⟨j, hj⟩ := List.mem_iff_getElem?.mp z
        obtain ⟨us, _, u2⟩ := ni.inn j p hj
        rw [frz_at Ri u2] at hp
        cases hp
      have R4 := Ri.frz (p := p) (o := .lst []) (.inl hp)
      have top1 : upd F1 p (.lst []) Da = some (.lst (as.map V.ref)) := by rw [upd_ne hpD]; exact ni.top
      have R5 := R4.frz (p := Da) (o := .lst ((as ++ [p]).map V.ref)) (.inr ⟨_, top1⟩)
      have fp : M.H0 p = none := by
        cases e0 : M.H0 p with
        | none => rfl
        | some o =>
          have : (match F1 p with | some o => some o | none => M.H0 p) = some o ∨ ∃ o', F1 p = some o' := by
            cases ef : F1 p with
            | none => exact .inl e0
            | some o' => exact .inr ⟨o', rfl⟩
          rcases this with t | ⟨o', t⟩
          · rw [Ri.re.same p o t] at hp
            cases hp
          · rw [frz_at Ri t] at hp
            cases hp
      have em : as.map V.ref ++ [V.ref p] = (as ++ [p]).map V.ref := by rw [List.map_append]; rfl
      refine ⟨as.map V.ref, by rw [upd_ne hpD]; exact top, by rw [List.length_map, hlen]; exact Nat.lt_trans (Nat.lt_trans hlt hn) (short_ok (n := 100000) rfl), hlt, _, as ++ [p], by rw [em]; exact R5, ⟨upd_same, ?_, ?_, fun j a ha => ?_, by rw [List.length_replicate, List.length_append, hlen]; rfl, fun a o ha => ?_⟩, by rw [List.length_append, hlen]; rfl⟩
      · intro z
        rcases List.mem_append.mp z with z | z
        · exact ni.out z
        · exact hpD (by simpa using z)
      · exact List.nodup_append.mpr ⟨ni.nd, by simp, fun a ha b hb2 e => hpa (by
          have : b = p := by simpa using hb2
          rw [← this, ← e]
          exact ha)⟩
      · have hj : j < i + 1 := by
          have := (List.getElem?_eq_some_iff.mp ha).1
          rw [List.length_append, hlen] at this
          exact this
        refine ⟨[], by rw [List.getElem?_replicate, if_pos hj], ?_⟩
        by_cases hji : j < as.length
        · rw [List.getElem?_append_left hji] at ha
          obtain ⟨us, u1, u2⟩ := ni.inn j a ha
          have hus : us = [] := by
            rw [List.getElem?_replicate, if_pos (by omega)] at u1
            exact (Option.some.inj u1).symm
          subst hus
          have hap : a ≠ p := fun z => hpa (by rw [← z]; exact List.mem_of_getElem? ha)
          have haD : a ≠ Da := fun z => ni.out (by rw [← z]; exact List.mem_of_getElem? ha)
          rw [upd_ne haD, upd_ne hap]
          exact u2
        · rw [List.getElem?_append_right (by omega)] at ha
          have hap : a = p := by
            generalize j - as.length = m at ha
            cases m with
            | zero => exact (by simpa using ha.symm)
            | succ m => simp at ha
          subst hap
          rw [upd_ne (Ne.symm hpD), upd_same]
      · by_cases z : a = Da
        · subst z
          exact f0 a hDa
        · rw [upd_ne z] at ha
          by_cases z2 : a = p
          · subst z2
            exact fp
          · rw [upd_ne z2] at ha
            exact ni.fr a o ha
    · have hin : i = n := by omega
      subst hin
      refine .inl ⟨Nat.le_refl _, ?_⟩
      -- the loop
      have R6 : RS G (frzF M F1) ρ2 τ (σ.set iRows (some (.ref Da))) H2 := (Ri.addNo (some (.ref Da))).put e2
      have hrl : iRows < σ.length := by rw [← Ri.len]; exact sl_len e2
      have hr : (σ.set iRows (some (.ref Da)))[iRows]? = some (some (.ref Da)) := List.getElem?_set_self hrl
      show tSeq (tFor (iList X.K (tE G Wt FL)) (gName iOne) _) _ DD (σ.set iRows (some (.ref Da))) H2
      generalize σ.set iRows (some (.ref Da)) = σ2 at *
      refine ⟨frzF M F1, ρ2, τ, R6, ?_⟩
      rw [eL]
      intro v H3 R7
      have R8 := R7.shr1
      obtain ⟨a, us, rfl, hq, _⟩ := lst_ent R8 List.mem_cons_self eds
      rw [← hK] at hq
      refine ⟨a, rfl, ⟨us, hq⟩, fun i m σ H => m = ds.length - i ∧ i ≤ ds.length ∧ ∃ (ρi : Env) (acc : List (List D)), NstS G M Da as iRows ((some (.ref a), shr w) :: τ) ρi acc σ H ∧ nestD iOne iRow T E (ds.drop i) ρi acc = .ok (accF, ρ4), ⟨ds.length, by simp, Nat.zero_le _, ρ3, List.replicate i [], ⟨F1, List.replicate i [], [], R8, ni, ⟨by simp, fun j vs ds' g1 g2 => ?_⟩, hr⟩, run⟩, ?_⟩
      · have e1 : vs = [] := by
          rw [List.getElem?_replicate] at g1
          split at g1
          · exact (Option.some.inj g1).symm
          · cases g1
        have e2 : ds' = [] := by
          rw [List.getElem?_replicate] at g2
          split at g2
          · exact (Option.some.inj g2).symm
          · cases g2
        subst e1 e2
        exact ⟨rfl, fun j v d j1 _ => by simp at j1⟩
      rintro j m σj Hj ⟨rfl, hj, ρj, accj, ⟨Fj, vssj, τc, Rj, nj, cj, hrj⟩, runj⟩
      have Rj' : RS G (frzF M Fj) ρj ([(some (.ref a), shr w)] ++ (τc ++ τ)) σj Hj := Rj.perm List.perm_middle
      obtain ⟨s1, s2⟩ := src_list hK eds ρj (τc ++ τ) σj Hj j Rj'
      by_cases hjl : j < ds.length
      · obtain ⟨g1, g2⟩ := s2 _ (List.getElem?_eq_getElem hjl)
        rw [List.drop_eq_getElem_cons hjl] at runj
        refine .inr ⟨g1, fun σ' H' => ∃ (ρi : Env) (acc : List (List D)), NstS G M Da as iRows ((some (.ref a), shr w) :: τ) ρi acc σ' H' ∧ nestD iOne iRow T E (ds.drop (j + 1)) ρi acc = .ok (accF, ρ4), fun σ' H' h => ⟨ds.length - (j + 1), by omega, rfl, hjl, h⟩, fun x H' y => ?_⟩
        have R9 := g2 x H' y
        have R10 : RS G (frzF M Fj) ρj ((some x, .val ds[j]) :: (τc ++ ((some (.ref a), shr w) :: τ))) σj H' := R9.perm (List.Perm.cons _ (show ((some (V.ref a), shr w) :: (τc ++ τ)).Perm (τc ++ (some (V.ref a), shr w) :: τ) from List.perm_middle.symm))
        cases hs : setSl iOne (.val ds[j]) ρj with
        | none =>
          unfold nestD at runj
          rw [hs] at runj
          cases runj
        | some ρ' =>
          exact nest_body h1 h2 h3 hK R10 nj cj hrj hs runj _ fun σ' H' ρ'' acc'' hN hrun => ⟨ρ'', acc'', hN, hrun⟩
      · have hjl : j = ds.length := by omega
        subst hjl
        rw [List.drop_length] at runj
        have e : Res.ok (accj, ρj) = Res.ok (accF, ρ4) := runj
        cases e
        refine .inl ⟨s1 rfl, ?_⟩
        have R11 := NstS.leave ⟨Fj, vssj, τc, Rj, nj, cj, hrj⟩ hb
        have R12 : RS G M ρ4 ((some (.ref Da), .val (.lst (accF.map D.lst))) :: τ) σj Hj := RS.drop1 (R11.perm (List.Perm.swap _ _ _))
        have R13 := R12.put e5
        rw [set_same' hrj] at R13
        exact ⟨M, ρ5, τ, R13, q⟩
  · unfold cSeq at q
    rw [eC] at q
    exact q.elim
end
/-! ### None against a tuple -/
def nonE : DEq
  | .non, .non => some true
  | .non, .tup _ => some false
  | .tup _, .non => some false
  | _, _ => none
theorem rcD_non {X : Cx} {G : Gam} {ne : Bool} (hK : X.K = G.K) : RcD ne X 1 G nonE := fun A pins s σ H x y u v S d d' b sb I rx ry hS r r' e => by
  have hx : ∀ {z : V} {w : Value}, Rep G S H .non z → RelV z w → w = .none := fun {z w} h q => by
    have h : z = .non := h
    subst h
    cases q
    rfl
  unfold nonE at e
  split at e
  · cases e
    have e1 := hx r rx
    have e2 := hx r' ry
    subst e1 e2
    cases ne with
    | false => exact SeqAt.RcAt.none_none X.prog X.w X.xe _ ⟨rfl, H, I, Ext.rfl'⟩
    | true => exact SeqAt.RcNeAt.none_none X.prog X.w X.xe _ ⟨rfl, H, I, Ext.rfl'⟩
  · cases e
    have e1 := hx r rx
    subst e1
    obtain ⟨q, ys, rfl, hq, rb⟩ := rep_tup hK r'
    cases ry
    obtain ⟨its, rv, pl, hz⟩ := I.tuple hq
    cases ne with
    | false => exact SeqAt.RcAt.none_tuple pl sb.room.units0 X.prog X.w X.xe _ ⟨rfl, H, I, Ext.rfl'⟩
    | true => exact SeqAt.RcNeAt.none_tuple pl sb.room.units0 X.prog X.w X.xe _ ⟨rfl, H, I, Ext.rfl'⟩
  · cases e
    have e2 := hx r' ry
    subst e2
    obtain ⟨q, ys, rfl, hq, rb⟩ := rep_tup hK r
    cases rx
    obtain ⟨its, rv, pl, hz⟩ := I.tuple hq
    cases ne with
    | false => exact SeqAt.RcAt.tuple_none pl sb.room.units0 X.prog X.w X.xe _ ⟨rfl, H, I, Ext.rfl'⟩
    | true => exact SeqAt.RcNeAt.tuple_none pl sb.room.units0 X.prog X.w X.xe _ ⟨rfl, H, I, Ext.rfl'⟩
  · cases e
end Dl
/-! A generator whose consumer has several objects of its own: what stands while it sleeps. -/
namespace Dl
open PySem PySem.Spec L2 GenW
open PyProof.Rows hiding St
/-- the consumer's turn: its own objects (C) may change, v goes behind its list at D, all else stands -/
structure Nap (C : List Addr) (D : Addr) (v : Value) (s s' : Shared) : Prop where
  os : s'.os = s.os
  bare : AllBare s'.gens
  rest : ∀ b o, b ∉ C → s.heap.get? b = some o → s'.heap.get? b = some o
  has : ∀ b ∈ C, ∃ o, s'.heap.get? b = some o ∧ ∀ u, o.data ≠ .cell u
  list : ∀ acc c, s.heap.get? D = some (lstObj acc c) → ∃ c', s'.heap.get? D = some (lstObj (acc.push v) c')
/-- the consumer's objects are none of the generator's frame -/
structure Far (X : Cx) (C : List Addr) : Prop where
  new : ∀ b ∈ C, X.s_0.heap.objs.size ≤ b
  loc : ∀ b ∈ C, b ≠ X.env.locals
  cel : ∀ b ∈ C, ∀ x c, X.env.cells.lookup x = some c → c ≠ b
/-- the generator between two yields: ys is out; t: when it was woken -/
def Mid (X : Cx) (C : List Addr) (D : Addr) (ip : List (Addr × Obj)) (ys : List V) (σ : L2.St) (H : Hp) (t s : Shared) : Prop :=
  ∃ cp : List (Addr × Obj), (∀ b ∈ C, ∃ o, (b, o) ∈ cp) ∧ (∀ p ∈ cp, p.1 ∈ C ∧ t.heap.get? p.1 = some p.2) ∧ (∃ acc c, (D, lstObj acc c) ∈ cp ∧ Vals ys acc.toList) ∧ Inv X (cp ++ ip) σ H s
section
variable {X : Cx} {C : List Addr} {D : Addr} {ip : List (Addr × Obj)} {ys : List V} {σ : L2.St} {H : Hp} {t s s' : Shared}
theorem Mid.off (h : Mid X C D ip ys σ H t s) : ∀ b ∈ C, H b = none := by
  obtain ⟨cp, h1, _, _, I⟩ := h
  intro b hb
  obtain ⟨o, ho⟩ := h1 b hb
  exact (I.pin (b, o) (List.mem_append_right _ (List.mem_append_left _ ho))).2.1
theorem Mid.inv (h : Mid X C D ip ys σ H t s) : Inv X ip σ H s := by
  obtain ⟨cp, _, _, _, I⟩ := h
  exact I.pins_of fun p hp => I.pin p (List.mem_append_right _ (List.mem_append_right _ hp))
theorem Mid.list (h : Mid X C D ip ys σ H t s) : ∃ acc c, s.heap.get? D = some (lstObj acc c) ∧ Vals ys acc.toList := by
  obtain ⟨cp, _, _, ⟨acc, c, hm, r⟩, I⟩ := h
  exact ⟨acc, c, (I.pin (D, lstObj acc c) (List.mem_append_right _ (List.mem_append_left _ hm))).1, r⟩
theorem un_self {fs ch : List Addr} {h h' : Heap} (k : ∀ b o, b ∉ ch → h.get? b = some o → h'.get? b = some o) : Un fs ch H H h h' :=
  ⟨fun b o e _ _ hc => k b o hc e, fun b o e _ _ hc => ⟨o.slots, k b o hc e⟩, fun _ _ _ n _ => n, fun b o e hc => ⟨o, k b o hc e⟩, fun _ _ e => e, fun _ _ _ e => e, fun b ps e => ⟨#[], by rw [e]; simp⟩⟩
theorem hok_self {P : Program} {w : World} {ch : List Addr} {h h' : Heap} (ok : HOk P w H h) (hn : ∀ b ∈ ch, H b = none) (k : ∀ b o, b ∉ ch → h.get? b = some o → h'.get? b = some o) : HOk P w H h' := fun b u e => by
  have nin : ∀ c v, H c = some v → c ∉ ch := fun c v q z => by rw [hn c z] at q; cases q
  refine (ok b u e).stay (fun c v hc q => k c v ?_ q) (fun _ q => q) fun _ _ q => q
  rcases hc with rfl | hc
  · exact nin _ _ e
  · exact nin _ _ hc
theorem Mid.woken {x : V} {v : Value} (hD : D ∈ C) (hf : Far X C) (hpn : ∀ p ∈ X.pn, p.1 ∉ C) (hip : ∀ p ∈ ip, p.1 ∉ C) (h : Mid X C D ip ys σ H t s) (rv : RelV x v) (z : Nap C D v s s') : Mid X C D ip (ys ++ [x]) σ H s' s' := by
  have off := h.off
  obtain ⟨acc, c, eD, r⟩ := h.list
  have I0 := h.inv
  obtain ⟨cp, h1, h2, _, I⟩ := h
  obtain ⟨c', eD'⟩ := z.list acc c eD
  have J : Inv X ip σ H s' := I0.call' (ch := C) z.os (un_self z.rest) (hok_self I0.hok off z.rest) z.bare fun b hb => ⟨.inr (hf.new b hb), hf.loc b hb, hf.cel b hb, fun p hp => by
    rcases List.mem_append.mp hp with y | y
    · exact fun e => hpn p y (by rw [e]; exact hb)
    · exact fun e => hip p y (by rw [e]; exact hb)⟩
  have dD : ∀ b ∈ C, ∃ o, s'.heap.get? b = some o ∧ (∀ u, o.data ≠ .cell u) := z.has
  refine ⟨pinsAt C s'.heap, fun b hb => ?_, fun p hp => of_pinsAt hp, ⟨acc.push v, c', mem_pinsAt hD eD', ?_⟩, J.pins_of fun p hp => ?_⟩
  · obtain ⟨o, e, _⟩ := dD b hb
    exact ⟨o, mem_pinsAt hb e⟩
  · rw [Array.toList_push]
    exact r.append (.cons rv .nil)
  · rcases List.mem_append.mp hp with y | y
    · obtain ⟨hb, e⟩ := of_pinsAt y
      obtain ⟨o, ho⟩ := h1 p.1 hb
      obtain ⟨_, q2, q3, q4, _⟩ := I.pin (p.1, o) (List.mem_append_right _ (List.mem_append_left _ ho))
      obtain ⟨o', e', d⟩ := dD p.1 hb
      rw [e] at e'
      cases e'
      exact ⟨e, q2, q3, q4, d⟩
    · exact J.pin p (List.mem_append_right _ y)
/-! ### the protocol of such a generator, its statements -/
def GYd (X : Cx) (C : List Addr) (D : Addr) : Protocol := fun n s₀ v s kap =>
  ∃ ys x ip σ H, n + 1 + ys.length = sizeLine ∧ RelV x v ∧ Mid X C D ip ys σ H s₀ s ∧ ∀ s', Nap C D v s s' → kap (.send .none) s'
def GPd (X : Cx) (C : List Addr) (D : Addr) (ip : List (Addr × Obj)) (E : GEnds) (ys : List V) (f : Flow) (t s : Shared) : Prop :=
  match f with
  | .next => ∃ σ H, Mid X C D ip ys σ H t s ∧ E.nx ys σ H
  | .brk => ∃ σ H, Mid X C D ip ys σ H t s ∧ E.bk ys σ H
  | .cont => ∃ σ H, Mid X C D ip ys σ H t s ∧ E.ct ys σ H
  | .ret u => ∃ v σ H, Mid X C D ip ys σ H t s ∧ RelV v u ∧ E.rt ys v H
/-- where the code stands -/
structure GCd (X : Cx) (C : List Addr) (D : Addr) (ip : List (Addr × Obj)) (A : Around) (c : Code) (fs : List Frame) (gd : Bool → Bool) : Prop where
  mem : D ∈ C
  far : Far X C
  pn : ∀ p ∈ X.pn, p.1 ∉ C
  ip : ∀ p ∈ ip, p.1 ∉ C
  over : A.over c fs = X.A
  split : splitAtGen fs = none
  guard : fs.any Frame.guarded = false
  gd : gd false = false
structure GKd (X : Cx) (C : List Addr) (D : Addr) (ip : List (Addr × Obj)) (A : Around) (R : GenEnd) (c : Code) (fs : List Frame) (K : Flow → Sem PySem.Fin) (J : Value → Sem PySem.Fin) (E : GEnds) : Prop where
  ok : ∀ (n : Nat) (ys : List V) (s₀ s : Shared) (f : Flow), n + ys.length = sizeLine → GPd X C D ip E ys f s₀ s → Seg (model X.prog X.w) A R (GYd X C D) n s₀ c (K f) fs s
  exc : ∀ (n : Nat) (s₀ : Shared) (e : Value) (s : Shared), X.xe e s → Seg (model X.prog X.w) A R (GYd X C D) n s₀ c (J e) fs s
structure GSd (X : Cx) (st : Stmt) (t : TGn) : Prop where
  run : ∀ (A : Around) (C : List Addr) (D : Addr) (ip : List (Addr × Obj)) (R : GenEnd) (n : Nat) (ys : List V) (s₀ : Shared) (c : Code) (fs : List Frame) (K : Flow → Sem PySem.Fin) (J : Value → Sem PySem.Fin) (gd : Bool → Bool) (lv : List Value → List Value) (s : Shared) (σ : L2.St) (H : Hp) (E : GEnds),
    GCd X C D ip A c fs gd → n + ys.length = sizeLine → GKd X C D ip A R c fs K J E → Mid X C D ip ys σ H s₀ s → t E ys σ H →
    Seg (model X.prog X.w) A R (GYd X C D) n s₀ c ((exec st X.env).wrap K J gd lv) fs s
structure GSsd (X : Cx) (st : List Stmt) (t : TGn) : Prop where
  run : ∀ (A : Around) (C : List Addr) (D : Addr) (ip : List (Addr × Obj)) (R : GenEnd) (n : Nat) (ys : List V) (s₀ : Shared) (c : Code) (fs : List Frame) (K : Flow → Sem PySem.Fin) (J : Value → Sem PySem.Fin) (gd : Bool → Bool) (lv : List Value → List Value) (s : Shared) (σ : L2.St) (H : Hp) (E : GEnds),
    GCd X C D ip A c fs gd → n + ys.length = sizeLine → GKd X C D ip A R c fs K J E → Mid X C D ip ys σ H s₀ s → t E ys σ H →
    Seg (model X.prog X.w) A R (GYd X C D) n s₀ c ((execs st X.env).wrap K J gd lv) fs s
end
end Dl
/-! for over an iterator, in a generator's body. -/
namespace Dl
open PySem PySem.Spec L2 GenW
open PyProof.Rows hiding St
section
variable {X : Cx} {C : List Addr} {D : Addr} {ip : List (Addr × Obj)} {A : Around} {R : GenEnd} {c : Code} {fs : List Frame} {K : Flow → Sem PySem.Fin} {J : Value → Sem PySem.Fin} {gd : Bool → Bool} {lv : List Value → List Value} {E : GEnds} {n : Nat} {s₀ s : Shared}
abbrev Bk (X : Cx) (K : Flow → Sem PySem.Fin) (J : Value → Sem PySem.Fin) (gd : Bool → Bool) (lv : List Value → List Value) : Result → Sem PySem.Fin := fun r => ((match r with | .ok f => (.pure f : Sem Flow) | .error e => .raise e).onRaise (cameBack X.env)).wrap K J gd lv
abbrev noted (X : Cx) (e : Value) : Sem PySem.Fin := (do noteFrame e X.env; theTreesLotGoes e : Sem Unit).wrap (fun _ => .raise e) .raise id id
/-- for x in ..: what is wanted; W by the turn, a measure, what is out -/
def tGFor (wi : TI) (g : TG) (tb : TGn) : TGn := fun E ys σ H => wi σ H fun J H1 => ∃ W : Nat → Nat → List V → L2.St → Hp → Prop, (∃ m, W 0 m ys σ H1) ∧ ∀ i m ys σ H, W i m ys σ H →
  (J.stop i H ∧ E.nx ys σ H) ∨ (J.go i H ∧ ∃ N : List V → L2.St → Hp → Prop, (∀ ys' σ' H', N ys' σ' H' → ∃ m', m' < m ∧ W (i + 1) m' ys' σ' H') ∧ ∀ x H', J.yld i H x H' → g x σ H' fun σ2 H2 => tb { E with nx := N, ct := N, bk := E.nx } ys σ2 H2)
end
end Dl
/-! A generator's body by its data: what it hands out is a list. -/
namespace Dl
open PySem PySem.Spec L2 GenW
open PyProof.Rows hiding St
abbrev FGn := Env → List D → Res (Fl × List D × Env)
def postG (G : Gam) (Wt : WX) (M : Fm) (τ : List Ent) (r : Res (Fl × List D × Env)) (E : GEnds) : Prop := match r with
  | .ok (.nx, acc, ρ') => ∀ ys σ' H', acc.length = ys.length → RS G M ρ' (aents ys (acc.map Sl.val) ++ τ) σ' H' → E.nx ys σ' H'
  | .exc c fs ρ' => ∀ dd vs σ' H', RX G c fs dd vs H' → RS G M ρ' (xents vs fs ++ τ) σ' H' → Wt (.ref (G.ca c)) dd σ' H'
  | _ => False
def tGn (G : Gam) (Wt : WX) (F : FGn) : TGn := fun E ys σ H => ∃ M ρ τ acc, acc.length = ys.length ∧ RS G M ρ (aents ys (acc.map Sl.val) ++ τ) σ H ∧ postG G Wt M τ (F ρ acc) E
theorem GSd.weak {X : Cx} {st : Stmt} {t t' : TGn} (h : GSd X st t) (k : ∀ E ys σ H, t' E ys σ H → t E ys σ H) : GSd X st t' :=
  ⟨fun A C D ip R n ys s₀ c fs K J gd lv s σ H E g hn kk hI ht => h.run A C D ip R n ys s₀ c fs K J gd lv s σ H E g hn kk hI (k _ _ _ _ ht)⟩
theorem GSsd.weak {X : Cx} {st : List Stmt} {t t' : TGn} (h : GSsd X st t) (k : ∀ E ys σ H, t' E ys σ H → t E ys σ H) : GSsd X st t' :=
  ⟨fun A C D ip R n ys s₀ c fs K J gd lv s σ H E g hn kk hI ht => h.run A C D ip R n ys s₀ c fs K J gd lv s σ H E g hn kk hI (k _ _ _ _ ht)⟩
def gNil : FGn := fun ρ acc => .ok (.nx, acc, ρ)
def gSeq (F F' : FGn) : FGn := fun ρ acc => (F ρ acc).bind fun (f, acc1, ρ1) => match f with
  | .nx => F' ρ1 acc1
  | _ => .stuck
def gForD (A : FG) (F : FGn) : List D → FGn
  | [], ρ, acc => .ok (.nx, acc, ρ)
  | d :: ds, ρ, acc => match A (.val d) ρ with
    | some ρ1 => (F ρ1 acc).bind fun (f, acc1, ρ2) => match f with
      | .nx => gForD A F ds ρ2 acc1
      | _ => .stuck
    | none => .stuck
def gFor (Fi : FI) (A : FG) (F : FGn) : FGn := fun ρ acc => (Fi ρ).bind fun (ds, ρ1) => gForD A F ds ρ1 acc
theorem aents_add {ys : List V} {acc : List D} (hl : acc.length = ys.length) (v : V) (d : D) : aents (ys ++ [v]) ((acc ++ [d]).map Sl.val) = aents ys (acc.map Sl.val) ++ [(some v, Sl.val d)] := by
  unfold aents
  rw [List.map_append, List.map_append, List.zip_append (by simp [hl])]
  rfl
section
variable {X : Cx} {G : Gam} {Wt : WX} {M : Fm} {ρ : Env} {τ τ' : List Ent} {σ : L2.St} {H : Hp} {st : Stmt} {rest : List Stmt} {e tg iter : Expr} {F F' : FGn} {Fs : FS} {Fe : FE} {A : FG} {Fi : FI} {E : GEnds} {yp pos : Pos} {body : List Stmt}
theorem RS.mid {a b c : List Ent} (R : RS G M ρ (a ++ (b ++ c)) σ H) : RS G M ρ (a ++ c) σ H := by
  have R1 : RS G M ρ (b ++ (a ++ c)) σ H := R.perm (by rw [← List.append_assoc, ← List.append_assoc]; exact List.perm_append_comm.append_right c)
  exact R1.drop
end
end Dl
/-! A generator def: what its call gives, for a consumer with several objects. -/
namespace Dl
open PySem PySem.Spec L2 GenW
open PyProof.Rows hiding St
/-- the consumer's objects stand as they stood when it was woken -/
def AsWoken (C : List Addr) (t s : Shared) : Prop := ∀ b ∈ C, ∀ o, t.heap.get? b = some o → s.heap.get? b = some o
/-- the end of the run -/
def EndD (P : Program) (w : World) (outer : List PySem.Env) (H : Hp) (s : Shared) (C : List Addr) (D a : Addr) (g : Nat) (Q : List V → Hp → Prop) (E : XK) : GenEnd := fun n t r s1 =>
  ((r = .ok (.ret .none) ∨ r = .ok .next) ∧ ∃ H' ys, (s1.os = s.os ∧ AllBare s1.gens ∧ Un (frs outer) [] H H' s.heap s1.heap ∧ HOk P w H' s1.heap) ∧ (∀ b ∈ C, H' b = none) ∧ AsWoken C t s1 ∧ (∃ acc c, s1.heap.get? D = some (lstObj acc c) ∧ Vals ys acc.toList) ∧ ys.length ≤ sizeLine ∧ Q ys H') ∨
  ∃ e, r = .error e ∧ CX P w outer H s E e s1 ∧ s1.heap.IsGen a g
/-- an item is handed out -/
def ItemD (s : Shared) (C : List Addr) (D a : Addr) (g : Nat) : Protocol := fun n t v s1 kap =>
  (s1.os = s.os ∧ AllBare s1.gens ∧ s1.heap.NoLimit ∧ s1.heap.IsGen a g) ∧ AsWoken C t s1 ∧ (∃ (acc : Array Value) (c : Nat), s1.heap.get? D = some (lstObj acc c) ∧ n + 1 + acc.size = sizeLine) ∧ ∀ s', Nap C D v s1 s' → kap (.send .none) s'
/-- a generator that has not begun -/
def MadeD (P : Program) (w : World) (k : Nat) (outer : List PySem.Env) (H : Hp) (s : Shared) (Q : List V → Hp → Prop) (E : XK) (u : Value) (s' : Shared) : Prop :=
  ∃ (a : Addr) (g : Nat) (c : Code), u = .ref a ∧ (s.heap.objs.size ≤ a ∧ a < s'.heap.objs.size) ∧ s'.heap.IsGen a g ∧ s'.gens[g]? = some (.fresh c) ∧ (s'.os = s.os ∧ AllBare s'.gens ∧ s'.heap.NoLimit) ∧ (∀ b o, s.heap.get? b = some o → s'.heap.get? b = some o) ∧
    ∀ (A : Around) (C : List Addr) (D : Addr) (s2 : Shared), Room k A → A.frames = some outer → D ∈ C → (∀ b ∈ C, s'.heap.objs.size ≤ b) → (∀ b ∈ C, ∃ o, s2.heap.get? b = some o ∧ ∀ u, o.data ≠ .cell u) → (∀ b o, s'.heap.get? b = some o → s2.heap.get? b = some o) →
      (∃ c, s2.heap.get? D = some (lstObj #[] c)) → s2.os = s.os → AllBare s2.gens → Seg (model P w) A (EndD P w outer H s C D a g Q E) (ItemD s C D a g) sizeLine s2 c ((model P w).den c) [] s2
abbrev FGf := List Sl → Res (List D)
/-- a generator's body as a function of the data: all that it hands out -/
def runG (k : Nat) (F : FGn) : FGf := fun ws => match F (ws ++ List.replicate k .none) [] with
  | .ok (.nx, acc, _) => .ok acc
  | .exc c fs ρ => .exc c fs ρ
  | _ => .stuck
def spG2 (G : Gam) (n : Nat) (F : FGf) : SpG := fun vs H Q E => vs.length = n ∧ ∃ (M : Fm) (ws : List Sl), ws.length = n ∧ RE G M.P M.S0 M.H0 (aents vs ws) H ∧ match F ws with
  | .ok ds => ∀ ys H', ds.length = ys.length → RE G M.P M.S0 M.H0 (aents ys (ds.map Sl.val)) H' → Q ys H'
  | .exc c fs _ => ∀ dd us H', RX G c fs dd us H' → RE G M.P M.S0 M.H0 (xents us fs) H' → E (.ref (G.ca c)) dd H'
  | .stuck => False
end Dl
/-! [x for x in g(..)] -/
namespace Dl
open PySem PySem.Spec L2 GenW
open PyProof.Rows hiding St
/-- an expression whose value is a generator that has not begun -/
structure PGd (X : Cx) (k : Nat) (e : Expr) (tg : TGen) (E : XK) : Prop where
  run : ∀ (pins : List (Addr × Obj)) (s : Shared) (σ : L2.St) (H : Hp) (cont : List V → Hp → Prop), Inv X pins σ H s → tg σ H cont → wpAny (model X.prog X.w) X.A (eval e X.env)
    (fun u s' => ∃ H1 sc, Inv X pins σ H1 sc ∧ MadeD X.prog X.w k X.stack H1 sc cont E u s') X.xe s
theorem PGd.weak {X : Cx} {k : Nat} {e : Expr} {t t' : TGen} {E : XK} (h : PGd X k e t E) (w : ∀ σ H Q, t' σ H Q → t σ H Q) : PGd X k e t' E := ⟨fun pins s σ H c I q => h.run pins s σ H c I (w _ _ _ q)⟩
section
variable {X : Cx} {k : Nat} {x : Str} {px pt pos pos' : Pos} {iter : Expr} {scope : Scope} {own : List (Str × Nat)} {tg : TGen}
theorem room_in1 {A : Around} (h : Room (k + 1) A) : Room k A.in1 := by
  refine ⟨h.hd, ?_, ?_⟩
  · have := h.dp
    show A.depth + 3 * k + 5 < _
    omega
  · have := h.un
    show A.units + 1 + 16 * k + 200 < _
    omega
end
end Dl
/-! [x for x in f(..)], f a generator def, by its data -/
namespace Dl
open PySem PySem.Spec L2 GenW
open PyProof.Rows hiding St
end Dl
/-! a source that is a list or a tuple; sum of a tuple; things lent to [..] that is given a name -/
namespace Dl
open PySem PySem.Spec L2
open PyProof.Rows hiding St
end Dl
set_option maxHeartbeats 1000000
/-! zip of a tuple and a list: the library knows two lists and two tuples -/
namespace Dl.ZT
open PySem PySem.Spec PyProof.Rows L2 RZ
open PySem.Sem (wp)
/-! ### the rule -/
end Dl.ZT
namespace Dl
open PySem PySem.Spec L2
end Dl
/-! f(e, ..) that leaves parameters to their defaults -/
namespace Dl
open PySem PySem.Spec L2
open PyProof.Rows hiding St
end Dl
/-! o.m(e, ..) that leaves its keyword-only parameter to its default, the empty tuple -/
namespace Dl
open PySem PySem.Spec L2
open PyProof.Rows hiding St
end Dl
/-! texts: +, split, partition, join, startswith, index, replace, str(int), int(text), f-strings, slices -/
namespace Dl
open PySem PySem.Spec L2
open PyProof.Rows hiding St
end Dl
/-! texts: x[i], x[i:j], x[i::k], x * n -/
namespace Dl
open PySem PySem.Spec L2
open PyProof.Rows hiding St
end Dl
/-! *a, b = a list -/
namespace Dl
open PySem PySem.Spec L2
open PyProof.Rows hiding St
end Dl
/-! tests that store a name: (x := e) is None; a and (x := e) is not None -/
namespace Dl
open PySem PySem.Spec L2
open PyProof.Rows hiding St
section
variable {X : Cx} {G : Gam} {Wt : WX}
structure PWw (X : Cx) (e : Expr) (t : TTw) : Prop where
  run : ∀ (whole : Sem Value) (pins : List (Addr × Obj)) (s : Shared) (σ : St) (H : Hp) (Q : Bool → St → Hp → Prop), Inv X pins σ H s → t σ H Q → wpAny (model X.prog X.w) X.A (isTrue e X.env whole) (TPw X pins Q) X.xe s
theorem _root_.L2.PTw.weak {e : Expr} {t t' : TTw} (h : PTw X e t) (k : ∀ σ H Q, t' σ H Q → t σ H Q) : PTw X e t' := ⟨fun pins s σ H Q I q => h.run pins s σ H Q I (k _ _ _ q)⟩
variable {a b e : Expr} {rest : List Expr} {pos p np : Pos} {T Ta Tb : FT} {F : FE} {i : Nat} {x : Str} {f : Sl → Sl → RD}
theorem PWw.pt {e : Expr} {t : TTw} (h : PWw X e t) : PTw X e t := ⟨h.run _⟩
end
end Dl
/-! A generator whose consumer is an old frame: between two yields the object at L (the consumer's names) changes; the base state is taken anew at each waking. -/
namespace Dl
open PySem PySem.Spec L2 GenW
open PyProof.Rows hiding St
@[reducible] def rb (X : Cx) (s0 : Shared) (xe : Value → Shared → Prop) : Cx := { X with s_0 := s0, xe := xe }
/-- the same state but for the object at L -/
structure Vr (L : Addr) (s s' : Shared) : Prop where
  size : s'.heap.objs.size = s.heap.objs.size
  os : s'.os = s.os
  keep : ∀ b, b ≠ L → s'.heap.get? b = s.heap.get? b
theorem Vr.refl {L : Addr} {s : Shared} : Vr L s s := ⟨rfl, rfl, fun _ _ => rfl⟩
theorem Vr.trans {L : Addr} {s s' s'' : Shared} (a : Vr L s s') (b : Vr L s' s'') : Vr L s s'' := ⟨b.size.trans a.size, b.os.trans a.os, fun c h => (b.keep c h).trans (a.keep c h)⟩
/-- the consumer's turn: its names have changed, all else stands -/
structure Nap2 (L : Addr) (s s' : Shared) : Prop where
  os : s'.os = s.os
  bare : AllBare s'.gens
  rest : ∀ b o, b ≠ L → s.heap.get? b = some o → s'.heap.get? b = some o
  has : ∃ o, s'.heap.get? L = some o ∧ (∀ u, o.data ≠ .cell u) ∧ ∀ vs, o.data ≠ .fields vs
structure FarL (X : Cx) (L : Addr) : Prop where
  fs : L ∈ X.fs
  loc : L ≠ X.env.locals
  cel : ∀ x c, X.env.cells.lookup x = some c → c ≠ L
  ex : X.ex = []
theorem funFrames_vr {L : Addr} {s s' : Shared} {base : Heap} (v : ∀ b, b ≠ L → s'.heap.get? b = s.heap.get? b) (hL : ∃ o, s'.heap.get? L = some o ∧ ∀ vs, o.data ≠ .fields vs) : ∀ {l : List PySem.Env}, s.heap.FunFrames base l → s'.heap.FunFrames base l
  | [], h => True.intro
  | env :: rest, h => by
    obtain ⟨h1, ⟨a, o, e1, e2, e3, e4⟩, h3⟩ := h
    refine ⟨h1, ?_, funFrames_vr v hL h3⟩
    by_cases q : a = L
    · subst q
      obtain ⟨o', e5, e6⟩ := hL
      exact ⟨a, o', e1, e2, e5, e6⟩
    · exact ⟨a, o, e1, e2, (v a q).trans e3, e4⟩
/-- the base state with the object at L as it now is -/
theorem Inv.rebase {X : Cx} {L : Addr} {ip : List (Addr × Obj)} {σ : L2.St} {H : Hp} {s s' s0 : Shared} {xe : Value → Shared → Prop} (f : FarL X L) (I : Inv (rb X s0 xe) ip σ H s) (z : Nap2 L s s') :
    ∃ s0', Vr L s0 s0' ∧ s0'.heap.get? L = s'.heap.get? L ∧ ∀ xe', Inv (rb X s0' xe') ip σ H s' := by
  obtain ⟨oL, hoL, hnc, hnf⟩ := z.has
  obtain ⟨hbL, o0, ho0, _⟩ := I.ok.funs.mem f.fs
  have hfr : oL.isFreed = false := (Heap.get?_some_iff.mp hoL).2
  have hself : (s0.heap.update L fun _ => oL).get? L = some oL := Heap.get?_update_self (fun _ => oL) ho0 hfr
  have V : Vr L s0 { s0 with heap := s0.heap.update L fun _ => oL } := ⟨(Heap.SameBut.update ..).1, rfl, fun b hb => Heap.get?_update_other _ _ (Ne.symm hb)⟩
  generalize hs0' : ({ s0 with heap := s0.heap.update L fun _ => oL } : Shared) = s0' at V
  have hL' : s0'.heap.get? L = some oL := by rw [← hs0']; exact hself
  have hex : ∀ b, b ∉ X.ex := fun b h => by rw [f.ex] at h; cases h
  have hf0 : X.H_0 L = none := I.ok.frf L f.fs
  have hHL : H L = none := I.base.free L o0 ho0 hf0 (hex L)
  have cut : ∀ {b o}, s0'.heap.get? b = some o → b ≠ L → s0.heap.get? b = some o := fun {b o} e n => (V.keep b n).symm.trans e
  refine ⟨s0', V, hL'.trans hoL.symm, fun xe' => ?_⟩
  have nt : ∀ b u, H b = some u → b ≠ L := fun b u q e => by rw [e, hHL] at q; cases q
  refine ⟨⟨I.ok.mod, I.ok.kind, I.ok.glob, I.ok.blt, ?_, I.ok.inj, I.ok.has, ?_, I.ok.hd, I.ok.frames, I.ok.stk, I.ok.exf, ?_, ?_, I.ok.noex, I.ok.exfs, ?_, I.ok.frf⟩, ?_, z.bare, ⟨?_, ?_, ?_, ?_, I.base.tups, I.base.frzs, I.base.tbls⟩, ?_, ?_, I.free, I.freeC, ?_, ?_, I.len⟩
  · show s0'.heap.objs.size ≤ _
    rw [V.size]; exact I.ok.above
  · intro x c h1 h2
    show s0'.heap.objs.size ≤ _
    rw [V.size]; exact I.ok.cab x c h1 h2
  · intro b o e
    have hb : b ≠ L := fun q => by rw [q, hbL] at e; cases e
    exact ⟨(V.keep b hb).trans (I.ok.bs b o e).1, (I.ok.bs b o e).2⟩
  · show _ ≤ s0'.heap.objs.size
    rw [V.size]; exact I.ok.bsz
  · exact funFrames_vr V.keep ⟨oL, hL', hnf⟩ I.ok.funs
  · exact z.os.trans (I.os.trans V.os.symm)
  · intro b o e n hb hx
    have hne : b ≠ L := fun q => hb (q ▸ f.fs)
    exact z.rest b o hne (I.base.keep b o (cut e hne) n hb hx)
  · intro b o e n hb hx
    by_cases q : b = L
    · subst q
      have e' : s0'.heap.get? b = some o := e
      rw [hL'] at e'
      cases e'
      exact ⟨oL.slots, hoL⟩
    · obtain ⟨sl, e1⟩ := I.base.slot b o (cut e q) n hb hx
      exact ⟨sl, z.rest b _ q e1⟩
  · intro b o e n hx
    by_cases q : b = L
    · subst q; exact hHL
    · exact I.base.free b o (cut e q) n hx
  · intro b o e hx
    by_cases q : b = L
    · subst q; exact ⟨oL, hoL⟩
    · obtain ⟨o', e1⟩ := I.base.there b o (cut e q) hx
      exact ⟨o', z.rest b _ q e1⟩
  · obtain ⟨m, ⟨o, es, ep, ho, r⟩, hl⟩ := I.loc
    refine ⟨m, ⟨o, es, ep, z.rest _ o (Ne.symm f.loc) ho, r⟩, fun i x v e1 e2 e3 => ?_⟩
    obtain ⟨u, ru, q⟩ := hl i x v e1 e2 e3
    refine ⟨u, ru, ?_⟩
    rcases q with q | ⟨k, c, e, oc, hc, hd⟩
    · exact .inl q
    · exact .inr ⟨k, c, e, oc, z.rest c oc (f.cel x c e) hc, hd⟩
  · intro x c e
    obtain ⟨v, oc, hc, hd⟩ := I.cell x c e
    exact ⟨v, oc, z.rest c oc (f.cel x c e) hc, hd⟩
  · intro p hp
    obtain ⟨e, n, ne, nf, d⟩ := I.pin p hp
    exact ⟨z.rest p.1 p.2 (fun q => nf (q ▸ f.fs)) e, n, ne, nf, d⟩
  · intro b u q
    refine (I.hok b u q).stay (fun c v hc e => z.rest c v ?_ e) (fun _ e => e) fun _ _ e => e
    rcases hc with y | y
    · rw [y]; exact nt b u q
    · exact nt c _ y
/-- the base state and what an exception wants: the first until something is out -/
def Ms (X : Cx) (xf : Shared → Value → Shared → Prop) (L : Addr) (ys : List V) (s0 : Shared) (xe : Value → Shared → Prop) : Prop :=
  (ys = [] ∧ s0 = X.s_0 ∧ xe = X.xe) ∨ (ys ≠ [] ∧ Vr L X.s_0 s0 ∧ xe = xf s0)
theorem Ms.vr {X : Cx} {xf : Shared → Value → Shared → Prop} {L : Addr} {ys : List V} {s0 : Shared} {xe : Value → Shared → Prop} (h : Ms X xf L ys s0 xe) : Vr L X.s_0 s0 := by
  rcases h with ⟨_, rfl, _⟩ | ⟨_, v, _⟩
  · exact Vr.refl
  · exact v
def XeF (X : Cx) (xf : Shared → Value → Shared → Prop) (L : Addr) (e : Value) (s : Shared) : Prop := X.xe e s ∨ ∃ s0, Vr L X.s_0 s0 ∧ xf s0 e s
theorem Ms.xe {X : Cx} {xf : Shared → Value → Shared → Prop} {L : Addr} {ys : List V} {s0 : Shared} {xe : Value → Shared → Prop} (h : Ms X xf L ys s0 xe) {e : Value} {s : Shared} (q : xe e s) : XeF X xf L e s := by
  rcases h with ⟨_, _, rfl⟩ | ⟨_, v, rfl⟩
  · exact .inl q
  · exact .inr ⟨s0, v, q⟩
def Mid2 (X : Cx) (xf : Shared → Value → Shared → Prop) (L : Addr) (ip : List (Addr × Obj)) (ys : List V) (σ : L2.St) (H : Hp) (t s : Shared) : Prop :=
  ∃ s0 xe, Ms X xf L ys s0 xe ∧ s0.heap.get? L = t.heap.get? L ∧ Inv (rb X s0 xe) ip σ H s
theorem Mid2.woken {X : Cx} {xf : Shared → Value → Shared → Prop} {L : Addr} {ip : List (Addr × Obj)} {ys : List V} {σ : L2.St} {H : Hp} {t s s' : Shared} {x : V} (f : FarL X L) (h : Mid2 X xf L ip ys σ H t s) (z : Nap2 L s s') : Mid2 X xf L ip (ys ++ [x]) σ H s' s' := by
  obtain ⟨s0, xe, hm, _, I⟩ := h
  obtain ⟨s0', v, e, J⟩ := Inv.rebase f I z
  exact ⟨s0', xf s0', .inr ⟨by simp, hm.vr.trans v, rfl⟩, e, J _⟩
/-! ### the protocol of such a generator, its statements -/
def GYe (X : Cx) (xf : Shared → Value → Shared → Prop) (L : Addr) : Protocol := fun n s₀ v s kap =>
  ∃ ys x ip σ H, n + 1 + ys.length = sizeLine ∧ RelV x v ∧ Mid2 X xf L ip ys σ H s₀ s ∧ ∀ s', Nap2 L s s' → kap (.send .none) s'
def GRe (X : Cx) (xf : Shared → Value → Shared → Prop) (L : Addr) (Q : List V → VK) (F : Value → Shared → Prop) : GenEnd := fun n s₀ r s => match r with
  | .ok (.ret u) => ∃ ys v ip σ H, n + ys.length = sizeLine ∧ Mid2 X xf L ip ys σ H s₀ s ∧ RelV v u ∧ Q ys v H
  | .ok _ => False
  | .error e => F e s
def GPe (X : Cx) (xf : Shared → Value → Shared → Prop) (L : Addr) (ip : List (Addr × Obj)) (E : GEnds) (ys : List V) (f : Flow) (t s : Shared) : Prop :=
  match f with
  | .next => ∃ σ H, Mid2 X xf L ip ys σ H t s ∧ E.nx ys σ H
  | .brk => ∃ σ H, Mid2 X xf L ip ys σ H t s ∧ E.bk ys σ H
  | .cont => ∃ σ H, Mid2 X xf L ip ys σ H t s ∧ E.ct ys σ H
  | .ret u => ∃ v σ H, Mid2 X xf L ip ys σ H t s ∧ RelV v u ∧ E.rt ys v H
structure GCe (X : Cx) (L : Addr) (A : Around) (c : Code) (fs : List Frame) (gd : Bool → Bool) : Prop where
  far : FarL X L
  over : A.over c fs = X.A
  split : splitAtGen fs = none
  guard : fs.any Frame.guarded = false
  gd : gd false = false
structure GKe (X : Cx) (xf : Shared → Value → Shared → Prop) (L : Addr) (ip : List (Addr × Obj)) (A : Around) (R : GenEnd) (c : Code) (fs : List Frame) (K : Flow → Sem PySem.Fin) (J : Value → Sem PySem.Fin) (E : GEnds) : Prop where
  ok : ∀ (n : Nat) (ys : List V) (s₀ s : Shared) (f : Flow), n + ys.length = sizeLine → GPe X xf L ip E ys f s₀ s → Seg (model X.prog X.w) A R (GYe X xf L) n s₀ c (K f) fs s
  exc : ∀ (n : Nat) (s₀ : Shared) (e : Value) (s : Shared), XeF X xf L e s → Seg (model X.prog X.w) A R (GYe X xf L) n s₀ c (J e) fs s
structure GSe (X : Cx) (xf : Shared → Value → Shared → Prop) (st : Stmt) (t : TGn) : Prop where
  run : ∀ (A : Around) (L : Addr) (ip : List (Addr × Obj)) (R : GenEnd) (n : Nat) (ys : List V) (s₀ : Shared) (c : Code) (fs : List Frame) (K : Flow → Sem PySem.Fin) (J : Value → Sem PySem.Fin) (gd : Bool → Bool) (lv : List Value → List Value) (s : Shared) (σ : L2.St) (H : Hp) (E : GEnds),
    GCe X L A c fs gd → n + ys.length = sizeLine → GKe X xf L ip A R c fs K J E → Mid2 X xf L ip ys σ H s₀ s → t E ys σ H →
    Seg (model X.prog X.w) A R (GYe X xf L) n s₀ c ((exec st X.env).wrap K J gd lv) fs s
structure GSse (X : Cx) (xf : Shared → Value → Shared → Prop) (st : List Stmt) (t : TGn) : Prop where
  run : ∀ (A : Around) (L : Addr) (ip : List (Addr × Obj)) (R : GenEnd) (n : Nat) (ys : List V) (s₀ : Shared) (c : Code) (fs : List Frame) (K : Flow → Sem PySem.Fin) (J : Value → Sem PySem.Fin) (gd : Bool → Bool) (lv : List Value → List Value) (s : Shared) (σ : L2.St) (H : Hp) (E : GEnds),
    GCe X L A c fs gd → n + ys.length = sizeLine → GKe X xf L ip A R c fs K J E → Mid2 X xf L ip ys σ H s₀ s → t E ys σ H →
    Seg (model X.prog X.w) A R (GYe X xf L) n s₀ c ((execs st X.env).wrap K J gd lv) fs s
section
variable {X : Cx} {xf : Shared → Value → Shared → Prop} {st : Stmt} {rest : List Stmt}
theorem gpe_of {L : Addr} {ip : List (Addr × Obj)} {t s s0 : Shared} {xe : Value → Shared → Prop} {E : GEnds} {ys : List V} {f : Flow} (mk : ∀ σ H, Inv (rb X s0 xe) ip σ H s → Mid2 X xf L ip ys σ H t s) (h : SP (rb X s0 xe) ip (E.at ys) f s) : GPe X xf L ip E ys f t s := by
  cases f with
  | next => obtain ⟨σ, H, I, q⟩ := h; exact ⟨σ, H, mk σ H I, q⟩
  | brk => obtain ⟨σ, H, I, q⟩ := h; exact ⟨σ, H, mk σ H I, q⟩
  | cont => obtain ⟨σ, H, I, q⟩ := h; exact ⟨σ, H, mk σ H I, q⟩
  | ret u => obtain ⟨v, σ, H, I, r1, q⟩ := h; exact ⟨v, σ, H, mk σ H I, r1, q⟩
theorem gsse_nil : GSse X xf [] tG0 := by
  refine ⟨fun A L ip R n ys s₀ c fs K J gd lv s σ H E g hn k hI ht => ?_⟩
  exact seg_execs_nil (k.ok n ys s₀ s .next hn ⟨σ, H, hI, ht⟩)
theorem gsse_cons {t u : TGn} (a : GSe X xf st t) (b : GSse X xf rest u) : GSse X xf (st :: rest) (tGThen t u) := by
  refine ⟨fun A L ip R n ys s₀ c fs K J gd lv s σ H E g hn k hI ht => ?_⟩
  refine seg_execs_cons ?_
  refine a.run A L ip R n ys s₀ c fs _ J gd lv s σ H { E with nx := fun ys' σ' H' => u E ys' σ' H' } g hn ⟨fun n' ys' s₀' s' f hn' hs => ?_, k.exc⟩ hI ht
  cases f with
  | next =>
    obtain ⟨σ', H', I', q⟩ := hs
    exact b.run A L ip R n' ys' s₀' c fs K J gd lv s' σ' H' E g hn' k I' q
  | brk => exact k.ok n' ys' s₀' s' .brk hn' hs
  | cont => exact k.ok n' ys' s₀' s' .cont hn' hs
  | ret u => exact k.ok n' ys' s₀' s' (.ret u) hn' hs
theorem GSe.weak {t t' : TGn} (h : GSe X xf st t) (k : ∀ E ys σ H, t' E ys σ H → t E ys σ H) : GSe X xf st t' :=
  ⟨fun A L ip R n ys s₀ c fs K J gd lv s σ H E g hn kk hI ht => h.run A L ip R n ys s₀ c fs K J gd lv s σ H E g hn kk hI (k _ _ _ _ ht)⟩
theorem GSse.weak {t t' : TGn} (h : GSse X xf rest t) (k : ∀ E ys σ H, t' E ys σ H → t E ys σ H) : GSse X xf rest t' :=
  ⟨fun A L ip R n ys s₀ c fs K J gd lv s σ H E g hn kk hI ht => h.run A L ip R n ys s₀ c fs K J gd lv s σ H E g hn kk hI (k _ _ _ _ ht)⟩
end
/-! ### by the data -/
abbrev NoW : WX := fun _ _ _ _ => False
/-- a member of the family of contexts, what it wants of exceptions -/
def Mem (X : Cx) (xf : Shared → Value → Shared → Prop) (Wt : WX) (s0 : Shared) (xe : Value → Shared → Prop) (W : WX) : Prop :=
  (s0 = X.s_0 ∧ xe = X.xe ∧ W = Wt) ∨ (∃ L, Vr L X.s_0 s0) ∧ xe = xf s0 ∧ W = NoW
theorem Ms.mem {X : Cx} {xf : Shared → Value → Shared → Prop} {L : Addr} {ys : List V} {s0 : Shared} {xe : Value → Shared → Prop} (Wt : WX) (h : Ms X xf L ys s0 xe) : ∃ W, Mem X xf Wt s0 xe W ∧ (ys = [] → W = Wt) := by
  rcases h with ⟨h1, h2, h3⟩ | ⟨h1, h2, h3⟩
  · exact ⟨Wt, .inl ⟨h2, h3, rfl⟩, fun _ => rfl⟩
  · exact ⟨NoW, .inr ⟨⟨L, h2⟩, h3, rfl⟩, fun e => absurd e h1⟩
def gPlain2 (F : FS) : FGn := fun ρ acc => match F ρ with
  | .ok (.nx, ρ') => .ok (.nx, acc, ρ')
  | .exc c fs ρ' => (match acc with
    | [] => .exc c fs ρ'
    | _ => .stuck)
  | _ => .stuck
def gYield2 (F : FE) : FGn := fun ρ acc => match shortN acc.length with
  | true => (match F ρ with
    | .ok (w, ρ1) => (match shr w with
      | .val d => .ok (.nx, acc ++ [d], ρ1)
      | _ => .stuck)
    | .exc c fs ρ' => (match acc with
      | [] => .exc c fs ρ'
      | _ => .stuck)
    | .stuck => .stuck)
  | false => .stuck
section
variable {X : Cx} {xf : Shared → Value → Shared → Prop} {G : Gam} {Wt : WX} {st : Stmt} {rest : List Stmt} {e : Expr} {F F' : FGn} {Fs : FS} {Fe : FE} {yp pos : Pos}
theorem nil_of {α β : Type} {acc : List α} {ys : List β} (hl : acc.length = ys.length) (h : acc = []) : ys = [] := by
  subst h
  exact List.length_eq_zero_iff.mp hl.symm
theorem ge_plain (h : ∀ s0 xe W, Mem X xf Wt s0 xe W → PS (rb X s0 xe) st (tS G W Fs)) : GSe X xf st (tGn G Wt (gPlain2 Fs)) := by
  refine ⟨fun A L ip R n ys s₀ c fs K J gd lv s σ H E g hn k hI ht => ?_⟩
  obtain ⟨s0, xe, hm, hL, I⟩ := hI
  obtain ⟨M, ρ, τ, acc, hl, RR, q⟩ := ht
  obtain ⟨W, hW, hys⟩ := hm.mem Wt
  refine seg_wrap ?_
  rw [g.over]
  have hp := (h s0 xe W hW).run ip s σ H (E.at ys) I ⟨M, ρ, aents ys (acc.map Sl.val) ++ τ, RR, by
    unfold gPlain2 at q
    cases e1 : Fs ρ with
    | ok a =>
      obtain ⟨f, ρ'⟩ := a
      rw [e1] at q
      cases f with
      | nx => exact fun σ' H' R' => q ys σ' H' hl R'
      | bk => exact q.elim
      | ct => exact q.elim
      | rt w => exact q.elim
    | exc c fs ρ' =>
      rw [e1] at q
      dsimp only at q
      cases acc with
      | cons d acc' => exact q.elim
      | nil =>
        have := hys (nil_of hl rfl)
        subst this
        exact fun dd vs σ' H' hx R' => q dd vs σ' H' hx R'.mid
    | stuck => rw [e1] at q; exact q.elim⟩
  exact wpAny_mono hp (fun f s' hs => k.ok n ys s₀ s' f hn (gpe_of (fun σ H I => ⟨s0, xe, hm, hL, I⟩) hs)) fun x s' hx => k.exc n s₀ x s' (hm.xe hx)
theorem ge_yield (he : ∀ s0 xe W, Mem X xf Wt s0 xe W → PE (rb X s0 xe) e (tE G W Fe)) (hco : X.env.scope.isCoroutine = false := by rfl) (hi : interactive X.env = false := by rfl) : GSe X xf (.Expr (.Yield (some e) yp) pos) (tGn G Wt (gYield2 Fe)) := by
  refine ⟨fun A L ip R n ys s₀ c fs K J gd lv s σ H E g hn k hI ht => ?_⟩
  obtain ⟨s0, xe, hm, hL, I⟩ := hI
  obtain ⟨M, ρ, τ, acc, hl, RR, q⟩ := ht
  obtain ⟨W, hW, hys⟩ := hm.mem Wt
  unfold gYield2 at q
  cases hs : shortN acc.length with
  | false => rw [hs] at q; exact q.elim
  | true =>
    rw [hs] at q
    dsimp only at q
    have hlt : ys.length < sizeLine := by rw [← hl]; exact short_ok hs
    obtain ⟨m, rfl⟩ : ∃ m, n = m + 1 := ⟨n - 1, by omega⟩
    refine seg_Expr_Yield g.split g.gd g.guard ?_ hco hi
    rw [g.over]
    have hp := (he s0 xe W hW).run ip s σ H (fun v H' => E.nx (ys ++ [v]) σ H') I ⟨M, ρ, aents ys (acc.map Sl.val) ++ τ, RR, by
      cases e1 : Fe ρ with
      | ok a =>
        obtain ⟨w, ρ'⟩ := a
        rw [e1] at q
        dsimp only at q
        intro v H' R'
        have R1 := R'.shr1
        cases hw : shr w with
        | val d =>
          rw [hw] at q R1
          refine q (ys ++ [v]) σ H' (by rw [List.length_append, List.length_append, hl]; rfl) ?_
          rw [aents_add hl, List.append_assoc]
          exact R1.perm List.perm_middle.symm
        | none => rw [hw] at q; exact q.elim
        | own d => rw [hw] at q; exact q.elim
        | self d => rw [hw] at q; exact q.elim
      | exc c fs ρ' =>
        rw [e1] at q
        dsimp only at q
        cases acc with
        | cons d acc' => exact q.elim
        | nil =>
          have := hys (nil_of hl rfl)
          subst this
          exact fun dd vs H' hx R' => q dd vs σ H' hx R'.mid
      | stuck => rw [e1] at q; exact q.elim⟩
    refine wpAny_mono hp (fun v s' hv => ?_) fun x s' hx => k.exc _ s₀ x s' (hm.xe hx)
    obtain ⟨x, H1, I1, rv, q1⟩ := hv
    have G1 : Mid2 X xf L ip ys σ H1 s₀ s' := ⟨s0, xe, hm, hL, I1⟩
    intro kap hk
    refine ⟨ys, x, ip, σ, H1, hn, rv, G1, fun s'' z => hk .none s'' ?_⟩
    refine k.ok m (ys ++ [x]) s'' s'' .next ?_ ⟨σ, H1, G1.woken g.far z, q1⟩
    rw [List.length_append, List.length_singleton]
    omega
theorem ge_nil : GSse X xf [] (tGn G Wt gNil) := gsse_nil.weak fun E ys σ H ⟨M, ρ, τ, acc, hl, R, q⟩ => q ys σ H hl R
theorem ge_cons (h1 : GSe X xf st (tGn G Wt F)) (h2 : GSse X xf rest (tGn G Wt F')) : GSse X xf (st :: rest) (tGn G Wt (gSeq F F')) := (gsse_cons h1 h2).weak fun E ys σ H ⟨M, ρ, τ, acc, hl, R, q⟩ => by
  refine ⟨M, ρ, τ, acc, hl, R, ?_⟩
  unfold gSeq at q
  cases e1 : F ρ acc with
  | ok a =>
    obtain ⟨f, acc1, ρ1⟩ := a
    rw [e1] at q
    cases f with
    | nx => exact fun ys1 σ1 H1 hl1 R1 => ⟨M, ρ1, τ, acc1, hl1, R1, q⟩
    | bk => exact q.elim
    | ct => exact q.elim
    | rt w => exact q.elim
  | exc c fs ρ' => rw [e1] at q; exact q
  | stuck => rw [e1] at q; exact q
theorem ge_one (h1 : GSe X xf st (tGn G Wt F)) : GSse X xf [st] (tGn G Wt (gSeq F gNil)) := ge_cons h1 ge_nil
end
end Dl
/-! for over an iterator, in such a generator's body. -/
namespace Dl
open PySem PySem.Spec L2 GenW
open PyProof.Rows hiding St
section
variable {X : Cx} {xf : Shared → Value → Shared → Prop} {L : Addr} {ip : List (Addr × Obj)} {A : Around} {R : GenEnd} {c : Code} {fs : List Frame} {K : Flow → Sem PySem.Fin} {J : Value → Sem PySem.Fin} {gd : Bool → Bool} {lv : List Value → List Value} {E : GEnds} {n : Nat} {s₀ s : Shared}
/-- an exception comes back out of the loop's code -/
theorem seg_back2 {e : Value} {xe : Value → Shared → Prop} (hxe : ∀ e s, xe e s → XeF X xf L e s) (g : GCe X L A c fs gd) (k : GKe X xf L ip A R c fs K J E) (h : cameBackBy (model X.prog X.w) X.A X.env xe e s) : Seg (model X.prog X.w) A R (GYe X xf L) n s₀ c (Bk X K J gd lv (.error e)) fs s := by
  have q : Bk X K J gd lv (.error e) = ((cameBack X.env e).bind fun _ => (Sem.raise e : Sem Flow)).wrap K J gd lv := rfl
  rw [q, Sem.bind_eq_wrap, Sem.wrap_wrap]
  refine seg_wrap ?_
  rw [g.over]
  exact wpAny_mono h (fun _ s1 y => k.exc n s₀ e s1 (hxe _ _ y)) fun x s1 y => k.exc n s₀ x s1 (hxe _ _ y)
/-- the loop's turn -/
theorem seg_forTurn2 {tg : Expr} {it : Value} {body : List Stmt}
    (h : wpAny (model X.prog X.w) (A.over (.forLoop tg it body [] X.env) fs) (pyNext it) (fun r s1 => match r with
        | none => Seg (model X.prog X.w) A R (GYe X xf L) n s₀ (.forLoop tg it body [] X.env) (.pure (.again (.block [] X.env))) fs s1
        | some v => wpAny (model X.prog X.w) (A.over (.forLoop tg it body [] X.env) fs) (letOwnedTupleGo tg it v) (fun _ s2 => wpAny (model X.prog X.w) (A.over (.forLoop tg it body [] X.env) fs) (assign tg X.env v) (fun _ s3 =>
            Seg (model X.prog X.w) A R (GYe X xf L) n s₀ (.forLoop tg it body [] X.env) ((execs body X.env).wrap (fun f => match f with
              | .next | .cont => .pure (.again (.forLoop tg it body [] X.env))
              | .brk => .pure (.done .next)
              | .ret v => .pure (.done (.ret v))) (noted X) id id) fs s3)
            (fun x s' => Seg (model X.prog X.w) A R (GYe X xf L) n s₀ (.forLoop tg it body [] X.env) (noted X x) fs s') s2)
            (fun x s' => Seg (model X.prog X.w) A R (GYe X xf L) n s₀ (.forLoop tg it body [] X.env) (noted X x) fs s') s1)
      (fun x s' => Seg (model X.prog X.w) A R (GYe X xf L) n s₀ (.forLoop tg it body [] X.env) (noted X x) fs s') s) :
    Seg (model X.prog X.w) A R (GYe X xf L) n s₀ (.forLoop tg it body [] X.env) ((model X.prog X.w).den (.forLoop tg it body [] X.env)) fs s := by
  have q : (model X.prog X.w).den (.forLoop tg it body [] X.env) = (forTurn tg it body [] X.env).onRaise (fun x => do noteFrame x X.env; theTreesLotGoes x) := rfl
  have nq : ∀ e : Value, ((do noteFrame e X.env; theTreesLotGoes e : Sem Unit).bind fun _ => (Sem.raise e : Sem PySem.Fin)) = noted X e := fun e => by rw [Sem.bind_eq_wrap]
  rw [q, Sem.onRaise_eq_wrap]
  simp only [nq]
  unfold forTurn
  refine seg_bind_wrap (wpAny_standAt ?_)
  refine seg_bind_wrap (wpAny_onRaise (wpAny_mono h (fun r s1 h1 => ?_) fun x s' hx => wpAny_standAt hx))
  cases r with
  | none => exact h1
  | some v =>
    refine seg_bind_wrap (wpAny_mono h1 (fun _ s2 h2 => ?_) fun x s' hx => hx)
    refine seg_bind_wrap (wpAny_mono h2 (fun _ s3 h3 => ?_) fun x s' hx => hx)
    rw [Sem.bind_eq_wrap', Sem.wrap_wrap]
    refine Eq.mp (congrArg (fun t => Seg (model X.prog X.w) A R (GYe X xf L) n s₀ (.forLoop tg it body [] X.env) t fs s3) ?_) h3
    exact Sem.wrap_congr (execs body X.env) id id (fun f => by cases f <;> rfl) (fun e => rfl)
theorem gce_loop {c' : Code} {k : Result → Sem PySem.Fin} {l kp : List Value} {p : Pos} (g : GCe X L A c fs gd) (hw : c'.weight = 0) (hu : c'.cUnits = 0) : GCe X L A c' (.ret k none (gd false) l c p kp :: fs) id where
  far := g.far
  over := (over_loop hw hu).trans g.over
  split := by
    have e : splitAtGen (Frame.ret k none (gd false) l c p kp :: fs) = (splitAtGen fs).map _ := rfl
    rw [e, g.split]
    rfl
  guard := by
    have e : (Frame.ret k none (gd false) l c p kp :: fs).any Frame.guarded = (gd false || fs.any Frame.guarded) := rfl
    rw [e, g.gd, g.guard]
    rfl
  gd := rfl
def tGFor2 (wi : TI) (g : TG) (tb : TGn) : TGn := fun E ys σ H => ys = [] ∧ tGFor wi g tb E ys σ H
theorem gse_for {tg iter : Expr} {body : List Stmt} {wi : TI} {gg : TG} {tb : TGn} {pos : Pos} (hp0 : PassesOwn (model X.prog X.w) X.A X.env X.xe) (hp : ∀ s0, PassesOwn (model X.prog X.w) X.A X.env (xf s0)) (hc : X.calm = true) (hi : PI X tg iter wi) (hg : ∀ s0 xe, (s0 = X.s_0 ∧ xe = X.xe ∨ (∃ L, Vr L X.s_0 s0) ∧ xe = xf s0) → PG (rb X s0 xe) tg gg) (hb : GSse X xf body tb)
    (hs : ∀ x, foldedSetIterable iter X.env x = pure x := by intro _; rfl) : GSe X xf (.For tg iter body [] pos) (tGFor2 wi gg tb) := by
  refine ⟨fun A L ip R n ys s₀ c fs K J gd lv s σ H E g hn k hI ht => ?_⟩
  obtain ⟨hys, ht⟩ := ht
  obtain ⟨s0, xe, hm, hL, I⟩ := hI
  have hm0 : s0 = X.s_0 ∧ xe = X.xe := by
    rcases hm with ⟨_, q⟩ | ⟨q, _⟩
    · exact q
    · exact absurd hys q
  obtain ⟨rfl, rfl⟩ := hm0
  have I : Inv X ip σ H s := I
  have xin : ∀ e s, X.xe e s → XeF X xf L e s := fun e s h => .inl h
  rw [exec_For]
  show Seg _ _ _ _ n s₀ c (.at pos fun _ => (eval iter X.env >>= fun v => foldedSetIterable iter X.env v >>= fun x => standAt iter.pos >>= fun _ => holding [x] (pyIter x) >>= fun it => runOwn (.forLoop tg it body [] X.env) X.env).wrap K J gd lv) fs s
  refine seg_at ?_
  refine seg_bind_wrap ?_
  rw [g.over]
  refine wpAny_mono (hi.run ip s σ H _ I ht) (fun v s1 h1 => ?_) fun x s' hx => k.exc n s₀ x s' (xin _ _ hx)
  rw [hs v]
  refine seg_at ?_
  refine seg_bind_wrap (wpAny_pure ?_)
  refine seg_bind_wrap (wpAny_holding ?_)
  rw [g.over]
  refine wpAny_mono h1 (fun itv s2 h2 => ?_) fun x s' hx => k.exc n s₀ x s' (xin _ _ hx)
  obtain ⟨it, fp, tn, JJ, H2, e, I2, T, st2, f2, W, ⟨m0, w0⟩, turn⟩ := h2
  subst e
  refine seg_call fun p => ?_
  have gl : GCe X L A (.forLoop tg (.ref it) body [] X.env) (.ret (Bk X K J gd lv) none (gd false) (lv []) c p [] :: fs) id := gce_loop g rfl rfl
  have ee : ∀ (n : Nat) (s₀ : Shared) (x : Value) (s' : Shared), XeF X xf L x s' → Seg (model X.prog X.w) A R (GYe X xf L) n s₀ (.forLoop tg (.ref it) body [] X.env) (noted X x) (.ret (Bk X K J gd lv) none (gd false) (lv []) c p [] :: fs) s' := fun n s₀ x s' hx => by
    have main : ∀ (xe : Value → Shared → Prop), PassesOwn (model X.prog X.w) X.A X.env xe → (∀ e s, xe e s → XeF X xf L e s) → xe x s' → Seg (model X.prog X.w) A R (GYe X xf L) n s₀ (.forLoop tg (.ref it) body [] X.env) (noted X x) (.ret (Bk X K J gd lv) none (gd false) (lv []) c p [] :: fs) s' := fun xe hp hin hx => by
      refine seg_wrap ?_
      rw [gl.over]
      refine wpAny_bind (wpAny_mono (hp x s' hx) (fun _ s'' hcb => wpAny_theTreesLotGoes ?_) fun y s'' hcb => ?_)
      · exact seg_leaf (.error x) (seg_back2 hin g k hcb)
      · exact seg_leaf (.error y) (seg_back2 hin g k hcb)
    rcases hx with hx | ⟨s0, v, hx⟩
    · exact main X.xe hp0 (fun _ _ h => .inl h) hx
    · exact main (xf s0) (hp s0) (fun _ _ h => .inr ⟨s0, v, h⟩) hx
  have loop : ∀ (m i n : Nat) (ys : List V) (s₀ s : Shared) (σ : L2.St) (H : Hp), n + ys.length = sizeLine → W i m ys σ H → Mid2 X xf L ip ys σ H s₀ s → tn i s.heap → (∀ b ∈ fp, H b = none) →
      Seg (model X.prog X.w) A R (GYe X xf L) n s₀ (.forLoop tg (.ref it) body [] X.env) ((model X.prog X.w).den (.forLoop tg (.ref it) body [] X.env)) (.ret (Bk X K J gd lv) none (gd false) (lv []) c p [] :: fs) s := by
    intro m
    induction m using Nat.strongRecOn with
    | ind m ih =>
      intro i n ys s₀ s σ H hn w hI st fr
      obtain ⟨s0, xe, hm, hL, I⟩ := hI
      have fam : s0 = X.s_0 ∧ xe = X.xe ∨ (∃ L, Vr L X.s_0 s0) ∧ xe = xf s0 := by
        rcases hm with ⟨_, q⟩ | ⟨_, q, r⟩
        · exact .inl q
        · exact .inr ⟨⟨L, q⟩, r⟩
      have stat : ∀ {H' : Hp}, (∀ b ∈ fp, H' b = none) → ∀ b ∈ fp, FpOk (rb X s0 xe) ip H' b := fun hn b hb => ⟨hn b hb, (f2 b hb).2.1, (f2 b hb).2.2.1, by
        have z := (f2 b hb).2.2.2.1
        show b ∈ X.ex ∨ s0.heap.objs.size ≤ b
        rw [hm.vr.size]
        exact z, (f2 b hb).2.2.2.2.1, (f2 b hb).2.2.2.2.2⟩
      refine seg_forTurn2 ?_
      rw [gl.over]
      rcases turn i m ys σ H w with ⟨stop, qn⟩ | ⟨go, N, hN, step⟩
      · refine wpAny_mono (T.done (rb X s0 xe) rfl rfl rfl hc i ip s σ H xe I (stat fr) st stop) (fun r s4 ⟨hr, I4⟩ => ?_) fun x s' hx => ee n s₀ x s' (hm.xe hx)
        subst hr
        refine seg_again rfl ?_
        exact seg_leaf (.ok .next) (k.ok n ys s₀ s4 .next hn ⟨σ, H, ⟨s0, xe, hm, hL, I4⟩, qn⟩)
      · refine wpAny_mono (T.item (rb X s0 xe) rfl rfl rfl hc i ip s σ H xe I (stat fr) st go) (fun r s4 ⟨u, hr, h4⟩ => ?_) fun x s' hx => ee n s₀ x s' (hm.xe hx)
        subst hr
        refine wpAny_mono h4 (fun _ s5 ⟨x, H5, I5, r5, y5, st5, fr5⟩ => ?_) fun x s' hx => ee n s₀ x s' (hm.xe hx)
        have I5' := I5.pinned (stat fr5) (T.obj _ _ st5)
        refine wpAny_mono ((hg s0 xe fam).run _ s5 σ H5 x u _ I5' r5 (step x H5 y5)) (fun _ s6 ⟨σ6, H6, I6, q6⟩ => ?_) fun x s' hx => ee n s₀ x s' (hm.xe hx)
        -- behind the body
        have back : ∀ {t' s' : Shared} {ys' : List V} {σ' : L2.St} {H' : Hp}, Mid2 X xf L (ip ++ pinsAt fp s5.heap) ys' σ' H' t' s' → Mid2 X xf L ip ys' σ' H' t' s' ∧ tn (i + 1) s'.heap ∧ ∀ b ∈ fp, H' b = none := fun {t' s' ys' σ' H'} hM => by
          obtain ⟨s0', xe', p1, p2, I'⟩ := hM
          have pin' : ∀ b ∈ fp, ∀ o, s5.heap.get? b = some o → s'.heap.get? b = some o ∧ H' b = none := fun b hb o e =>
            let z := I'.pin (b, o) (List.mem_append_right _ (List.mem_append_right _ (mem_pinsAt hb e)))
            ⟨z.1, z.2.1⟩
          refine ⟨⟨s0', xe', p1, p2, I'.pins_of fun p hp => I'.pin p (List.mem_append_right _ (List.mem_append_left _ hp))⟩, T.keep _ _ _ st5 fun b hb o e => (pin' b hb o e).1, fun b hb => ?_⟩
          obtain ⟨o, e, _⟩ := T.obj _ _ st5 b hb
          exact (pin' b hb o e).2
        refine hb.run A L (ip ++ pinsAt fp s5.heap) R n ys s₀ _ _ _ _ id id s6 σ6 H6 { E with nx := N, ct := N, bk := E.nx } gl hn ⟨fun n' ys' s₀' s' f hn' hs => ?_, fun n' s₀' x s' hx => ee n' s₀' x s' hx⟩ ⟨s0, xe, hm, hL, I6⟩ q6
        cases f with
        | next =>
          obtain ⟨σ', H', M', n'⟩ := hs
          obtain ⟨m', hm, w'⟩ := hN ys' σ' H' n'
          obtain ⟨b1, b2, b3⟩ := back M'
          exact seg_again rfl (ih m' hm (i + 1) _ ys' s₀' s' σ' H' hn' w' b1 b2 b3)
        | cont =>
          obtain ⟨σ', H', M', n'⟩ := hs
          obtain ⟨m', hm, w'⟩ := hN ys' σ' H' n'
          obtain ⟨b1, b2, b3⟩ := back M'
          exact seg_again rfl (ih m' hm (i + 1) _ ys' s₀' s' σ' H' hn' w' b1 b2 b3)
        | brk =>
          obtain ⟨σ', H', M', q'⟩ := hs
          exact seg_leaf (.ok .next) (k.ok n' ys' s₀' s' .next hn' ⟨σ', H', (back M').1, q'⟩)
        | ret v =>
          obtain ⟨x', σ', H', M', r', q'⟩ := hs
          exact seg_leaf (.ok (.ret v)) (k.ok n' ys' s₀' s' (.ret v) hn' ⟨x', σ', H', (back M').1, r', q'⟩)
  exact loop m0 0 n ys s₀ s2 σ H2 hn w0 ⟨X.s_0, X.xe, hm, hL, I2⟩ st2 fun b hb => (f2 b hb).1
end
/-! ### by the data -/
def gFor2 (Fi : FI) (A : FG) (F : FGn) : FGn := fun ρ acc => match acc with
  | [] => gFor Fi A F ρ []
  | _ => .stuck
section
variable {X : Cx} {xf : Shared → Value → Shared → Prop} {G : Gam} {Wt : WX} {tg iter : Expr} {F : FGn} {A : FG} {Fi : FI} {pos : Pos} {body : List Stmt}
theorem ge_for (hp0 : PassesOwn (model X.prog X.w) X.A X.env X.xe) (hp : ∀ s0, PassesOwn (model X.prog X.w) X.A X.env (xf s0)) (hc : X.calm = true) (hi : PI X tg iter (tI G Wt Fi)) (hg : ∀ s0 xe, (s0 = X.s_0 ∧ xe = X.xe ∨ (∃ L, Vr L X.s_0 s0) ∧ xe = xf s0) → PG (rb X s0 xe) tg (tG G A)) (hb : GSse X xf body (tGn G Wt F)) (hs : ∀ x, foldedSetIterable iter X.env x = pure x := by intro _; rfl) : GSe X xf (.For tg iter body [] pos) (tGn G Wt (gFor2 Fi A F)) := by
  refine (gse_for hp0 hp hc hi hg hb hs).weak fun E ys σ H ⟨M, ρ, τ, acc, hl, R, q⟩ => ?_
  unfold gFor2 at q
  cases acc with
  | cons d acc' => exact q.elim
  | nil =>
  dsimp only at q
  refine ⟨nil_of hl rfl, M, ρ, aents ys (([] : List D).map Sl.val) ++ τ, R, True.intro, ?_⟩
  unfold gFor at q
  cases e : Fi ρ with
  | ok x =>
    obtain ⟨ds, ρ1⟩ := x
    rw [e] at q
    intro M' J Se H1 bk sk R1
    have cut : ∀ {a b c : List Ent} {ρ : Env} {σ : L2.St} {H : Hp}, RS G M' ρ (a ++ (b ++ c)) σ H → RS G M ρ (a ++ c) σ H := fun R => bk _ _ _ _ R.mid
    refine ⟨fun i m ys σ H => m = ds.length - i ∧ i ≤ ds.length ∧ ∃ ρ acc, acc.length = ys.length ∧ RS G M' ρ (Se ++ (aents ys (acc.map Sl.val) ++ τ)) σ H ∧ postG G Wt M τ (gForD A F (ds.drop i) ρ acc) E, ⟨ds.length, by simp, Nat.zero_le _, ρ1, [], hl, R1, q⟩, ?_⟩
    rintro i m ys σ H ⟨rfl, hi, ρ, acc, hl, R, q⟩
    obtain ⟨k1, k2⟩ := sk ρ _ σ H i R
    by_cases hlt : i < ds.length
    · obtain ⟨g1, g2⟩ := k2 _ (List.getElem?_eq_getElem hlt)
      refine .inr ⟨g1, fun ys' σ' H' => ∃ ρ2 acc2, acc2.length = ys'.length ∧ RS G M' ρ2 (Se ++ (aents ys' (acc2.map Sl.val) ++ τ)) σ' H' ∧ postG G Wt M τ (gForD A F (ds.drop (i + 1)) ρ2 acc2) E, fun ys' σ' H' ⟨ρ2, acc2, hl2, R2, q2⟩ => ⟨ds.length - (i + 1), by omega, rfl, hlt, ρ2, acc2, hl2, R2, q2⟩, fun x H' y => ?_⟩
      have R2 := g2 x H' y
      rw [List.drop_eq_getElem_cons hlt] at q
      have q' : postG G Wt M τ (match A (.val ds[i]) ρ with
        | some ρ1 => (F ρ1 acc).bind fun (f, acc1, ρ2) => match f with
          | .nx => gForD A F (ds.drop (i + 1)) ρ2 acc1
          | _ => .stuck
        | none => .stuck) E := q
      cases ea : A (.val ds[i]) ρ with
      | none => rw [ea] at q'; exact q'.elim
      | some ρ2 =>
        rw [ea] at q'
        refine ⟨M', ρ, _, _, ρ2, R2, ea, fun σ3 H3 R3 => ⟨M', ρ2, Se ++ τ, acc, hl, R3.perm (by rw [← List.append_assoc, ← List.append_assoc]; exact List.perm_append_comm.append_right τ), ?_⟩⟩
        dsimp only at q'
        cases ef : F ρ2 acc with
        | ok x =>
          obtain ⟨f, acc3, ρ3⟩ := x
          rw [ef] at q'
          cases f with
          | nx => exact fun ys4 σ4 H4 hl4 R4 => ⟨ρ3, acc3, hl4, R4.perm (by rw [← List.append_assoc, ← List.append_assoc]; exact List.perm_append_comm.append_right τ), q'⟩
          | bk => exact q'.elim
          | ct => exact q'.elim
          | rt w => exact q'.elim
        | exc c fs ρ' =>
          rw [ef] at q'
          exact fun dd vs σ4 H4 hx R4 => q' dd vs σ4 H4 hx (cut R4)
        | stuck => rw [ef] at q'; exact q'.elim
    · have hi' : i = ds.length := by omega
      subst hi'
      rw [List.drop_length] at q
      exact .inl ⟨k1 rfl, q ys σ H hl (bk _ _ _ _ R.drop)⟩
  | exc c fs ρ' =>
    rw [e] at q
    exact fun dd vs H' hx R' => q dd vs σ H' hx R'.mid
  | stuck => rw [e] at q; exact q
end
end Dl
/-! A generator def: what its call gives, for a consumer that is an old frame. -/
namespace Dl
open PySem PySem.Spec L2 GenW
open PyProof.Rows hiding St
abbrev wx (E : XK) : WX := fun cls d _ H => E cls d H
abbrev NoX2 : XK := fun _ _ _ => False
def xfG (P : Program) (w : World) (qual : Str) (scope : Scope) (f : Addr) (cdv : Value) (A : Around) (outer : List PySem.Env) (n : Addr) (H : Hp) (pn : List (Addr × Obj)) : Shared → Value → Shared → Prop := fun s0 e s' =>
  wpAny (model P w) (A.deeper (envOfC qual scope n f cdv)) (leaving (envOfC qual scope n f cdv) e) (fun _ s'' => CX P w outer H s0 NoX2 e s'' ∧ ∀ p ∈ pn, s''.heap.get? p.1 = some p.2) (fun _ _ => False) s'
section
variable {P : Program} {w : World} {K : PySem.W.Frag} {mg : Str → Option Value} {base : Heap} {N : List Str} {qual : Str} {scope : Scope} {f : Addr} {cdv : Value} {A : Around} {outer : List PySem.Env} {s : Shared} {H : Hp} {E : XK} {pn : List (Addr × Obj)} {G : Gam} {k : Nat} {st : Stmt} {e tg iter : Expr} {Fs : FS} {Fe : FE} {Fn : FGn} {Ag : FG} {Fi : FI} {yp pos : Pos} {body : List Stmt}
theorem rb_gcx {s0 : Shared} (h : s0.heap.objs.size = s.heap.objs.size) : rb (gcxOf P w K mg base N qual scope f cdv A outer s H E pn) s0 (xfG P w qual scope f cdv A outer s.heap.objs.size H pn s0) = gcxOf P w K mg base N qual scope f cdv A outer s0 H NoX2 pn := by
  unfold rb gcxOf cxOf xfG
  rw [h]
theorem fam_gcx {s0 : Shared} {xe : Value → Shared → Prop} {W : WX} (h : Mem (gcxOf P w K mg base N qual scope f cdv A outer s H E pn) (xfG P w qual scope f cdv A outer s.heap.objs.size H pn) (wx E) s0 xe W) :
    ∃ s' E', s'.heap.objs.size = s.heap.objs.size ∧ rb (gcxOf P w K mg base N qual scope f cdv A outer s H E pn) s0 xe = gcxOf P w K mg base N qual scope f cdv A outer s' H E' pn ∧ W = wx E' := by
  rcases h with ⟨h1, h2, h3⟩ | ⟨⟨L, v⟩, h2, h3⟩
  · refine ⟨s, E, rfl, ?_, h3⟩
    rw [h1, h2]
  · rw [h2]
    exact ⟨s0, NoX2, v.size, rb_gcx (s := s) v.size, h3⟩
theorem gq_plain (hr : Room k (A.deeper (envOfC qual scope s.heap.objs.size f cdv))) (h : ∀ (s : Shared) (E : XK), Room k (A.deeper (envOfC qual scope s.heap.objs.size f cdv)) → PS (gcxOf P w K mg base N qual scope f cdv A outer s H E pn) st (tS G (wx E) Fs)) :
    GSe (gcxOf P w K mg base N qual scope f cdv A outer s H E pn) (xfG P w qual scope f cdv A outer s.heap.objs.size H pn) st (tGn G (wx E) (gPlain2 Fs)) := ge_plain fun s0 xe W hm => by
  obtain ⟨s', E', h1, h2, h3⟩ := fam_gcx hm
  rw [h2, h3]
  exact h s' E' (by rw [h1]; exact hr)
theorem gq_yield (hr : Room k (A.deeper (envOfC qual scope s.heap.objs.size f cdv))) (h : ∀ (s : Shared) (E : XK), Room k (A.deeper (envOfC qual scope s.heap.objs.size f cdv)) → PE (gcxOf P w K mg base N qual scope f cdv A outer s H E pn) e (tE G (wx E) Fe))
    (hco : (gcxOf P w K mg base N qual scope f cdv A outer s H E pn).env.scope.isCoroutine = false := by rfl) (hi : interactive (gcxOf P w K mg base N qual scope f cdv A outer s H E pn).env = false := by rfl) :
    GSe (gcxOf P w K mg base N qual scope f cdv A outer s H E pn) (xfG P w qual scope f cdv A outer s.heap.objs.size H pn) (.Expr (.Yield (some e) yp) pos) (tGn G (wx E) (gYield2 Fe)) := ge_yield (fun s0 xe W hm => by
  obtain ⟨s', E', h1, h2, h3⟩ := fam_gcx hm
  rw [h2, h3]
  exact h s' E' (by rw [h1]; exact hr)) hco hi
theorem gq_for (hc : (gcxOf P w K mg base N qual scope f cdv A outer s H E pn).calm = true) (hi : PI (gcxOf P w K mg base N qual scope f cdv A outer s H E pn) tg iter (tI G (wx E) Fi)) (hg : ∀ (s : Shared) (E : XK), PG (gcxOf P w K mg base N qual scope f cdv A outer s H E pn) tg (tG G Ag))
    (hb : GSse (gcxOf P w K mg base N qual scope f cdv A outer s H E pn) (xfG P w qual scope f cdv A outer s.heap.objs.size H pn) body (tGn G (wx E) Fn)) (hs : ∀ x, foldedSetIterable iter (gcxOf P w K mg base N qual scope f cdv A outer s H E pn).env x = pure x := by intro _; rfl) :
    GSe (gcxOf P w K mg base N qual scope f cdv A outer s H E pn) (xfG P w qual scope f cdv A outer s.heap.objs.size H pn) (.For tg iter body [] pos) (tGn G (wx E) (gFor2 Fi Ag Fn)) := by
  refine ge_for owns_gcx (fun s0 => ?_) hc hi (fun s0 xe hm => ?_) hb hs
  · exact passes_of (X := rb (gcxOf P w K mg base N qual scope f cdv A outer s H E pn) s0 (xfG P w qual scope f cdv A outer s.heap.objs.size H pn s0)) (K := fun e s'' => CX P w outer H s0 NoX2 e s'' ∧ ∀ p ∈ pn, s''.heap.get? p.1 = some p.2) (E₁ := fun _ _ => False) rfl
  · rcases hm with ⟨h1, h2⟩ | ⟨⟨L, v⟩, h2⟩
    · rw [h1, h2]
      exact hg s E
    · rw [h2, rb_gcx (s := s) v.size]
      exact hg s0 NoX2
end
/-- the object at L is what it was, but for its slots -/
def AsW (L : Addr) (t s : Shared) : Prop := ∀ o, t.heap.get? L = some o → ∃ sl, s.heap.get? L = some { o with slots := sl }
/-- the end of the run -/
def EndE (P : Program) (w : World) (outer : List PySem.Env) (H : Hp) (s : Shared) (L a : Addr) (g : Nat) (Q : List V → Hp → Prop) (E : XK) : GenEnd := fun n t r s1 =>
  ((r = .ok (.ret .none) ∨ r = .ok .next) ∧ ∃ s0 H' ys, Vr L s s0 ∧ s0.heap.get? L = t.heap.get? L ∧ (s1.os = s.os ∧ AllBare s1.gens ∧ Un (frs outer) [] H H' s0.heap s1.heap ∧ HOk P w H' s1.heap) ∧ n + ys.length = sizeLine ∧ Q ys H') ∨
  ∃ e, r = .error e ∧ CX P w outer H s E e s1 ∧ s1.heap.IsGen a g
/-- an item is handed out -/
def ItemE (s : Shared) (L a : Addr) (g : Nat) : Protocol := fun n t v s1 kap =>
  (s1.os = s.os ∧ AllBare s1.gens ∧ s1.heap.NoLimit ∧ s1.heap.IsGen a g) ∧ AsW L t s1 ∧ ∀ s', Nap2 L s1 s' → kap (.send .none) s'
/-- a generator that has not begun -/
def MadeE (P : Program) (w : World) (k : Nat) (outer : List PySem.Env) (H : Hp) (s : Shared) (Q : List V → Hp → Prop) (E : XK) (u : Value) (s' : Shared) : Prop :=
  ∃ (a : Addr) (g : Nat) (c : Code), u = .ref a ∧ (s.heap.objs.size ≤ a ∧ a < s'.heap.objs.size) ∧ s'.heap.IsGen a g ∧ s'.gens[g]? = some (.fresh c) ∧ (s'.os = s.os ∧ AllBare s'.gens ∧ s'.heap.NoLimit) ∧ (∀ b o, s.heap.get? b = some o → s'.heap.get? b = some o) ∧
    ∀ (A : Around) (L : Addr) (s2 : Shared), Room k A → A.frames = some outer → L ∈ frs outer → (∀ b o, s'.heap.get? b = some o → s2.heap.get? b = some o) → s2.os = s.os → AllBare s2.gens →
      Seg (model P w) A (EndE P w outer H s L a g Q E) (ItemE s L a g) sizeLine s2 c ((model P w).den c) [] s2
structure GFe (P : Program) (w : World) (K : PySem.W.Frag) (mg : Str → Option Value) (base : Heap) (k : Nat) (f : Addr) (fd : FuncData) (ps : List Str) (sp : SpG) : Prop where
  len : ∀ vs H Q E, sp vs H Q E → vs.length = ps.length
  run : ∀ (A : Around) (outer : List PySem.Env) (s : Shared) (H : Hp) (args : Args) (us : List Value) (vs : List V) (Q : List V → Hp → Prop) (E : XK), Room k A → Env0 P w K mg base A outer s H → BindsTo s fd args (ps.zip us) → Vals vs us → sp vs H Q E →
    codeAny (model P w) A (.call (.ref f) args) (fun r s' => match r with | .ok (.ret u) => MadeE P w k outer H s Q E u s' | _ => False) s
theorem cx_no {P : Program} {w : World} {outer : List PySem.Env} {H : Hp} {s s' : Shared} {e : Value} (h : CX P w outer H s NoX2 e s') : False := by
  obtain ⟨_, _, _, _, _, _, _, _, _, _, _, _, hW⟩ := h
  exact hW
section
variable {P : Program} {w : World} {K : PySem.W.Frag} {mg : Str → Option Value} {base : Heap} {k : Nat} {f : Addr} {x qual : Str} {params : Arguments} {body : List Stmt} {scope : Scope} {dvs : List V} {kws : List (Str × V)} {fd : FuncData} {N ps : List Str} {sp : SpG}
theorem gfe_of (F : FunD K x qual params body scope dvs kws f fd) (S : GScope N ps scope) (len : ∀ vs H Q E, sp vs H Q E → vs.length = ps.length)
    (hbody : ∀ (cdv : Value) (A : Around) (outer : List PySem.Env) (s : Shared) (H : Hp) (vs : List V) (Q : List V → Hp → Prop) (E : XK) (pn : List (Addr × Obj)), Room k (A.deeper (envOfC qual scope s.heap.objs.size f cdv)) → sp vs H Q E →
      ∃ t, GSse (gcxOf P w K mg base N qual scope f cdv A outer s H E pn) (xfG P w qual scope f cdv A outer s.heap.objs.size H pn) body t ∧ t { nx := fun ys _ H' => Q ys H', rt := fun _ _ _ => False } [] (start N vs) H) :
    GFe P w K mg base (k + 1) f fd ps sp := by
  obtain ⟨oc, od, dV, kV, doc, pm, an, cdv, ct, osl, rfl, lk, hcd, _, _⟩ := F.ex
  refine ⟨len, fun A outer s H args us vs Q E hr e0 hb r hsp => ?_⟩
  have hl := len _ _ _ _ hsp
  have old : ∀ b o, base.get? b = some o → s.heap.get? b = some o := fun b o e => (e0.bs b o e).1
  have KX : K.In s.heap := e0.mod.kin.keeps old
  have lim : s.heap.NoLimit := e0.mod.nolimit.keeps old
  have hkind : ∀ y ∈ ps.zip us, scope.names.lookup y.1 = some .local ∨ (scope.names.lookup y.1 = some .cell ∧ ((cellsFrom (s.heap.objs.size + 1) scope.names []).lookup y.1).isSome = true) := by
    rintro ⟨n, v⟩ hy
    have z := S.par n (List.of_mem_zip hy).1
    rcases z with z | z
    · exact .inl z
    · exact .inr ⟨z, PySem.W.cellsFrom_some _ _ _ (.inl z)⟩
  refine codeAny_call_generator hr.depth (KX _ _ lk) rfl S.co S.gen rfl (PySem.W.codeRec_of KX hcd) (hb _ _ _ _ ?_)
  refine wpAny_newFunctionEnv_cells S.kind hkind fun env he s1 xc => ?_
  subst he
  refine ⟨lim.keeps xc.toInCall.keep, ?_⟩
  have lim1 : s1.heap.NoLimit := lim.keeps xc.toInCall.keep
  obtain ⟨h1, tk, es1, hk1⟩ := xc.done
  have os1 : s1.os = s.os := by rw [es1]
  have gen1 : s1.gens = s.gens := by rw [es1]
  have lt1 : s.heap.objs.size < s1.heap.objs.size := xc.toInCall.ns.lt
  have kp1 : ∀ b o, s.heap.get? b = some o → s1.heap.get? b = some o := xc.toInCall.keep
  -- the generator's object
  have main : ∀ (go : Obj) (nm qn : Value) (tk2 : Nat), go.cls = .type "generator" → go.data = .fields #[.int s1.gens.size 0, nm, qn] → go.slots = #[] → (∀ h : Heap, (h.push go).get? h.objs.size = some go) →
      MadeE P w (k + 1) outer H s Q E (.ref s1.heap.objs.size) { s1 with gens := s1.gens.push (.fresh (.func body (envOfC qual scope s.heap.objs.size f cdv))), toks := tk2, heap := s1.heap.push go } := by
    intro go nm qn tk2 hgc hgd0 hgs hgp
    have isg : ∀ h : Heap, h.get? s1.heap.objs.size = some go → h.IsGen s1.heap.objs.size s1.gens.size := fun h e => ⟨go, nm, qn, e, hgc, hgd0, hgs⟩
    have hpushed : (s1.heap.push go).get? s1.heap.objs.size = some go := hgp _
    have szp : (s1.heap.push go).objs.size = s1.heap.objs.size + 1 := Heap.size_push ..
    refine ⟨s1.heap.objs.size, s1.gens.size, _, rfl, ⟨Nat.le_of_lt lt1, by show _ < (s1.heap.push go).objs.size; omega⟩, isg _ hpushed, Array.getElem?_push_size .., ⟨os1, AllBare.push (by rw [gen1]; exact e0.bare) rfl, lim1.keeps fun b o e => Heap.get?_push_of_some _ e⟩, fun b o e => Heap.get?_push_of_some _ (kp1 b o e), ?_⟩
    intro Aw L s2 hrw hfr hLf hk2 hos hba
    have e0w : Env0 P w K mg base Aw outer s H := ⟨hfr, e0.mod, e0.bs, e0.bsz, e0.funs, e0.frf, e0.hok, e0.bare⟩
    obtain ⟨t, ht, hq⟩ := hbody cdv Aw outer s H vs Q E [(s1.heap.objs.size, go)] (hrw.deeper _) hsp
    have I1 : Inv (gcxOf P w K mg base N qual scope f cdv Aw outer s H E []) [] (start N vs) H s1 := inv_startG S hrw.hd e0w hl r xc
    have kp2 : ∀ b o, s1.heap.get? b = some o → s2.heap.get? b = some o := fun b o e => hk2 b o (Heap.get?_push_of_some _ e)
    have I2 : Inv (gcxOf P w K mg base N qual scope f cdv Aw outer s H E []) [] (start N vs) H s2 :=
      I1.call' (ch := []) (hos.trans os1.symm) (Un.kept kp2) (I1.hok.kept kp2) hba fun b z => by simp at z
    have hea : s2.heap.get? s1.heap.objs.size = some go := hk2 s1.heap.objs.size go hpushed
    have hgd : ∀ v, go.data ≠ .cell v := fun v q => by rw [hgd0] at q; cases q
    have I3 : Inv (gcxOf P w K mg base N qual scope f cdv Aw outer s H E [(s1.heap.objs.size, go)]) [] (start N vs) H s2 := Inv.pinnedG I2 fun p hp => by
      rw [List.append_nil] at hp
      rw [List.mem_singleton.mp hp]
      exact ⟨hea, I1.hok.fresh (Nat.le_refl _), Nat.ne_of_gt lt1, I1.nofs (Nat.le_refl _), hgd⟩
    obtain ⟨_, oL, hoL, _⟩ := e0.funs.mem hLf
    have eL : s.heap.get? L = s2.heap.get? L := hoL.trans (kp2 L oL (kp1 L oL hoL)).symm
    have hG : Mid2 (gcxOf P w K mg base N qual scope f cdv Aw outer s H E [(s1.heap.objs.size, go)]) (xfG P w qual scope f cdv Aw outer s.heap.objs.size H [(s1.heap.objs.size, go)]) L [] [] (start N vs) H s2 s2 :=
      ⟨s, _, .inl ⟨rfl, rfl, rfl⟩, eL, I3⟩
    have hLlt : L < s.heap.objs.size := Heap.lt_size hoL
    have hA : FarL (gcxOf P w K mg base N qual scope f cdv Aw outer s H E [(s1.heap.objs.size, go)]) L := ⟨hLf, Nat.ne_of_lt hLlt, fun y c e z => by
      have := xc.above y c (PySem.mem_of_lookup e)
      rw [z] at this
      exact absurd (Nat.lt_of_lt_of_le hLlt (Nat.le_trans (Nat.le_succ _) this)) (Nat.lt_irrefl _), rfl⟩
    have pinned : ∀ {ip : List (Addr × Obj)} {ys : List V} {t' s' : Shared} {σ' : L2.St} {H' : Hp}, Mid2 (gcxOf P w K mg base N qual scope f cdv Aw outer s H E [(s1.heap.objs.size, go)]) (xfG P w qual scope f cdv Aw outer s.heap.objs.size H [(s1.heap.objs.size, go)]) L ip ys σ' H' t' s' → s'.heap.IsGen s1.heap.objs.size s1.gens.size ∧ AsW L t' s' := fun {ip ys t' s' σ' H'} hI => by
      obtain ⟨s0, xe, hm, hL, J⟩ := hI
      refine ⟨isg _ (J.pin (s1.heap.objs.size, go) (List.mem_append_left _ (List.mem_singleton.mpr rfl))).1, fun o e => ?_⟩
      have e2 : s0.heap.get? L = some o := hL.trans e
      exact J.base.slot L o e2 (e0.frf L hLf) hLf (by show L ∉ ([] : List Addr); simp)
    refine seg_func ?_
    refine seg_imp (R := GRe (gcxOf P w K mg base N qual scope f cdv Aw outer s H E [(s1.heap.objs.size, go)]) (xfG P w qual scope f cdv Aw outer s.heap.objs.size H [(s1.heap.objs.size, go)]) L (fun ys v H' => v = .non ∧ Q ys H') fun e s' => CX P w outer H s E e s' ∧ ∀ p ∈ [(s1.heap.objs.size, go)], s'.heap.get? p.1 = some p.2)
      (Y := GYe (gcxOf P w K mg base N qual scope f cdv Aw outer s H E [(s1.heap.objs.size, go)]) (xfG P w qual scope f cdv Aw outer s.heap.objs.size H [(s1.heap.objs.size, go)]) L) (fun n s₀ r s1' hR => ?_) (fun n s₀ v s1' kap kap' hkk hY => ?_) sizeLine ?_
    · cases r with
      | error e =>
        obtain ⟨q1, q2⟩ := hR
        exact .inr ⟨e, rfl, q1, isg _ (q2 (s1.heap.objs.size, go) (List.mem_singleton.mpr rfl))⟩
      | ok fl =>
        cases fl with
        | next => exact False.elim hR
        | brk => exact False.elim hR
        | cont => exact False.elim hR
        | ret u =>
          obtain ⟨ys, v, ip, σ', H', hn, hI, rv, ev, hQ⟩ := hR
          subst ev
          have eu : u = Value.none := rv
          subst eu
          obtain ⟨s0, xe, hm, hL, J⟩ := hI
          exact .inl ⟨.inl rfl, s0, H', ys, hm.vr, hL, ⟨J.os.trans hm.vr.os, J.bare, J.base, J.hok⟩, hn, hQ⟩
    · obtain ⟨ys, xx, ip, σ', H', hn, h2, hI, h3⟩ := hY
      obtain ⟨hg, aw⟩ := pinned hI
      obtain ⟨s0, xe, hm, hL, J⟩ := hI
      exact ⟨⟨J.os.trans hm.vr.os, J.bare, J.nolimit, hg⟩, aw, fun s' z => hkk _ _ (h3 s' z)⟩
    · refine ht.run Aw L [] _ sizeLine [] s2 _ [] _ _ id id s2 (start N vs) H _ ⟨hA, over_func, rfl, rfl, rfl⟩ (Nat.add_zero _) ⟨fun n ys s₀ s' fl hn hs => ?_, fun n s₀ e s' hx => ?_⟩ hG hq
      · cases fl with
        | next =>
          obtain ⟨σ', H', hI, hQ⟩ := hs
          exact seg_end (.ok (.ret .none)) ⟨ys, .non, [], σ', H', hn, hI, rfl, rfl, hQ⟩
        | brk => obtain ⟨_, _, _, q⟩ := hs; exact False.elim q
        | cont => obtain ⟨_, _, _, q⟩ := hs; exact False.elim q
        | ret u => obtain ⟨_, _, _, _, _, q⟩ := hs; exact False.elim q
      · refine seg_wrap ?_
        rw [over_func]
        have hx' : wpAny (model P w) (Aw.deeper (envOfC qual scope s.heap.objs.size f cdv)) (leaving (envOfC qual scope s.heap.objs.size f cdv) e) (fun _ s'' => CX P w outer H s E e s'' ∧ ∀ p ∈ [(s1.heap.objs.size, go)], s''.heap.get? p.1 = some p.2) (fun _ _ => False) s' := by
          rcases hx with hx | ⟨s0, _, hx⟩
          · exact hx
          · exact wpAny_mono hx (fun _ s'' q => (cx_no q.1).elim) fun _ _ q => q
        refine wpAny_mono hx' (fun _ s'' q => ?_) fun _ s'' q => q.elim
        exact seg_end (.error e) q
  exact main _ _ _ _ rfl rfl rfl fun h => Heap.get?_push_size _ rfl
end
theorem gq_ok {P : Program} {w : World} {K : PySem.W.Frag} {mg : Str → Option Value} {base : Heap} {k : Nat} {f : Addr} {x qual : Str} {params : Arguments} {body : List Stmt} {scope : Scope} {dvs : List V} {kws : List (Str × V)} {fd : FuncData} {N ps : List Str} {G : Gam} {n : Nat} {Fb : FGn}
    (F : FunD K x qual params body scope dvs kws f fd) (S : GScope N ps scope) (hn : ps.length = n)
    (hb : ∀ (cdv : Value) (A : Around) (outer : List PySem.Env) (s : Shared) (H : Hp) (E : XK) (pn : List (Addr × Obj)), Room k (A.deeper (envOfC qual scope s.heap.objs.size f cdv)) →
      GSse (gcxOf P w K mg base N qual scope f cdv A outer s H E pn) (xfG P w qual scope f cdv A outer s.heap.objs.size H pn) body (tGn G (wx E) Fb)) :
    GFe P w K mg base (k + 1) f fd ps (spG2 G n (runG (N.length - n) Fb)) := by
  subst hn
  refine gfe_of F S (fun vs H Q E h => h.1) fun cdv A outer s H vs Q E pn hr h => ⟨_, hb cdv A outer s H E pn hr, ?_⟩
  obtain ⟨hl, M, ws, hw, R, h⟩ := h
  have R1 := start_rs (N := N) (hw.trans hl.symm) R
  refine ⟨M, _, [], [], rfl, R1, ?_⟩
  unfold runG at h
  rw [hl]
  cases e : Fb (ws ++ List.replicate (N.length - ps.length) Sl.none) [] with
  | ok a =>
    obtain ⟨fl, acc, ρ'⟩ := a
    rw [e] at h
    cases fl with
    | nx => exact fun ys σ' H' hl' R' => h ys H' hl' (by
        have := R'.re.drop
        rwa [List.append_nil] at this)
    | rt w => exact h.elim
    | bk => exact h.elim
    | ct => exact h.elim
  | exc c fs ρ' =>
    rw [e] at h
    exact fun dd us σ' H' hx R' => h dd us H' hx (by
      have := R'.selfs
      rw [List.append_nil] at this
      exact this.noself)
  | stuck => rw [e] at h; exact h.elim
end Dl
/-! for x in g(..): y = y + 1 -/
namespace Dl
open PySem PySem.Spec L2 GenW
open PyProof.Rows hiding St
/-- the frame's names have changed -/
theorem Inv.atL {X : Cx} {pins : List (Addr × Obj)} {σ σ' : L2.St} {H : Hp} {sc s0 : Shared} {m : Str → Option Value} (I : Inv X pins σ H sc) (v : Vr X.env.locals sc s0) (hg : AllBare s0.gens) (hn : s0.heap.Ns X.env.locals m) (hl : σ'.length = σ.length)
    (hloc : ∀ (i : Nat) (x : Str) (v : V), X.N[i]? = some x → σ'[i]? = some (some v) → Vis X.env.scope x → ∃ u, RelV v u ∧ Look X.env sc.heap m x u) : Inv X pins σ' H s0 := by
  have above : ∀ {b o}, X.s_0.heap.get? b = some o → b ≠ X.env.locals := fun {b o} e => Nat.ne_of_lt (Nat.lt_of_lt_of_le (Heap.lt_size e) I.ok.above)
  obtain ⟨_, ⟨oL, _, _, hoL, hdL, _⟩, _⟩ := id I.loc
  have cne : ∀ x c, X.env.cells.lookup x = some c → c ≠ X.env.locals := fun x c e z => by
    obtain ⟨w, oc, hc, hd⟩ := I.cell x c e
    rw [z, hoL] at hc
    cases hc
    rw [hdL] at hd
    cases hd
  have nt : ∀ b u, H b = some u → b ≠ X.env.locals := fun b u q e => by rw [e, I.free] at q; cases q
  refine ⟨I.ok, v.os.trans I.os, hg, ⟨?_, ?_, I.base.free, ?_, I.base.tups, I.base.frzs, I.base.tbls⟩, ⟨m, hn, fun i x w e1 e2 e3 => ?_⟩, fun x c e => ?_, I.free, I.freeC, fun p hp => ?_, fun b u q => ?_, hl.trans I.len⟩
  · exact fun b o e n hb hx => (v.keep b (above e)).trans (I.base.keep b o e n hb hx)
  · intro b o e n hb hx
    obtain ⟨sl, e1⟩ := I.base.slot b o e n hb hx
    exact ⟨sl, (v.keep b (above e)).trans e1⟩
  · intro b o e hx
    obtain ⟨o', e1⟩ := I.base.there b o e hx
    exact ⟨o', (v.keep b (above e)).trans e1⟩
  · obtain ⟨u, ru, q⟩ := hloc i x w e1 e2 e3
    refine ⟨u, ru, ?_⟩
    rcases q with q | ⟨k, c, e, oc, hc, hd⟩
    · exact .inl q
    · exact .inr ⟨k, c, e, oc, (v.keep c (cne x c e)).trans hc, hd⟩
  · obtain ⟨w, oc, hc, hd⟩ := I.cell x c e
    exact ⟨w, oc, (v.keep c (cne x c e)).trans hc, hd⟩
  · obtain ⟨e, n, ne, nf, d⟩ := I.pin p hp
    exact ⟨(v.keep p.1 ne).trans e, n, ne, nf, d⟩
  · refine (I.hok b u q).stay (fun c w hc e => (v.keep c ?_).trans e) (fun _ e => e) fun _ _ e => e
    rcases hc with z | z
    · rw [z]; exact nt b u q
    · exact nt c _ z
/-- the slots behind k turns -/
def turnS (i j : Nat) (c : Int) (σ : L2.St) (k : Nat) : L2.St := if k = 0 then σ else (σ.set i none).set j (some (.int (c + k)))
theorem turnS_len {i j : Nat} {c : Int} {σ : L2.St} {k : Nat} : (turnS i j c σ k).length = σ.length := by
  unfold turnS
  split <;> simp
section
variable {X : Cx} {pins : List (Addr × Obj)} {σ : L2.St} {H : Hp} {sc : Shared} {Q : List V → Hp → Prop} {E : XK} {a : Addr} {g : Nat} {x y : Str} {i j : Nat} {c : Int} {px py py2 apos bpos cpos pos : Pos} {ck : Nat} {D : Ends}
/-- the loop -/
theorem for_gen (I : Inv X pins σ H sc) (hh : X.A.handled = none) (hd : X.A.depth < recursionLimit) (hp : PassesOwn (model X.prog X.w) X.A X.env X.xe) (hst : X.stack = X.env :: X.outer) (hN : X.N.Nodup) (hx : X.N[i]? = some x) (hy : X.N[j]? = some y) (hij : i ≠ j)
    (hxl : X.env.scope.names.lookup x = some .local) (hyl : X.env.scope.names.lookup y = some .local) (hyd : (y == ("__debug__" : Str)) = false) (hc : σ[j]? = some (some (.int c))) (haL : X.env.locals ≠ a) (hLs : X.env.locals ≠ cStatics)
    (hxx : PassesAt (L2.CX X.prog X.w) X σ E) (hns : NoStop X.K E)
    (hend : ∀ ys H' s', Q ys H' → Inv X pins (turnS i j c σ ys.length) H' s' → D.nx (turnS i j c σ ys.length) H') :
    ∀ (s : Shared) (m0 : Str → Option Value), s.heap.IsGen a g → s.heap.NoLimit → s.heap.Ns X.env.locals m0 → (∀ (k : Nat) (z : Str) (v : V), X.N[k]? = some z → σ[k]? = some (some v) → Vis X.env.scope z → ∃ u, RelV v u ∧ Look X.env sc.heap m0 z u) →
      (∃ gs, s.gens[g]? = some gs ∧ gs.Goes (model X.prog X.w) X.A.in1 (EndE X.prog X.w X.stack H sc X.env.locals a g Q E) (ItemE sc X.env.locals a g) sizeLine (.send .none) (s.setGen g .running)) →
      codeAny (model X.prog X.w) X.A (.forLoop (.Name x px) (.ref a) [.Assign [.Name y py] (.BinOp (.Name y py2) .Add (.Constant (.int 1) ck cpos) bpos) apos] [] X.env) (fun r s' => match r with | .ok f => SP X pins D f s' | .error e => cameBackBy (model X.prog X.w) X.A X.env X.xe e s') s := by
  have goes : ∀ {gs : GenState} {B : Around} {n : Nat} {r : Resume} {s : Shared}, gs.Goes (model X.prog X.w) B (EndE X.prog X.w X.stack H sc X.env.locals a g Q E) (ItemE sc X.env.locals a g) n r s →
      gs.Goes (model X.prog X.w) B (fun n t r s1 => ((r = .ok (.ret .none) ∨ r = .ok .next) ∧ (∃ s0 H' ys, Vr X.env.locals sc s0 ∧ s0.heap.get? X.env.locals = t.heap.get? X.env.locals ∧ (s1.os = sc.os ∧ AllBare s1.gens ∧ Un (frs X.stack) [] H H' s0.heap s1.heap ∧ HOk X.prog X.w H' s1.heap) ∧ n + ys.length = sizeLine ∧ Q ys H')) ∨
        ∃ e, r = .error e ∧ (CX X.prog X.w X.stack H sc E e s1 ∧ s1.heap.IsGen a g)) (ItemE sc X.env.locals a g) n r s := fun h => h
  have hkx : X.env.kindOf x = some .local := hxl
  have hky : X.env.kindOf y = some .local := hyl
  have hxy : x ≠ y := fun e => hij (nodup_ix hN hx (e ▸ hy))
  have hjl : j < σ.length := (List.getElem?_eq_some_iff.mp hc).1
  have hcls : (X.env.scope.kind == .class || (X.env.scope.kind == .module && X.env.locals != X.env.globals)) = false := by rw [I.ok.kind]; rfl
  intro s m0 hg hl hn hlk hgo
  refine codeAny_forLoop_any (fun n s => s.heap.IsGen a g ∧ s.heap.NoLimit ∧ n ≤ sizeLine ∧ (∃ m, s.heap.Ns X.env.locals m ∧ ∀ (k : Nat) (z : Str) (v : V), X.N[k]? = some z → (turnS i j c σ (sizeLine - n))[k]? = some (some v) → Vis X.env.scope z → ∃ u, RelV v u ∧ Look X.env sc.heap m z u) ∧
    ∃ gs, s.gens[g]? = some gs ∧ gs.Goes (model X.prog X.w) X.A.in1 (EndE X.prog X.w X.stack H sc X.env.locals a g Q E) (ItemE sc X.env.locals a g) n (.send .none) (s.setGen g .running)) ?_ sizeLine ⟨hg, hl, Nat.le_refl _, ⟨m0, hn, by rw [Nat.sub_self]; exact hlk⟩, hgo⟩
  clear hg hl hn hlk hgo
  rintro n s ⟨hg, hl, hnle, ⟨m, hn, hlk⟩, gs, hgs, hgo⟩
  have hgl : g < s.gens.size := (Array.getElem?_eq_some_iff.mp hgs).1
  refine wpAny_passesOwn hp (wpAny_gsz (n := g + 1) hgl (next_genG (A := X.A) hh hl hd hg hgs (goes hgo) (fun v s₁ gs' hbare hv => ?_) (fun s₁ hpp h' hk => ?_) fun e s₁ he => ?_))
  · -- an item
    intro hsz
    obtain ⟨⟨os1, hb1, hl1, hg1⟩, aw, hk⟩ := hv
    have hns1 : s₁.heap.Ns X.env.locals m := by
      obtain ⟨o, es, ep, ho, r⟩ := id hn
      obtain ⟨sl, e⟩ := aw o ho
      exact ⟨_, es, ep, e, r⟩
    have hsz1 : g < s₁.gens.size := by
      have q : (s₁.setGen g gs').gens.size = s₁.gens.size := setGen_size _ _ _
      have hsz' : g + 1 ≤ (s₁.setGen g gs').gens.size := hsz
      omega
    refine wpAny_passesOwn hp (wpAny_pure ?_)
    refine wpAny_passesOwn hp (wpAny_assign_Name (wpAny_storeName_local hkx (m := m) hns1 (fun h2 hn2 hs2 => ?_) hcls))
    -- the count as it stands
    obtain ⟨u, ru, lu⟩ := hlk j y (.int (c + (sizeLine - n : Nat))) hy (by
      unfold turnS
      split
      · rename_i e0
        rw [e0, hc]
        simp
      · rw [List.getElem?_set_self (by simpa using hjl)]) (.inl hyl)
    obtain ⟨t, rfl⟩ := ru
    have hmy : m y = some (.int (c + (sizeLine - n : Nat)) t) := by
      rcases lu with ⟨_, e⟩ | ⟨k, _⟩
      · exact e
      · rw [hky] at k
        rcases k with k | k <;> cases k
    refine wpAny_passesOwn hp (wpAny_execs_cons (wpAny_Assign_Name (wpAny_BinOp (wpAny_Name (wpAny_loadName_local I.ok.kind hky hn2 (v := .int (c + (sizeLine - n : Nat)) t) (by rw [if_neg (Ne.symm hxy)]; exact hmy) (wpAny_Constant_int (add_int ?_))) hyd))))
    refine wpAny_storeName_local hky (m := fun z => if z = x then some v else m z) hn2 (fun h3 hn3 hs3 => ?_) hcls
    refine wpAny_execs_nil ?_
    have keep3 : ∀ b o, b ≠ X.env.locals → s₁.heap.get? b = some o → h3.get? b = some o := fun b o hb e => (hs3.2 b hb).trans ((hs2.2 b hb).trans e)
    have nap : ∀ (tk : Nat), Nap2 X.env.locals s₁ (({ s₁.setGen g gs' with heap := h3, toks := tk } : Shared).setGen g .running) := fun tk => ⟨rfl, allBare_setGen (s := { s₁.setGen g gs' with heap := h3, toks := tk }) (allBare_setGen hb1 hbare) rfl, keep3, by
      obtain ⟨o, es, ep, ho, hdd, _⟩ := id hn3
      exact ⟨o, ho, fun u q => (by rw [hdd] at q; cases q), fun vs q => (by rw [hdd] at q; cases q)⟩⟩
    cases n with
    | zero => exact (hk _ (nap 0)).elim
    | succ n' =>
      refine ⟨n', Nat.lt_succ_self _, ?_, ?_, Nat.le_of_succ_le hnle, ⟨_, hn3, fun k z w e1 e2 e3 => ?_⟩, gs', setGen_at (s := s₁) hsz1, hk _ (nap _)⟩
      · obtain ⟨o, nm, qn, ho, r⟩ := hg1
        exact ⟨o, nm, qn, keep3 a o (Ne.symm haL) ho, r⟩
      · obtain ⟨mc, hns, hnn⟩ := hl1
        exact ⟨mc, hns.at' fun o e => keep3 _ o (Ne.symm hLs) e, hnn⟩
      · have hk1 : sizeLine - n' = (sizeLine - (n' + 1)) + 1 := by omega
        have e2' := e2
        unfold turnS at e2'
        rw [if_neg (by omega)] at e2'
        by_cases hkj : k = j
        · subst hkj
          rw [List.getElem?_set_self (by simpa using hjl)] at e2'
          cases e2'
          have ez : z = y := by rw [hy] at e1; exact (Option.some.inj e1).symm
          subst ez
          have ev : c + ((sizeLine - n' : Nat) : Int) = c + ((sizeLine - (n' + 1) : Nat) : Int) + 1 := by
            rw [hk1]
            push_cast
            omega
          rw [ev]
          exact ⟨_, ⟨_, rfl⟩, .inl ⟨hky, if_pos rfl⟩⟩
        · rw [List.getElem?_set_ne (Ne.symm hkj)] at e2'
          by_cases hki : k = i
          · subst hki
            rw [List.getElem?_set_self (by
              have := (List.getElem?_eq_some_iff.mp e2').1
              simpa using this)] at e2'
            cases e2'
          · rw [List.getElem?_set_ne (Ne.symm hki)] at e2'
            have hzy : z ≠ y := fun q => hkj (nodup_ix hN e1 (q ▸ hy))
            have hzx : z ≠ x := fun q => hki (nodup_ix hN e1 (q ▸ hx))
            obtain ⟨u, ru, lu⟩ := hlk k z w e1 (by
              unfold turnS
              split
              · exact e2'
              · rw [List.getElem?_set_ne (Ne.symm hkj), List.getElem?_set_ne (Ne.symm hki)]
                exact e2') e3
            refine ⟨u, ru, ?_⟩
            rcases lu with ⟨q1, q2⟩ | q
            · exact .inl ⟨q1, by dsimp only; rw [if_neg hzy, if_neg hzx]; exact q2⟩
            · exact .inr q
  · -- the end
    intro hsz
    obtain ⟨s0, H', ys, hv, eL, ⟨os1, hb1, un, hok⟩, hnl, hQ⟩ := hpp
    refine wpAny_execs_nil ?_
    have ek : sizeLine - n = ys.length := by omega
    have hn0 : s0.heap.Ns X.env.locals m := by
      obtain ⟨o, es, ep, ho, r⟩ := id hn
      exact ⟨o, es, ep, eL.trans ho, r⟩
    have I0 : Inv X pins (turnS i j c σ ys.length) H { s0 with gens := sc.gens } := Inv.atL I (s0 := { s0 with gens := sc.gens }) ⟨hv.size, hv.os, hv.keep⟩ I.bare hn0 turnS_len (by rw [← ek]; exact hlk)
    have I1 : Inv X pins (turnS i j c σ ys.length) H' { s₁.setGen g .finished with heap := h' } := I0.call' (ch := []) (os1.trans hv.os.symm) (un.trans (Un.kept hk)) (hok.kept hk) (allBare_setGen hb1 rfl) fun b z => by simp at z
    exact ⟨_, H', I1, hend ys H' _ hQ I1⟩
  · -- it raises
    obtain ⟨hc, hg1⟩ := he
    have kin : X.K.In s₁.heap := by
      obtain ⟨a, B, H', cls, d, _, fl, _, ub, _⟩ := id hc
      refine I.ok.mod.kin.keeps fun b o eb => fl.1 b o (ub.keep b o (I.bs b o eb).1 (I.bs b o eb).2 fun hm => ?_)
      rcases List.mem_cons.mp (I.stkSub b hm) with z | z
      · have h1 := Heap.lt_size eb
        have h2 := Nat.le_trans I.ok.bsz I.ok.above
        rw [z] at h1
        exact absurd (Nat.lt_of_lt_of_le h1 h2) (Nat.lt_irrefl _)
      · exact I.ok.nofr eb z
    refine ⟨hg1, notStop_of hns kin hc, fun _ => hxx pins H sc e _ I ?_⟩
    obtain ⟨a, B, H', cls, d, z1, fl, z2, ub, z3, z4, z5, z6⟩ := hc
    exact ⟨a, B, H', cls, d, z1, fl, z2, ub, z3, z4, allBare_setGen z5 rfl, z6⟩
end
end Dl
/-! for x in g(..): y = y + 1, by the data -/
namespace Dl
open PySem PySem.Spec L2 GenW
open PyProof.Rows hiding St
def forG (Ff : FGf) (i j : Nat) (cs : List Nat) (ws : List Sl) (ρ : Env) : Res (Fl × Env) := match ρ[j]? with
  | some (.val (.int c)) => (match (ws.map shr).all isVal with
    | true => (match Ff (ws.map shr) with
      | .ok ds => (match ds.length with
        | 0 => .ok (.nx, ρ)
        | k + 1 => .ok (.nx, (ρ.set i .none).set j (.val (.int (c + ((k + 1 : Nat) : Int))))))
      | .exc c fs _ => (match memN c cs with
        | true => .exc c fs ρ
        | false => .stuck)
      | .stuck => .stuck)
    | false => .stuck)
  | _ => .stuck
def cForG (Ff : FGf) (Fs : FA) (i j : Nat) (cs : List Nat) : FS := fun ρ => (Fs ρ).bind fun (ws, ρ1) => forG Ff i j cs ws ρ1
section
variable {X : Cx} {G : Gam} {Wt : WX} {M : Fm} {ρ : Env} {τ : List Ent} {σ : L2.St} {H : Hp} {k n i j : Nat} {f : Addr} {fd : FuncData} {ps : List Str} {x y fx : Str} {px py py2 apos bpos cpos p pos' pos : Pos} {ck : Nat} {e : Expr} {es : List Expr} {Ff : FGf} {Fs : FA} {cs : List Nat}
abbrev EFg (G : Gam) (Wt : WX) (σ : L2.St) (cs : List Nat) : XK := fun cls d H => Wt cls d σ H ∧ ∃ c, memN c cs = true ∧ cls = .ref (G.ca c)
theorem RS.turn {c : Int} {m : Nat} (R : RS G M ρ τ σ H) (hij : i ≠ j) (hj : ρ[j]? = some (.val (.int c))) (hm : m ≠ 0) : RS G M ((ρ.set i .none).set j (.val (.int (c + (m : Nat))))) τ (turnS i j c σ m) H := by
  unfold turnS
  rw [if_neg hm]
  have R1 : RS G M (ρ.set i .none) τ (σ.set i none) H := (R.setN (i := i) none).drop1
  have R2 : RS G M (ρ.set i .none) ((some (.int (c + (m : Nat))), .val (.int (c + (m : Nat)))) :: τ) (σ.set i none) H := R1.addFlat rfl
  refine R2.put ?_
  unfold setSl
  have e : (ρ.set i Sl.none)[j]? = some (.val (.int c)) := by
    rw [List.getElem?_set_ne hij]; exact hj
  rw [e]
theorem forg_sp {c : Int} {vs : List V} {ws : List Sl} {D : Ends} (hl : ws.length = vs.length) (hn : vs.length = n) (hij : i ≠ j) (R : RS G M ρ (aents vs ws ++ τ) σ H) (hj : ρ[j]? = some (.val (.int c))) (h : postS G Wt M τ (forG Ff i j cs ws ρ) D) :
    spG2 G n Ff vs H (fun ys H' => D.nx (turnS i j c σ ys.length) H') (EFg G Wt σ cs) := by
  unfold forG at h
  rw [hj] at h
  dsimp only at h
  split at h
  · rename_i hv
    have R1 := R.shrAll
    have C := R1.callee hv 0
    have R2 := R1.drop
    refine ⟨hn, ⟨0, avoid M.S0 (ents σ ρ ++ τ), H⟩, ws.map shr, by rw [List.length_map, hl, hn], C, ?_⟩
    cases e : Ff (ws.map shr) with
    | ok ds =>
      rw [e] at h
      dsimp only at h
      intro ys H' l B
      have R3 : RS G M ρ τ σ H' := RS.drop (τ' := aents ys (ds.map Sl.val)) (R2.backX (us := ys) (fs := ds) B)
      rw [← l]
      cases ed : ds.length with
      | zero =>
        rw [ed] at h
        exact h _ _ R3
      | succ m =>
        rw [ed] at h
        exact h _ _ (R3.turn hij hj (Nat.succ_ne_zero m))
    | exc c' fs ρ' =>
      rw [e] at h
      dsimp only at h
      split at h
      · rename_i hm
        intro dd us H' hx B
        exact ⟨h dd us σ H' hx (R2.backX B), c', hm, rfl⟩
      · exact h.elim
    | stuck => rw [e] at h; exact h.elim
  · exact h.elim
theorem s_forG (tk : Takes X Wt) (hpo : PassesOwn (model X.prog X.w) X.A X.env X.xe) (F : GFe X.prog X.w X.K X.mg X.base k f fd ps (spG2 G n Ff)) (hr : Room (k + 1) X.A) (hg : Gl X fx) (hm : X.mg fx = some (.ref f)) (hk : PySem.W.keepIn X.K (.ref f) = true) (hb : Binds X.K fd ps [])
    (ha : PA X (e :: es) (tA G Wt Fs)) (hn : ∀ ρ ws ρ', Fs ρ = .ok (ws, ρ') → ws.length = n) (hN : X.N.Nodup) (hij : i ≠ j) (hK : X.K = G.K) (hcs : ∀ c, memN c cs = true → PySem.W.subIn G.K (.ref (G.ca c)) (.type "StopIteration") = some false)
    (hx : X.N[i]? = some x) (hy : X.N[j]? = some y) (hxl : X.env.scope.names.lookup x = some .local) (hyl : X.env.scope.names.lookup y = some .local) (hyd : (y == ("__debug__" : Str)) = false := by decide)
    (hst : X.stack = X.env :: X.outer := by rfl) (hf : X.env.frame = some X.env.locals := by rfl) (hs : ∀ x, foldedSetIterable (.Call (.Name fx p) (e :: es) [] pos') X.env x = pure x := by intro _; rfl)
    (hdf : (fx == ("__debug__" : Str)) = false := by decide) (he : starEach (e :: es) X.env = (false, eval e X.env) :: starEach es X.env := by rfl) (hpl : (backTo pos' (starEach es X.env)).any (·.1) = false := by rfl) :
    PS X (.For (.Name x px) (.Call (.Name fx p) (e :: es) [] pos') [.Assign [.Name y py] (.BinOp (.Name y py2) .Add (.Constant (.int 1) ck cpos) bpos) apos] [] pos) (tS G Wt (cForG Ff Fs i j cs)) := by
  refine ⟨fun pins s σ H D I ⟨M, ρ, τ, R, q⟩ => ?_⟩
  have ev : wpAny (model X.prog X.w) X.A (eval (.Call (.Name fx p) (e :: es) [] pos') X.env) (fun u s' => ∃ H1 sc c, σ[j]? = some (some (.int c)) ∧ Inv X pins σ H1 sc ∧ MadeE X.prog X.w k X.stack H1 sc (fun ys H' => D.nx (turnS i j c σ ys.length) H') (EFg G Wt σ cs) u s') X.xe s := by
    refine wpAny_Call_Name_kw (ld_glob I hg hm ?_ hdf)
    have hA : tA G Wt Fs σ H fun vs H1 => ∃ c, σ[j]? = some (some (.int c)) ∧ spG2 G n Ff vs H1 (fun ys H' => D.nx (turnS i j c σ ys.length) H') (EFg G Wt σ cs) := by
      refine ⟨M, ρ, τ, R, ?_⟩
      unfold cForG at q
      cases e1 : Fs ρ with
      | ok a =>
        obtain ⟨ws, ρ1⟩ := a
        rw [e1] at q
        intro vs H1 l R1
        have q : postS G Wt M τ (forG Ff i j cs ws ρ1) D := q
        have hj : ∃ c, ρ1[j]? = some (.val (.int c)) := by
          unfold forG at q
          split at q
          · rename_i c h
            exact ⟨c, h⟩
          · exact q.elim
        obtain ⟨c, hj⟩ := hj
        obtain ⟨v, h1, h2⟩ := R1.at_ hj
        obtain ⟨u, z1, z2⟩ := R1.re.val (v := v) (d := .int c) (List.mem_append_left _ (List.mem_of_getElem? h2))
        have hv : v = some (.int c) := by rw [z1, (flat_rep (d := .int c) rfl).mp z2]
        exact ⟨c, by rw [h1, hv], forg_sp l (l.symm.trans (hn _ _ _ e1)) hij R1 hj q⟩
      | exc c fs ρ' => rw [e1] at q; exact fun dd vs H1 hx R1 => q dd vs σ H1 hx R1
      | stuck => rw [e1] at q; exact q
    refine PySem.W.callWith_K (h₀ := X.base) I.ok.mod.kin hk (thn (ha.run pos' pins s σ H _ I hA) fun us s1 ⟨vs, H1, I1, r, c, hc, q1⟩ => ⟨I1.kIn, ?_⟩) he hpl
    have r2 : Vals (vs ++ []) (us ++ []) := r.append .nil
    rw [List.append_nil, List.append_nil] at r2
    have hl2 : us.length = ps.length := by rw [← r2.length]; exact F.len _ _ _ _ q1
    have hb2 := hb s1 us I1.kIn (by rw [List.append_nil]; exact hl2)
    rw [List.append_nil] at hb2
    refine wpAny_call (codeAny_mono (F.run X.A X.stack s1 H1 ⟨us, []⟩ us vs _ _ (hr.mono (Nat.le_succ k)) I1.env0 hb2 r2 q1) fun r s' hq => ?_)
    cases r with
    | error e => exact False.elim hq
    | ok fl =>
      cases fl with
      | ret u => exact ⟨H1, s1, c, hc, I1, hq⟩
      | next => exact False.elim hq
      | brk => exact False.elim hq
      | cont => exact False.elim hq
  refine wpAny_For (thn ev fun u s1 ⟨H1, sc, c, hc, I1, a, g, cd, eu, ⟨ha1, ha2⟩, hgn, hgs, ⟨hos, hbr, hl⟩, hkp, wake⟩ => ?_) hs
  subst eu
  refine wpAny_pyIter_gen hgn ?_
  have hLlt : X.env.locals < sc.heap.objs.size := I1.lt
  have hLs : X.env.locals ≠ cStatics := by
    obtain ⟨mc, hns, _⟩ := I1.ok.mod.nolimit
    obtain ⟨o, _, _, ho, _⟩ := hns
    exact Nat.ne_of_gt (Nat.lt_of_lt_of_le (Heap.lt_size (I1.ok.bs _ o ho).1) I1.ok.above)
  obtain ⟨m0, hn0, hlk0⟩ := I1.loc
  refine for_gen (E := EFg G Wt σ cs) I1 hr.hd hr.depth hpo hst hN hx hy hij hxl hyl hyd hc (Nat.ne_of_lt (Nat.lt_of_lt_of_le hLlt ha1)) hLs (fun pins' H' s' e' s'' I' cx => ?_) (fun cls d H' hw => ?_) (fun ys H' s' hQ _ => hQ) s1 m0 hgn hl ?_ hlk0 ⟨.fresh cd, hgs, And.intro rfl ?_⟩
  · refine passAt tk σ pins' H' s' e' s'' I' ?_
    obtain ⟨a, B, H', cls, d, z1, fl, z2, ub, z3, z4, z5, z6⟩ := cx
    exact ⟨a, B, H', cls, d, z1, fl, z2, ub, z3, z4, z5, z6.1⟩
  · obtain ⟨_, c', hm', rfl⟩ := hw
    rw [hK]
    exact hcs c' hm'
  · obtain ⟨o, es', ep, ho, r⟩ := hn0
    exact ⟨o, es', ep, hkp _ _ ho, r⟩
  · refine wake X.A.in1 X.env.locals (s1.setGen g .running) (room_in1 hr) I1.ok.frames ?_ (fun b o e => e) hos (allBare_setGen hbr rfl)
    rw [hst]
    show X.env.locals ∈ List.filterMap _ (X.env :: X.outer)
    rw [List.filterMap_cons, hf]
    exact List.mem_cons_self
end
end Dl
namespace Dl.k39
open PySem PySem.Spec L2 Dl
open PyProof.Rows hiding St
def fs : Nat → List Str
  | 0 => ["high", "low"]
  | 1 => ["parts", "added"]
  | 2 => ["size", "word"]
  | 3 => ["given", "rows", "shown", "scale", "cycle"]
  | 5 => ["numbers", "output", "difference"]
  | 6 => ["found", "doubts"]
  | 7 => ["rule", "left"]
  | 12 => ["part"]
  | _ => []
abbrev NC : Nat := 8
abbrev Gm (K : PySem.W.Frag) (ca : Nat → Addr) : Gam := ⟨K, ca, fs⟩
/- _wall -/
/- InvalidBill.__init__ -/
/- is_integer -/
def F_is_integer : FF := runF 0
 (cRet (cAnd (cUn (dIsi (isiP NC .int)) (cVar 0)) (cAnd (cNotE (cTst (cUn (dIsi (isiP NC .bool)) (cVar 0)))) (cChain (fun i j => decide (i ≤ j)) (fun i j => decide (i ≤ j)) (cVar 1) (cVar 0) (cVar 2)))))
/- is_whole -/
def F_is_whole : FF := runF 0
 (cRet (cAnd (cUn (dIsi (isiP NC .int)) (cVar 0)) (cNotE (cTst (cUn (dIsi (isiP NC .bool)) (cVar 0))))))
/- divisor -/
def F_divisor : FF := runF 2
 (cSeq (cPar2 2 3 (cACons (cCb (g1 fAbs) (cACons (cVar 0) cANil)) (cACons (cCb (g1 fAbs) (cACons (cVar 1) cANil)) cANil)))
 (cSeq (fun ρ => cWhile (cTst (cBin (dNot dEqF) (cVar 2) (cD (.int 0)))) (cPar2 2 3 (cACons (cBin (dII wMod fun i j => i.fmod j) (cCb (g1 fInt) (cACons (cVar 3) cANil)) (cCb (g1 fInt) (cACons (cVar 2) cANil))) (cACons (cVar 2) cANil))) ((fun _ => 100000) ρ) ρ)
 (cRet (cMove 3))))
/- multiple -/
def F_multiple : FF := runF 0
 (cRet (cBin (dII wDiv fun i j => i.fdiv j) (cBin (dII wMul fun i j => i * j) (cVar 0) (cVar 1)) (cCall F_divisor (cACons (cVar 0) (cACons (cVar 1) cANil)))))
/- Amount.__init__ -/
def F_Amount_init : FF := runF 1
 (cSeq (cIfS (cOrT (cNot (cTst (cCall F_is_whole (cACons (cVar 1) cANil)))) (cOrT (cNot (cTst (cCall F_is_whole (cACons (cVar 2) cANil)))) (cTst (cBin dEqF (cVar 2) (cD (.int 0)))))) (cRaise 9) cNil)
 (cSeq (cAsg (cIf (cTst (cBin (dIB fun i j => decide (j < i)) (cVar 2) (cD (.int 0)))) (cCall F_divisor (cACons (cVar 1) (cACons (cVar 2) cANil))) (cUn uNeg (cCall F_divisor (cACons (cVar 1) (cACons (cVar 2) cANil))))) (gSet 3))
 (cSeq (cSetF 0 0 0 (cBin (dII wDiv fun i j => i.fdiv j) (cVar 1) (cVar 3)))
 (cSetF 0 0 1 (cBin (dII wDiv fun i j => i.fdiv j) (cVar 2) (cVar 3))))))
/- Amount.top -/
def F_Amount_top : FF := runF 0
 (cRet (cSFld 0 0 0))
/- Amount.bottom -/
def F_Amount_bottom : FF := runF 0
 (cRet (cSFld 0 0 1))
/- Amount.__eq__ -/
/- pair_of -/
def F_pair_of : FF := runF 0
 (cSeq (cIfS (cTst (cUn (dIsi (isiC NC [0])) (cVar 0))) (cRet (cCb (wDsp fun ds => .val (.tup ds)) (cACons (cSFld 0 0 0) (cACons (cSFld 0 0 1) cANil)))) cNil)
 (cRet (cIf (cTst (cCall F_is_whole (cACons (cVar 0) cANil))) (cCb (wDsp fun ds => .val (.tup ds)) (cACons (cVar 0) (cACons (cD (.int 1)) cANil))) (cD .non))))
/- Amount.__add__ -/
def F_Amount_add : FF := runF 1
 (cSeq (cAsg (cCall F_pair_of (cACons (cVar 1) cANil)) (gSet 2))
 (cSeq (cIfS (cTst (cBin dIsN (cVar 2) (cD .non))) cStuck cNil)
 (cRet (cMake 0 F_Amount_init (cACons (cBin (dII (fun _ _ => true) fun i j => i + j) (cBin (dII wMul fun i j => i * j) (cBin itD (cVar 2) (cD (.int 0))) (cSFld 0 0 1)) (cBin (dII wMul fun i j => i * j) (cSFld 0 0 0) (cBin itD (cVar 2) (cD (.int 1))))) (cACons (cBin (dII wMul fun i j => i * j) (cSFld 0 0 1) (cBin itD (cVar 2) (cD (.int 1)))) cANil))))))
/- Amount.__radd__ -/
/- Amount.__sub__ -/
def F_Amount_sub : FF := runF 1
 (cSeq (cAsg (cCall F_pair_of (cACons (cVar 1) cANil)) (gSet 2))
 (cSeq (cIfS (cTst (cBin dIsN (cVar 2) (cD .non))) cStuck cNil)
 (cRet (cMake 0 F_Amount_init (cACons (cBin (dII (fun _ _ => true) fun i j => i - j) (cBin (dII wMul fun i j => i * j) (cSFld 0 0 0) (cBin itD (cVar 2) (cD (.int 1)))) (cBin (dII wMul fun i j => i * j) (cBin itD (cVar 2) (cD (.int 0))) (cSFld 0 0 1))) (cACons (cBin (dII wMul fun i j => i * j) (cSFld 0 0 1) (cBin itD (cVar 2) (cD (.int 1)))) cANil))))))
/- Amount.__rsub__ -/
/- Amount.__mul__ -/
def F_Amount_mul : FF := runF 1
 (cSeq (cAsg (cCall F_pair_of (cACons (cVar 1) cANil)) (gSet 2))
 (cSeq (cIfS (cTst (cBin dIsN (cVar 2) (cD .non))) cStuck cNil)
 (cRet (cMake 0 F_Amount_init (cACons (cBin (dII wMul fun i j => i * j) (cSFld 0 0 0) (cBin itD (cVar 2) (cD (.int 0)))) (cACons (cBin (dII wMul fun i j => i * j) (cSFld 0 0 1) (cBin itD (cVar 2) (cD (.int 1)))) cANil))))))
/- Amount.__rmul__ -/
/- Amount.__neg__ -/
/- Amount.__abs__ -/
def F_Amount_abs : FF := runF 0
 (cRet (cMake 0 F_Amount_init (cACons (cCb (g1 fAbs) (cACons (cSFld 0 0 0) cANil)) (cACons (cSFld 0 0 1) cANil))))
/- Amount.__bool__ -/
def F_Amount_bool : FF := runF 0
 (cRet (cNotE (cTst (cBin dEqF (cSFld 0 0 0) (cD (.int 0))))))
/- Amount.__lt__ -/
def F_Amount_lt : FF := runF 1
 (cSeq (cAsg (cCall F_pair_of (cACons (cVar 1) cANil)) (gSet 2))
 (cSeq (cIfS (cTst (cBin dIsN (cVar 2) (cD .non))) cStuck cNil)
 (cRet (cBin (dIB fun i j => decide (i < j)) (cBin (dII wMul fun i j => i * j) (cSFld 0 0 0) (cBin itD (cVar 2) (cD (.int 1)))) (cBin (dII wMul fun i j => i * j) (cBin itD (cVar 2) (cD (.int 0))) (cSFld 0 0 1))))))
/- Amount.__le__ -/
/- Amount.__gt__ -/
def F_Amount_gt : FF := runF 1
 (cSeq (cAsg (cCall F_pair_of (cACons (cVar 1) cANil)) (gSet 2))
 (cSeq (cIfS (cTst (cBin dIsN (cVar 2) (cD .non))) cStuck cNil)
 (cRet (cBin (dIB fun i j => decide (j < i)) (cBin (dII wMul fun i j => i * j) (cSFld 0 0 0) (cBin itD (cVar 2) (cD (.int 1)))) (cBin (dII wMul fun i j => i * j) (cBin itD (cVar 2) (cD (.int 0))) (cSFld 0 0 1))))))
/- Amount.__ge__ -/
/- is_name -/
def F_is_name : FF := runF 1
 (cRet (cAnd (cUn (dIsi (isiP NC .str)) (cVar 0)) (cAnd (cChain (fun i j => decide (i ≤ j)) (fun i j => decide (i ≤ j)) (cD (.int 1)) (cCb (g1 fLen) (cACons (cVar 0) cANil)) (cD (.int 8))) (cCb (g1 fAll) (cACons (cLc (cItStr (cVar 0)) (gSet 1) tYesD (cBin (dInC false) (cVar 1) (cD (.str "abcdefghijklmnopqrstuvwxyz"))) [1]) cANil)))))
/- is_term -/
def F_is_term : FF := runF 0
 (cRet (cAnd (cUn (dIsi (isiP NC .tuple)) (cVar 0)) (cAnd (cBin dEqF (cCb (g1 fLen) (cACons (cVar 0) cANil)) (cD (.int 2))) (cAnd (cCall F_is_name (cACons (cBin itD (cVar 0) (cD (.int 0))) cANil)) (cUn (dIsi (isiC NC [0])) (cBin itD (cVar 0) (cD (.int 1))))))))
/- factor_in -/
def F_factor_in : FF := runF 1
 (cSeq (cFor (cItS tupD (cVar 0)) (gSet 2) (cIfS (cTst (cBin dEqF (cBin itD (cVar 2) (cD (.int 0))) (cVar 1))) (cRet (cBin itD (cVar 2) (cD (.int 1)))) cNil))
 (cRet (cMake 0 F_Amount_init (cDfl [(.int 1)] (cACons (cD (.int 0)) cANil)))))
/- Line.__init__ -/
def F_Line_init : FF := runF 3
 (cSeq (cIfS (cOrT (cNot (cTst (cUn (dIsi (isiP NC .tuple)) (cVar 1)))) (cOrT (cNot (cTst (cCb (g1 fAll) (cACons (cLc (cItS tupD (cVar 1)) (gSet 3) tYesD (cCall F_is_term (cACons (cVar 3) cANil)) [3]) cANil)))) (cNot (cTst (cUn (dIsi (isiC NC [0])) (cVar 2)))))) (cRaise 11) cNil)
 (cSeq (cIfS (cTst (cBin (dIB fun i j => decide (i < j)) (cUn (fun w => g1 fMet [w]) (cLc (cItS tupD (cVar 1)) (gSet 3) tYesD (cBin itD (cVar 3) (cD (.int 0))) [3])) (cCb (g1 fLen) (cACons (cVar 1) cANil)))) (cRaise 11) cNil)
 (cSeq (cAsg (cCb (g1 fSortS) (cACons (cLc (cItS tupD (cVar 1)) (gSet 3) tYesD (cCb (g1 fStrS) (cACons (cBin itD (cVar 3) (cD (.int 0))) cANil)) [3]) cANil)) (gSet 4))
 (cSeq (cSetF 0 1 0 (cCb (g1 fTup) (cACons (cLc (cItS lstD (cVar 4)) (gSet 5) (cTru (tOwn 0 F_Amount_bool) (cCall F_factor_in (cACons (cVar 1) (cACons (cVar 5) cANil)))) (cCb (wDsp fun ds => .val (.tup ds)) (cACons (cVar 5) (cACons (cCall F_factor_in (cACons (cVar 1) (cACons (cVar 5) cANil))) cANil))) [5]) cANil)))
 (cSetF 0 1 1 (cVar 2))))))
/- Line.of -/
def F_Line_of : FF := runF 0
 (cRet (cMakeL 0 1 F_Line_init (cACons (cCb (wDsp fun ds => .val (.tup ds)) (cACons (cCb (wDsp fun ds => .val (.tup ds)) (cACons (cVar 1) (cACons (cMake 0 F_Amount_init (cDfl [(.int 1)] (cACons (cD (.int 1)) cANil))) cANil))) cANil)) (cACons (cMake 0 F_Amount_init (cDfl [(.int 1)] (cACons (cD (.int 0)) cANil))) cANil))))
/- Line.terms -/
def F_Line_terms : FF := runF 0
 (cRet (cSFld 0 1 0))
/- Line.rest -/
def F_Line_rest : FF := runF 0
 (cRet (cSFld 0 1 1))
/- Line.factor -/
/- Line.__eq__ -/
/- line_of -/
def F_line_of : FF := runF 0
 (cSeq (cIfS (cTst (cUn (dIsi (isiC NC [1])) (cVar 0))) (cRet (cCb (wDsp fun ds => .val (.tup ds)) (cACons (cSFld 0 1 0) (cACons (cSFld 0 1 1) cANil)))) cNil)
 (cSeq (cIfS (cTst (cUn (dIsi (isiC NC [0])) (cVar 0))) (cRet (cCb (wDsp fun ds => .val (.tup ds)) (cACons (cCb (wDsp fun ds => .val (.tup ds)) cANil) (cACons (cVar 0) cANil)))) cNil)
 (cRet (cIf (cTst (cCall F_is_whole (cACons (cVar 0) cANil))) (cCb (wDsp fun ds => .val (.tup ds)) (cACons (cCb (wDsp fun ds => .val (.tup ds)) cANil) (cACons (cMake 0 F_Amount_init (cDfl [(.int 1)] (cACons (cVar 0) cANil))) cANil))) (cD .non)))))
/- joined -/
def F_joined : FF := runF 4
 (cSeq (cAsg (cLc (cItS tupD (cVar 0)) (gTwo (gSet 3) (gSet 4)) tYesD (cVar 3) [3, 4]) (gSet 2))
 (cSeq (cAsg (cLc (cItS tupD (cVar 1)) (gTwo (gSet 3) (gSet 4)) (cTst (cBin (dIn true) (cVar 3) (cVar 2))) (cVar 3) [3, 4]) (gSet 5))
 (cRet (cCb (g1 fTup) (cACons (cLc (cItS lstD (cBin dCatL (cVar 2) (cVar 5))) (gSet 3) tYesD (cCb (wDsp fun ds => .val (.tup ds)) (cACons (cVar 3) (cACons (cBin (dOwn 0 (isObjC 0) F_Amount_add) (cCall F_factor_in (cACons (cVar 0) (cACons (cVar 3) cANil))) (cCall F_factor_in (cACons (cVar 1) (cACons (cVar 3) cANil)))) cANil))) [3]) cANil)))))
/- Line.__add__ -/
def F_Line_add : FF := runF 1
 (cSeq (cAsg (cCall F_line_of (cACons (cVar 1) cANil)) (gSet 2))
 (cSeq (cIfS (cTst (cBin dIsN (cVar 2) (cD .non))) cStuck cNil)
 (cRet (cMake 1 F_Line_init (cACons (cCall F_joined (cACons (cSFld 0 1 0) (cACons (cBin itD (cVar 2) (cD (.int 0))) cANil))) (cACons (cBin (dOwn 0 (isObjC 0) F_Amount_add) (cSFld 0 1 1) (cBin itD (cVar 2) (cD (.int 1)))) cANil))))))
/- Line.__radd__ -/
/- times -/
def F_times : FF := runF 2
 (cRet (cCb (g1 fTup) (cACons (cLc (cItS tupD (cVar 0)) (gTwo (gSet 2) (gSet 3)) tYesD (cCb (wDsp fun ds => .val (.tup ds)) (cACons (cVar 2) (cACons (cBin (dAlt (dOwn 0 (isObjC 0) F_Amount_mul) (dOwn 0 isIntS F_Amount_mul)) (cVar 3) (cVar 1)) cANil))) [2, 3]) cANil)))
/- Line.__sub__ -/
/- Line.__rsub__ -/
/- Line.__mul__ -/
def F_Line_mul : FF := runF 0
 (cSeq (cIfS (cAndT (cNot (cTst (cUn (dIsi (isiC NC [0])) (cVar 1)))) (cNot (cTst (cCall F_is_whole (cACons (cVar 1) cANil))))) cStuck cNil)
 (cRet (cMake 1 F_Line_init (cACons (cCall F_times (cACons (cSFld 0 1 0) (cACons (cVar 1) cANil))) (cACons (cBin (dAlt (dOwn 0 (isObjC 0) F_Amount_mul) (dOwn 0 isIntS F_Amount_mul)) (cSFld 0 1 1) (cVar 1)) cANil)))))
/- Line.__rmul__ -/
/- Line.__neg__ -/
/- rounded -/
def F_rounded : FF := runF 4
 (cSeq (cAsg (cBin (dII wMul fun i j => i * j) (cVar 1) (cVar 2)) (gSet 4))
 (cSeq (cPar2 5 6 (cACons (cBin (dII wDiv fun i j => i.fdiv j) (cVar 0) (cVar 4)) (cACons (cBin (dII (fun _ _ => true) fun i j => i - j) (cVar 0) (cBin (dII wMul fun i j => i * j) (cBin (dII wDiv fun i j => i.fdiv j) (cVar 0) (cVar 4)) (cVar 4))) cANil)))
 (cSeq (cIfS (cOrT (cTst (cBin dEqF (cVar 3) (cD (.str "floor")))) (cTst (cBin dEqF (cVar 6) (cD (.int 0))))) (cRet (cBin (dII wMul fun i j => i * j) (cVar 5) (cVar 2))) cNil)
 (cSeq (cIfS (cTst (cBin dEqF (cVar 3) (cD (.str "ceiling")))) (cRet (cBin (dII wMul fun i j => i * j) (cBin (dII (fun _ _ => true) fun i j => i + j) (cVar 5) (cD (.int 1))) (cVar 2))) cNil)
 (cSeq (cIfS (cTst (cBin dEqF (cBin (dII wMul fun i j => i * j) (cD (.int 2)) (cVar 6)) (cVar 4))) (cAsg (cOr (cBin dEqF (cVar 3) (cD (.str "half"))) (cBin dEqF (cBin (dII (fun _ _ => true) fun i j => Builtin.bitAnd i j) (cVar 5) (cD (.int 1))) (cD (.int 1)))) (gSet 7)) (cAsg (cBin (dIB fun i j => decide (j < i)) (cBin (dII wMul fun i j => i * j) (cD (.int 2)) (cVar 6)) (cVar 4)) (gSet 7)))
 (cRet (cIf (cTst (cVar 7)) (cBin (dII wMul fun i j => i * j) (cBin (dII (fun _ _ => true) fun i j => i + j) (cVar 5) (cD (.int 1))) (cVar 2)) (cBin (dII wMul fun i j => i * j) (cVar 5) (cVar 2)))))))))
/- Rule.__init__ -/
def F_Rule_init : FF := runF 0
 (cSeq (cIfS (cOrT (cNot (cTst (cCall F_is_integer (cACons (cVar 1) (cACons (cD (.int 1)) (cACons (cD (.int 100)) cANil)))))) (cOrT (cNot (cTst (cUn (dIsi (isiP NC .str)) (cVar 2)))) (cTst (cBin (dIn true) (cVar 2) (cD (.tup [.str "floor", .str "ceiling", .str "half", .str "even"])))))) (cRaise 10) cNil)
 (cSeq (cSetF 0 2 0 (cVar 1))
 (cSetF 0 2 1 (cVar 2))))
/- Rule.unit -/
def F_Rule_unit : FF := runF 0
 (cRet (cSFld 0 2 0))
/- Rule.mode -/
def F_Rule_mode : FF := runF 0
 (cRet (cSFld 0 2 1))
/- Rule.__eq__ -/
/- Rule.__call__ -/
def F_Rule_call : FF := runF 1
 (cSeq (cAsg (cCall F_pair_of (cACons (cVar 1) cANil)) (gSet 2))
 (cSeq (cIfS (cTst (cBin dIsN (cVar 2) (cD .non))) (cRaise 9) cNil)
 (cRet (cMake 0 F_Amount_init (cDfl [(.int 1)] (cACons (cCall F_rounded (cACons (cBin itD (cVar 2) (cD (.int 0))) (cACons (cBin itD (cVar 2) (cD (.int 1))) (cACons (cSFld 0 2 0) (cACons (cSFld 0 2 1) cANil))))) cANil))))))
/- Rule.step -/
def F_Rule_step : FF := runF 0
 (cRet (cIf (cTst (cBin dEqF (cSFld 0 2 1) (cD (.str "even")))) (cBin (dII wMul fun i j => i * j) (cD (.int 2)) (cSFld 0 2 0)) (cSFld 0 2 0)))
/- are_inputs -/
def F_are_inputs : FF := runF 1
 (cSeq (cIfS (cOrT (cNot (cTst (cUn (dIsi (isiP NC .tuple)) (cVar 0)))) (cNot (cTst (cChain (fun i j => decide (i ≤ j)) (fun i j => decide (i ≤ j)) (cD (.int 1)) (cCb (g1 fLen) (cACons (cVar 0) cANil)) (cD (.int 3)))))) (cRet (cD (.bl false))) cNil)
 (cRet (cAnd (cCb (g1 fAll) (cACons (cLc (cItS tupD (cVar 0)) (gSet 1) tYesD (cCall F_is_name (cACons (cVar 1) cANil)) [1]) cANil)) (cBin dEqF (cUn (fun w => g1 fMet [w]) (cVar 0)) (cCb (g1 fLen) (cACons (cVar 0) cANil))))))
/- is_small -/
def F_is_small : FF := runF 0
 (cRet (cAnd (cBin (dIB fun i j => decide (i ≤ j)) (cCb (g1 fAbs) (cACons (cProp 0 F_Amount_top (cVar 0)) cANil)) (cVar 1)) (cBin (dIB fun i j => decide (i ≤ j)) (cProp 0 F_Amount_bottom (cVar 0)) (cD (.int 24)))))
/- is_step -/
def F_is_step : FF := runF 4
 (cSeq (cIfS (cOrT (cNot (cTst (cUn (dIsi (isiP NC .tuple)) (cVar 0)))) (cTst (cBin (dNot dEqF) (cCb (g1 fLen) (cACons (cVar 0) cANil)) (cD (.int 2))))) (cRet (cD (.bl false))) cNil)
 (cSeq (cAsg (cVar 0) (gTwo (gSet 2) (gSet 3)))
 (cSeq (cIfS (cOrT (cNot (cTst (cUn (dIsi (isiC NC [1])) (cVar 2)))) (cOrT (cNot (cTst (cUn (dIsi (isiC NC [2])) (cVar 3)))) (cNot (cTst (cCall F_is_small (cACons (cProp 1 F_Line_rest (cVar 2)) (cACons (cD (.int 9999)) cANil))))))) (cRet (cD (.bl false))) cNil)
 (cRet (cCb (g1 fAll) (cACons (cLc (cItS tupD (cProp 1 F_Line_terms (cVar 2))) (gTwo (gSet 4) (gSet 5)) tYesD (cAnd (cBin (dIn false) (cVar 4) (cVar 1)) (cCall F_is_small (cACons (cVar 5) (cACons (cD (.int 99)) cANil)))) [4, 5]) cANil))))))
/- are_outputs -/
def F_are_outputs : FF := runF 1
 (cSeq (cIfS (cOrT (cNot (cTst (cUn (dIsi (isiP NC .tuple)) (cVar 0)))) (cNot (cTst (cChain (fun i j => decide (i ≤ j)) (fun i j => decide (i ≤ j)) (cD (.int 1)) (cCb (g1 fLen) (cACons (cVar 0) cANil)) (cD (.int 3)))))) (cRet (cD (.bl false))) cNil)
 (cSeq (cIfS (cNot (cTst (cCb (g1 fAll) (cACons (cLc (cItS tupD (cVar 0)) (gSet 2) tYesD (cUn (dIsi (isiP NC .str)) (cVar 2)) [2]) cANil)))) (cRet (cD (.bl false))) cNil)
 (cRet (cBin (opE (lstE flE) false) (cCb (g1 fLst) (cACons (cVar 0) cANil)) (cNoE (cLc (cItDc (dcAt 1) keysD) (gSet 2) (cTst (cBin (dIn false) (cVar 2) (cVar 0))) (cVar 2) [2]))))))
/- scale_of -/
def F_scale_of : FF := runF 8
 (cSeq (cPar2 2 3 (cACons (cDc (cItS tupD (cVar 0)) (gSet 4) tYesD (cVar 4) (cD (.int 1)) [4]) (cACons (cD (.int 1)) cANil)))
 (cSeq (cFor (cItDc (dcAt 1) itmD) (gTwo (gSet 4) (gSet 5)) (cSeq (cPar2 6 7 (cACons (cBin itD (cVar 5) (cD (.int 0))) (cACons (cProp 0 F_Amount_bottom (cProp 1 F_Line_rest (cBin itD (cVar 5) (cD (.int 0))))) cANil)))
 (cSeq (cFor (cItS tupD (cProp 1 F_Line_terms (cVar 6))) (gTwo (gSet 8) (gSet 9)) (cAsg (cBor [2] (cCall F_multiple (cACons (cVar 7) (cACons (cBin (dII wMul fun i j => i * j) (cProp 0 F_Amount_bottom (cVar 9)) (cBin dGetS (cVar 2) (cVar 8))) cANil)))) (gSet 7)))
 (cSeq (cDPut 2 (cVar 4) (cVar 7))
 (cAsg (cCall F_multiple (cACons (cVar 3) (cACons (cVar 7) cANil))) (gSet 3))))))
 (cRet (cMove 3))))
/- exact_factors -/
def F_exact_factors : FF := runF 8
 (cSeq (cAsg (cDc (cItS tupD (cVar 0)) (gSet 4) tYesD (cVar 4) (cDc (cItS tupD (cVar 0)) (gSet 3) tYesD (cVar 3) (cMake 0 F_Amount_init (cDfl [(.int 1)] (cACons (cIf (cTst (cBin dEqF (cVar 3) (cVar 4))) (cD (.int 1)) (cD (.int 0))) cANil))) [3]) [4]) (gSet 2))
 (cSeq (cFor (cItDc (dcAt 1) itmD) (gTwo (gSet 3) (gSet 5)) (cSeq (cPar2 6 7 (cACons (cBin itD (cVar 5) (cD (.int 0))) (cACons (cDc (cItS tupD (cVar 0)) (gSet 4) tYesD (cVar 4) (cMake 0 F_Amount_init (cDfl [(.int 1)] (cACons (cD (.int 0)) cANil))) [4]) cANil)))
 (cSeq (cFor (cItS tupD (cProp 1 F_Line_terms (cVar 6))) (gTwo (gSet 8) (gSet 9)) (cFor (cItS tupD (cVar 0)) (gSet 4) (cDPut 7 (cVar 4) (cBorK [2, 7] (cBin (dOwn 0 (isObjC 0) F_Amount_add) (cBin dGetS (cVar 7) (cVar 4)) (cBin (dOwn 0 (isObjC 0) F_Amount_mul) (cVar 9) (cBin dGetS (cBin dGetS (cVar 2) (cVar 8)) (cVar 4))))))))
 (cDPut 2 (cVar 3) (cVar 7)))))
 (cRet (cMove 2))))
/- periods_of -/
def F_periods_of : FF := runF 7
 (cSeq (cPar2 2 3 (cACons (cCall F_exact_factors (cACons (cVar 0) (cACons (cVar 1) cANil))) (cACons cDNew cANil)))
 (cSeq (cFor (cItS tupD (cVar 0)) (gSet 4) (cSeq (cAsg (cD (.int 1)) (gSet 5))
 (cSeq (cFor (cItDc (dcAt 1) itmD) (gTwo (gSet 6) (gSet 7)) (cSeq (cAsg (cBin (dOwn 0 (isObjC 0) F_Amount_mul) (cBin dGetS (cBin dGetS (cVar 2) (cVar 6)) (cVar 4)) (cMake 0 F_Amount_init (cACons (cD (.int 1)) (cACons (cMeth0 2 F_Rule_step (cBin itD (cVar 7) (cD (.int 1)))) cANil)))) (gSet 8))
 (cAsg (cCall F_multiple (cACons (cVar 5) (cACons (cProp 0 F_Amount_bottom (cVar 8)) cANil))) (gSet 5))))
 (cDPut 3 (cVar 4) (cVar 5)))))
 (cRet (cMove 3))))
/- Bill.__init__ -/
def F_Bill_init : FF := runF 3
 (cSeq (cIfS (cNot (cTst (cCall F_are_inputs (cACons (cVar 1) cANil)))) cStuck cNil)
 (cSeq (cIfS (cOrT (cNot (cTst (cUn (dIsi (isiP NC .dict)) (cVar 2)))) (cNot (cTst (cChain (fun i j => decide (i ≤ j)) (fun i j => decide (i ≤ j)) (cD (.int 1)) (cCb (g1 fLenD) (cACons (cVar 2) cANil)) (cD (.int 6)))))) cStuck cNil)
 (cSeq (cAsg (cCb (g1 fLst) (cACons (cVar 1) cANil)) (gSet 4))
 (cSeq (cFor (cItDc (dcAt 2) itmD) (gTwo (gSet 5) (gSet 6)) (cSeq (cIfS (cBorT [4] (cOrT (cNot (cTst (cCall F_is_name (cACons (cVar 5) cANil)))) (cOrT (cTst (cBin (dIn false) (cVar 5) (cVar 4))) (cNot (cTst (cCall F_is_step (cACons (cVar 6) (cACons (cVar 4) cANil)))))))) cStuck cNil)
 (cExpr (cAppend 4 (cVar 5)))))
 (cSeq (cIfS (cNot (cTst (cCall F_are_outputs (cACons (cVar 3) (cACons (cVar 2) cANil))))) cStuck cNil)
 (cSeq (cSetF 0 3 0 (cVar 1))
 (cSeq (cSetF 0 3 1 (cCb (g1 fDict) (cACons (cVar 2) cANil)))
 (cSeq (cSetF 0 3 2 (cVar 3))
 (cSeq (cSetF 0 3 3 (cCall F_scale_of (cACons (cVar 1) (cACons (cVar 2) cANil))))
 (cSetF 0 3 4 (cCall F_periods_of (cACons (cVar 1) (cACons (cVar 2) cANil)))))))))))))
/- Bill.inputs -/
/- Bill.names -/
def F_Bill_names : FF := runF 0
 (cRet (cCb (g1 fListD) (cACons (cSFld 0 3 1) cANil)))
/- Bill.outputs -/
def F_Bill_outputs : FF := runF 0
 (cRet (cSFld 0 3 2))
/- Bill.periods -/
/- Bill.__len__ -/
def F_Bill_len : FF := runF 0
 (cRet (cCb (g1 fLenD) (cACons (cSFld 0 3 1) cANil)))
/- Bill.__contains__ -/
/- Bill.__getitem__ -/
/- Bill.__iter__ -/
/- Bill.__eq__ -/
/- are_numbers -/
def F_are_numbers : FF := runF 1
 (cRet (cAnd (cUn (dIsi (isiP NC .tuple)) (cVar 1)) (cAnd (cBin dEqF (cCb (g1 fLen) (cACons (cVar 1) cANil)) (cCb (g1 fLen) (cACons (cSFld 0 3 0) cANil))) (cCb (g1 fAll) (cACons (cLc (cItS tupD (cVar 1)) (gSet 2) tYesD (cCall F_is_whole (cACons (cVar 2) cANil)) [2]) cANil)))))
/- check_numbers -/
/- check_set -/
def F_check_set : FF := runF 1
 (cSeq (cIfS (cOrT (cNot (cTst (cUn (dIsi (isiP NC .tuple)) (cVar 1)))) (cNot (cTst (cCb (g1 fAll) (cACons (cLc (cItS tupD (cVar 1)) (gSet 2) tYesD (cUn (dIsi (isiP NC .str)) (cVar 2)) [2]) cANil))))) (cRaise 15) cNil)
 (cIfS (cTst (cBin (opE (lstE flE) true) (cCb (g1 fLst) (cACons (cVar 1) cANil)) (cNoE (cLc (cItDc (dcFl 0 3 1) keysD) (gSet 2) (cTst (cBin (dIn false) (cVar 2) (cVar 1))) (cVar 2) [2])))) (cRaise 15) cNil))
/- scaled_values -/
def F_scaled_values : FF := runF 9
 (cSeq (cAsg (cDc (cItA zip2A (cACons (cSFld 0 3 0) (cACons (cVar 1) cANil))) (gTwo (gSet 4) (gSet 5)) tYesD (cVar 4) (cBin (dII wMul fun i j => i * j) (cVar 5) (cSFld 0 3 3)) [4, 5]) (gSet 3))
 (cSeq (cFor (cItDc (dcFl 0 3 1) itmD) (gTwo (gSet 4) (gSet 6)) (cSeq (cAsg (cVar 6) (gTwo (gSet 7) (gSet 8)))
 (cSeq (cAsg (cBin (dII wMul fun i j => i * j) (cProp 0 F_Amount_top (cProp 1 F_Line_rest (cVar 7))) (cBin (dII wDiv fun i j => i.fdiv j) (cSFld 0 3 3) (cProp 0 F_Amount_bottom (cProp 1 F_Line_rest (cVar 7))))) (gSet 9))
 (cSeq (cFor (cItS tupD (cProp 1 F_Line_terms (cVar 7))) (gTwo (gSet 10) (gSet 11)) (cAug 9 (fun i j => i + j) (cBor [3] (cBin (dII wMul fun i j => i * j) (cProp 0 F_Amount_top (cVar 11)) (cBin (dII wDiv fun i j => i.fdiv j) (cBin dGetS (cVar 3) (cVar 10)) (cProp 0 F_Amount_bottom (cVar 11)))))))
 (cDPut 3 (cVar 4) (cIf (cTst (cBin (dIn false) (cVar 4) (cVar 2))) (cBin (dII wMul fun i j => i * j) (cCall F_rounded (cACons (cVar 9) (cACons (cSFld 0 3 3) (cACons (cProp 2 F_Rule_unit (cVar 8)) (cACons (cProp 2 F_Rule_mode (cVar 8)) cANil))))) (cSFld 0 3 3)) (cVar 9)))))))
 (cRet (cMove 3))))
/- Bill.amounts -/
/- points_of -/
def F_points_of : FF := runF 4
 (cSeq (cAsg (cCb (wDsp fun ds => .own (.lst ds)) (cACons (cCb (wDsp fun ds => .val (.tup ds)) cANil) cANil)) (gSet 1))
 (cSeq (cFor (cItDc (dcFl 0 3 4) valsD) (gSet 2) (cSeq (cIfS (cTst (cBin (dIB fun i j => decide (j < i)) (cBin (dII wMul fun i j => i * j) (cCb (g1 fLen) (cACons (cVar 1) cANil)) (cVar 2)) (cD (.int 1000)))) (cRaise 17) cNil)
 (cAsg (cLc2 (cItS lstD (cVar 1)) (gSet 3) tYesD (cRange1 (cACons (cVar 2) cANil)) (gSet 4) tYesD (cCb (wDsp fun ds => .val (.tup ds)) (cStar (cVar 3) (cACons (cVar 4) cANil))) [3, 4] [4]) (gSet 1))))
 (cRet (cMove 1))))
/- check_bill -/
def F_check_bill : FF := runF 0
 (cIfS (cNot (cTst (cUn (dIsi (isiC NC [3])) (cVar 0)))) cStuck cNil)
/- sets_of -/
def F_sets_of : FF := runF 7
 (cSeq (cPar2 1 2 (cACons (cCb (g1 fListD) (cACons (cSFld 0 3 1) cANil)) (cACons (cCb (wDsp fun ds => .own (.lst ds)) (cACons (cCb (wDsp fun ds => .val (.tup ds)) cANil) cANil)) cANil)))
 (cSeq (cAsg (cCb (wDsp fun ds => .own (.lst ds)) (cACons (cCb (wDsp fun ds => .val (.tup ds)) cANil) cANil)) (gSet 3))
 (cSeq (fun ρ => cWhile (cTst (cBin (opE (lstE (tupE flE)) true) (cVar 3) (cCb (wDsp fun ds => .own (.lst ds)) cANil))) (cSeq (cAsg (cCb (wDsp fun ds => .own (.lst ds)) cANil) (gSet 4))
 (cSeq (cFor (cItS lstD (cVar 3)) (gSet 5) (cSeq (cAsg (cIf (cTst (cBin (opE (tupE flE) true) (cVar 5) (cCb (wDsp fun ds => .val (.tup ds)) cANil))) (cBin (dII (fun _ _ => true) fun i j => i + j) (cIndex (cVar 1) (cBin itD (cVar 5) (cUn uNeg (cD (.int 1))))) (cD (.int 1))) (cD (.int 0))) (gSet 6))
 (cExpr (cExtend 4 (cLc (cItS lstD (cSlice (cVar 1) (cPart (cVar 6)) cNoPart)) (gSet 7) tYesD (cCb (wDsp fun ds => .val (.tup ds)) (cStar (cVar 5) (cACons (cVar 7) cANil))) [7])))))
 (cSeq (cExpr (cExtend 2 (cVar 4)))
 (cAsg (cVar 4) (gSet 3))))) ((fun _ => 100000) ρ) ρ)
 (cRet (cMove 2)))))
/- Evidence.fields -/
/- Choice.fields -/
/- Far.fields -/
/- Evidence.__eq__ -/
/- Far.__init__ -/
def F_Far_init : FF := runF 0
 (cSeq (cSetF 0 5 0 (cVar 1))
 (cSeq (cSetF 0 5 1 (cVar 2))
 (cSetF 0 5 2 (cVar 3))))
/- check_tolerance -/
def F_check_tolerance : FF := runF 0
 (cIfS (cOrT (cNot (cTst (cUn (dIsi (isiC NC [0])) (cVar 0)))) (cTst (cBin (dOwn 0 isIntS F_Amount_lt) (cVar 0) (cD (.int 0))))) (cRaise 16) cNil)
/- check_question -/
/- differences_of -/
def F_differences_of : FF := runF 3
 (cSeq (cPar2 3 4 (cACons (cCall F_scaled_values (cACons (cVar 0) (cACons (cVar 2) (cACons (cCb (wDsp fun ds => .val (.tup ds)) cANil) cANil)))) (cACons (cCall F_scaled_values (cACons (cVar 0) (cACons (cVar 2) (cACons (cVar 1) cANil)))) cANil)))
 (cRet (cDc (cItS tupD (cProp 3 F_Bill_outputs (cVar 0))) (gSet 5) tYesD (cVar 5) (cMake 0 F_Amount_init (cACons (cBin (dII (fun _ _ => true) fun i j => i - j) (cBin dGetS (cVar 4) (cVar 5)) (cBin dGetS (cVar 3) (cVar 5))) (cACons (cSFld 0 3 3) cANil))) [5])))
/- Far.is_correct -/
/- first_far -/
def F_first_far : FF := runF 3
 (cSeq (cFor (cItS lstD (cCall F_points_of (cACons (cVar 0) cANil))) (gSet 3) (cFor (cItDx (cCall F_differences_of (cACons (cVar 0) (cACons (cVar 1) (cACons (cVar 3) cANil)))) itmD) (gTwo (gSet 4) (gSet 5)) (cIfS (cTst (cBin (dOwn 0 (isObjC 0) F_Amount_gt) (cCb (gAbsO 0 F_Amount_abs) (cACons (cVar 5) cANil)) (cVar 2))) (cRet (cMake 5 F_Far_init (cACons (cVar 3) (cACons (cVar 4) (cACons (cVar 5) cANil))))) cNil)))
 (cRet (cD .non)))
/- is_refuted -/
def F_is_refuted : FF := runF 2
 (cSeq (cFor (cItS lstD (cVar 3)) (gSet 4) (cIfS (cTst (cCb (g1 fAny) (cACons (cLc (cItDx (cCall F_differences_of (cACons (cVar 0) (cACons (cVar 1) (cACons (cVar 4) cANil)))) valsD) (gSet 5) tYesD (cBin (dOwn 0 (isObjC 0) F_Amount_gt) (cCb (gAbsO 0 F_Amount_abs) (cACons (cVar 5) cANil)) (cVar 2)) [5]) cANil))) (cRet (cD (.bl true))) cNil))
 (cRet (cD (.bl false))))
/- is_within -/
def F_is_within : FF := runF 1
 (cRet (cCb (g1 fAll) (cACons (cLc (cItS tupD (cVar 0)) (gSet 2) tYesD (cBin (dIn false) (cVar 2) (cVar 1)) [2]) cANil)))
/- Choice.__init__ -/
def F_Choice_init : FF := runF 0
 (cSeq (cSetF 0 6 0 (cVar 1))
 (cSetF 0 6 1 (cCb (g1 fLst) (cACons (cVar 2) cANil))))
/- check_prices -/
def F_check_prices : FF := runF 1
 (cSeq (cIfS (cOrT (cNot (cTst (cUn (dIsi (isiP NC .dict)) (cVar 1)))) (cTst (cBin (dNot dEqF) (cCb (g1 fLenD) (cACons (cVar 1) cANil)) (cCb (gLenO 3 F_Bill_len) (cACons (cVar 0) cANil))))) (cRaise 18) cNil)
 (cFor (cItS lstD (cProp 3 F_Bill_names (cVar 0))) (gSet 2) (cIfS (cOrT (cTst (cBin (dInS true) (cVar 2) (cVar 1))) (cNot (cTst (cCall F_is_integer (cACons (cBin dGetS (cVar 1) (cVar 2)) (cACons (cD (.int 0)) (cACons (cD (.int 99)) cANil))))))) (cRaise 18) cNil)))
/- check_asked -/
def F_check_asked : FF := runF 0
 (cSeq (cExpr (cCall F_check_bill (cACons (cVar 0) cANil)))
 (cSeq (cExpr (cCall F_check_set (cACons (cVar 0) (cACons (cVar 1) cANil))))
 (cSeq (cExpr (cCall F_check_tolerance (cACons (cVar 2) cANil)))
 (cSeq (cExpr (cCall F_check_prices (cACons (cVar 0) (cACons (cVar 3) cANil))))
 (cExpr (cCall F_points_of (cACons (cVar 0) cANil)))))))
/- cost_of -/
def F_cost_of : FF := runF 1
 (cRet (cCb (g1 fSum) (cACons (cLc (cItS tupD (cVar 0)) (gSet 2) tYesD (cBin dGetS (cVar 1) (cVar 2)) [2]) cANil)))
/- ranked -/
def F_ranked : FF := runF 4
 (cSeq (cNest 3 5 6 (cACons (cBin (dII (fun _ _ => true) fun i j => i + j) (cBin (dII wMul fun i j => i * j) (cD (.int 99)) (cCb (gLenO 3 F_Bill_len) (cACons (cVar 0) cANil))) (cD (.int 1))) cANil) (cCall F_sets_of (cACons (cVar 0) cANil)) (cTst (cCall F_is_within (cACons (cVar 1) (cACons (cVar 5) cANil)))) (cCall F_cost_of (cACons (cVar 5) (cACons (cVar 2) cANil))))
 (cRet (cLc2 (cItA enum1 (cACons (cVar 3) cANil)) (gTwo (gSet 4) (gSet 6)) tYesD (cItS lstD (cVar 6)) (gSet 5) tYesD (cCb (wDsp fun ds => .val (.tup ds)) (cACons (cVar 4) (cACons (cVar 5) cANil))) [4, 6, 5] [5])))
/- chosen -/
def F_chosen : FF := runF 4
 (cSeq (cAsg (cCb (wDsp fun ds => .own (.lst ds)) cANil) (gSet 4))
 (cSeq (cFor (cItS lstD (cCall F_ranked (cACons (cVar 0) (cACons (cVar 1) (cACons (cVar 3) cANil))))) (gTwo (gSet 5) (gSet 6)) (cSeq (cIfS (cBorT [4] (cTst (cCall F_is_refuted (cACons (cVar 0) (cACons (cVar 6) (cACons (cVar 2) (cACons (cVar 4) cANil))))))) (fun ρ => .ok (.ct, ρ)) cNil)
 (cSeq (cAsg (cCall F_first_far (cACons (cVar 0) (cACons (cVar 6) (cACons (cVar 2) cANil)))) (gSet 7))
 (cSeq (cIfS (cTst (cBin dIsN (cVar 7) (cD .non))) (cRet (cMake 6 F_Choice_init (cACons (cVar 6) (cACons (cVar 4) cANil)))) cNil)
 (cExpr (cAppend 4 (cSFld 7 5 0)))))))
 (cRet (cMake 6 F_Choice_init (cACons (cD .non) (cACons (cVar 4) cANil))))))
/- Choice.is_correct -/
def F_Choice_is_correct : FF := runF 4
 (cSeq (cExpr (cCall F_check_asked (cACons (cVar 1) (cACons (cVar 2) (cACons (cVar 3) (cACons (cVar 4) cANil))))))
 (cSeq (cAsg (cFld 6 0 (cCall F_chosen (cACons (cVar 1) (cACons (cVar 2) (cACons (cVar 3) (cACons (cVar 4) cANil)))))) (gSet 5))
 (cSeq (cIfS (cOrT (cTst (cBin (opE (altE nonE (tupE flE)) true) (cSFld 0 6 0) (cVar 5))) (cNot (cTst (cCb (g1 fAll) (cACons (cLc (cItS lstD (cSFld 0 6 1)) (gSet 6) tYesD (cCall F_are_numbers (cACons (cVar 1) (cACons (cVar 6) cANil))) [6]) cANil))))) (cRet (cD (.bl false))) cNil)
 (cSeq (cFor (cItS lstD (cCall F_ranked (cACons (cVar 1) (cACons (cVar 2) (cACons (cVar 4) cANil))))) (gTwo (gSet 7) (gSet 8)) (cSeq (cIfS (cAndT (cTst (cBin (dNot dIsN) (cVar 5) (cD .non))) (cTst (cBin (dIB fun i j => decide (j ≤ i)) (cVar 7) (cCall F_cost_of (cACons (cVar 5) (cACons (cVar 4) cANil)))))) (cRet (cD (.bl true))) cNil)
 (cIfS (cNot (cTst (cCall F_is_refuted (cACons (cVar 1) (cACons (cVar 8) (cACons (cVar 3) (cACons (cSFld 0 6 1) cANil))))))) (cRet (cD (.bl false))) cNil)))
 (cRet (cD (.bl true)))))))
/- choose -/
def F_choose : FF := runF 0
 (cSeq (cExpr (cCall F_check_asked (cACons (cVar 0) (cACons (cVar 1) (cACons (cVar 2) (cACons (cVar 3) cANil))))))
 (cRet (cCall F_chosen (cACons (cVar 0) (cACons (cVar 1) (cACons (cVar 2) (cACons (cVar 3) cANil)))))))
/- Carry.__init__ -/
def F_Carry_init : FF := runF 0
 (cSeq (cIfS (cNot (cTst (cUn (dIsi (isiC NC [2])) (cVar 1)))) (cRaise 10) cNil)
 (cSeq (cSetF 0 7 0 (cVar 1))
 (cSetF 0 7 1 (cMake 0 F_Amount_init (cDfl [(.int 1)] (cACons (cD (.int 0)) cANil))))))
/- Carry.rest -/
/- Carry.__call__ -/
def F_Carry_call : FF := runF 2
 (cSeq (cIfS (cTst (cBin dIsN (cCall F_pair_of (cACons (cVar 1) cANil)) (cD .non))) (cRaise 9) cNil)
 (cSeq (cAsg (cBin (dAlt (dOwn 0 (isObjC 0) F_Amount_add) (dOwn 0 isIntS F_Amount_add)) (cSFld 0 7 1) (cVar 1)) (gSet 2))
 (cSeq (cAsg (cSFCall 0 7 0 2 F_Rule_call (cACons (cVar 2) cANil)) (gSet 3))
 (cSeq (cSetF 0 7 1 (cBin (dOwn 0 (isObjC 0) F_Amount_sub) (cVar 2) (cVar 3)))
 (cRet (cMove 3))))))
/- Carry.reset -/
/- all_carried -/
def G_all_carried : FGf := runG 2
 (gSeq (gPlain2 (cAsg (cMake 7 F_Carry_init (cACons (cVar 0) cANil)) (gSet 2)))
 (gSeq (gPlain2 (cIfS (cOrT (cNot (cTst (cUn (dIsi (orB (isiP NC .list) (isiP NC .tuple))) (cVar 1)))) (cNot (cTst (cCb (g1 fAll) (cACons (cLc (cItS lstD (cVar 1)) (gSet 3) tYesD (cBin (dNot dIsN) (cCall F_pair_of (cACons (cVar 3) cANil)) (cD .non)) [3]) cANil))))) (cRaise 9) cNil))
 (gSeq (gFor2 (cItS lstD (cVar 1)) (gSet 3) (gSeq (gYield2 (recv 2 7 F_Carry_call (cACons (cVar 3) cANil))) gNil)) gNil)))
/- _law_ties_right -/
def F__law_ties_right : FF := runF 6
 (cSeq (cAsg (cBin (dOwn 1 isIntS F_Line_add) (cBin (dOwn 1 (isObjC 0) F_Line_mul) (cCM 1 F_Line_of (cACons (cD (.str "a")) cANil)) (cMake 0 F_Amount_init (cACons (cD (.int 1)) (cACons (cD (.int 2)) cANil)))) (cVar 0)) (gSet 1))
 (cSeq (cAsg (cCb (wDsp fun ds => .val (.tup ds)) (cACons (cBin (dOwn 1 (isObjC 1) F_Line_add) (cCM 1 F_Line_of (cACons (cD (.str "x")) cANil)) (cCM 1 F_Line_of (cACons (cD (.str "y")) cANil))) (cACons (cMake 2 F_Rule_init (cACons (cD (.int 1)) (cACons (cD (.str "half")) cANil))) cANil))) (gSet 2))
 (cSeq (cAsg (cDisp [((cD (.str "x")), (cCb (wDsp fun ds => .val (.tup ds)) (cACons (cVar 1) (cACons (cMake 2 F_Rule_init (cACons (cD (.int 1)) (cACons (cD (.str "floor")) cANil))) cANil)))), ((cD (.str "y")), (cCb (wDsp fun ds => .val (.tup ds)) (cACons (cVar 1) (cACons (cMake 2 F_Rule_init (cACons (cD (.int 1)) (cACons (cD (.str "ceiling")) cANil))) cANil)))), ((cD (.str "sum")), (cVar 2))]) (gSet 3))
 (cSeq (cAsg (cMake 3 F_Bill_init (cACons (cCb (wDsp fun ds => .val (.tup ds)) (cACons (cD (.str "a")) cANil)) (cACons (cVar 3) (cACons (cCb (wDsp fun ds => .val (.tup ds)) (cACons (cD (.str "sum")) cANil)) cANil)))) (gSet 4))
 (cSeq (cFor (cItS lstD (cCb (wDsp fun ds => .own (.lst ds)) (cACons (cDisp [((cD (.str "x")), (cD (.int 5))), ((cD (.str "y")), (cD (.int 0))), ((cD (.str "sum")), (cD (.int 1)))]) (cACons (cDisp [((cD (.str "x")), (cD (.int 5))), ((cD (.str "y")), (cD (.int 0))), ((cD (.str "sum")), (cD (.int 0)))]) (cACons (cDisp [((cD (.str "x")), (cD (.int 0))), ((cD (.str "y")), (cD (.int 0))), ((cD (.str "sum")), (cD (.int 0)))]) cANil))))) (gSet 5) (cSeq (cAsg (cCall F_choose (cACons (cVar 4) (cACons (cCb (wDsp fun ds => .val (.tup ds)) (cACons (cD (.str "x")) cANil)) (cACons (cMake 0 F_Amount_init (cDfl [(.int 1)] (cACons (cD (.int 0)) cANil))) (cACons (cVar 5) cANil))))) (gSet 6))
 (cSeq (cIfS (cOrT (cTst (cBin (opE (altE nonE (tupE flE)) true) (cSFld 6 6 0) (cCb (wDsp fun ds => .val (.tup ds)) (cACons (cD (.str "x")) (cACons (cD (.str "y")) cANil))))) (cNot (cTst (recv 6 6 F_Choice_is_correct (cACons (cVar 4) (cACons (cCb (wDsp fun ds => .val (.tup ds)) (cACons (cD (.str "x")) cANil)) (cACons (cMake 0 F_Amount_init (cDfl [(.int 1)] (cACons (cD (.int 0)) cANil))) (cACons (cVar 5) cANil)))))))) (cRet (cD (.bl false))) cNil)
 (cSeq (cIfS (cNot (cTst (cMeth 6 F_Choice_is_correct (cMake 6 F_Choice_init (cACons (cCb (wDsp fun ds => .val (.tup ds)) (cACons (cD (.str "x")) (cACons (cD (.str "y")) cANil))) (cACons (cCb (wDsp fun ds => .own (.lst ds)) cANil) cANil))) (cACons (cVar 4) (cACons (cCb (wDsp fun ds => .val (.tup ds)) (cACons (cD (.str "x")) cANil)) (cACons (cMake 0 F_Amount_init (cDfl [(.int 1)] (cACons (cD (.int 0)) cANil))) (cACons (cVar 5) cANil))))))) (cRet (cD (.bl false))) cNil)
 (cSeq (cIfS (cTst (cMeth 6 F_Choice_is_correct (cMake 6 F_Choice_init (cACons (cCb (wDsp fun ds => .val (.tup ds)) (cACons (cD (.str "x")) cANil)) (cACons (cCb (wDsp fun ds => .own (.lst ds)) cANil) cANil))) (cACons (cVar 4) (cACons (cCb (wDsp fun ds => .val (.tup ds)) (cACons (cD (.str "x")) cANil)) (cACons (cMake 0 F_Amount_init (cDfl [(.int 1)] (cACons (cD (.int 0)) cANil))) (cACons (cVar 5) cANil)))))) (cRet (cD (.bl false))) cNil)
 (cIfS (cTst (cMeth 6 F_Choice_is_correct (cMake 6 F_Choice_init (cACons (cCb (wDsp fun ds => .val (.tup ds)) (cACons (cD (.str "x")) (cACons (cD (.str "sum")) cANil))) (cACons (cCb (wDsp fun ds => .own (.lst ds)) cANil) cANil))) (cACons (cVar 4) (cACons (cCb (wDsp fun ds => .val (.tup ds)) (cACons (cD (.str "x")) cANil)) (cACons (cMake 0 F_Amount_init (cDfl [(.int 1)] (cACons (cD (.int 0)) cANil))) (cACons (cVar 5) cANil)))))) (cRet (cD (.bl false))) cNil))))))
 (cSeq (cAsg (cDisp [((cD (.str "x")), (cD (.int 5))), ((cD (.str "y")), (cD (.int 1))), ((cD (.str "sum")), (cD (.int 1)))]) (gSet 5))
 (cRet (cNotE (cTst (cMeth 6 F_Choice_is_correct (cMake 6 F_Choice_init (cACons (cCb (wDsp fun ds => .val (.tup ds)) (cACons (cD (.str "x")) (cACons (cD (.str "y")) cANil))) (cACons (cCb (wDsp fun ds => .own (.lst ds)) cANil) cANil))) (cACons (cVar 4) (cACons (cCb (wDsp fun ds => .val (.tup ds)) (cACons (cD (.str "x")) cANil)) (cACons (cMake 0 F_Amount_init (cDfl [(.int 1)] (cACons (cD (.int 0)) cANil))) (cACons (cVar 5) cANil))))))))))))))
/- _law_before -/
def F__law_before : FF := runF 2
 (cSeq (cAsg (cD (.int 0)) (gSet 2))
 (cSeq (cTry [9] [8, 10, 11, 12, 13, 14, 15, 16, 17, 18] (cForG G_all_carried (cACons (cVar 0) (cACons (cVar 1) cANil)) 3 2 [8, 9, 10, 11, 12, 13, 14, 15, 16, 17, 18]) (cRet (cMove 2)))
 (cRet (cD .non))))
/- law -/
def F_law : FF := runF 5
 (cSeq (cAsg (cBin (dII (fun _ _ => true) fun i j => i + j) (cD (.int 1)) (cBin (dII wMod fun i j => i.fmod j) (cCb (g1 fAbs) (cACons (cCb (g1 fSum) (cACons (cSlice (cVar 0) cNoPart (cPart (cD (.int 9)))) cANil)) cANil)) (cD (.int 40)))) (gSet 1))
 (cSeq (cPar2 2 3 (cACons (cMake 2 F_Rule_init (cACons (cBin (dII (fun _ _ => true) fun i j => i + j) (cD (.int 1)) (cBin (dII wMod fun i j => i.fmod j) (cVar 1) (cD (.int 9)))) (cACons (cD (.str "half")) cANil))) (cACons (cCb (wDsp fun ds => .own (.lst ds)) (cACons (cMake 0 F_Amount_init (cACons (cD (.int 1)) (cACons (cD (.int 3)) cANil))) (cACons (cVar 1) (cACons (cMake 0 F_Amount_init (cACons (cUn uNeg (cD (.int 7))) (cACons (cD (.int 2)) cANil))) (cACons (cD (.int 5)) cANil))))) cANil)))
 (cSeq (cIfS (cOrT (cTst (cBin (dNot dIsN) (cCall F__law_before (cACons (cVar 2) (cACons (cVar 3) cANil))) (cD .non))) (cTst (cBin (dNot dIsN) (cCall F__law_before (cACons (cVar 2) (cACons (cCb (wDsp fun ds => .own (.lst ds)) cANil) cANil))) (cD .non)))) (cRet (cD (.bl false))) cNil)
 (cSeq (cFor (cRange1 (cACons (cD (.int 5)) cANil)) (gSet 4) (cFor (cItS lstD (cCb (wDsp fun ds => .own (.lst ds)) (cACons (cD .non) (cACons (cD (.str "1")) (cACons (cD (.bl true)) (cACons (cCb (wDsp fun ds => .val (.tup ds)) (cACons (cD (.int 1)) (cACons (cD (.int 2)) cANil))) cANil)))))) (gSet 5) (cIfS (cTst (cBin (dNot dEqF) (cCall F__law_before (cACons (cVar 2) (cACons (cBin dCatL (cBin dCatL (cSlice (cVar 3) cNoPart (cPart (cVar 4))) (cCb (wDsp fun ds => .own (.lst ds)) (cACons (cVar 5) cANil))) (cSlice (cVar 3) (cPart (cVar 4)) cNoPart)) cANil))) (cD (.int 0)))) (cRet (cD (.bl false))) cNil)))
 (cRet (cCall F__law_ties_right (cACons (cVar 1) cANil)))))))
structure Fx (K : PySem.W.Frag) (mg : Str → Option Value) (ca fa : Nat → Addr) (fd : Nat → FuncData) : Prop where
  d0 : FunD K "_wall" "_wall" (defArgs st0) (defBody st0) (defScope st0) [] [] (fa 0) (fd 0)
  d1 : FunD K "__init__" "InvalidBill.__init__" (defArgs st1) (defBody st1) (defScope st1) [] [] (fa 1) (fd 1)
  d2 : FunD K "is_integer" "is_integer" (defArgs st2) (defBody st2) (defScope st2) [] [] (fa 2) (fd 2)
  d3 : FunD K "is_whole" "is_whole" (defArgs st3) (defBody st3) (defScope st3) [] [] (fa 3) (fd 3)
  d4 : FunD K "divisor" "divisor" (defArgs st4) (defBody st4) (defScope st4) [] [] (fa 4) (fd 4)
  d5 : FunD K "multiple" "multiple" (defArgs st5) (defBody st5) (defScope st5) [] [] (fa 5) (fd 5)
  d6 : FunD K "__init__" "Amount.__init__" (defArgs st6) (defBody st6) (defScope st6) [.int 1] [] (fa 6) (fd 6)
  d7 : FunD K "top" "Amount.top" (defArgs st7) (defBody st7) (defScope st7) [] [] (fa 7) (fd 7)
  d8 : FunD K "bottom" "Amount.bottom" (defArgs st8) (defBody st8) (defScope st8) [] [] (fa 8) (fd 8)
  d9 : FunD K "__eq__" "Amount.__eq__" (defArgs st9) (defBody st9) (defScope st9) [] [] (fa 9) (fd 9)
  d10 : FunD K "__add__" "Amount.__add__" (defArgs st10) (defBody st10) (defScope st10) [] [] (fa 10) (fd 10)
  d11 : FunD K "__radd__" "Amount.__radd__" (defArgs st11) (defBody st11) (defScope st11) [] [] (fa 11) (fd 11)
  d12 : FunD K "__sub__" "Amount.__sub__" (defArgs st12) (defBody st12) (defScope st12) [] [] (fa 12) (fd 12)
  d13 : FunD K "__rsub__" "Amount.__rsub__" (defArgs st13) (defBody st13) (defScope st13) [] [] (fa 13) (fd 13)
  d14 : FunD K "__mul__" "Amount.__mul__" (defArgs st14) (defBody st14) (defScope st14) [] [] (fa 14) (fd 14)
  d15 : FunD K "__rmul__" "Amount.__rmul__" (defArgs st15) (defBody st15) (defScope st15) [] [] (fa 15) (fd 15)
  d16 : FunD K "__neg__" "Amount.__neg__" (defArgs st16) (defBody st16) (defScope st16) [] [] (fa 16) (fd 16)
  d17 : FunD K "__abs__" "Amount.__abs__" (defArgs st17) (defBody st17) (defScope st17) [] [] (fa 17) (fd 17)
  d18 : FunD K "__bool__" "Amount.__bool__" (defArgs st18) (defBody st18) (defScope st18) [] [] (fa 18) (fd 18)
  d19 : FunD K "__lt__" "Amount.__lt__" (defArgs st19) (defBody st19) (defScope st19) [] [] (fa 19) (fd 19)
  d20 : FunD K "__le__" "Amount.__le__" (defArgs st20) (defBody st20) (defScope st20) [] [] (fa 20) (fd 20)
  d21 : FunD K "__gt__" "Amount.__gt__" (defArgs st21) (defBody st21) (defScope st21) [] [] (fa 21) (fd 21)
  d22 : FunD K "__ge__" "Amount.__ge__" (defArgs st22) (defBody st22) (defScope st22) [] [] (fa 22) (fd 22)
  d23 : FunD K "pair_of" "pair_of" (defArgs st23) (defBody st23) (defScope st23) [] [] (fa 23) (fd 23)
  d24 : FunD K "is_name" "is_name" (defArgs st24) (defBody st24) (defScope st24) [] [] (fa 24) (fd 24)
  d25 : FunD K "is_term" "is_term" (defArgs st25) (defBody st25) (defScope st25) [] [] (fa 25) (fd 25)
  d26 : FunD K "__init__" "Line.__init__" (defArgs st26) (defBody st26) (defScope st26) [] [] (fa 26) (fd 26)
  d27 : FunD K "of" "Line.of" (defArgs st27) (defBody st27) (defScope st27) [] [] (fa 27) (fd 27)
  d28 : FunD K "terms" "Line.terms" (defArgs st28) (defBody st28) (defScope st28) [] [] (fa 28) (fd 28)
  d29 : FunD K "rest" "Line.rest" (defArgs st29) (defBody st29) (defScope st29) [] [] (fa 29) (fd 29)
  d30 : FunD K "factor" "Line.factor" (defArgs st30) (defBody st30) (defScope st30) [] [] (fa 30) (fd 30)
  d31 : FunD K "__eq__" "Line.__eq__" (defArgs st31) (defBody st31) (defScope st31) [] [] (fa 31) (fd 31)
  d32 : FunD K "__add__" "Line.__add__" (defArgs st32) (defBody st32) (defScope st32) [] [] (fa 32) (fd 32)
  d33 : FunD K "__radd__" "Line.__radd__" (defArgs st33) (defBody st33) (defScope st33) [] [] (fa 33) (fd 33)
  d34 : FunD K "__sub__" "Line.__sub__" (defArgs st34) (defBody st34) (defScope st34) [] [] (fa 34) (fd 34)
  d35 : FunD K "__rsub__" "Line.__rsub__" (defArgs st35) (defBody st35) (defScope st35) [] [] (fa 35) (fd 35)
  d36 : FunD K "__mul__" "Line.__mul__" (defArgs st36) (defBody st36) (defScope st36) [] [] (fa 36) (fd 36)
  d37 : FunD K "__rmul__" "Line.__rmul__" (defArgs st37) (defBody st37) (defScope st37) [] [] (fa 37) (fd 37)
  d38 : FunD K "__neg__" "Line.__neg__" (defArgs st38) (defBody st38) (defScope st38) [] [] (fa 38) (fd 38)
  d39 : FunD K "line_of" "line_of" (defArgs st39) (defBody st39) (defScope st39) [] [] (fa 39) (fd 39)
  d40 : FunD K "factor_in" "factor_in" (defArgs st40) (defBody st40) (defScope st40) [] [] (fa 40) (fd 40)
  d41 : FunD K "times" "times" (defArgs st41) (defBody st41) (defScope st41) [] [] (fa 41) (fd 41)
  d42 : FunD K "joined" "joined" (defArgs st42) (defBody st42) (defScope st42) [] [] (fa 42) (fd 42)
  d43 : FunD K "rounded" "rounded" (defArgs st43) (defBody st43) (defScope st43) [] [] (fa 43) (fd 43)
  d44 : FunD K "__init__" "Rule.__init__" (defArgs st44) (defBody st44) (defScope st44) [] [] (fa 44) (fd 44)
  d45 : FunD K "unit" "Rule.unit" (defArgs st45) (defBody st45) (defScope st45) [] [] (fa 45) (fd 45)
  d46 : FunD K "mode" "Rule.mode" (defArgs st46) (defBody st46) (defScope st46) [] [] (fa 46) (fd 46)
  d47 : FunD K "__eq__" "Rule.__eq__" (defArgs st47) (defBody st47) (defScope st47) [] [] (fa 47) (fd 47)
  d48 : FunD K "__call__" "Rule.__call__" (defArgs st48) (defBody st48) (defScope st48) [] [] (fa 48) (fd 48)
  d49 : FunD K "step" "Rule.step" (defArgs st49) (defBody st49) (defScope st49) [] [] (fa 49) (fd 49)
  d50 : FunD K "are_inputs" "are_inputs" (defArgs st50) (defBody st50) (defScope st50) [] [] (fa 50) (fd 50)
  d51 : FunD K "is_small" "is_small" (defArgs st51) (defBody st51) (defScope st51) [] [] (fa 51) (fd 51)
  d52 : FunD K "is_step" "is_step" (defArgs st52) (defBody st52) (defScope st52) [] [] (fa 52) (fd 52)
  d53 : FunD K "are_outputs" "are_outputs" (defArgs st53) (defBody st53) (defScope st53) [] [] (fa 53) (fd 53)
  d54 : FunD K "__init__" "Bill.__init__" (defArgs st54) (defBody st54) (defScope st54) [] [] (fa 54) (fd 54)
  d55 : FunD K "inputs" "Bill.inputs" (defArgs st55) (defBody st55) (defScope st55) [] [] (fa 55) (fd 55)
  d56 : FunD K "names" "Bill.names" (defArgs st56) (defBody st56) (defScope st56) [] [] (fa 56) (fd 56)
  d57 : FunD K "outputs" "Bill.outputs" (defArgs st57) (defBody st57) (defScope st57) [] [] (fa 57) (fd 57)
  d58 : FunD K "periods" "Bill.periods" (defArgs st58) (defBody st58) (defScope st58) [] [] (fa 58) (fd 58)
  d59 : FunD K "__len__" "Bill.__len__" (defArgs st59) (defBody st59) (defScope st59) [] [] (fa 59) (fd 59)
  d60 : FunD K "__contains__" "Bill.__contains__" (defArgs st60) (defBody st60) (defScope st60) [] [] (fa 60) (fd 60)
  d61 : FunD K "__getitem__" "Bill.__getitem__" (defArgs st61) (defBody st61) (defScope st61) [] [] (fa 61) (fd 61)
  d62 : FunD K "__iter__" "Bill.__iter__" (defArgs st62) (defBody st62) (defScope st62) [] [] (fa 62) (fd 62)
  d63 : FunD K "__eq__" "Bill.__eq__" (defArgs st63) (defBody st63) (defScope st63) [] [] (fa 63) (fd 63)
  d64 : FunD K "amounts" "Bill.amounts" (defArgs st64) (defBody st64) (defScope st64) [] [] (fa 64) (fd 64)
  d65 : FunD K "scale_of" "scale_of" (defArgs st65) (defBody st65) (defScope st65) [] [] (fa 65) (fd 65)
  d66 : FunD K "exact_factors" "exact_factors" (defArgs st66) (defBody st66) (defScope st66) [] [] (fa 66) (fd 66)
  d67 : FunD K "periods_of" "periods_of" (defArgs st67) (defBody st67) (defScope st67) [] [] (fa 67) (fd 67)
  d68 : FunD K "scaled_values" "scaled_values" (defArgs st68) (defBody st68) (defScope st68) [] [] (fa 68) (fd 68)
  d69 : FunD K "points_of" "points_of" (defArgs st69) (defBody st69) (defScope st69) [] [] (fa 69) (fd 69)
  d70 : FunD K "check_bill" "check_bill" (defArgs st70) (defBody st70) (defScope st70) [] [] (fa 70) (fd 70)
  d71 : FunD K "check_numbers" "check_numbers" (defArgs st71) (defBody st71) (defScope st71) [] [] (fa 71) (fd 71)
  d72 : FunD K "are_numbers" "are_numbers" (defArgs st72) (defBody st72) (defScope st72) [] [] (fa 72) (fd 72)
  d73 : FunD K "check_set" "check_set" (defArgs st73) (defBody st73) (defScope st73) [] [] (fa 73) (fd 73)
  d74 : FunD K "sets_of" "sets_of" (defArgs st74) (defBody st74) (defScope st74) [] [] (fa 74) (fd 74)
  d75 : FunD K "fields" "Evidence.fields" (defArgs st75) (defBody st75) (defScope st75) [] [] (fa 75) (fd 75)
  d76 : FunD K "__eq__" "Evidence.__eq__" (defArgs st76) (defBody st76) (defScope st76) [] [] (fa 76) (fd 76)
  d77 : FunD K "__init__" "Far.__init__" (defArgs st77) (defBody st77) (defScope st77) [] [] (fa 77) (fd 77)
  d78 : FunD K "fields" "Far.fields" (defArgs st78) (defBody st78) (defScope st78) [] [] (fa 78) (fd 78)
  d79 : FunD K "is_correct" "Far.is_correct" (defArgs st79) (defBody st79) (defScope st79) [] [] (fa 79) (fd 79)
  d80 : FunD K "check_tolerance" "check_tolerance" (defArgs st80) (defBody st80) (defScope st80) [] [] (fa 80) (fd 80)
  d81 : FunD K "check_question" "check_question" (defArgs st81) (defBody st81) (defScope st81) [] [] (fa 81) (fd 81)
  d82 : FunD K "differences_of" "differences_of" (defArgs st82) (defBody st82) (defScope st82) [] [] (fa 82) (fd 82)
  d83 : FunD K "first_far" "first_far" (defArgs st83) (defBody st83) (defScope st83) [] [] (fa 83) (fd 83)
  d84 : FunD K "is_refuted" "is_refuted" (defArgs st84) (defBody st84) (defScope st84) [] [] (fa 84) (fd 84)
  d85 : FunD K "is_within" "is_within" (defArgs st85) (defBody st85) (defScope st85) [] [] (fa 85) (fd 85)
  d86 : FunD K "__init__" "Choice.__init__" (defArgs st86) (defBody st86) (defScope st86) [] [] (fa 86) (fd 86)
  d87 : FunD K "fields" "Choice.fields" (defArgs st87) (defBody st87) (defScope st87) [] [] (fa 87) (fd 87)
  d88 : FunD K "is_correct" "Choice.is_correct" (defArgs st88) (defBody st88) (defScope st88) [] [] (fa 88) (fd 88)
  d89 : FunD K "check_prices" "check_prices" (defArgs st89) (defBody st89) (defScope st89) [] [] (fa 89) (fd 89)
  d90 : FunD K "check_asked" "check_asked" (defArgs st90) (defBody st90) (defScope st90) [] [] (fa 90) (fd 90)
  d91 : FunD K "cost_of" "cost_of" (defArgs st91) (defBody st91) (defScope st91) [] [] (fa 91) (fd 91)
  d92 : FunD K "ranked" "ranked" (defArgs st92) (defBody st92) (defScope st92) [] [] (fa 92) (fd 92)
  d93 : FunD K "chosen" "chosen" (defArgs st93) (defBody st93) (defScope st93) [] [] (fa 93) (fd 93)
  d94 : FunD K "choose" "choose" (defArgs st94) (defBody st94) (defScope st94) [] [] (fa 94) (fd 94)
  d95 : FunD K "__init__" "Carry.__init__" (defArgs st95) (defBody st95) (defScope st95) [] [] (fa 95) (fd 95)
  d96 : FunD K "rest" "Carry.rest" (defArgs st96) (defBody st96) (defScope st96) [] [] (fa 96) (fd 96)
  d97 : FunD K "__call__" "Carry.__call__" (defArgs st97) (defBody st97) (defScope st97) [] [] (fa 97) (fd 97)
  d98 : FunD K "reset" "Carry.reset" (defArgs st98) (defBody st98) (defScope st98) [] [] (fa 98) (fd 98)
  d99 : FunD K "all_carried" "all_carried" (defArgs st99) (defBody st99) (defScope st99) [] [] (fa 99) (fd 99)
  d100 : FunD K "_law_ties_right" "_law_ties_right" (defArgs st100) (defBody st100) (defScope st100) [] [] (fa 100) (fd 100)
  d101 : FunD K "_law_before" "_law_before" (defArgs st101) (defBody st101) (defScope st101) [] [] (fa 101) (fd 101)
  d102 : FunD K "law" "law" (defArgs st102) (defBody st102) (defScope st102) [] [] (fa 102) (fd 102)
  fr_isinstance : mg "isinstance" = none
  fr_int : mg "int" = none
  insF : ∀ c, c < 8 → InsF (Gm K ca) c
  fr_bool : mg "bool" = none
  fr_abs : mg "abs" = none
  g_divisor : mg "divisor" = some (.ref (fa 4))
  g_is_whole : mg "is_whole" = some (.ref (fa 3))
  ex_InvalidAmount : PySem.W.excIn K (ca 9) He.veBase "ValueError.__new__" = true ∧ PySem.W.keepIn K (.ref (ca 9)) = true ∧ PySem.W.subIn K (.ref (ca 9)) (.type "BaseException") = some true ∧ PySem.W.typeIn K (.ref (ca 9)) = some (.type "type")
  gc_InvalidAmount : mg "InvalidAmount" = some (.ref (ca 9))
  cl_Amount : Cls K (ca 0)
  na_Amount_high : NoAttr K (ca 0) "high"
  na_Amount_low : NoAttr K (ca 0) "low"
  isC_Amount : IsC (Gm K ca) 8 0 [0]
  gc_Amount : mg "Amount" = some (.ref (ca 0))
  g_pair_of : mg "pair_of" = some (.ref (fa 23))
  mk_Amount : Mk K (ca 0) (fa 6)
  fr_str : mg "str" = none
  fr_len : mg "len" = none
  gi_MAX_NAME : ∃ t, mg "MAX_NAME" = some (.int 8 t)
  gs_LETTERS : ∃ t, mg "LETTERS" = some (.str "abcdefghijklmnopqrstuvwxyz" t)
  fr_all : mg "all" = none
  fr_tuple : mg "tuple" = none
  g_is_name : mg "is_name" = some (.ref (fa 24))
  g_is_term : mg "is_term" = some (.ref (fa 25))
  ex_InvalidLine : PySem.W.excIn K (ca 11) He.veBase "ValueError.__new__" = true ∧ PySem.W.keepIn K (.ref (ca 11)) = true ∧ PySem.W.subIn K (.ref (ca 11)) (.type "BaseException") = some true ∧ PySem.W.typeIn K (.ref (ca 11)) = some (.type "type")
  gc_InvalidLine : mg "InvalidLine" = some (.ref (ca 11))
  fr_set : mg "set" = none
  fr_sorted : mg "sorted" = none
  g_factor_in : mg "factor_in" = some (.ref (fa 40))
  me_Amount_bool : Meth K (ca 0) "__bool__" (fa 18)
  cl_Line : Cls K (ca 1)
  na_Line_parts : NoAttr K (ca 1) "parts"
  na_Line_added : NoAttr K (ca 1) "added"
  fd6 : True
  mk_Line : Mk K (ca 1) (fa 26)
  ex_InvalidName : PySem.W.excIn K (ca 13) He.veBase "ValueError.__new__" = true ∧ PySem.W.keepIn K (.ref (ca 13)) = true ∧ PySem.W.subIn K (.ref (ca 13)) (.type "BaseException") = some true ∧ PySem.W.typeIn K (.ref (ca 13)) = some (.type "type")
  gc_InvalidName : mg "InvalidName" = some (.ref (ca 13))
  isC_Line : IsC (Gm K ca) 8 1 [1]
  gc_Line : mg "Line" = some (.ref (ca 1))
  me_Amount_eq : Meth K (ca 0) "__eq__" (fa 9)
  g_line_of : mg "line_of" = some (.ref (fa 39))
  sf_Amount : PySem.W.selfFirst K (ca 0) = true
  me_Amount_add : Meth K (ca 0) "__add__" (fa 10)
  g_joined : mg "joined" = some (.ref (fa 42))
  me_Amount_sub : Meth K (ca 0) "__sub__" (fa 12)
  g_times : mg "times" = some (.ref (fa 41))
  me_Amount_mul : Meth K (ca 0) "__mul__" (fa 14)
  oi_Amount_Mult : OpI K (ca 0) (Operator.info .Mult).2
  gi_MAX_UNIT : ∃ t, mg "MAX_UNIT" = some (.int 100 t)
  g_is_integer : mg "is_integer" = some (.ref (fa 2))
  gt_MODES : ∃ a, mg "MODES" = some (.ref a) ∧ KT K a [.str "floor", .str "ceiling", .str "half", .str "even"]
  ex_InvalidRule : PySem.W.excIn K (ca 10) He.veBase "ValueError.__new__" = true ∧ PySem.W.keepIn K (.ref (ca 10)) = true ∧ PySem.W.subIn K (.ref (ca 10)) (.type "BaseException") = some true ∧ PySem.W.typeIn K (.ref (ca 10)) = some (.type "type")
  gc_InvalidRule : mg "InvalidRule" = some (.ref (ca 10))
  cl_Rule : Cls K (ca 2)
  na_Rule_size : NoAttr K (ca 2) "size"
  na_Rule_word : NoAttr K (ca 2) "word"
  isC_Rule : IsC (Gm K ca) 8 2 [2]
  gc_Rule : mg "Rule" = some (.ref (ca 2))
  g_rounded : mg "rounded" = some (.ref (fa 43))
  gi_MAX_INPUTS : ∃ t, mg "MAX_INPUTS" = some (.int 3 t)
  pr_Amount_top : ∃ pr, PropOf K (ca 0) "top" pr (fa 7)
  pr_Amount_bottom : ∃ pr, PropOf K (ca 0) "bottom" pr (fa 8)
  gi_MAX_BOTTOM : ∃ t, mg "MAX_BOTTOM" = some (.int 24 t)
  gi_MAX_ADDED : ∃ t, mg "MAX_ADDED" = some (.int 9999 t)
  pr_Line_rest : ∃ pr, PropOf K (ca 1) "rest" pr (fa 29)
  g_is_small : mg "is_small" = some (.ref (fa 51))
  pr_Line_terms : ∃ pr, PropOf K (ca 1) "terms" pr (fa 28)
  gi_MAX_TOP : ∃ t, mg "MAX_TOP" = some (.int 99 t)
  gi_MAX_OUTPUTS : ∃ t, mg "MAX_OUTPUTS" = some (.int 3 t)
  fr_list : mg "list" = none
  g_are_inputs : mg "are_inputs" = some (.ref (fa 50))
  fr_dict : mg "dict" = none
  gi_MAX_STEPS : ∃ t, mg "MAX_STEPS" = some (.int 6 t)
  g_is_step : mg "is_step" = some (.ref (fa 52))
  g_are_outputs : mg "are_outputs" = some (.ref (fa 53))
  cl_Bill : Cls K (ca 3)
  na_Bill_given : NoAttr K (ca 3) "given"
  na_Bill_rows : NoAttr K (ca 3) "rows"
  na_Bill_shown : NoAttr K (ca 3) "shown"
  g_scale_of : mg "scale_of" = some (.ref (fa 65))
  na_Bill_scale : NoAttr K (ca 3) "scale"
  g_periods_of : mg "periods_of" = some (.ref (fa 67))
  na_Bill_cycle : NoAttr K (ca 3) "cycle"
  isC_Bill : IsC (Gm K ca) 8 3 [3]
  gc_Bill : mg "Bill" = some (.ref (ca 3))
  me_Line_eq : Meth K (ca 1) "__eq__" (fa 31)
  me_Rule_eq : Meth K (ca 2) "__eq__" (fa 47)
  g_check_numbers : mg "check_numbers" = some (.ref (fa 71))
  g_check_set : mg "check_set" = some (.ref (fa 73))
  g_scaled_values : mg "scaled_values" = some (.ref (fa 68))
  g_multiple : mg "multiple" = some (.ref (fa 5))
  g_exact_factors : mg "exact_factors" = some (.ref (fa 66))
  me_Rule_step : Meth K (ca 2) "step" (fa 49)
  fr_zip : mg "zip" = none
  pr_Rule_mode : ∃ pr, PropOf K (ca 2) "mode" pr (fa 46)
  pr_Rule_unit : ∃ pr, PropOf K (ca 2) "unit" pr (fa 45)
  gi_MAX_POINTS : ∃ t, mg "MAX_POINTS" = some (.int 1000 t)
  ex_TooLarge : PySem.W.excIn K (ca 17) He.veBase "ValueError.__new__" = true ∧ PySem.W.keepIn K (.ref (ca 17)) = true ∧ PySem.W.subIn K (.ref (ca 17)) (.type "BaseException") = some true ∧ PySem.W.typeIn K (.ref (ca 17)) = some (.type "type")
  gc_TooLarge : mg "TooLarge" = some (.ref (ca 17))
  fr_range : mg "range" = none
  g_are_numbers : mg "are_numbers" = some (.ref (fa 72))
  ex_InvalidNumbers : PySem.W.excIn K (ca 14) He.veBase "ValueError.__new__" = true ∧ PySem.W.keepIn K (.ref (ca 14)) = true ∧ PySem.W.subIn K (.ref (ca 14)) (.type "BaseException") = some true ∧ PySem.W.typeIn K (.ref (ca 14)) = some (.type "type")
  gc_InvalidNumbers : mg "InvalidNumbers" = some (.ref (ca 14))
  ex_InvalidSet : PySem.W.excIn K (ca 15) He.veBase "ValueError.__new__" = true ∧ PySem.W.keepIn K (.ref (ca 15)) = true ∧ PySem.W.subIn K (.ref (ca 15)) (.type "BaseException") = some true ∧ PySem.W.typeIn K (.ref (ca 15)) = some (.type "type")
  gc_InvalidSet : mg "InvalidSet" = some (.ref (ca 15))
  isC_Evidence : IsC (Gm K ca) 8 4 [4, 5, 6]
  gc_Evidence : mg "Evidence" = some (.ref (ca 4))
  cc_Choice_NAME : ∃ u, Con K (ca 6) "NAME" (.str "choice") u
  cl_Choice : Cls K (ca 6)
  cc_Evidence_NAME : ∃ u, Con K (ca 4) "NAME" (.str "evidence") u
  cl_Evidence : Cls K (ca 4)
  cc_Far_NAME : ∃ u, Con K (ca 5) "NAME" (.str "far") u
  cl_Far : Cls K (ca 5)
  pr_Choice_fields : ∃ pr, PropOf K (ca 6) "fields" pr (fa 87)
  pr_Evidence_fields : ∃ pr, PropOf K (ca 4) "fields" pr (fa 75)
  pr_Far_fields : ∃ pr, PropOf K (ca 5) "fields" pr (fa 78)
  na_Far_numbers : NoAttr K (ca 5) "numbers"
  na_Far_output : NoAttr K (ca 5) "output"
  na_Far_difference : NoAttr K (ca 5) "difference"
  g_check_question : mg "check_question" = some (.ref (fa 81))
  pr_Bill_outputs : ∃ pr, PropOf K (ca 3) "outputs" pr (fa 57)
  g_differences_of : mg "differences_of" = some (.ref (fa 82))
  me_Amount_gt : Meth K (ca 0) "__gt__" (fa 21)
  me_Amount_abs : Meth K (ca 0) "__abs__" (fa 17)
  me_Amount_lt : Meth K (ca 0) "__lt__" (fa 19)
  si_Amount : PySem.W.subIn K (.type "int") (.ref (ca 0)) = some false
  ex_InvalidTolerance : PySem.W.excIn K (ca 16) He.veBase "ValueError.__new__" = true ∧ PySem.W.keepIn K (.ref (ca 16)) = true ∧ PySem.W.subIn K (.ref (ca 16)) (.type "BaseException") = some true ∧ PySem.W.typeIn K (.ref (ca 16)) = some (.type "type")
  gc_InvalidTolerance : mg "InvalidTolerance" = some (.ref (ca 16))
  g_check_bill : mg "check_bill" = some (.ref (fa 70))
  g_check_tolerance : mg "check_tolerance" = some (.ref (fa 80))
  g_points_of : mg "points_of" = some (.ref (fa 69))
  mk_Far : Mk K (ca 5) (fa 77)
  gc_Far : mg "Far" = some (.ref (ca 5))
  fr_any : mg "any" = none
  na_Choice_found : NoAttr K (ca 6) "found"
  na_Choice_doubts : NoAttr K (ca 6) "doubts"
  g_check_asked : mg "check_asked" = some (.ref (fa 90))
  g_chosen : mg "chosen" = some (.ref (fa 93))
  g_ranked : mg "ranked" = some (.ref (fa 92))
  g_cost_of : mg "cost_of" = some (.ref (fa 91))
  g_is_refuted : mg "is_refuted" = some (.ref (fa 84))
  me_Bill_len : Meth K (ca 3) "__len__" (fa 59)
  ex_InvalidPrices : PySem.W.excIn K (ca 18) He.veBase "ValueError.__new__" = true ∧ PySem.W.keepIn K (.ref (ca 18)) = true ∧ PySem.W.subIn K (.ref (ca 18)) (.type "BaseException") = some true ∧ PySem.W.typeIn K (.ref (ca 18)) = some (.type "type")
  gc_InvalidPrices : mg "InvalidPrices" = some (.ref (ca 18))
  pr_Bill_names : ∃ pr, PropOf K (ca 3) "names" pr (fa 56)
  gi_MAX_PRICE : ∃ t, mg "MAX_PRICE" = some (.int 99 t)
  g_check_prices : mg "check_prices" = some (.ref (fa 89))
  fr_sum : mg "sum" = none
  g_sets_of : mg "sets_of" = some (.ref (fa 74))
  g_is_within : mg "is_within" = some (.ref (fa 85))
  fr_enumerate : mg "enumerate" = none
  g_first_far : mg "first_far" = some (.ref (fa 83))
  mk_Choice : Mk K (ca 6) (fa 86)
  gc_Choice : mg "Choice" = some (.ref (ca 6))
  cl_Carry : Cls K (ca 7)
  na_Carry_rule : NoAttr K (ca 7) "rule"
  na_Carry_left : NoAttr K (ca 7) "left"
  oi_Amount_Add : OpI K (ca 0) (Operator.info .Add).2
  co_Rule : StX.CallO K (ca 2) (fa 48)
  g__wall : mg "_wall" = some (.ref (fa 0))
  mk_Carry : Mk K (ca 7) (fa 95)
  gc_Carry : mg "Carry" = some (.ref (ca 7))
  co_Carry : StX.CallO K (ca 7) (fa 97)
  sf_Line : PySem.W.selfFirst K (ca 1) = true
  me_Line_add : Meth K (ca 1) "__add__" (fa 32)
  oi_Line_Add : OpI K (ca 1) (Operator.info .Add).2
  me_Line_mul : Meth K (ca 1) "__mul__" (fa 36)
  ot_Line_Amount_Mult : OpT K (ca 1) (ca 0) (Operator.info .Mult).2
  cr_Line : ∃ mc, ClX.CRead K (ca 1) mc ∧ ∃ p, ClX.CMet K (ca 1) mc "of" p (fa 27)
  mk_Rule : Mk K (ca 2) (fa 44)
  mk_Bill : Mk K (ca 3) (fa 54)
  g_choose : mg "choose" = some (.ref (fa 94))
  me_Choice_is_correct : Meth K (ca 6) "is_correct" (fa 88)
  ss_exc : ∀ c, memN c [8, 9, 10, 11, 12, 13, 14, 15, 16, 17, 18] = true → PySem.W.subIn K (.ref (ca c)) (.type "StopIteration") = some false
  g_all_carried : mg "all_carried" = some (.ref (fa 99))
  em_InvalidAmount : (∀ a, memN a [9] = true → PySem.W.exmOne K (.ref (ca a)) (.ref (ca 9)) = some true) ∧ ∀ a, memN a [8, 10, 11, 12, 13, 14, 15, 16, 17, 18] = true → PySem.W.exmOne K (.ref (ca a)) (.ref (ca 9)) = some false
  g__law_before : mg "_law_before" = some (.ref (fa 101))
  g__law_ties_right : mg "_law_ties_right" = some (.ref (fa 100))
section
variable {P : Program} {w : World} {K : PySem.W.Frag} {mg : Str → Option Value} {base : Heap} {ca fa : Nat → Addr} {fd : Nat → FuncData} (h : Fx K mg ca fa fd)
include h
/- _wall -/
/- InvalidBill.__init__ -/
/- is_integer -/
abbrev N2 : List Str := ["value", "low", "high"]
omit h in
theorem sc2 : FnScope N2 ["value", "low", "high"] (defScope st2) := ⟨rfl, rfl, rfl, by decide +kernel, rfl, by decide +kernel, by decide +kernel⟩
theorem ok2 : FnOk P w K mg base (L2.CX P w) 1 (fa 2) (fd 2) ["value", "low", "high"] (spF (Gm K ca) 3 F_is_integer) := fn_ok h.d2 sc2 rfl fun cdv A outer s H E hr =>
 (s_one (s_ret (e_and (e_isi rfl rfl h.fr_isinstance (pe_bltn (v := .ty "int") (u := .type "int") rfl h.fr_int (by first | rfl | (with_unfolding_all rfl)) rfl) (.ty "int") (fun _ _ e => isiP_ok (bt := .int) h.insF e) (e_var rfl (vis_of rfl))) (e_and (e_not (e_isi rfl rfl h.fr_isinstance (pe_bltn (v := .ty "bool") (u := .type "bool") rfl h.fr_bool (by first | rfl | (with_unfolding_all rfl)) rfl) (.ty "bool") (fun _ _ e => isiP_ok (bt := .bool) h.insF e) (e_var rfl (vis_of rfl)))) (e_one (e_chain op_le op_le (e_var rfl (vis_of rfl)) (e_var rfl (vis_of rfl)) (e_var rfl (vis_of rfl))))))))
theorem b2 : Binds K (fd 2) ["value", "low", "high"] [] := h.d2.bindsN fun _ _ _ _ _ _ us hl => match us, hl with | [_, _, _], _ => rfl
/- is_whole -/
abbrev N3 : List Str := ["value"]
omit h in
theorem sc3 : FnScope N3 ["value"] (defScope st3) := ⟨rfl, rfl, rfl, by decide +kernel, rfl, by decide +kernel, by decide +kernel⟩
theorem ok3 : FnOk P w K mg base (L2.CX P w) 1 (fa 3) (fd 3) ["value"] (spF (Gm K ca) 1 F_is_whole) := fn_ok h.d3 sc3 rfl fun cdv A outer s H E hr =>
 (s_one (s_ret (e_and (e_isi rfl rfl h.fr_isinstance (pe_bltn (v := .ty "int") (u := .type "int") rfl h.fr_int (by first | rfl | (with_unfolding_all rfl)) rfl) (.ty "int") (fun _ _ e => isiP_ok (bt := .int) h.insF e) (e_var rfl (vis_of rfl))) (e_one (e_not (e_isi rfl rfl h.fr_isinstance (pe_bltn (v := .ty "bool") (u := .type "bool") rfl h.fr_bool (by first | rfl | (with_unfolding_all rfl)) rfl) (.ty "bool") (fun _ _ e => isiP_ok (bt := .bool) h.insF e) (e_var rfl (vis_of rfl))))))))
theorem b3 : Binds K (fd 3) ["value"] [] := h.d3.bindsN fun _ _ _ _ _ _ us hl => match us, hl with | [_], _ => rfl
/- divisor -/
abbrev N4 : List Str := ["one", "other", "low", "high"]
omit h in
theorem sc4 : FnScope N4 ["one", "other"] (defScope st4) := ⟨rfl, rfl, rfl, by decide +kernel, rfl, by decide +kernel, by decide +kernel⟩
theorem ok4 : FnOk P w K mg base (L2.CX P w) 1 (fa 4) (fd 4) ["one", "other"] (spF (Gm K ca) 2 F_divisor) := fn_ok h.d4 sc4 rfl fun cdv A outer s H E hr =>
 (s_cons (s_par2 rfl sc4.nd rfl rfl (by decide) rfl rfl (a_cons (e_cb (pe_callB call_abs rfl h.fr_abs (by first | rfl | (with_unfolding_all rfl)) (a_cons (e_var rfl (vis_of rfl)) a_nil)) cb_abs) (a_cons (e_cb (pe_callB call_abs rfl h.fr_abs (by first | rfl | (with_unfolding_all rfl)) (a_cons (e_var rfl (vis_of rfl)) a_nil)) cb_abs) a_nil)) rfl)
 (s_cons (s_while (fun _ => 100000) (passes_of rfl) (t_cmp opD_neF (e_var rfl (vis_of rfl)) e_int (nomark _)) (s_one (s_par2 rfl sc4.nd rfl rfl (by decide) rfl rfl (a_cons (e_bin opD_mod (e_cb (pe_callTy call_int1 rfl h.fr_int (by first | rfl | (with_unfolding_all rfl)) (a_cons (e_var rfl (vis_of rfl)) a_nil)) cb_int) (e_cb (pe_callTy call_int1 rfl h.fr_int (by first | rfl | (with_unfolding_all rfl)) (a_cons (e_var rfl (vis_of rfl)) a_nil)) cb_int)) (a_cons (e_var rfl (vis_of rfl)) a_nil)) rfl)))
 (s_one (s_ret (e_move rfl (vis_of rfl))))))
theorem b4 : Binds K (fd 4) ["one", "other"] [] := h.d4.bindsN fun _ _ _ _ _ _ us hl => match us, hl with | [_, _], _ => rfl
/- multiple -/
abbrev N5 : List Str := ["one", "other"]
omit h in
theorem sc5 : FnScope N5 ["one", "other"] (defScope st5) := ⟨rfl, rfl, rfl, by decide +kernel, rfl, by decide +kernel, by decide +kernel⟩
theorem ok5 : FnOk P w K mg base (L2.CX P w) 2 (fa 5) (fd 5) ["one", "other"] (spF (Gm K ca) 2 F_multiple) := fn_ok h.d5 sc5 rfl fun cdv A outer s H E hr =>
 (s_one (s_ret (e_bin opD_fdiv (e_bin opD_mul (e_var rfl (vis_of rfl)) (e_var rfl (vis_of rfl))) (e_call (ok4 h) (hr.mono (by decide)) rfl h.g_divisor h.d4.kp (b4 h) rfl (takes_of rfl rfl rfl rfl) (a_cons (e_var rfl (vis_of rfl)) (a_cons (e_var rfl (vis_of rfl)) a_nil)) (len_cons (len_cons len_nil))))))
theorem b5 : Binds K (fd 5) ["one", "other"] [] := h.d5.bindsN fun _ _ _ _ _ _ us hl => match us, hl with | [_, _], _ => rfl
/- Amount.__init__ -/
abbrev N6 : List Str := ["self", "top", "bottom", "common"]
omit h in
theorem sc6 : FnScope N6 ["self", "top", "bottom"] (defScope st6) := ⟨rfl, rfl, rfl, by decide +kernel, rfl, by decide +kernel, by decide +kernel⟩
theorem ok6 : FnOk P w K mg base (L2.CX P w) 2 (fa 6) (fd 6) ["self", "top", "bottom"] (spF (Gm K ca) 3 F_Amount_init) := fn_ok h.d6 sc6 rfl fun cdv A outer s H E hr =>
 (s_cons (s_if (L2.PW.pt (t_or (t_not (t_val (e_call (ok3 h) (hr.mono (by decide)) rfl h.g_is_whole h.d3.kp (b3 h) rfl (takes_of rfl rfl rfl rfl) (a_cons (e_var rfl (vis_of rfl)) a_nil) (len_cons len_nil)))) (t_or (t_not (t_val (e_call (ok3 h) (hr.mono (by decide)) rfl h.g_is_whole h.d3.kp (b3 h) rfl (takes_of rfl rfl rfl rfl) (a_cons (e_var rfl (vis_of rfl)) a_nil) (len_cons len_nil)))) (t_or1 (t_cmp opD_eqF (e_var rfl (vis_of rfl)) e_int (nomark _)))))) (s_one (s_raise (c := 9) rfl (takes_of rfl rfl rfl rfl) h.ex_InvalidAmount h.gc_InvalidAmount rfl)) s_nil)
 (s_cons (s_set sc6.nd rfl (loc_of rfl) (e_if (t_cmp opD_gt (e_var rfl (vis_of rfl)) e_int (nomark _)) (e_call (ok4 h) (hr.mono (by decide)) rfl h.g_divisor h.d4.kp (b4 h) rfl (takes_of rfl rfl rfl rfl) (a_cons (e_var rfl (vis_of rfl)) (a_cons (e_var rfl (vis_of rfl)) a_nil)) (len_cons (len_cons len_nil))) (e_un unD_neg (e_call (ok4 h) (hr.mono (by decide)) rfl h.g_divisor h.d4.kp (b4 h) rfl (takes_of rfl rfl rfl rfl) (a_cons (e_var rfl (vis_of rfl)) (a_cons (e_var rfl (vis_of rfl)) a_nil)) (len_cons (len_cons len_nil))))))
 (s_cons (s_setf rfl h.cl_Amount h.na_Amount_high rfl (show 0 < (fs 0).length by decide) (show (fs 0).length < 1000 by decide) (show (fs 0).Nodup by decide) rfl (vis_of rfl) (e_bin opD_fdiv (e_var rfl (vis_of rfl)) (e_var rfl (vis_of rfl))))
 (s_one (s_setf rfl h.cl_Amount h.na_Amount_low rfl (show 1 < (fs 0).length by decide) (show (fs 0).length < 1000 by decide) (show (fs 0).Nodup by decide) rfl (vis_of rfl) (e_bin opD_fdiv (e_var rfl (vis_of rfl)) (e_var rfl (vis_of rfl))))))))
theorem b6 : Binds K (fd 6) ["self", "top", "bottom"] [] := mkD (h.d6.binds1 3 1 (by simp) rfl fun T kV doc pm an cdv ct us its hu hi => match us, its, hu, hi with | [_, _, _], [_], _, _ => ⟨_, rfl, rfl⟩) fun ds hv hb => by cases hv; exact hb
theorem bd6 : ∃ ds, Vals [.int 1] ds ∧ Binds K (fd 6) ["self", "top", "bottom"] ds := h.d6.binds1 2 0 (by simp) rfl fun T kV doc pm an cdv ct us its hu hi => match us, its, hu, hi with | [_, _], [_], _, _ => ⟨_, rfl, rfl⟩
/- Amount.top -/
abbrev N7 : List Str := ["self"]
omit h in
theorem sc7 : FnScope N7 ["self"] (defScope st7) := ⟨rfl, rfl, rfl, by decide +kernel, rfl, by decide +kernel, by decide +kernel⟩
theorem ok7 : FnOk P w K mg base (L2.CX P w) 1 (fa 7) (fd 7) ["self"] (spF (Gm K ca) 1 F_Amount_top) := fn_ok h.d7 sc7 rfl fun cdv A outer s H E hr =>
 (s_one (s_ret (e_sfld rfl h.cl_Amount h.na_Amount_high rfl rfl (vis_of rfl))))
theorem b7 : Binds K (fd 7) ["self"] [] := h.d7.bindsN fun _ _ _ _ _ _ us hl => match us, hl with | [_], _ => rfl
/- Amount.bottom -/
abbrev N8 : List Str := ["self"]
omit h in
theorem sc8 : FnScope N8 ["self"] (defScope st8) := ⟨rfl, rfl, rfl, by decide +kernel, rfl, by decide +kernel, by decide +kernel⟩
theorem ok8 : FnOk P w K mg base (L2.CX P w) 1 (fa 8) (fd 8) ["self"] (spF (Gm K ca) 1 F_Amount_bottom) := fn_ok h.d8 sc8 rfl fun cdv A outer s H E hr =>
 (s_one (s_ret (e_sfld rfl h.cl_Amount h.na_Amount_low rfl rfl (vis_of rfl))))
theorem b8 : Binds K (fd 8) ["self"] [] := h.d8.bindsN fun _ _ _ _ _ _ us hl => match us, hl with | [_], _ => rfl
/- Amount.__eq__ -/
/- pair_of -/
abbrev N23 : List Str := ["value"]
omit h in
theorem sc23 : FnScope N23 ["value"] (defScope st23) := ⟨rfl, rfl, rfl, by decide +kernel, rfl, by decide +kernel, by decide +kernel⟩
theorem ok23 : FnOk P w K mg base (L2.CX P w) 2 (fa 23) (fd 23) ["value"] (spF (Gm K ca) 1 F_pair_of) := fn_ok h.d23 sc23 rfl fun cdv A outer s H E hr =>
 (s_cons (s_if (t_val (e_isi rfl rfl h.fr_isinstance (pe_glob (v := .ref (ca 0)) rfl h.gc_Amount rfl) (.own _) (fun _ _ e => isiC_ok h.insF h.isC_Amount e) (e_var rfl (vis_of rfl)))) (s_one (s_ret (e_tup (a_cons (e_sfld rfl h.cl_Amount h.na_Amount_high rfl rfl (vis_of rfl)) (a_cons (e_sfld rfl h.cl_Amount h.na_Amount_low rfl rfl (vis_of rfl)) a_nil))))) s_nil)
 (s_one (s_ret (e_if (t_val (e_call (ok3 h) (hr.mono (by decide)) rfl h.g_is_whole h.d3.kp (b3 h) rfl (takes_of rfl rfl rfl rfl) (a_cons (e_var rfl (vis_of rfl)) a_nil) (len_cons len_nil))) (e_tup (a_cons (e_var rfl (vis_of rfl)) (a_cons e_int a_nil))) e_non))))
theorem b23 : Binds K (fd 23) ["value"] [] := h.d23.bindsN fun _ _ _ _ _ _ us hl => match us, hl with | [_], _ => rfl
/- Amount.__add__ -/
abbrev N10 : List Str := ["self", "other", "pair"]
omit h in
theorem sc10 : FnScope N10 ["self", "other"] (defScope st10) := ⟨rfl, rfl, rfl, by decide +kernel, rfl, by decide +kernel, by decide +kernel⟩
theorem ok10 : FnOk P w K mg base (L2.CX P w) 4 (fa 10) (fd 10) ["self", "other"] (spF (Gm K ca) 2 F_Amount_add) := fn_ok h.d10 sc10 rfl fun cdv A outer s H E hr =>
 (s_cons (s_set sc10.nd rfl (loc_of rfl) (e_call (ok23 h) (hr.mono (by decide)) rfl h.g_pair_of h.d23.kp (b23 h) rfl (takes_of rfl rfl rfl rfl) (a_cons (e_var rfl (vis_of rfl)) a_nil) (len_cons len_nil)))
 (s_cons (s_if (t_cmp opD_isN (e_var rfl (vis_of rfl)) e_non (nomark _)) (s_one s_stuck) s_nil)
 (s_one (s_ret (e_make rfl h.mk_Amount (ok6 h) (hr.mono (by decide)) rfl h.gc_Amount (b6 h) (takes_of rfl rfl rfl rfl) (a_cons (e_bin opD_add (e_bin opD_mul (e_ix rfl (e_var rfl (vis_of rfl)) e_int (fun _ _ => rfl)) (e_sfld rfl h.cl_Amount h.na_Amount_low rfl rfl (vis_of rfl))) (e_bin opD_mul (e_sfld rfl h.cl_Amount h.na_Amount_high rfl rfl (vis_of rfl)) (e_ix rfl (e_var rfl (vis_of rfl)) e_int (fun _ _ => rfl)))) (a_cons (e_bin opD_mul (e_sfld rfl h.cl_Amount h.na_Amount_low rfl rfl (vis_of rfl)) (e_ix rfl (e_var rfl (vis_of rfl)) e_int (fun _ _ => rfl))) a_nil)) (len_s (len_cons (len_cons len_nil)) rfl))))))
theorem b10 : Binds K (fd 10) ["self", "other"] [] := h.d10.bindsN fun _ _ _ _ _ _ us hl => match us, hl with | [_, _], _ => rfl
/- Amount.__radd__ -/
/- Amount.__sub__ -/
abbrev N12 : List Str := ["self", "other", "pair"]
omit h in
theorem sc12 : FnScope N12 ["self", "other"] (defScope st12) := ⟨rfl, rfl, rfl, by decide +kernel, rfl, by decide +kernel, by decide +kernel⟩
theorem ok12 : FnOk P w K mg base (L2.CX P w) 4 (fa 12) (fd 12) ["self", "other"] (spF (Gm K ca) 2 F_Amount_sub) := fn_ok h.d12 sc12 rfl fun cdv A outer s H E hr =>
 (s_cons (s_set sc12.nd rfl (loc_of rfl) (e_call (ok23 h) (hr.mono (by decide)) rfl h.g_pair_of h.d23.kp (b23 h) rfl (takes_of rfl rfl rfl rfl) (a_cons (e_var rfl (vis_of rfl)) a_nil) (len_cons len_nil)))
 (s_cons (s_if (t_cmp opD_isN (e_var rfl (vis_of rfl)) e_non (nomark _)) (s_one s_stuck) s_nil)
 (s_one (s_ret (e_make rfl h.mk_Amount (ok6 h) (hr.mono (by decide)) rfl h.gc_Amount (b6 h) (takes_of rfl rfl rfl rfl) (a_cons (e_bin opD_sub (e_bin opD_mul (e_sfld rfl h.cl_Amount h.na_Amount_high rfl rfl (vis_of rfl)) (e_ix rfl (e_var rfl (vis_of rfl)) e_int (fun _ _ => rfl))) (e_bin opD_mul (e_ix rfl (e_var rfl (vis_of rfl)) e_int (fun _ _ => rfl)) (e_sfld rfl h.cl_Amount h.na_Amount_low rfl rfl (vis_of rfl)))) (a_cons (e_bin opD_mul (e_sfld rfl h.cl_Amount h.na_Amount_low rfl rfl (vis_of rfl)) (e_ix rfl (e_var rfl (vis_of rfl)) e_int (fun _ _ => rfl))) a_nil)) (len_s (len_cons (len_cons len_nil)) rfl))))))
theorem b12 : Binds K (fd 12) ["self", "other"] [] := h.d12.bindsN fun _ _ _ _ _ _ us hl => match us, hl with | [_, _], _ => rfl
/- Amount.__rsub__ -/
/- Amount.__mul__ -/
abbrev N14 : List Str := ["self", "other", "pair"]
omit h in
theorem sc14 : FnScope N14 ["self", "other"] (defScope st14) := ⟨rfl, rfl, rfl, by decide +kernel, rfl, by decide +kernel, by decide +kernel⟩
theorem ok14 : FnOk P w K mg base (L2.CX P w) 4 (fa 14) (fd 14) ["self", "other"] (spF (Gm K ca) 2 F_Amount_mul) := fn_ok h.d14 sc14 rfl fun cdv A outer s H E hr =>
 (s_cons (s_set sc14.nd rfl (loc_of rfl) (e_call (ok23 h) (hr.mono (by decide)) rfl h.g_pair_of h.d23.kp (b23 h) rfl (takes_of rfl rfl rfl rfl) (a_cons (e_var rfl (vis_of rfl)) a_nil) (len_cons len_nil)))
 (s_cons (s_if (t_cmp opD_isN (e_var rfl (vis_of rfl)) e_non (nomark _)) (s_one s_stuck) s_nil)
 (s_one (s_ret (e_make rfl h.mk_Amount (ok6 h) (hr.mono (by decide)) rfl h.gc_Amount (b6 h) (takes_of rfl rfl rfl rfl) (a_cons (e_bin opD_mul (e_sfld rfl h.cl_Amount h.na_Amount_high rfl rfl (vis_of rfl)) (e_ix rfl (e_var rfl (vis_of rfl)) e_int (fun _ _ => rfl))) (a_cons (e_bin opD_mul (e_sfld rfl h.cl_Amount h.na_Amount_low rfl rfl (vis_of rfl)) (e_ix rfl (e_var rfl (vis_of rfl)) e_int (fun _ _ => rfl))) a_nil)) (len_s (len_cons (len_cons len_nil)) rfl))))))
theorem b14 : Binds K (fd 14) ["self", "other"] [] := h.d14.bindsN fun _ _ _ _ _ _ us hl => match us, hl with | [_, _], _ => rfl
/- Amount.__rmul__ -/
/- Amount.__neg__ -/
/- Amount.__abs__ -/
abbrev N17 : List Str := ["self"]
omit h in
theorem sc17 : FnScope N17 ["self"] (defScope st17) := ⟨rfl, rfl, rfl, by decide +kernel, rfl, by decide +kernel, by decide +kernel⟩
theorem ok17 : FnOk P w K mg base (L2.CX P w) 4 (fa 17) (fd 17) ["self"] (spF (Gm K ca) 1 F_Amount_abs) := fn_ok h.d17 sc17 rfl fun cdv A outer s H E hr =>
 (s_one (s_ret (e_make rfl h.mk_Amount (ok6 h) (hr.mono (by decide)) rfl h.gc_Amount (b6 h) (takes_of rfl rfl rfl rfl) (a_cons (e_cb (pe_callB call_abs rfl h.fr_abs (by first | rfl | (with_unfolding_all rfl)) (a_cons (e_sfld rfl h.cl_Amount h.na_Amount_high rfl rfl (vis_of rfl)) a_nil)) cb_abs) (a_cons (e_sfld rfl h.cl_Amount h.na_Amount_low rfl rfl (vis_of rfl)) a_nil)) (len_s (len_cons (len_cons len_nil)) rfl))))
theorem b17 : Binds K (fd 17) ["self"] [] := h.d17.bindsN fun _ _ _ _ _ _ us hl => match us, hl with | [_], _ => rfl
/- Amount.__bool__ -/
abbrev N18 : List Str := ["self"]
omit h in
theorem sc18 : FnScope N18 ["self"] (defScope st18) := ⟨rfl, rfl, rfl, by decide +kernel, rfl, by decide +kernel, by decide +kernel⟩
theorem ok18 : FnOk P w K mg base (L2.CX P w) 1 (fa 18) (fd 18) ["self"] (spF (Gm K ca) 1 F_Amount_bool) := fn_ok h.d18 sc18 rfl fun cdv A outer s H E hr =>
 (s_one (s_ret (e_not (e_cmp opD_eqF (e_sfld rfl h.cl_Amount h.na_Amount_high rfl rfl (vis_of rfl)) e_int (nomark _)))))
theorem b18 : Binds K (fd 18) ["self"] [] := h.d18.bindsN fun _ _ _ _ _ _ us hl => match us, hl with | [_], _ => rfl
/- Amount.__lt__ -/
abbrev N19 : List Str := ["self", "other", "pair"]
omit h in
theorem sc19 : FnScope N19 ["self", "other"] (defScope st19) := ⟨rfl, rfl, rfl, by decide +kernel, rfl, by decide +kernel, by decide +kernel⟩
theorem ok19 : FnOk P w K mg base (L2.CX P w) 3 (fa 19) (fd 19) ["self", "other"] (spF (Gm K ca) 2 F_Amount_lt) := fn_ok h.d19 sc19 rfl fun cdv A outer s H E hr =>
 (s_cons (s_set sc19.nd rfl (loc_of rfl) (e_call (ok23 h) (hr.mono (by decide)) rfl h.g_pair_of h.d23.kp (b23 h) rfl (takes_of rfl rfl rfl rfl) (a_cons (e_var rfl (vis_of rfl)) a_nil) (len_cons len_nil)))
 (s_cons (s_if (t_cmp opD_isN (e_var rfl (vis_of rfl)) e_non (nomark _)) (s_one s_stuck) s_nil)
 (s_one (s_ret (e_cmp opD_lt (e_bin opD_mul (e_sfld rfl h.cl_Amount h.na_Amount_high rfl rfl (vis_of rfl)) (e_ix rfl (e_var rfl (vis_of rfl)) e_int (fun _ _ => rfl))) (e_bin opD_mul (e_ix rfl (e_var rfl (vis_of rfl)) e_int (fun _ _ => rfl)) (e_sfld rfl h.cl_Amount h.na_Amount_low rfl rfl (vis_of rfl))) (nomark _))))))
theorem b19 : Binds K (fd 19) ["self", "other"] [] := h.d19.bindsN fun _ _ _ _ _ _ us hl => match us, hl with | [_, _], _ => rfl
/- Amount.__le__ -/
/- Amount.__gt__ -/
abbrev N21 : List Str := ["self", "other", "pair"]
omit h in
theorem sc21 : FnScope N21 ["self", "other"] (defScope st21) := ⟨rfl, rfl, rfl, by decide +kernel, rfl, by decide +kernel, by decide +kernel⟩
theorem ok21 : FnOk P w K mg base (L2.CX P w) 3 (fa 21) (fd 21) ["self", "other"] (spF (Gm K ca) 2 F_Amount_gt) := fn_ok h.d21 sc21 rfl fun cdv A outer s H E hr =>
 (s_cons (s_set sc21.nd rfl (loc_of rfl) (e_call (ok23 h) (hr.mono (by decide)) rfl h.g_pair_of h.d23.kp (b23 h) rfl (takes_of rfl rfl rfl rfl) (a_cons (e_var rfl (vis_of rfl)) a_nil) (len_cons len_nil)))
 (s_cons (s_if (t_cmp opD_isN (e_var rfl (vis_of rfl)) e_non (nomark _)) (s_one s_stuck) s_nil)
 (s_one (s_ret (e_cmp opD_gt (e_bin opD_mul (e_sfld rfl h.cl_Amount h.na_Amount_high rfl rfl (vis_of rfl)) (e_ix rfl (e_var rfl (vis_of rfl)) e_int (fun _ _ => rfl))) (e_bin opD_mul (e_ix rfl (e_var rfl (vis_of rfl)) e_int (fun _ _ => rfl)) (e_sfld rfl h.cl_Amount h.na_Amount_low rfl rfl (vis_of rfl))) (nomark _))))))
theorem b21 : Binds K (fd 21) ["self", "other"] [] := h.d21.bindsN fun _ _ _ _ _ _ us hl => match us, hl with | [_, _], _ => rfl
/- Amount.__ge__ -/
/- is_name -/
abbrev N24 : List Str := ["value", "letter"]
omit h in
theorem sc24 : FnScope N24 ["value"] (defScope st24) := ⟨rfl, rfl, rfl, by decide +kernel, rfl, by decide +kernel, by decide +kernel⟩
theorem ok24 : FnOk P w K mg base (L2.CX P w) 1 (fa 24) (fd 24) ["value"] (spF (Gm K ca) 1 F_is_name) := fn_ok h.d24 sc24 rfl fun cdv A outer s H E hr =>
 (s_one (s_ret (e_and (e_isi rfl rfl h.fr_isinstance (pe_bltn (v := .ty "str") (u := .type "str") rfl h.fr_str (by first | rfl | (with_unfolding_all rfl)) rfl) (.ty "str") (fun _ _ e => isiP_ok (bt := .str) h.insF e) (e_var rfl (vis_of rfl))) (e_and (e_chain op_le op_le e_int (e_cb (pe_callB call_len rfl h.fr_len (by first | rfl | (with_unfolding_all rfl)) (a_cons (e_var rfl (vis_of rfl)) a_nil)) (cb_len rfl)) (e_gint rfl h.gi_MAX_NAME)) (e_one (e_cb (pe_callB (cr_all rfl) rfl h.fr_all (by first | rfl | (with_unfolding_all rfl)) (a_cons (e_lc (own := [("letter", 1)]) rfl sc24.nd (i_str (e_var rfl (vis_of rfl))) (blk_of rfl) rfl (fun _ _ _ _ _ => (gv_name sc24.nd rfl (loc_of rfl) (by decide))) (fun _ _ _ _ _ => ts_nil) (fun _ _ _ _ _ => (e_cmp opD_inC (e_var rfl (vis_of rfl)) (e_gstr rfl h.gs_LETTERS) (by with_unfolding_all rfl)))) a_nil)) (cb_all rfl)))))))
theorem b24 : Binds K (fd 24) ["value"] [] := h.d24.bindsN fun _ _ _ _ _ _ us hl => match us, hl with | [_], _ => rfl
/- is_term -/
abbrev N25 : List Str := ["value"]
omit h in
theorem sc25 : FnScope N25 ["value"] (defScope st25) := ⟨rfl, rfl, rfl, by decide +kernel, rfl, by decide +kernel, by decide +kernel⟩
theorem ok25 : FnOk P w K mg base (L2.CX P w) 2 (fa 25) (fd 25) ["value"] (spF (Gm K ca) 1 F_is_term) := fn_ok h.d25 sc25 rfl fun cdv A outer s H E hr =>
 (s_one (s_ret (e_and (e_isi rfl rfl h.fr_isinstance (pe_bltn (v := .ty "tuple") (u := .type "tuple") rfl h.fr_tuple (by first | rfl | (with_unfolding_all rfl)) rfl) (.ty "tuple") (fun _ _ e => isiP_ok (bt := .tuple) h.insF e) (e_var rfl (vis_of rfl))) (e_and (e_cmp opD_eqF (e_cb (pe_callB call_len rfl h.fr_len (by first | rfl | (with_unfolding_all rfl)) (a_cons (e_var rfl (vis_of rfl)) a_nil)) (cb_len rfl)) e_int (nomark _)) (e_and (e_call (ok24 h) (hr.mono (by decide)) rfl h.g_is_name h.d24.kp (b24 h) rfl (takes_of rfl rfl rfl rfl) (a_cons (e_ix rfl (e_var rfl (vis_of rfl)) e_int (fun _ _ => rfl)) a_nil) (len_cons len_nil)) (e_one (e_isi rfl rfl h.fr_isinstance (pe_glob (v := .ref (ca 0)) rfl h.gc_Amount rfl) (.own _) (fun _ _ e => isiC_ok h.insF h.isC_Amount e) (e_ix rfl (e_var rfl (vis_of rfl)) e_int (fun _ _ => rfl)))))))))
theorem b25 : Binds K (fd 25) ["value"] [] := h.d25.bindsN fun _ _ _ _ _ _ us hl => match us, hl with | [_], _ => rfl
/- factor_in -/
abbrev N40 : List Str := ["terms", "name", "term"]
omit h in
theorem sc40 : FnScope N40 ["terms", "name"] (defScope st40) := ⟨rfl, rfl, rfl, by decide +kernel, rfl, by decide +kernel, by decide +kernel⟩
theorem ok40 : FnOk P w K mg base (L2.CX P w) 4 (fa 40) (fd 40) ["terms", "name"] (spF (Gm K ca) 2 F_factor_in) := fn_ok h.d40 sc40 rfl fun cdv A outer s H E hr =>
 (s_cons (s_for (passes_of rfl) rfl (i_tup rfl (e_var rfl (vis_of rfl))) (g_name sc40.nd rfl (loc_of rfl)) (s_one (s_if (t_cmp opD_eqF (e_ix rfl (e_var rfl (vis_of rfl)) e_int (fun _ _ => rfl)) (e_var rfl (vis_of rfl)) (nomark _)) (s_one (s_ret (e_ix rfl (e_var rfl (vis_of rfl)) e_int (fun _ _ => rfl)))) s_nil)))
 (s_one (s_ret (mkD (bd6 h) fun _ hd hb => e_makeD rfl h.mk_Amount (ok6 h) (hr.mono (by decide)) rfl h.gc_Amount hb hd rfl (takes_of rfl rfl rfl rfl) (a_cons e_int a_nil) (len_d (len_cons len_nil) rfl)))))
theorem b40 : Binds K (fd 40) ["terms", "name"] [] := h.d40.bindsN fun _ _ _ _ _ _ us hl => match us, hl with | [_, _], _ => rfl
/- Line.__init__ -/
abbrev N26 : List Str := ["self", "terms", "rest", "term", "names", "name"]
omit h in
theorem sc26 : FnScope N26 ["self", "terms", "rest"] (defScope st26) := ⟨rfl, rfl, rfl, by decide +kernel, rfl, by decide +kernel, by decide +kernel⟩
theorem ok26 : FnOk P w K mg base (L2.CX P w) 5 (fa 26) (fd 26) ["self", "terms", "rest"] (spF (Gm K ca) 3 F_Line_init) := fn_ok h.d26 sc26 rfl fun cdv A outer s H E hr =>
 (s_cons (s_if (L2.PW.pt (t_or (t_not (t_val (e_isi rfl rfl h.fr_isinstance (pe_bltn (v := .ty "tuple") (u := .type "tuple") rfl h.fr_tuple (by first | rfl | (with_unfolding_all rfl)) rfl) (.ty "tuple") (fun _ _ e => isiP_ok (bt := .tuple) h.insF e) (e_var rfl (vis_of rfl))))) (t_or (t_not (t_val (e_cb (pe_callB (cr_all rfl) rfl h.fr_all (by first | rfl | (with_unfolding_all rfl)) (a_cons (e_lc (own := [("term", 3)]) rfl sc26.nd (i_tup rfl (e_var rfl (vis_of rfl))) (blk_of rfl) rfl (fun _ _ _ _ _ => (gv_name sc26.nd rfl (loc_of rfl) (by decide))) (fun _ _ _ _ _ => ts_nil) (fun _ _ _ _ _ => (e_call (ok25 h) (hr.mono (by decide)) rfl h.g_is_term h.d25.kp (b25 h) rfl takes0 (a_cons (e_var rfl (vis_of rfl)) a_nil) (len_cons len_nil)))) a_nil)) (cb_all rfl)))) (t_or1 (t_not (t_val (e_isi rfl rfl h.fr_isinstance (pe_glob (v := .ref (ca 0)) rfl h.gc_Amount rfl) (.own _) (fun _ _ e => isiC_ok h.insF h.isC_Amount e) (e_var rfl (vis_of rfl))))))))) (s_one (s_raise (c := 11) rfl (takes_of rfl rfl rfl rfl) h.ex_InvalidLine h.gc_InvalidLine rfl)) s_nil)
 (s_cons (s_if (t_cmp opD_lt (e_lenset rfl rfl rfl h.fr_len rfl h.fr_set (e_lc (own := [("term", 3)]) rfl sc26.nd (i_tup rfl (e_var rfl (vis_of rfl))) (blk_of rfl) rfl (fun _ _ _ _ _ => (gv_name sc26.nd rfl (loc_of rfl) (by decide))) (fun _ _ _ _ _ => ts_nil) (fun _ _ _ _ _ => (e_ix rfl (e_var rfl (vis_of rfl)) e_int (fun _ _ => rfl))))) (e_cb (pe_callB call_len rfl h.fr_len (by first | rfl | (with_unfolding_all rfl)) (a_cons (e_var rfl (vis_of rfl)) a_nil)) (cb_len rfl)) (nomark _)) (s_one (s_raise (c := 11) rfl (takes_of rfl rfl rfl rfl) h.ex_InvalidLine h.gc_InvalidLine rfl)) s_nil)
 (s_cons (s_set sc26.nd rfl (loc_of rfl) (e_cb (pe_callB cr_sortedS rfl h.fr_sorted (by first | rfl | (with_unfolding_all rfl)) (a_cons (e_lc (own := [("term", 3)]) rfl sc26.nd (i_tup rfl (e_var rfl (vis_of rfl))) (blk_of rfl) rfl (fun _ _ _ _ _ => (gv_name sc26.nd rfl (loc_of rfl) (by decide))) (fun _ _ _ _ _ => ts_nil) (fun _ _ _ _ _ => (e_cb (pe_callTy SkE.call_str_str rfl h.fr_str (by first | rfl | (with_unfolding_all rfl)) (a_cons (e_ix rfl (e_var rfl (vis_of rfl)) e_int (fun _ _ => rfl)) a_nil)) cb_strS))) a_nil)) (cb_sortS rfl)))
 (s_cons (s_setf rfl h.cl_Line h.na_Line_parts rfl (show 0 < (fs 1).length by decide) (show (fs 1).length < 1000 by decide) (show (fs 1).Nodup by decide) rfl (vis_of rfl) (e_cb (pe_callTy call_tuple_of rfl h.fr_tuple (by first | rfl | (with_unfolding_all rfl)) (a_cons (e_lc (own := [("name", 5)]) rfl sc26.nd (i_list rfl (e_var rfl (vis_of rfl))) (blk_of rfl) rfl (fun _ _ _ _ _ => (gv_name sc26.nd rfl (loc_of rfl) (by decide))) (fun _ _ _ _ _ => (ts_one (t_tru (truD_own rfl h.me_Amount_bool (ok18 h) (hr.mono (by decide)) (b18 h)) (e_call (ok40 h) (hr.mono (by decide)) rfl h.g_factor_in h.d40.kp (b40 h) rfl takes0 (a_cons (e_var rfl (vis_of rfl)) (a_cons (e_var rfl (vis_of rfl)) a_nil)) (len_cons (len_cons len_nil)))))) (fun _ _ _ _ _ => (e_tup (a_cons (e_var rfl (vis_of rfl)) (a_cons (e_call (ok40 h) (hr.mono (by decide)) rfl h.g_factor_in h.d40.kp (b40 h) rfl takes0 (a_cons (e_var rfl (vis_of rfl)) (a_cons (e_var rfl (vis_of rfl)) a_nil)) (len_cons (len_cons len_nil))) a_nil))))) a_nil)) (cb_tup rfl)))
 (s_one (s_setf rfl h.cl_Line h.na_Line_added rfl (show 1 < (fs 1).length by decide) (show (fs 1).length < 1000 by decide) (show (fs 1).Nodup by decide) rfl (vis_of rfl) (e_var rfl (vis_of rfl))))))))
theorem b26 : Binds K (fd 26) ["self", "terms", "rest"] [] := h.d26.bindsN fun _ _ _ _ _ _ us hl => match us, hl with | [_, _, _], _ => rfl
/- Line.of -/
abbrev N27 : List Str := ["cls", "name"]
omit h in
theorem sc27 : FnScope N27 ["cls", "name"] (defScope st27) := ⟨rfl, rfl, rfl, by decide +kernel, rfl, by decide +kernel, by decide +kernel⟩
theorem ok27 : FnOk P w K mg base (L2.CX P w) 7 (fa 27) (fd 27) ["cls", "name"] (spF (Gm K ca) 2 F_Line_of) := fn_ok h.d27 sc27 rfl fun cdv A outer s H E hr =>
 (s_one (s_ret (e_makeL rfl h.mk_Line (ok26 h) (hr.mono (by decide)) rfl (vis_of rfl) (b26 h) (takes_of rfl rfl rfl rfl) (a_cons (e_tup (a_cons (e_tup (a_cons (e_var rfl (vis_of rfl)) (a_cons (mkD (bd6 h) fun _ hd hb => e_makeD rfl h.mk_Amount (ok6 h) (hr.mono (by decide)) rfl h.gc_Amount hb hd rfl (takes_of rfl rfl rfl rfl) (a_cons e_int a_nil) (len_d (len_cons len_nil) rfl)) a_nil))) a_nil)) (a_cons (mkD (bd6 h) fun _ hd hb => e_makeD rfl h.mk_Amount (ok6 h) (hr.mono (by decide)) rfl h.gc_Amount hb hd rfl (takes_of rfl rfl rfl rfl) (a_cons e_int a_nil) (len_d (len_cons len_nil) rfl)) a_nil)) (len_s (len_cons (len_cons len_nil)) rfl))))
theorem b27 : Binds K (fd 27) ["cls", "name"] [] := h.d27.bindsN fun _ _ _ _ _ _ us hl => match us, hl with | [_, _], _ => rfl
/- Line.terms -/
abbrev N28 : List Str := ["self"]
omit h in
theorem sc28 : FnScope N28 ["self"] (defScope st28) := ⟨rfl, rfl, rfl, by decide +kernel, rfl, by decide +kernel, by decide +kernel⟩
theorem ok28 : FnOk P w K mg base (L2.CX P w) 1 (fa 28) (fd 28) ["self"] (spF (Gm K ca) 1 F_Line_terms) := fn_ok h.d28 sc28 rfl fun cdv A outer s H E hr =>
 (s_one (s_ret (e_sfld rfl h.cl_Line h.na_Line_parts rfl rfl (vis_of rfl))))
theorem b28 : Binds K (fd 28) ["self"] [] := h.d28.bindsN fun _ _ _ _ _ _ us hl => match us, hl with | [_], _ => rfl
/- Line.rest -/
abbrev N29 : List Str := ["self"]
omit h in
theorem sc29 : FnScope N29 ["self"] (defScope st29) := ⟨rfl, rfl, rfl, by decide +kernel, rfl, by decide +kernel, by decide +kernel⟩
theorem ok29 : FnOk P w K mg base (L2.CX P w) 1 (fa 29) (fd 29) ["self"] (spF (Gm K ca) 1 F_Line_rest) := fn_ok h.d29 sc29 rfl fun cdv A outer s H E hr =>
 (s_one (s_ret (e_sfld rfl h.cl_Line h.na_Line_added rfl rfl (vis_of rfl))))
theorem b29 : Binds K (fd 29) ["self"] [] := h.d29.bindsN fun _ _ _ _ _ _ us hl => match us, hl with | [_], _ => rfl
/- Line.factor -/
/- Line.__eq__ -/
/- line_of -/
abbrev N39 : List Str := ["value"]
omit h in
theorem sc39 : FnScope N39 ["value"] (defScope st39) := ⟨rfl, rfl, rfl, by decide +kernel, rfl, by decide +kernel, by decide +kernel⟩
theorem ok39 : FnOk P w K mg base (L2.CX P w) 4 (fa 39) (fd 39) ["value"] (spF (Gm K ca) 1 F_line_of) := fn_ok h.d39 sc39 rfl fun cdv A outer s H E hr =>
 (s_cons (s_if (t_val (e_isi rfl rfl h.fr_isinstance (pe_glob (v := .ref (ca 1)) rfl h.gc_Line rfl) (.own _) (fun _ _ e => isiC_ok h.insF h.isC_Line e) (e_var rfl (vis_of rfl)))) (s_one (s_ret (e_tup (a_cons (e_sfld rfl h.cl_Line h.na_Line_parts rfl rfl (vis_of rfl)) (a_cons (e_sfld rfl h.cl_Line h.na_Line_added rfl rfl (vis_of rfl)) a_nil))))) s_nil)
 (s_cons (s_if (t_val (e_isi rfl rfl h.fr_isinstance (pe_glob (v := .ref (ca 0)) rfl h.gc_Amount rfl) (.own _) (fun _ _ e => isiC_ok h.insF h.isC_Amount e) (e_var rfl (vis_of rfl)))) (s_one (s_ret (e_tup (a_cons (e_tup a_nil) (a_cons (e_var rfl (vis_of rfl)) a_nil))))) s_nil)
 (s_one (s_ret (e_if (t_val (e_call (ok3 h) (hr.mono (by decide)) rfl h.g_is_whole h.d3.kp (b3 h) rfl (takes_of rfl rfl rfl rfl) (a_cons (e_var rfl (vis_of rfl)) a_nil) (len_cons len_nil))) (e_tup (a_cons (e_tup a_nil) (a_cons (mkD (bd6 h) fun _ hd hb => e_makeD rfl h.mk_Amount (ok6 h) (hr.mono (by decide)) rfl h.gc_Amount hb hd rfl (takes_of rfl rfl rfl rfl) (a_cons (e_var rfl (vis_of rfl)) a_nil) (len_d (len_cons len_nil) rfl)) a_nil))) e_non)))))
theorem b39 : Binds K (fd 39) ["value"] [] := h.d39.bindsN fun _ _ _ _ _ _ us hl => match us, hl with | [_], _ => rfl
/- joined -/
abbrev N42 : List Str := ["some", "others", "names", "name", "factor", "more"]
omit h in
theorem sc42 : FnScope N42 ["some", "others"] (defScope st42) := ⟨rfl, rfl, rfl, by decide +kernel, rfl, by decide +kernel, by decide +kernel⟩
theorem ok42 : FnOk P w K mg base (L2.CX P w) 5 (fa 42) (fd 42) ["some", "others"] (spF (Gm K ca) 2 F_joined) := fn_ok h.d42 sc42 rfl fun cdv A outer s H E hr =>
 (s_cons (s_set sc42.nd rfl (loc_of rfl) (e_lc (own := [("name", 3), ("factor", 4)]) rfl sc42.nd (i_tup rfl (e_var rfl (vis_of rfl))) (blk_of rfl) rfl (fun _ _ _ _ _ => (gv_two rfl rfl (gv_name sc42.nd rfl (loc_of rfl) (by decide)) (gv_name sc42.nd rfl (loc_of rfl) (by decide)))) (fun _ _ _ _ _ => ts_nil) (fun _ _ _ _ _ => (e_var rfl (vis_of rfl)))))
 (s_cons (s_setLc (own := [("name", 3), ("factor", 4)]) rfl sc42.nd rfl rfl rfl (i_tup rfl (e_var rfl (vis_of rfl))) (blk_of rfl) rfl (fun _ _ _ _ _ => (gv_two rfl rfl (gv_name sc42.nd rfl (loc_of rfl) (by decide)) (gv_name sc42.nd rfl (loc_of rfl) (by decide)))) (fun _ _ _ _ _ => (ts_one (t_cmp (opD_notin rfl) (e_var rfl (vis_of rfl)) (e_var rfl (vis_of rfl)) (by with_unfolding_all rfl)))) (fun _ _ _ _ _ => (e_var rfl (vis_of rfl))))
 (s_one (s_ret (e_cb (pe_callTy call_tuple_of rfl h.fr_tuple (by first | rfl | (with_unfolding_all rfl)) (a_cons (e_lc (own := [("name", 3)]) rfl sc42.nd (i_list rfl (e_bin opD_catL (e_var rfl (vis_of rfl)) (e_var rfl (vis_of rfl)))) (blk_of rfl) rfl (fun _ _ _ _ _ => (gv_name sc42.nd rfl (loc_of rfl) (by decide))) (fun _ _ _ _ _ => ts_nil) (fun _ _ _ _ _ => (e_tup (a_cons (e_var rfl (vis_of rfl)) (a_cons (e_bin (opD_same rfl h.sf_Amount h.me_Amount_add (ok10 h) (hr.mono (by decide)) (b10 h) takes0) (e_call (ok40 h) (hr.mono (by decide)) rfl h.g_factor_in h.d40.kp (b40 h) rfl takes0 (a_cons (e_var rfl (vis_of rfl)) (a_cons (e_var rfl (vis_of rfl)) a_nil)) (len_cons (len_cons len_nil))) (e_call (ok40 h) (hr.mono (by decide)) rfl h.g_factor_in h.d40.kp (b40 h) rfl takes0 (a_cons (e_var rfl (vis_of rfl)) (a_cons (e_var rfl (vis_of rfl)) a_nil)) (len_cons (len_cons len_nil)))) a_nil))))) a_nil)) (cb_tup rfl))))))
theorem b42 : Binds K (fd 42) ["some", "others"] [] := h.d42.bindsN fun _ _ _ _ _ _ us hl => match us, hl with | [_, _], _ => rfl
/- Line.__add__ -/
abbrev N32 : List Str := ["self", "other", "pair"]
omit h in
theorem sc32 : FnScope N32 ["self", "other"] (defScope st32) := ⟨rfl, rfl, rfl, by decide +kernel, rfl, by decide +kernel, by decide +kernel⟩
theorem ok32 : FnOk P w K mg base (L2.CX P w) 7 (fa 32) (fd 32) ["self", "other"] (spF (Gm K ca) 2 F_Line_add) := fn_ok h.d32 sc32 rfl fun cdv A outer s H E hr =>
 (s_cons (s_set sc32.nd rfl (loc_of rfl) (e_call (ok39 h) (hr.mono (by decide)) rfl h.g_line_of h.d39.kp (b39 h) rfl (takes_of rfl rfl rfl rfl) (a_cons (e_var rfl (vis_of rfl)) a_nil) (len_cons len_nil)))
 (s_cons (s_if (t_cmp opD_isN (e_var rfl (vis_of rfl)) e_non (nomark _)) (s_one s_stuck) s_nil)
 (s_one (s_ret (e_make rfl h.mk_Line (ok26 h) (hr.mono (by decide)) rfl h.gc_Line (b26 h) (takes_of rfl rfl rfl rfl) (a_cons (e_call (ok42 h) (hr.mono (by decide)) rfl h.g_joined h.d42.kp (b42 h) rfl (takes_of rfl rfl rfl rfl) (a_cons (e_sfld rfl h.cl_Line h.na_Line_parts rfl rfl (vis_of rfl)) (a_cons (e_ix rfl (e_var rfl (vis_of rfl)) e_int (fun _ _ => rfl)) a_nil)) (len_cons (len_cons len_nil))) (a_cons (e_bin (opD_same rfl h.sf_Amount h.me_Amount_add (ok10 h) (hr.mono (by decide)) (b10 h) (takes_of rfl rfl rfl rfl)) (e_sfld rfl h.cl_Line h.na_Line_added rfl rfl (vis_of rfl)) (e_ix rfl (e_var rfl (vis_of rfl)) e_int (fun _ _ => rfl))) a_nil)) (len_s (len_cons (len_cons len_nil)) rfl))))))
theorem b32 : Binds K (fd 32) ["self", "other"] [] := h.d32.bindsN fun _ _ _ _ _ _ us hl => match us, hl with | [_, _], _ => rfl
/- Line.__radd__ -/
/- times -/
abbrev N41 : List Str := ["terms", "number", "name", "factor"]
omit h in
theorem sc41 : FnScope N41 ["terms", "number"] (defScope st41) := ⟨rfl, rfl, rfl, by decide +kernel, rfl, by decide +kernel, by decide +kernel⟩
theorem ok41 : FnOk P w K mg base (L2.CX P w) 5 (fa 41) (fd 41) ["terms", "number"] (spF (Gm K ca) 2 F_times) := fn_ok h.d41 sc41 rfl fun cdv A outer s H E hr =>
 (s_one (s_ret (e_cb (pe_callTy call_tuple_of rfl h.fr_tuple (by first | rfl | (with_unfolding_all rfl)) (a_cons (e_lc (own := [("name", 2), ("factor", 3)]) rfl sc41.nd (i_tup rfl (e_var rfl (vis_of rfl))) (blk_of rfl) rfl (fun _ _ _ _ _ => (gv_two rfl rfl (gv_name sc41.nd rfl (loc_of rfl) (by decide)) (gv_name sc41.nd rfl (loc_of rfl) (by decide)))) (fun _ _ _ _ _ => ts_nil) (fun _ _ _ _ _ => (e_tup (a_cons (e_var rfl (vis_of rfl)) (a_cons (e_bin (opD_alt (opD_same rfl h.sf_Amount h.me_Amount_mul (ok14 h) (hr.mono (by decide)) (b14 h) takes0) (opD_int rfl h.sf_Amount h.me_Amount_mul h.oi_Amount_Mult (ok14 h) (hr.mono (by decide)) (b14 h) takes0)) (e_var rfl (vis_of rfl)) (e_var rfl (vis_of rfl))) a_nil))))) a_nil)) (cb_tup rfl))))
theorem b41 : Binds K (fd 41) ["terms", "number"] [] := h.d41.bindsN fun _ _ _ _ _ _ us hl => match us, hl with | [_, _], _ => rfl
/- Line.__sub__ -/
/- Line.__rsub__ -/
/- Line.__mul__ -/
abbrev N36 : List Str := ["self", "other"]
omit h in
theorem sc36 : FnScope N36 ["self", "other"] (defScope st36) := ⟨rfl, rfl, rfl, by decide +kernel, rfl, by decide +kernel, by decide +kernel⟩
theorem ok36 : FnOk P w K mg base (L2.CX P w) 7 (fa 36) (fd 36) ["self", "other"] (spF (Gm K ca) 2 F_Line_mul) := fn_ok h.d36 sc36 rfl fun cdv A outer s H E hr =>
 (s_cons (s_if (L2.PW.pt (t_and (t_not (t_val (e_isi rfl rfl h.fr_isinstance (pe_glob (v := .ref (ca 0)) rfl h.gc_Amount rfl) (.own _) (fun _ _ e => isiC_ok h.insF h.isC_Amount e) (e_var rfl (vis_of rfl))))) (t_and1 (t_not (t_val (e_call (ok3 h) (hr.mono (by decide)) rfl h.g_is_whole h.d3.kp (b3 h) rfl (takes_of rfl rfl rfl rfl) (a_cons (e_var rfl (vis_of rfl)) a_nil) (len_cons len_nil))))))) (s_one s_stuck) s_nil)
 (s_one (s_ret (e_make rfl h.mk_Line (ok26 h) (hr.mono (by decide)) rfl h.gc_Line (b26 h) (takes_of rfl rfl rfl rfl) (a_cons (e_call (ok41 h) (hr.mono (by decide)) rfl h.g_times h.d41.kp (b41 h) rfl (takes_of rfl rfl rfl rfl) (a_cons (e_sfld rfl h.cl_Line h.na_Line_parts rfl rfl (vis_of rfl)) (a_cons (e_var rfl (vis_of rfl)) a_nil)) (len_cons (len_cons len_nil))) (a_cons (e_bin (opD_alt (opD_same rfl h.sf_Amount h.me_Amount_mul (ok14 h) (hr.mono (by decide)) (b14 h) (takes_of rfl rfl rfl rfl)) (opD_int rfl h.sf_Amount h.me_Amount_mul h.oi_Amount_Mult (ok14 h) (hr.mono (by decide)) (b14 h) (takes_of rfl rfl rfl rfl))) (e_sfld rfl h.cl_Line h.na_Line_added rfl rfl (vis_of rfl)) (e_var rfl (vis_of rfl))) a_nil)) (len_s (len_cons (len_cons len_nil)) rfl)))))
theorem b36 : Binds K (fd 36) ["self", "other"] [] := h.d36.bindsN fun _ _ _ _ _ _ us hl => match us, hl with | [_, _], _ => rfl
/- Line.__rmul__ -/
/- Line.__neg__ -/
/- rounded -/
abbrev N43 : List Str := ["top", "bottom", "unit", "mode", "whole", "count", "rest", "is_up"]
omit h in
theorem sc43 : FnScope N43 ["top", "bottom", "unit", "mode"] (defScope st43) := ⟨rfl, rfl, rfl, by decide +kernel, rfl, by decide +kernel, by decide +kernel⟩
theorem ok43 : FnOk P w K mg base (L2.CX P w) 1 (fa 43) (fd 43) ["top", "bottom", "unit", "mode"] (spF (Gm K ca) 4 F_rounded) := fn_ok h.d43 sc43 rfl fun cdv A outer s H E hr =>
 (s_cons (s_set sc43.nd rfl (loc_of rfl) (e_bin opD_mul (e_var rfl (vis_of rfl)) (e_var rfl (vis_of rfl))))
 (s_cons (s_par2 rfl sc43.nd rfl rfl (by decide) rfl rfl (a_cons (e_bin opD_fdiv (e_var rfl (vis_of rfl)) (e_var rfl (vis_of rfl))) (a_cons (e_bin opD_sub (e_var rfl (vis_of rfl)) (e_bin opD_mul (e_bin opD_fdiv (e_var rfl (vis_of rfl)) (e_var rfl (vis_of rfl))) (e_var rfl (vis_of rfl)))) a_nil)) rfl)
 (s_cons (s_if (L2.PW.pt (t_or (t_cmp opD_eqF (e_var rfl (vis_of rfl)) e_str (nomark _)) (t_or1 (t_cmp opD_eqF (e_var rfl (vis_of rfl)) e_int (nomark _))))) (s_one (s_ret (e_bin opD_mul (e_var rfl (vis_of rfl)) (e_var rfl (vis_of rfl))))) s_nil)
 (s_cons (s_if (t_cmp opD_eqF (e_var rfl (vis_of rfl)) e_str (nomark _)) (s_one (s_ret (e_bin opD_mul (e_bin opD_add (e_var rfl (vis_of rfl)) e_int) (e_var rfl (vis_of rfl))))) s_nil)
 (s_cons (s_if (t_cmp opD_eqF (e_bin opD_mul e_int (e_var rfl (vis_of rfl))) (e_var rfl (vis_of rfl)) (nomark _)) (s_one (s_set sc43.nd rfl (loc_of rfl) (e_or (e_cmp opD_eqF (e_var rfl (vis_of rfl)) e_str (nomark _)) (e_one (e_cmp opD_eqF (e_bin opD_and (e_var rfl (vis_of rfl)) e_int) e_int (nomark _)))))) (s_one (s_set sc43.nd rfl (loc_of rfl) (e_cmp opD_gt (e_bin opD_mul e_int (e_var rfl (vis_of rfl))) (e_var rfl (vis_of rfl)) (nomark _)))))
 (s_one (s_ret (e_if (t_val (e_var rfl (vis_of rfl))) (e_bin opD_mul (e_bin opD_add (e_var rfl (vis_of rfl)) e_int) (e_var rfl (vis_of rfl))) (e_bin opD_mul (e_var rfl (vis_of rfl)) (e_var rfl (vis_of rfl)))))))))))
theorem b43 : Binds K (fd 43) ["top", "bottom", "unit", "mode"] [] := h.d43.bindsN fun _ _ _ _ _ _ us hl => match us, hl with | [_, _, _, _], _ => rfl
/- Rule.__init__ -/
abbrev N44 : List Str := ["self", "unit", "mode"]
omit h in
theorem sc44 : FnScope N44 ["self", "unit", "mode"] (defScope st44) := ⟨rfl, rfl, rfl, by decide +kernel, rfl, by decide +kernel, by decide +kernel⟩
theorem ok44 : FnOk P w K mg base (L2.CX P w) 2 (fa 44) (fd 44) ["self", "unit", "mode"] (spF (Gm K ca) 3 F_Rule_init) := fn_ok h.d44 sc44 rfl fun cdv A outer s H E hr =>
 (s_cons (s_if (L2.PW.pt (t_or (t_not (t_val (e_call (ok2 h) (hr.mono (by decide)) rfl h.g_is_integer h.d2.kp (b2 h) rfl (takes_of rfl rfl rfl rfl) (a_cons (e_var rfl (vis_of rfl)) (a_cons e_int (a_cons (e_gint rfl h.gi_MAX_UNIT) a_nil))) (len_cons (len_cons (len_cons len_nil)))))) (t_or (t_not (t_val (e_isi rfl rfl h.fr_isinstance (pe_bltn (v := .ty "str") (u := .type "str") rfl h.fr_str (by first | rfl | (with_unfolding_all rfl)) rfl) (.ty "str") (fun _ _ e => isiP_ok (bt := .str) h.insF e) (e_var rfl (vis_of rfl))))) (t_or1 (t_cmp (opD_notin rfl) (e_var rfl (vis_of rfl)) (e_gtup rfl rfl h.gt_MODES (fun _ _ => Reps.cons rfl (Reps.cons rfl (Reps.cons rfl (Reps.cons rfl (Reps.nil)))))) (by with_unfolding_all rfl)))))) (s_one (s_raise (c := 10) rfl (takes_of rfl rfl rfl rfl) h.ex_InvalidRule h.gc_InvalidRule rfl)) s_nil)
 (s_cons (s_setf rfl h.cl_Rule h.na_Rule_size rfl (show 0 < (fs 2).length by decide) (show (fs 2).length < 1000 by decide) (show (fs 2).Nodup by decide) rfl (vis_of rfl) (e_var rfl (vis_of rfl)))
 (s_one (s_setf rfl h.cl_Rule h.na_Rule_word rfl (show 1 < (fs 2).length by decide) (show (fs 2).length < 1000 by decide) (show (fs 2).Nodup by decide) rfl (vis_of rfl) (e_var rfl (vis_of rfl))))))
theorem b44 : Binds K (fd 44) ["self", "unit", "mode"] [] := h.d44.bindsN fun _ _ _ _ _ _ us hl => match us, hl with | [_, _, _], _ => rfl
/- Rule.unit -/
abbrev N45 : List Str := ["self"]
omit h in
theorem sc45 : FnScope N45 ["self"] (defScope st45) := ⟨rfl, rfl, rfl, by decide +kernel, rfl, by decide +kernel, by decide +kernel⟩
theorem ok45 : FnOk P w K mg base (L2.CX P w) 1 (fa 45) (fd 45) ["self"] (spF (Gm K ca) 1 F_Rule_unit) := fn_ok h.d45 sc45 rfl fun cdv A outer s H E hr =>
 (s_one (s_ret (e_sfld rfl h.cl_Rule h.na_Rule_size rfl rfl (vis_of rfl))))
theorem b45 : Binds K (fd 45) ["self"] [] := h.d45.bindsN fun _ _ _ _ _ _ us hl => match us, hl with | [_], _ => rfl
/- Rule.mode -/
abbrev N46 : List Str := ["self"]
omit h in
theorem sc46 : FnScope N46 ["self"] (defScope st46) := ⟨rfl, rfl, rfl, by decide +kernel, rfl, by decide +kernel, by decide +kernel⟩
theorem ok46 : FnOk P w K mg base (L2.CX P w) 1 (fa 46) (fd 46) ["self"] (spF (Gm K ca) 1 F_Rule_mode) := fn_ok h.d46 sc46 rfl fun cdv A outer s H E hr =>
 (s_one (s_ret (e_sfld rfl h.cl_Rule h.na_Rule_word rfl rfl (vis_of rfl))))
theorem b46 : Binds K (fd 46) ["self"] [] := h.d46.bindsN fun _ _ _ _ _ _ us hl => match us, hl with | [_], _ => rfl
/- Rule.__eq__ -/
/- Rule.__call__ -/
abbrev N48 : List Str := ["self", "amount", "pair"]
omit h in
theorem sc48 : FnScope N48 ["self", "amount"] (defScope st48) := ⟨rfl, rfl, rfl, by decide +kernel, rfl, by decide +kernel, by decide +kernel⟩
theorem ok48 : FnOk P w K mg base (L2.CX P w) 4 (fa 48) (fd 48) ["self", "amount"] (spF (Gm K ca) 2 F_Rule_call) := fn_ok h.d48 sc48 rfl fun cdv A outer s H E hr =>
 (s_cons (s_set sc48.nd rfl (loc_of rfl) (e_call (ok23 h) (hr.mono (by decide)) rfl h.g_pair_of h.d23.kp (b23 h) rfl (takes_of rfl rfl rfl rfl) (a_cons (e_var rfl (vis_of rfl)) a_nil) (len_cons len_nil)))
 (s_cons (s_if (t_cmp opD_isN (e_var rfl (vis_of rfl)) e_non (nomark _)) (s_one (s_raise (c := 9) rfl (takes_of rfl rfl rfl rfl) h.ex_InvalidAmount h.gc_InvalidAmount rfl)) s_nil)
 (s_one (s_ret (mkD (bd6 h) fun _ hd hb => e_makeD rfl h.mk_Amount (ok6 h) (hr.mono (by decide)) rfl h.gc_Amount hb hd rfl (takes_of rfl rfl rfl rfl) (a_cons (e_call (ok43 h) (hr.mono (by decide)) rfl h.g_rounded h.d43.kp (b43 h) rfl (takes_of rfl rfl rfl rfl) (a_cons (e_ix rfl (e_var rfl (vis_of rfl)) e_int (fun _ _ => rfl)) (a_cons (e_ix rfl (e_var rfl (vis_of rfl)) e_int (fun _ _ => rfl)) (a_cons (e_sfld rfl h.cl_Rule h.na_Rule_size rfl rfl (vis_of rfl)) (a_cons (e_sfld rfl h.cl_Rule h.na_Rule_word rfl rfl (vis_of rfl)) a_nil)))) (len_cons (len_cons (len_cons (len_cons len_nil))))) a_nil) (len_d (len_cons len_nil) rfl))))))
theorem b48 : Binds K (fd 48) ["self", "amount"] [] := h.d48.bindsN fun _ _ _ _ _ _ us hl => match us, hl with | [_, _], _ => rfl
/- Rule.step -/
abbrev N49 : List Str := ["self"]
omit h in
theorem sc49 : FnScope N49 ["self"] (defScope st49) := ⟨rfl, rfl, rfl, by decide +kernel, rfl, by decide +kernel, by decide +kernel⟩
theorem ok49 : FnOk P w K mg base (L2.CX P w) 1 (fa 49) (fd 49) ["self"] (spF (Gm K ca) 1 F_Rule_step) := fn_ok h.d49 sc49 rfl fun cdv A outer s H E hr =>
 (s_one (s_ret (e_if (t_cmp opD_eqF (e_sfld rfl h.cl_Rule h.na_Rule_word rfl rfl (vis_of rfl)) e_str (nomark _)) (e_bin opD_mul e_int (e_sfld rfl h.cl_Rule h.na_Rule_size rfl rfl (vis_of rfl))) (e_sfld rfl h.cl_Rule h.na_Rule_size rfl rfl (vis_of rfl)))))
theorem b49 : Binds K (fd 49) ["self"] [] := h.d49.bindsN fun _ _ _ _ _ _ us hl => match us, hl with | [_], _ => rfl
/- are_inputs -/
abbrev N50 : List Str := ["value", "name"]
omit h in
theorem sc50 : FnScope N50 ["value"] (defScope st50) := ⟨rfl, rfl, rfl, by decide +kernel, rfl, by decide +kernel, by decide +kernel⟩
theorem ok50 : FnOk P w K mg base (L2.CX P w) 2 (fa 50) (fd 50) ["value"] (spF (Gm K ca) 1 F_are_inputs) := fn_ok h.d50 sc50 rfl fun cdv A outer s H E hr =>
 (s_cons (s_if (L2.PW.pt (t_or (t_not (t_val (e_isi rfl rfl h.fr_isinstance (pe_bltn (v := .ty "tuple") (u := .type "tuple") rfl h.fr_tuple (by first | rfl | (with_unfolding_all rfl)) rfl) (.ty "tuple") (fun _ _ e => isiP_ok (bt := .tuple) h.insF e) (e_var rfl (vis_of rfl))))) (t_or1 (t_not (t_chain op_le op_le e_int (e_cb (pe_callB call_len rfl h.fr_len (by first | rfl | (with_unfolding_all rfl)) (a_cons (e_var rfl (vis_of rfl)) a_nil)) (cb_len rfl)) (e_gint rfl h.gi_MAX_INPUTS)))))) (s_one (s_ret e_bl)) s_nil)
 (s_one (s_ret (e_and (e_cb (pe_callB (cr_all rfl) rfl h.fr_all (by first | rfl | (with_unfolding_all rfl)) (a_cons (e_lc (own := [("name", 1)]) rfl sc50.nd (i_tup rfl (e_var rfl (vis_of rfl))) (blk_of rfl) rfl (fun _ _ _ _ _ => (gv_name sc50.nd rfl (loc_of rfl) (by decide))) (fun _ _ _ _ _ => ts_nil) (fun _ _ _ _ _ => (e_call (ok24 h) (hr.mono (by decide)) rfl h.g_is_name h.d24.kp (b24 h) rfl takes0 (a_cons (e_var rfl (vis_of rfl)) a_nil) (len_cons len_nil)))) a_nil)) (cb_all rfl)) (e_one (e_cmp opD_eqF (e_lenset rfl rfl rfl h.fr_len rfl h.fr_set (e_var rfl (vis_of rfl))) (e_cb (pe_callB call_len rfl h.fr_len (by first | rfl | (with_unfolding_all rfl)) (a_cons (e_var rfl (vis_of rfl)) a_nil)) (cb_len rfl)) (nomark _)))))))
theorem b50 : Binds K (fd 50) ["value"] [] := h.d50.bindsN fun _ _ _ _ _ _ us hl => match us, hl with | [_], _ => rfl
/- is_small -/
abbrev N51 : List Str := ["amount", "most"]
omit h in
theorem sc51 : FnScope N51 ["amount", "most"] (defScope st51) := ⟨rfl, rfl, rfl, by decide +kernel, rfl, by decide +kernel, by decide +kernel⟩
theorem ok51 : FnOk P w K mg base (L2.CX P w) 3 (fa 51) (fd 51) ["amount", "most"] (spF (Gm K ca) 2 F_is_small) := fn_ok h.d51 sc51 rfl fun cdv A outer s H E hr =>
 (s_one (s_ret (e_and (e_cmp opD_le (e_cb (pe_callB call_abs rfl h.fr_abs (by first | rfl | (with_unfolding_all rfl)) (a_cons (e_prop rfl h.cl_Amount h.pr_Amount_top.choose_spec (ok7 h) (hr.mono (by decide)) (b7 h) (e_var rfl (vis_of rfl))) a_nil)) cb_abs) (e_var rfl (vis_of rfl)) (nomark _)) (e_one (e_cmp opD_le (e_prop rfl h.cl_Amount h.pr_Amount_bottom.choose_spec (ok8 h) (hr.mono (by decide)) (b8 h) (e_var rfl (vis_of rfl))) (e_gint rfl h.gi_MAX_BOTTOM) (nomark _))))))
theorem b51 : Binds K (fd 51) ["amount", "most"] [] := h.d51.bindsN fun _ _ _ _ _ _ us hl => match us, hl with | [_, _], _ => rfl
/- is_step -/
abbrev N52 : List Str := ["value", "earlier", "line", "rule", "name", "factor"]
omit h in
theorem sc52 : FnScope N52 ["value", "earlier"] (defScope st52) := ⟨rfl, rfl, rfl, by decide +kernel, rfl, by decide +kernel, by decide +kernel⟩
theorem ok52 : FnOk P w K mg base (L2.CX P w) 4 (fa 52) (fd 52) ["value", "earlier"] (spF (Gm K ca) 2 F_is_step) := fn_ok h.d52 sc52 rfl fun cdv A outer s H E hr =>
 (s_cons (s_if (L2.PW.pt (t_or (t_not (t_val (e_isi rfl rfl h.fr_isinstance (pe_bltn (v := .ty "tuple") (u := .type "tuple") rfl h.fr_tuple (by first | rfl | (with_unfolding_all rfl)) rfl) (.ty "tuple") (fun _ _ e => isiP_ok (bt := .tuple) h.insF e) (e_var rfl (vis_of rfl))))) (t_or1 (t_cmp opD_neF (e_cb (pe_callB call_len rfl h.fr_len (by first | rfl | (with_unfolding_all rfl)) (a_cons (e_var rfl (vis_of rfl)) a_nil)) (cb_len rfl)) e_int (nomark _))))) (s_one (s_ret e_bl)) s_nil)
 (s_cons (s_asg (e_var rfl (vis_of rfl)) (g_two rfl rfl (g_name sc52.nd rfl (loc_of rfl)) (g_name sc52.nd rfl (loc_of rfl))))
 (s_cons (s_if (L2.PW.pt (t_or (t_not (t_val (e_isi rfl rfl h.fr_isinstance (pe_glob (v := .ref (ca 1)) rfl h.gc_Line rfl) (.own _) (fun _ _ e => isiC_ok h.insF h.isC_Line e) (e_var rfl (vis_of rfl))))) (t_or (t_not (t_val (e_isi rfl rfl h.fr_isinstance (pe_glob (v := .ref (ca 2)) rfl h.gc_Rule rfl) (.own _) (fun _ _ e => isiC_ok h.insF h.isC_Rule e) (e_var rfl (vis_of rfl))))) (t_or1 (t_not (t_val (e_call (ok51 h) (hr.mono (by decide)) rfl h.g_is_small h.d51.kp (b51 h) rfl (takes_of rfl rfl rfl rfl) (a_cons (e_prop rfl h.cl_Line h.pr_Line_rest.choose_spec (ok29 h) (hr.mono (by decide)) (b29 h) (e_var rfl (vis_of rfl))) (a_cons (e_gint rfl h.gi_MAX_ADDED) a_nil)) (len_cons (len_cons len_nil))))))))) (s_one (s_ret e_bl)) s_nil)
 (s_one (s_ret (e_cb (pe_callB (cr_all rfl) rfl h.fr_all (by first | rfl | (with_unfolding_all rfl)) (a_cons (e_lc (own := [("name", 4), ("factor", 5)]) rfl sc52.nd (i_tup rfl (e_prop rfl h.cl_Line h.pr_Line_terms.choose_spec (ok28 h) (hr.mono (by decide)) (b28 h) (e_var rfl (vis_of rfl)))) (blk_of rfl) rfl (fun _ _ _ _ _ => (gv_two rfl rfl (gv_name sc52.nd rfl (loc_of rfl) (by decide)) (gv_name sc52.nd rfl (loc_of rfl) (by decide)))) (fun _ _ _ _ _ => ts_nil) (fun _ _ _ _ _ => (e_and (e_cmp (opD_in rfl) (e_var rfl (vis_of rfl)) (e_var rfl (vis_of rfl)) (by with_unfolding_all rfl)) (e_one (e_call (ok51 h) (hr.mono (by decide)) rfl h.g_is_small h.d51.kp (b51 h) rfl takes0 (a_cons (e_var rfl (vis_of rfl)) (a_cons (e_gint rfl h.gi_MAX_TOP) a_nil)) (len_cons (len_cons len_nil))))))) a_nil)) (cb_all rfl)))))))
theorem b52 : Binds K (fd 52) ["value", "earlier"] [] := h.d52.bindsN fun _ _ _ _ _ _ us hl => match us, hl with | [_, _], _ => rfl
/- are_outputs -/
abbrev N53 : List Str := ["value", "steps", "name"]
omit h in
theorem sc53 : FnScope N53 ["value", "steps"] (defScope st53) := ⟨rfl, rfl, rfl, by decide +kernel, rfl, by decide +kernel, by decide +kernel⟩
theorem ok53 : FnOk P w K mg base (L2.CX P w) 2 (fa 53) (fd 53) ["value", "steps"] (spF (Gm K ca) 2 F_are_outputs) := fn_ok h.d53 sc53 rfl fun cdv A outer s H E hr =>
 (s_cons (s_if (L2.PW.pt (t_or (t_not (t_val (e_isi rfl rfl h.fr_isinstance (pe_bltn (v := .ty "tuple") (u := .type "tuple") rfl h.fr_tuple (by first | rfl | (with_unfolding_all rfl)) rfl) (.ty "tuple") (fun _ _ e => isiP_ok (bt := .tuple) h.insF e) (e_var rfl (vis_of rfl))))) (t_or1 (t_not (t_chain op_le op_le e_int (e_cb (pe_callB call_len rfl h.fr_len (by first | rfl | (with_unfolding_all rfl)) (a_cons (e_var rfl (vis_of rfl)) a_nil)) (cb_len rfl)) (e_gint rfl h.gi_MAX_OUTPUTS)))))) (s_one (s_ret e_bl)) s_nil)
 (s_cons (s_if (t_not (t_val (e_cb (pe_callB (cr_all rfl) rfl h.fr_all (by first | rfl | (with_unfolding_all rfl)) (a_cons (e_lc (own := [("name", 2)]) rfl sc53.nd (i_tup rfl (e_var rfl (vis_of rfl))) (blk_of rfl) rfl (fun _ _ _ _ _ => (gv_name sc53.nd rfl (loc_of rfl) (by decide))) (fun _ _ _ _ _ => ts_nil) (fun _ _ _ _ _ => (e_isi rfl rfl h.fr_isinstance (pe_bltn (v := .ty "str") (u := .type "str") rfl h.fr_str (by first | rfl | (with_unfolding_all rfl)) rfl) (.ty "str") (fun _ _ e => isiP_ok (bt := .str) h.insF e) (e_var rfl (vis_of rfl))))) a_nil)) (cb_all rfl)))) (s_one (s_ret e_bl)) s_nil)
 (s_one (s_ret (e_cmp (opD_deep (rcD_list (ne := false) rfl eqD_flat) (hr.mono (by decide))) (e_cb (pe_callTy call_list_of rfl h.fr_list (by first | rfl | (with_unfolding_all rfl)) (a_cons (e_var rfl (vis_of rfl)) a_nil)) (cb_lst rfl)) (e_lcL (own := [("name", 2)]) rfl sc53.nd gok_at (i_keysAt (i := 1) rfl (vis_of rfl)) (blk_of rfl) rfl (fun _ _ _ _ _ => (gv_name sc53.nd rfl (loc_of rfl) (by decide))) (fun _ _ _ _ _ => (ts_one (t_cmp (opD_in rfl) (e_var rfl (vis_of rfl)) (e_var rfl (vis_of rfl)) (by with_unfolding_all rfl)))) (fun _ _ _ _ _ => (e_var rfl (vis_of rfl)))) (nomark _))))))
theorem b53 : Binds K (fd 53) ["value", "steps"] [] := h.d53.bindsN fun _ _ _ _ _ _ us hl => match us, hl with | [_, _], _ => rfl
/- scale_of -/
abbrev N65 : List Str := ["inputs", "steps", "bottoms", "found", "name", "step", "line", "bottom", "one", "factor"]
omit h in
theorem sc65 : FnScope N65 ["inputs", "steps"] (defScope st65) := ⟨rfl, rfl, rfl, by decide +kernel, rfl, by decide +kernel, by decide +kernel⟩
theorem ok65 : FnOk P w K mg base (L2.CX P w) 3 (fa 65) (fd 65) ["inputs", "steps"] (spF (Gm K ca) 2 F_scale_of) := fn_ok h.d65 sc65 rfl fun cdv A outer s H E hr =>
 (s_cons (s_par2 rfl sc65.nd rfl rfl (by decide) rfl rfl (a_cons (e_dc (own := [("name", 4)]) rfl sc65.nd (i_tup rfl (e_var rfl (vis_of rfl))) (blk_of rfl) rfl (fun _ _ _ _ _ => (gv_name sc65.nd rfl (loc_of rfl) (by decide))) (fun _ _ _ _ _ => ts_nil) (fun _ _ _ _ _ => (e_var rfl (vis_of rfl))) (fun _ _ _ _ _ => e_int)) (a_cons e_int a_nil)) rfl)
 (s_cons (s_forLX (passes_of rfl) rfl (takes_of rfl rfl rfl rfl) gok_at (fun _ => (i_itemsAt (i := 1) rfl (vis_of rfl))) (g_two rfl rfl (g_name sc65.nd rfl (loc_of rfl)) (g_name sc65.nd rfl (loc_of rfl))) (fun W3 tk3 => (s_cons (s_par2 rfl sc65.nd rfl rfl (by decide) rfl rfl (a_cons (e_ix rfl (e_var rfl (vis_of rfl)) e_int (fun _ _ => rfl)) (a_cons (e_prop rfl h.cl_Amount h.pr_Amount_bottom.choose_spec (ok8 h) (hr.mono (by decide)) (b8 h) (e_prop rfl h.cl_Line h.pr_Line_rest.choose_spec (ok29 h) (hr.mono (by decide)) (b29 h) (e_ix rfl (e_var rfl (vis_of rfl)) e_int (fun _ _ => rfl)))) a_nil)) rfl)
 (s_cons (s_for (passes_of rfl) rfl (i_tup rfl (e_prop rfl h.cl_Line h.pr_Line_terms.choose_spec (ok28 h) (hr.mono (by decide)) (b28 h) (e_var rfl (vis_of rfl)))) (g_two rfl rfl (g_name sc65.nd rfl (loc_of rfl)) (g_name sc65.nd rfl (loc_of rfl))) (s_one (s_set sc65.nd rfl (loc_of rfl) (e_bor [2] (e_call (ok5 h) (hr.mono (by decide)) rfl h.g_multiple h.d5.kp (b5 h) rfl tk3 (a_cons (e_var rfl (vis_of rfl)) (a_cons (e_bin opD_mul (e_prop rfl h.cl_Amount h.pr_Amount_bottom.choose_spec (ok8 h) (hr.mono (by decide)) (b8 h) (e_var rfl (vis_of rfl))) (e_dget hr.units1 (e_var rfl (vis_of rfl)) (e_var rfl (vis_of rfl)) (fun _ _ => rfl))) a_nil)) (len_cons (len_cons len_nil)))))))
 (s_cons (s_dput hr.units1 rfl (vis_of rfl) (e_var rfl (vis_of rfl)) (e_var rfl (vis_of rfl)))
 (s_one (s_set sc65.nd rfl (loc_of rfl) (e_call (ok5 h) (hr.mono (by decide)) rfl h.g_multiple h.d5.kp (b5 h) rfl tk3 (a_cons (e_var rfl (vis_of rfl)) (a_cons (e_var rfl (vis_of rfl)) a_nil)) (len_cons (len_cons len_nil))))))))))
 (s_one (s_ret (e_move rfl (vis_of rfl))))))
theorem b65 : Binds K (fd 65) ["inputs", "steps"] [] := h.d65.bindsN fun _ _ _ _ _ _ us hl => match us, hl with | [_, _], _ => rfl
/- exact_factors -/
abbrev N66 : List Str := ["inputs", "steps", "found", "name", "one", "step", "line", "total", "part", "factor"]
omit h in
theorem sc66 : FnScope N66 ["inputs", "steps"] (defScope st66) := ⟨rfl, rfl, rfl, by decide +kernel, rfl, by decide +kernel, by decide +kernel⟩
theorem ok66 : FnOk P w K mg base (L2.CX P w) 5 (fa 66) (fd 66) ["inputs", "steps"] (spF (Gm K ca) 2 F_exact_factors) := fn_ok h.d66 sc66 rfl fun cdv A outer s H E hr =>
 (s_cons (s_setDc (own := [("one", 4)]) rfl sc66.nd rfl rfl rfl (i_tup rfl (e_var rfl (vis_of rfl))) (blk_of rfl) rfl (fun _ _ _ _ _ => (gv_name sc66.nd rfl (loc_of rfl) (by decide))) (fun _ _ _ _ _ => ts_nil) (fun _ _ _ _ _ => (e_var rfl (vis_of rfl))) (fun _ _ _ _ _ => (e_dc (own := [("name", 3)]) rfl sc66.nd (i_tup rfl (e_var rfl (vis_of rfl))) (blk_of rfl) rfl (fun _ _ _ _ _ => (gv_name sc66.nd rfl (loc_of rfl) (by decide))) (fun _ _ _ _ _ => ts_nil) (fun _ _ _ _ _ => (e_var rfl (vis_of rfl))) (fun _ _ _ _ _ => (mkD (bd6 h) fun _ hd hb => e_makeD rfl h.mk_Amount (ok6 h) (hr.mono (by decide)) rfl h.gc_Amount hb hd rfl takes0 (a_cons (e_if (t_cmp opD_eqF (e_var rfl (vis_of rfl)) (e_var rfl (vis_of rfl)) (nomark _)) e_int e_int) a_nil) (len_d (len_cons len_nil) rfl))))))
 (s_cons (s_forLX (passes_of rfl) rfl (takes_of rfl rfl rfl rfl) gok_at (fun _ => (i_itemsAt (i := 1) rfl (vis_of rfl))) (g_two rfl rfl (g_name sc66.nd rfl (loc_of rfl)) (g_name sc66.nd rfl (loc_of rfl))) (fun W3 tk3 => (s_cons (s_par2 rfl sc66.nd rfl rfl (by decide) rfl rfl (a_cons (e_ix rfl (e_var rfl (vis_of rfl)) e_int (fun _ _ => rfl)) (a_cons (e_dc (own := [("one", 4)]) rfl sc66.nd (i_tup rfl (e_var rfl (vis_of rfl))) (blk_of rfl) rfl (fun _ _ _ _ _ => (gv_name sc66.nd rfl (loc_of rfl) (by decide))) (fun _ _ _ _ _ => ts_nil) (fun _ _ _ _ _ => (e_var rfl (vis_of rfl))) (fun _ _ _ _ _ => (mkD (bd6 h) fun _ hd hb => e_makeD rfl h.mk_Amount (ok6 h) (hr.mono (by decide)) rfl h.gc_Amount hb hd rfl takes0 (a_cons e_int a_nil) (len_d (len_cons len_nil) rfl)))) a_nil)) rfl)
 (s_cons (s_for (passes_of rfl) rfl (i_tup rfl (e_prop rfl h.cl_Line h.pr_Line_terms.choose_spec (ok28 h) (hr.mono (by decide)) (b28 h) (e_var rfl (vis_of rfl)))) (g_two rfl rfl (g_name sc66.nd rfl (loc_of rfl)) (g_name sc66.nd rfl (loc_of rfl))) (s_one (s_for (passes_of rfl) rfl (i_tup rfl (e_var rfl (vis_of rfl))) (g_name sc66.nd rfl (loc_of rfl)) (s_one (s_dput hr.units1 rfl (vis_of rfl) (e_var rfl (vis_of rfl)) (e_borK [2, 7] (e_bin (opD_same rfl h.sf_Amount h.me_Amount_add (ok10 h) (hr.mono (by decide)) (b10 h) tk3) (e_dget hr.units1 (e_var rfl (vis_of rfl)) (e_var rfl (vis_of rfl)) (fun _ _ => rfl)) (e_bin (opD_same rfl h.sf_Amount h.me_Amount_mul (ok14 h) (hr.mono (by decide)) (b14 h) tk3) (e_var rfl (vis_of rfl)) (e_dget hr.units1 (e_dget hr.units1 (e_var rfl (vis_of rfl)) (e_var rfl (vis_of rfl)) (fun _ _ => rfl)) (e_var rfl (vis_of rfl)) (fun _ _ => rfl))))))))))
 (s_one (s_dput hr.units1 rfl (vis_of rfl) (e_var rfl (vis_of rfl)) (e_var rfl (vis_of rfl))))))))
 (s_one (s_ret (e_move rfl (vis_of rfl))))))
theorem b66 : Binds K (fd 66) ["inputs", "steps"] [] := h.d66.bindsN fun _ _ _ _ _ _ us hl => match us, hl with | [_, _], _ => rfl
/- periods_of -/
abbrev N67 : List Str := ["inputs", "steps", "factors", "found", "one", "period", "name", "step", "share"]
omit h in
theorem sc67 : FnScope N67 ["inputs", "steps"] (defScope st67) := ⟨rfl, rfl, rfl, by decide +kernel, rfl, by decide +kernel, by decide +kernel⟩
theorem ok67 : FnOk P w K mg base (L2.CX P w) 6 (fa 67) (fd 67) ["inputs", "steps"] (spF (Gm K ca) 2 F_periods_of) := fn_ok h.d67 sc67 rfl fun cdv A outer s H E hr =>
 (s_cons (s_par2 rfl sc67.nd rfl rfl (by decide) rfl rfl (a_cons (e_call (ok66 h) (hr.mono (by decide)) rfl h.g_exact_factors h.d66.kp (b66 h) rfl (takes_of rfl rfl rfl rfl) (a_cons (e_var rfl (vis_of rfl)) (a_cons (e_var rfl (vis_of rfl)) a_nil)) (len_cons (len_cons len_nil))) (a_cons e_dnew a_nil)) rfl)
 (s_cons (s_for (passes_of rfl) rfl (i_tup rfl (e_var rfl (vis_of rfl))) (g_name sc67.nd rfl (loc_of rfl)) (s_cons (s_set sc67.nd rfl (loc_of rfl) e_int)
 (s_cons (s_forLX (passes_of rfl) rfl (takes_of rfl rfl rfl rfl) gok_at (fun _ => (i_itemsAt (i := 1) rfl (vis_of rfl))) (g_two rfl rfl (g_name sc67.nd rfl (loc_of rfl)) (g_name sc67.nd rfl (loc_of rfl))) (fun W3 tk3 => (s_cons (s_set sc67.nd rfl (loc_of rfl) (e_bin (opD_same rfl h.sf_Amount h.me_Amount_mul (ok14 h) (hr.mono (by decide)) (b14 h) tk3) (e_dget hr.units1 (e_dget hr.units1 (e_var rfl (vis_of rfl)) (e_var rfl (vis_of rfl)) (fun _ _ => rfl)) (e_var rfl (vis_of rfl)) (fun _ _ => rfl)) (e_make rfl h.mk_Amount (ok6 h) (hr.mono (by decide)) rfl h.gc_Amount (b6 h) tk3 (a_cons e_int (a_cons (e_meth0 rfl h.cl_Rule h.me_Rule_step rfl (ok49 h) (hr.mono (by decide)) (b49 h) tk3 (e_ix rfl (e_var rfl (vis_of rfl)) e_int (fun _ _ => rfl))) a_nil)) (len_s (len_cons (len_cons len_nil)) rfl))))
 (s_one (s_set sc67.nd rfl (loc_of rfl) (e_call (ok5 h) (hr.mono (by decide)) rfl h.g_multiple h.d5.kp (b5 h) rfl tk3 (a_cons (e_var rfl (vis_of rfl)) (a_cons (e_prop rfl h.cl_Amount h.pr_Amount_bottom.choose_spec (ok8 h) (hr.mono (by decide)) (b8 h) (e_var rfl (vis_of rfl))) a_nil)) (len_cons (len_cons len_nil))))))))
 (s_one (s_dput hr.units1 rfl (vis_of rfl) (e_var rfl (vis_of rfl)) (e_var rfl (vis_of rfl)))))))
 (s_one (s_ret (e_move rfl (vis_of rfl))))))
theorem b67 : Binds K (fd 67) ["inputs", "steps"] [] := h.d67.bindsN fun _ _ _ _ _ _ us hl => match us, hl with | [_, _], _ => rfl
/- Bill.__init__ -/
abbrev N54 : List Str := ["self", "inputs", "steps", "outputs", "earlier", "name", "step"]
omit h in
theorem sc54 : FnScope N54 ["self", "inputs", "steps", "outputs"] (defScope st54) := ⟨rfl, rfl, rfl, by decide +kernel, rfl, by decide +kernel, by decide +kernel⟩
theorem ok54 : FnOk P w K mg base (L2.CX P w) 7 (fa 54) (fd 54) ["self", "inputs", "steps", "outputs"] (spF (Gm K ca) 4 F_Bill_init) := fn_ok h.d54 sc54 rfl fun cdv A outer s H E hr =>
 (s_cons (s_if (t_not (t_val (e_call (ok50 h) (hr.mono (by decide)) rfl h.g_are_inputs h.d50.kp (b50 h) rfl (takes_of rfl rfl rfl rfl) (a_cons (e_var rfl (vis_of rfl)) a_nil) (len_cons len_nil)))) (s_one s_stuck) s_nil)
 (s_cons (s_if (L2.PW.pt (t_or (t_not (t_val (e_isi rfl rfl h.fr_isinstance (pe_bltn (v := .ty "dict") (u := .type "dict") rfl h.fr_dict (by first | rfl | (with_unfolding_all rfl)) rfl) (.ty "dict") (fun _ _ e => isiP_ok (bt := .dict) h.insF e) (e_var rfl (vis_of rfl))))) (t_or1 (t_not (t_chain op_le op_le e_int (e_cb (pe_callB call_lenR rfl h.fr_len (by first | rfl | (with_unfolding_all rfl)) (a_cons (e_var rfl (vis_of rfl)) a_nil)) cb_lenD) (e_gint rfl h.gi_MAX_STEPS)))))) (s_one s_stuck) s_nil)
 (s_cons (s_set sc54.nd rfl (loc_of rfl) (e_cb (pe_callTy call_list_of rfl h.fr_list (by first | rfl | (with_unfolding_all rfl)) (a_cons (e_var rfl (vis_of rfl)) a_nil)) (cb_lst rfl)))
 (s_cons (s_forLX (passes_of rfl) rfl (takes_of rfl rfl rfl rfl) gok_at (fun _ => (i_itemsAt (i := 2) rfl (vis_of rfl))) (g_two rfl rfl (g_name sc54.nd rfl (loc_of rfl)) (g_name sc54.nd rfl (loc_of rfl))) (fun W3 tk3 => (s_cons (s_if (t_bor [4] (L2.PW.pt (t_or (t_not (t_val (e_call (ok24 h) (hr.mono (by decide)) rfl h.g_is_name h.d24.kp (b24 h) rfl tk3 (a_cons (e_var rfl (vis_of rfl)) a_nil) (len_cons len_nil)))) (t_or (t_cmp (opD_in rfl) (e_var rfl (vis_of rfl)) (e_var rfl (vis_of rfl)) (by with_unfolding_all rfl)) (t_or1 (t_not (t_val (e_call (ok52 h) (hr.mono (by decide)) rfl h.g_is_step h.d52.kp (b52 h) rfl tk3 (a_cons (e_var rfl (vis_of rfl)) (a_cons (e_var rfl (vis_of rfl)) a_nil)) (len_cons (len_cons len_nil)))))))))) (s_one s_stuck) s_nil)
 (s_one (s_expr (e_append rfl (vis_of rfl) (e_var rfl (vis_of rfl))))))))
 (s_cons (s_if (t_not (t_val (e_call (ok53 h) (hr.mono (by decide)) rfl h.g_are_outputs h.d53.kp (b53 h) rfl (takes_of rfl rfl rfl rfl) (a_cons (e_var rfl (vis_of rfl)) (a_cons (e_var rfl (vis_of rfl)) a_nil)) (len_cons (len_cons len_nil))))) (s_one s_stuck) s_nil)
 (s_cons (s_setf rfl h.cl_Bill h.na_Bill_given rfl (show 0 < (fs 3).length by decide) (show (fs 3).length < 1000 by decide) (show (fs 3).Nodup by decide) rfl (vis_of rfl) (e_var rfl (vis_of rfl)))
 (s_cons (s_setf rfl h.cl_Bill h.na_Bill_rows rfl (show 1 < (fs 3).length by decide) (show (fs 3).length < 1000 by decide) (show (fs 3).Nodup by decide) rfl (vis_of rfl) (e_cb (pe_callTy call_dictD rfl h.fr_dict (by first | rfl | (with_unfolding_all rfl)) (a_cons (e_var rfl (vis_of rfl)) a_nil)) cb_dict))
 (s_cons (s_setf rfl h.cl_Bill h.na_Bill_shown rfl (show 2 < (fs 3).length by decide) (show (fs 3).length < 1000 by decide) (show (fs 3).Nodup by decide) rfl (vis_of rfl) (e_var rfl (vis_of rfl)))
 (s_cons (s_setf rfl h.cl_Bill h.na_Bill_scale rfl (show 3 < (fs 3).length by decide) (show (fs 3).length < 1000 by decide) (show (fs 3).Nodup by decide) rfl (vis_of rfl) (e_call (ok65 h) (hr.mono (by decide)) rfl h.g_scale_of h.d65.kp (b65 h) rfl (takes_of rfl rfl rfl rfl) (a_cons (e_var rfl (vis_of rfl)) (a_cons (e_var rfl (vis_of rfl)) a_nil)) (len_cons (len_cons len_nil))))
 (s_one (s_setf rfl h.cl_Bill h.na_Bill_cycle rfl (show 4 < (fs 3).length by decide) (show (fs 3).length < 1000 by decide) (show (fs 3).Nodup by decide) rfl (vis_of rfl) (e_call (ok67 h) (hr.mono (by decide)) rfl h.g_periods_of h.d67.kp (b67 h) rfl (takes_of rfl rfl rfl rfl) (a_cons (e_var rfl (vis_of rfl)) (a_cons (e_var rfl (vis_of rfl)) a_nil)) (len_cons (len_cons len_nil))))))))))))))
theorem b54 : Binds K (fd 54) ["self", "inputs", "steps", "outputs"] [] := h.d54.bindsN fun _ _ _ _ _ _ us hl => match us, hl with | [_, _, _, _], _ => rfl
/- Bill.inputs -/
/- Bill.names -/
abbrev N56 : List Str := ["self"]
omit h in
theorem sc56 : FnScope N56 ["self"] (defScope st56) := ⟨rfl, rfl, rfl, by decide +kernel, rfl, by decide +kernel, by decide +kernel⟩
theorem ok56 : FnOk P w K mg base (L2.CX P w) 1 (fa 56) (fd 56) ["self"] (spF (Gm K ca) 1 F_Bill_names) := fn_ok h.d56 sc56 rfl fun cdv A outer s H E hr =>
 (s_one (s_ret (e_cb (pe_callTy (call_listD rfl) rfl h.fr_list (by first | rfl | (with_unfolding_all rfl)) (a_cons (e_sfld rfl h.cl_Bill h.na_Bill_rows rfl rfl (vis_of rfl)) a_nil)) cb_listD)))
theorem b56 : Binds K (fd 56) ["self"] [] := h.d56.bindsN fun _ _ _ _ _ _ us hl => match us, hl with | [_], _ => rfl
/- Bill.outputs -/
abbrev N57 : List Str := ["self"]
omit h in
theorem sc57 : FnScope N57 ["self"] (defScope st57) := ⟨rfl, rfl, rfl, by decide +kernel, rfl, by decide +kernel, by decide +kernel⟩
theorem ok57 : FnOk P w K mg base (L2.CX P w) 1 (fa 57) (fd 57) ["self"] (spF (Gm K ca) 1 F_Bill_outputs) := fn_ok h.d57 sc57 rfl fun cdv A outer s H E hr =>
 (s_one (s_ret (e_sfld rfl h.cl_Bill h.na_Bill_shown rfl rfl (vis_of rfl))))
theorem b57 : Binds K (fd 57) ["self"] [] := h.d57.bindsN fun _ _ _ _ _ _ us hl => match us, hl with | [_], _ => rfl
/- Bill.periods -/
/- Bill.__len__ -/
abbrev N59 : List Str := ["self"]
omit h in
theorem sc59 : FnScope N59 ["self"] (defScope st59) := ⟨rfl, rfl, rfl, by decide +kernel, rfl, by decide +kernel, by decide +kernel⟩
theorem ok59 : FnOk P w K mg base (L2.CX P w) 1 (fa 59) (fd 59) ["self"] (spF (Gm K ca) 1 F_Bill_len) := fn_ok h.d59 sc59 rfl fun cdv A outer s H E hr =>
 (s_one (s_ret (e_cb (pe_callB call_lenR rfl h.fr_len (by first | rfl | (with_unfolding_all rfl)) (a_cons (e_sfld rfl h.cl_Bill h.na_Bill_rows rfl rfl (vis_of rfl)) a_nil)) cb_lenD)))
theorem b59 : Binds K (fd 59) ["self"] [] := h.d59.bindsN fun _ _ _ _ _ _ us hl => match us, hl with | [_], _ => rfl
/- Bill.__contains__ -/
/- Bill.__getitem__ -/
/- Bill.__iter__ -/
/- Bill.__eq__ -/
/- are_numbers -/
abbrev N72 : List Str := ["bill", "value", "number"]
omit h in
theorem sc72 : FnScope N72 ["bill", "value"] (defScope st72) := ⟨rfl, rfl, rfl, by decide +kernel, rfl, by decide +kernel, by decide +kernel⟩
theorem ok72 : FnOk P w K mg base (L2.CX P w) 2 (fa 72) (fd 72) ["bill", "value"] (spF (Gm K ca) 2 F_are_numbers) := fn_ok h.d72 sc72 rfl fun cdv A outer s H E hr =>
 (s_one (s_ret (e_and (e_isi rfl rfl h.fr_isinstance (pe_bltn (v := .ty "tuple") (u := .type "tuple") rfl h.fr_tuple (by first | rfl | (with_unfolding_all rfl)) rfl) (.ty "tuple") (fun _ _ e => isiP_ok (bt := .tuple) h.insF e) (e_var rfl (vis_of rfl))) (e_and (e_cmp opD_eqF (e_cb (pe_callB call_len rfl h.fr_len (by first | rfl | (with_unfolding_all rfl)) (a_cons (e_var rfl (vis_of rfl)) a_nil)) (cb_len rfl)) (e_cb (pe_callB call_len rfl h.fr_len (by first | rfl | (with_unfolding_all rfl)) (a_cons (e_sfld rfl h.cl_Bill h.na_Bill_given rfl rfl (vis_of rfl)) a_nil)) (cb_len rfl)) (nomark _)) (e_one (e_cb (pe_callB (cr_all rfl) rfl h.fr_all (by first | rfl | (with_unfolding_all rfl)) (a_cons (e_lc (own := [("number", 2)]) rfl sc72.nd (i_tup rfl (e_var rfl (vis_of rfl))) (blk_of rfl) rfl (fun _ _ _ _ _ => (gv_name sc72.nd rfl (loc_of rfl) (by decide))) (fun _ _ _ _ _ => ts_nil) (fun _ _ _ _ _ => (e_call (ok3 h) (hr.mono (by decide)) rfl h.g_is_whole h.d3.kp (b3 h) rfl takes0 (a_cons (e_var rfl (vis_of rfl)) a_nil) (len_cons len_nil)))) a_nil)) (cb_all rfl)))))))
theorem b72 : Binds K (fd 72) ["bill", "value"] [] := h.d72.bindsN fun _ _ _ _ _ _ us hl => match us, hl with | [_, _], _ => rfl
/- check_numbers -/
/- check_set -/
abbrev N73 : List Str := ["bill", "some", "name"]
omit h in
theorem sc73 : FnScope N73 ["bill", "some"] (defScope st73) := ⟨rfl, rfl, rfl, by decide +kernel, rfl, by decide +kernel, by decide +kernel⟩
theorem ok73 : FnOk P w K mg base (L2.CX P w) 2 (fa 73) (fd 73) ["bill", "some"] (spF (Gm K ca) 2 F_check_set) := fn_ok h.d73 sc73 rfl fun cdv A outer s H E hr =>
 (s_cons (s_if (L2.PW.pt (t_or (t_not (t_val (e_isi rfl rfl h.fr_isinstance (pe_bltn (v := .ty "tuple") (u := .type "tuple") rfl h.fr_tuple (by first | rfl | (with_unfolding_all rfl)) rfl) (.ty "tuple") (fun _ _ e => isiP_ok (bt := .tuple) h.insF e) (e_var rfl (vis_of rfl))))) (t_or1 (t_not (t_val (e_cb (pe_callB (cr_all rfl) rfl h.fr_all (by first | rfl | (with_unfolding_all rfl)) (a_cons (e_lc (own := [("name", 2)]) rfl sc73.nd (i_tup rfl (e_var rfl (vis_of rfl))) (blk_of rfl) rfl (fun _ _ _ _ _ => (gv_name sc73.nd rfl (loc_of rfl) (by decide))) (fun _ _ _ _ _ => ts_nil) (fun _ _ _ _ _ => (e_isi rfl rfl h.fr_isinstance (pe_bltn (v := .ty "str") (u := .type "str") rfl h.fr_str (by first | rfl | (with_unfolding_all rfl)) rfl) (.ty "str") (fun _ _ e => isiP_ok (bt := .str) h.insF e) (e_var rfl (vis_of rfl))))) a_nil)) (cb_all rfl))))))) (s_one (s_raise (c := 15) rfl (takes_of rfl rfl rfl rfl) h.ex_InvalidSet h.gc_InvalidSet rfl)) s_nil)
 (s_one (s_if (t_cmp (opD_deep (rcD_list (ne := true) rfl eqD_flat) (hr.mono (by decide))) (e_cb (pe_callTy call_list_of rfl h.fr_list (by first | rfl | (with_unfolding_all rfl)) (a_cons (e_var rfl (vis_of rfl)) a_nil)) (cb_lst rfl)) (e_lcL (own := [("name", 2)]) rfl sc73.nd (gok_fl (f := "rows") rfl) (i_keysFl (i := 0) (c := 3) (k := 1) rfl h.cl_Bill h.na_Bill_rows rfl rfl (vis_of rfl)) (blk_of rfl) rfl (fun _ _ _ _ _ => (gv_name sc73.nd rfl (loc_of rfl) (by decide))) (fun _ _ _ _ _ => (ts_one (t_cmp (opD_in rfl) (e_var rfl (vis_of rfl)) (e_var rfl (vis_of rfl)) (by with_unfolding_all rfl)))) (fun _ _ _ _ _ => (e_var rfl (vis_of rfl)))) (nomark _)) (s_one (s_raise (c := 15) rfl (takes_of rfl rfl rfl rfl) h.ex_InvalidSet h.gc_InvalidSet rfl)) s_nil)))
theorem b73 : Binds K (fd 73) ["bill", "some"] [] := h.d73.bindsN fun _ _ _ _ _ _ us hl => match us, hl with | [_, _], _ => rfl
/- scaled_values -/
abbrev N68 : List Str := ["bill", "numbers", "some", "found", "name", "number", "step", "line", "rule", "total", "one", "factor"]
omit h in
theorem sc68 : FnScope N68 ["bill", "numbers", "some"] (defScope st68) := ⟨rfl, rfl, rfl, by decide +kernel, rfl, by decide +kernel, by decide +kernel⟩
theorem ok68 : FnOk P w K mg base (L2.CX P w) 3 (fa 68) (fd 68) ["bill", "numbers", "some"] (spF (Gm K ca) 3 F_scaled_values) := fn_ok h.d68 sc68 rfl fun cdv A outer s H E hr =>
 (s_cons (s_setDc (own := [("name", 4), ("number", 5)]) rfl sc68.nd rfl rfl rfl (i_zipA rfl rfl h.fr_zip (a_cons (e_sfld rfl h.cl_Bill h.na_Bill_given rfl rfl (vis_of rfl)) (a_cons (e_var rfl (vis_of rfl)) a_nil))) (blk_of rfl) rfl (fun _ _ _ _ _ => (gv_two rfl rfl (gv_name sc68.nd rfl (loc_of rfl) (by decide)) (gv_name sc68.nd rfl (loc_of rfl) (by decide)))) (fun _ _ _ _ _ => ts_nil) (fun _ _ _ _ _ => (e_var rfl (vis_of rfl))) (fun _ _ _ _ _ => (e_bin opD_mul (e_var rfl (vis_of rfl)) (e_sfld rfl h.cl_Bill h.na_Bill_scale rfl rfl (vis_of rfl)))))
 (s_cons (s_forLX (passes_of rfl) rfl (takes_of rfl rfl rfl rfl) (gok_fl (f := "rows") rfl) (fun _ => (i_itemsFl (i := 0) (c := 3) (k := 1) rfl h.cl_Bill h.na_Bill_rows rfl rfl (vis_of rfl))) (g_two rfl rfl (g_name sc68.nd rfl (loc_of rfl)) (g_name sc68.nd rfl (loc_of rfl))) (fun W3 tk3 => (s_cons (s_asg (e_var rfl (vis_of rfl)) (g_two rfl rfl (g_name sc68.nd rfl (loc_of rfl)) (g_name sc68.nd rfl (loc_of rfl))))
 (s_cons (s_set sc68.nd rfl (loc_of rfl) (e_bin opD_mul (e_prop rfl h.cl_Amount h.pr_Amount_top.choose_spec (ok7 h) (hr.mono (by decide)) (b7 h) (e_prop rfl h.cl_Line h.pr_Line_rest.choose_spec (ok29 h) (hr.mono (by decide)) (b29 h) (e_var rfl (vis_of rfl)))) (e_bin opD_fdiv (e_sfld rfl h.cl_Bill h.na_Bill_scale rfl rfl (vis_of rfl)) (e_prop rfl h.cl_Amount h.pr_Amount_bottom.choose_spec (ok8 h) (hr.mono (by decide)) (b8 h) (e_prop rfl h.cl_Line h.pr_Line_rest.choose_spec (ok29 h) (hr.mono (by decide)) (b29 h) (e_var rfl (vis_of rfl)))))))
 (s_cons (s_for (passes_of rfl) rfl (i_tup rfl (e_prop rfl h.cl_Line h.pr_Line_terms.choose_spec (ok28 h) (hr.mono (by decide)) (b28 h) (e_var rfl (vis_of rfl)))) (g_two rfl rfl (g_name sc68.nd rfl (loc_of rfl)) (g_name sc68.nd rfl (loc_of rfl))) (s_one (s_aug sc68.nd rfl (loc_of rfl) (e_bor [3] (e_bin opD_mul (e_prop rfl h.cl_Amount h.pr_Amount_top.choose_spec (ok7 h) (hr.mono (by decide)) (b7 h) (e_var rfl (vis_of rfl))) (e_bin opD_fdiv (e_dget hr.units1 (e_var rfl (vis_of rfl)) (e_var rfl (vis_of rfl)) (fun _ _ => rfl)) (e_prop rfl h.cl_Amount h.pr_Amount_bottom.choose_spec (ok8 h) (hr.mono (by decide)) (b8 h) (e_var rfl (vis_of rfl)))))) ip_add)))
 (s_one (s_dput hr.units1 rfl (vis_of rfl) (e_var rfl (vis_of rfl)) (e_if (t_cmp (opD_in rfl) (e_var rfl (vis_of rfl)) (e_var rfl (vis_of rfl)) (by with_unfolding_all rfl)) (e_bin opD_mul (e_call (ok43 h) (hr.mono (by decide)) rfl h.g_rounded h.d43.kp (b43 h) rfl tk3 (a_cons (e_var rfl (vis_of rfl)) (a_cons (e_sfld rfl h.cl_Bill h.na_Bill_scale rfl rfl (vis_of rfl)) (a_cons (e_prop rfl h.cl_Rule h.pr_Rule_unit.choose_spec (ok45 h) (hr.mono (by decide)) (b45 h) (e_var rfl (vis_of rfl))) (a_cons (e_prop rfl h.cl_Rule h.pr_Rule_mode.choose_spec (ok46 h) (hr.mono (by decide)) (b46 h) (e_var rfl (vis_of rfl))) a_nil)))) (len_cons (len_cons (len_cons (len_cons len_nil))))) (e_sfld rfl h.cl_Bill h.na_Bill_scale rfl rfl (vis_of rfl))) (e_var rfl (vis_of rfl))))))))))
 (s_one (s_ret (e_move rfl (vis_of rfl))))))
theorem b68 : Binds K (fd 68) ["bill", "numbers", "some"] [] := h.d68.bindsN fun _ _ _ _ _ _ us hl => match us, hl with | [_, _, _], _ => rfl
/- Bill.amounts -/
/- points_of -/
abbrev N69 : List Str := ["bill", "found", "period", "some", "number"]
omit h in
theorem sc69 : FnScope N69 ["bill"] (defScope st69) := ⟨rfl, rfl, rfl, by decide +kernel, rfl, by decide +kernel, by decide +kernel⟩
theorem ok69 : FnOk P w K mg base (L2.CX P w) 1 (fa 69) (fd 69) ["bill"] (spF (Gm K ca) 1 F_points_of) := fn_ok h.d69 sc69 rfl fun cdv A outer s H E hr =>
 (s_cons (s_set sc69.nd rfl (loc_of rfl) (e_lst (a_cons (e_tup a_nil) a_nil)))
 (s_cons (s_forLX (passes_of rfl) rfl (takes_of rfl rfl rfl rfl) (gok_fl (f := "cycle") rfl) (fun _ => (i_valsFl (i := 0) (c := 3) (k := 4) rfl h.cl_Bill h.na_Bill_cycle rfl rfl (vis_of rfl))) (g_name sc69.nd rfl (loc_of rfl)) (fun W3 tk3 => (s_cons (s_if (t_cmp opD_gt (e_bin opD_mul (e_cb (pe_callB call_len rfl h.fr_len (by first | rfl | (with_unfolding_all rfl)) (a_cons (e_var rfl (vis_of rfl)) a_nil)) (cb_len rfl)) (e_var rfl (vis_of rfl))) (e_gint rfl h.gi_MAX_POINTS) (nomark _)) (s_one (s_raise (c := 17) rfl tk3 h.ex_TooLarge h.gc_TooLarge rfl)) s_nil)
 (s_one (s_setLc2 (own := [("some", 3), ("number", 4)]) rfl sc69.nd rfl rfl rfl (i_list rfl (e_var rfl (vis_of rfl))) (blk_of rfl) rfl (by decide) (fun _ _ _ _ _ => (gv_name sc69.nd rfl (loc_of rfl) (by decide))) (fun _ _ _ _ _ => ts_nil) (fun _ _ _ _ _ => (i_range1 rfl h.fr_range (a_cons (e_var rfl (vis_of rfl)) a_nil))) (fun _ _ _ _ _ => (gv_name sc69.nd rfl (loc_of rfl) (by decide))) (fun _ _ _ _ _ => ts_nil) (fun _ _ _ _ _ => (e_tup (a_star rfl (e_var rfl (vis_of rfl)) (a_cons (e_var rfl (vis_of rfl)) a_nil)))))))))
 (s_one (s_ret (e_move rfl (vis_of rfl))))))
theorem b69 : Binds K (fd 69) ["bill"] [] := h.d69.bindsN fun _ _ _ _ _ _ us hl => match us, hl with | [_], _ => rfl
/- check_bill -/
abbrev N70 : List Str := ["value"]
omit h in
theorem sc70 : FnScope N70 ["value"] (defScope st70) := ⟨rfl, rfl, rfl, by decide +kernel, rfl, by decide +kernel, by decide +kernel⟩
theorem ok70 : FnOk P w K mg base (L2.CX P w) 1 (fa 70) (fd 70) ["value"] (spF (Gm K ca) 1 F_check_bill) := fn_ok h.d70 sc70 rfl fun cdv A outer s H E hr =>
 (s_one (s_if (t_not (t_val (e_isi rfl rfl h.fr_isinstance (pe_glob (v := .ref (ca 3)) rfl h.gc_Bill rfl) (.own _) (fun _ _ e => isiC_ok h.insF h.isC_Bill e) (e_var rfl (vis_of rfl))))) (s_one s_stuck) s_nil))
theorem b70 : Binds K (fd 70) ["value"] [] := h.d70.bindsN fun _ _ _ _ _ _ us hl => match us, hl with | [_], _ => rfl
/- sets_of -/
abbrev N74 : List Str := ["bill", "names", "found", "layer", "later", "some", "begin", "name"]
omit h in
theorem sc74 : FnScope N74 ["bill"] (defScope st74) := ⟨rfl, rfl, rfl, by decide +kernel, rfl, by decide +kernel, by decide +kernel⟩
theorem ok74 : FnOk P w K mg base (L2.CX P w) 3 (fa 74) (fd 74) ["bill"] (spF (Gm K ca) 1 F_sets_of) := fn_ok h.d74 sc74 rfl fun cdv A outer s H E hr =>
 (s_cons (s_par2 rfl sc74.nd rfl rfl (by decide) rfl rfl (a_cons (e_cb (pe_callTy (call_listD rfl) rfl h.fr_list (by first | rfl | (with_unfolding_all rfl)) (a_cons (e_sfld rfl h.cl_Bill h.na_Bill_rows rfl rfl (vis_of rfl)) a_nil)) cb_listD) (a_cons (e_lst (a_cons (e_tup a_nil) a_nil)) a_nil)) rfl)
 (s_cons (s_set sc74.nd rfl (loc_of rfl) (e_lst (a_cons (e_tup a_nil) a_nil)))
 (s_cons (s_while (fun _ => 100000) (passes_of rfl) (t_cmp (opD_deep (rcD_list (ne := true) rfl ((rcD_tup rfl eqD_flat).eqD (refD_tup rfl refD_flat) tupE_refs)) (hr.mono (by decide))) (e_var rfl (vis_of rfl)) (e_lst a_nil) (nomark _)) (s_cons (s_set sc74.nd rfl (loc_of rfl) (e_lst a_nil))
 (s_cons (s_for (passes_of rfl) rfl (i_list rfl (e_var rfl (vis_of rfl))) (g_name sc74.nd rfl (loc_of rfl)) (s_cons (s_set sc74.nd rfl (loc_of rfl) (e_if (t_cmp (opD_deep (rcD_tup (ne := true) rfl eqD_flat) (hr.mono (by decide))) (e_var rfl (vis_of rfl)) (e_tup a_nil) (nomark _)) (e_bin opD_add (e_index rfl (e_var rfl (vis_of rfl)) (e_ix rfl (e_var rfl (vis_of rfl)) (e_un unD_neg e_int) (fun _ _ => rfl))) e_int) e_int))
 (s_one (s_expr (e_extend rfl (vis_of rfl) (e_lc (own := [("name", 7)]) rfl sc74.nd (i_list rfl (e_slice rfl (e_var rfl (vis_of rfl)) (o_some (e_var rfl (vis_of rfl))) o_none)) (blk_of rfl) rfl (fun _ _ _ _ _ => (gv_name sc74.nd rfl (loc_of rfl) (by decide))) (fun _ _ _ _ _ => ts_nil) (fun _ _ _ _ _ => (e_tup (a_star rfl (e_var rfl (vis_of rfl)) (a_cons (e_var rfl (vis_of rfl)) a_nil))))))))))
 (s_cons (s_expr (e_extend rfl (vis_of rfl) (e_var rfl (vis_of rfl))))
 (s_one (s_set sc74.nd rfl (loc_of rfl) (e_var rfl (vis_of rfl))))))))
 (s_one (s_ret (e_move rfl (vis_of rfl)))))))
theorem b74 : Binds K (fd 74) ["bill"] [] := h.d74.bindsN fun _ _ _ _ _ _ us hl => match us, hl with | [_], _ => rfl
/- Evidence.fields -/
/- Choice.fields -/
/- Far.fields -/
/- Evidence.__eq__ -/
/- Far.__init__ -/
abbrev N77 : List Str := ["self", "numbers", "output", "difference"]
omit h in
theorem sc77 : FnScope N77 ["self", "numbers", "output", "difference"] (defScope st77) := ⟨rfl, rfl, rfl, by decide +kernel, rfl, by decide +kernel, by decide +kernel⟩
theorem ok77 : FnOk P w K mg base (L2.CX P w) 1 (fa 77) (fd 77) ["self", "numbers", "output", "difference"] (spF (Gm K ca) 4 F_Far_init) := fn_ok h.d77 sc77 rfl fun cdv A outer s H E hr =>
 (s_cons (s_setf rfl h.cl_Far h.na_Far_numbers rfl (show 0 < (fs 5).length by decide) (show (fs 5).length < 1000 by decide) (show (fs 5).Nodup by decide) rfl (vis_of rfl) (e_var rfl (vis_of rfl)))
 (s_cons (s_setf rfl h.cl_Far h.na_Far_output rfl (show 1 < (fs 5).length by decide) (show (fs 5).length < 1000 by decide) (show (fs 5).Nodup by decide) rfl (vis_of rfl) (e_var rfl (vis_of rfl)))
 (s_one (s_setf rfl h.cl_Far h.na_Far_difference rfl (show 2 < (fs 5).length by decide) (show (fs 5).length < 1000 by decide) (show (fs 5).Nodup by decide) rfl (vis_of rfl) (e_var rfl (vis_of rfl))))))
theorem b77 : Binds K (fd 77) ["self", "numbers", "output", "difference"] [] := h.d77.bindsN fun _ _ _ _ _ _ us hl => match us, hl with | [_, _, _, _], _ => rfl
/- check_tolerance -/
abbrev N80 : List Str := ["value"]
omit h in
theorem sc80 : FnScope N80 ["value"] (defScope st80) := ⟨rfl, rfl, rfl, by decide +kernel, rfl, by decide +kernel, by decide +kernel⟩
theorem ok80 : FnOk P w K mg base (L2.CX P w) 4 (fa 80) (fd 80) ["value"] (spF (Gm K ca) 1 F_check_tolerance) := fn_ok h.d80 sc80 rfl fun cdv A outer s H E hr =>
 (s_one (s_if (L2.PW.pt (t_or (t_not (t_val (e_isi rfl rfl h.fr_isinstance (pe_glob (v := .ref (ca 0)) rfl h.gc_Amount rfl) (.own _) (fun _ _ e => isiC_ok h.insF h.isC_Amount e) (e_var rfl (vis_of rfl))))) (t_or1 (t_cmp (opD_cmpI (fun _ _ => rfl) rfl h.me_Amount_lt h.si_Amount (ok19 h) (hr.mono (by decide)) hr.units0 (b19 h) (takes_of rfl rfl rfl rfl)) (e_var rfl (vis_of rfl)) e_int (nomark _))))) (s_one (s_raise (c := 16) rfl (takes_of rfl rfl rfl rfl) h.ex_InvalidTolerance h.gc_InvalidTolerance rfl)) s_nil))
theorem b80 : Binds K (fd 80) ["value"] [] := h.d80.bindsN fun _ _ _ _ _ _ us hl => match us, hl with | [_], _ => rfl
/- check_question -/
/- differences_of -/
abbrev N82 : List Str := ["bill", "some", "numbers", "exact", "moved", "name"]
omit h in
theorem sc82 : FnScope N82 ["bill", "some", "numbers"] (defScope st82) := ⟨rfl, rfl, rfl, by decide +kernel, rfl, by decide +kernel, by decide +kernel⟩
theorem ok82 : FnOk P w K mg base (L2.CX P w) 4 (fa 82) (fd 82) ["bill", "some", "numbers"] (spF (Gm K ca) 3 F_differences_of) := fn_ok h.d82 sc82 rfl fun cdv A outer s H E hr =>
 (s_cons (s_par2C rfl (g_name sc82.nd rfl (loc_of rfl)) (g_name sc82.nd rfl (loc_of rfl)) (a_cons (e_call (ok68 h) (hr.mono (by decide)) rfl h.g_scaled_values h.d68.kp (b68 h) rfl (takes_of rfl rfl rfl rfl) (a_cons (e_var rfl (vis_of rfl)) (a_cons (e_var rfl (vis_of rfl)) (a_cons (e_tup a_nil) a_nil))) (len_cons (len_cons (len_cons len_nil)))) (a_cons (e_call (ok68 h) (hr.mono (by decide)) rfl h.g_scaled_values h.d68.kp (b68 h) rfl (takes_of rfl rfl rfl rfl) (a_cons (e_var rfl (vis_of rfl)) (a_cons (e_var rfl (vis_of rfl)) (a_cons (e_var rfl (vis_of rfl)) a_nil))) (len_cons (len_cons (len_cons len_nil)))) a_nil)))
 (s_one (s_ret (e_dc (own := [("name", 5)]) rfl sc82.nd (i_tup rfl (e_prop rfl h.cl_Bill h.pr_Bill_outputs.choose_spec (ok57 h) (hr.mono (by decide)) (b57 h) (e_var rfl (vis_of rfl)))) (blk_of rfl) rfl (fun _ _ _ _ _ => (gv_name sc82.nd rfl (loc_of rfl) (by decide))) (fun _ _ _ _ _ => ts_nil) (fun _ _ _ _ _ => (e_var rfl (vis_of rfl))) (fun _ _ _ _ _ => (e_make rfl h.mk_Amount (ok6 h) (hr.mono (by decide)) rfl h.gc_Amount (b6 h) takes0 (a_cons (e_bin opD_sub (e_dget hr.units1 (e_var rfl (vis_of rfl)) (e_var rfl (vis_of rfl)) (fun _ _ => rfl)) (e_dget hr.units1 (e_var rfl (vis_of rfl)) (e_var rfl (vis_of rfl)) (fun _ _ => rfl))) (a_cons (e_sfld rfl h.cl_Bill h.na_Bill_scale rfl rfl (vis_of rfl)) a_nil)) (len_s (len_cons (len_cons len_nil)) rfl)))))))
theorem b82 : Binds K (fd 82) ["bill", "some", "numbers"] [] := h.d82.bindsN fun _ _ _ _ _ _ us hl => match us, hl with | [_, _, _], _ => rfl
/- Far.is_correct -/
/- first_far -/
abbrev N83 : List Str := ["bill", "some", "tolerance", "numbers", "name", "difference"]
omit h in
theorem sc83 : FnScope N83 ["bill", "some", "tolerance"] (defScope st83) := ⟨rfl, rfl, rfl, by decide +kernel, rfl, by decide +kernel, by decide +kernel⟩
theorem ok83 : FnOk P w K mg base (L2.CX P w) 6 (fa 83) (fd 83) ["bill", "some", "tolerance"] (spF (Gm K ca) 3 F_first_far) := fn_ok h.d83 sc83 rfl fun cdv A outer s H E hr =>
 (s_cons (s_for (passes_of rfl) rfl (i_list rfl (e_call (ok69 h) (hr.mono (by decide)) rfl h.g_points_of h.d69.kp (b69 h) rfl (takes_of rfl rfl rfl rfl) (a_cons (e_var rfl (vis_of rfl)) a_nil) (len_cons len_nil))) (g_name sc83.nd rfl (loc_of rfl)) (s_one (s_for (passes_of rfl) rfl (i_itemsX (e_call (ok82 h) (hr.mono (by decide)) rfl h.g_differences_of h.d82.kp (b82 h) rfl (takes_of rfl rfl rfl rfl) (a_cons (e_var rfl (vis_of rfl)) (a_cons (e_var rfl (vis_of rfl)) (a_cons (e_var rfl (vis_of rfl)) a_nil))) (len_cons (len_cons (len_cons len_nil))))) (g_two rfl rfl (g_name sc83.nd rfl (loc_of rfl)) (g_name sc83.nd rfl (loc_of rfl))) (s_one (s_if (t_cmp (opD_cmp (fun _ _ => rfl) rfl h.me_Amount_gt (ok21 h) (hr.mono (by decide)) hr.units0 (b21 h) (takes_of rfl rfl rfl rfl)) (e_cb (pe_callB (call_absO rfl h.me_Amount_abs (ok17 h) (hr.mono (by decide)) (b17 h)) rfl h.fr_abs (by first | rfl | (with_unfolding_all rfl)) (a_cons (e_var rfl (vis_of rfl)) a_nil)) cb_absO) (e_var rfl (vis_of rfl)) (nomark _)) (s_one (s_ret (e_make rfl h.mk_Far (ok77 h) (hr.mono (by decide)) rfl h.gc_Far (b77 h) (takes_of rfl rfl rfl rfl) (a_cons (e_var rfl (vis_of rfl)) (a_cons (e_var rfl (vis_of rfl)) (a_cons (e_var rfl (vis_of rfl)) a_nil))) (len_s (len_cons (len_cons (len_cons len_nil))) rfl)))) s_nil)))))
 (s_one (s_ret e_non)))
theorem b83 : Binds K (fd 83) ["bill", "some", "tolerance"] [] := h.d83.bindsN fun _ _ _ _ _ _ us hl => match us, hl with | [_, _, _], _ => rfl
/- is_refuted -/
abbrev N84 : List Str := ["bill", "some", "tolerance", "doubts", "doubt", "difference"]
omit h in
theorem sc84 : FnScope N84 ["bill", "some", "tolerance", "doubts"] (defScope st84) := ⟨rfl, rfl, rfl, by decide +kernel, rfl, by decide +kernel, by decide +kernel⟩
theorem ok84 : FnOk P w K mg base (L2.CX P w) 6 (fa 84) (fd 84) ["bill", "some", "tolerance", "doubts"] (spF (Gm K ca) 4 F_is_refuted) := fn_ok h.d84 sc84 rfl fun cdv A outer s H E hr =>
 (s_cons (s_for (passes_of rfl) rfl (i_list rfl (e_var rfl (vis_of rfl))) (g_name sc84.nd rfl (loc_of rfl)) (s_one (s_if (t_val (e_cb (pe_callB (cr_any rfl) rfl h.fr_any (by first | rfl | (with_unfolding_all rfl)) (a_cons (e_lc (own := [("difference", 5)]) rfl sc84.nd (i_valsX (e_call (ok82 h) (hr.mono (by decide)) rfl h.g_differences_of h.d82.kp (b82 h) rfl (takes_of rfl rfl rfl rfl) (a_cons (e_var rfl (vis_of rfl)) (a_cons (e_var rfl (vis_of rfl)) (a_cons (e_var rfl (vis_of rfl)) a_nil))) (len_cons (len_cons (len_cons len_nil))))) (blk_of rfl) rfl (fun _ _ _ _ _ => (gv_name sc84.nd rfl (loc_of rfl) (by decide))) (fun _ _ _ _ _ => ts_nil) (fun _ _ _ _ _ => (e_cmp (opD_cmp (fun _ _ => rfl) rfl h.me_Amount_gt (ok21 h) (hr.mono (by decide)) hr.units0 (b21 h) takes0) (e_cb (pe_callB (call_absO rfl h.me_Amount_abs (ok17 h) (hr.mono (by decide)) (b17 h)) rfl h.fr_abs (by first | rfl | (with_unfolding_all rfl)) (a_cons (e_var rfl (vis_of rfl)) a_nil)) cb_absO) (e_var rfl (vis_of rfl)) (nomark _)))) a_nil)) (cb_any rfl))) (s_one (s_ret e_bl)) s_nil)))
 (s_one (s_ret e_bl)))
theorem b84 : Binds K (fd 84) ["bill", "some", "tolerance", "doubts"] [] := h.d84.bindsN fun _ _ _ _ _ _ us hl => match us, hl with | [_, _, _, _], _ => rfl
/- is_within -/
abbrev N85 : List Str := ["one", "other", "name"]
omit h in
theorem sc85 : FnScope N85 ["one", "other"] (defScope st85) := ⟨rfl, rfl, rfl, by decide +kernel, rfl, by decide +kernel, by decide +kernel⟩
theorem ok85 : FnOk P w K mg base (L2.CX P w) 1 (fa 85) (fd 85) ["one", "other"] (spF (Gm K ca) 2 F_is_within) := fn_ok h.d85 sc85 rfl fun cdv A outer s H E hr =>
 (s_one (s_ret (e_cb (pe_callB (cr_all rfl) rfl h.fr_all (by first | rfl | (with_unfolding_all rfl)) (a_cons (e_lc (own := [("name", 2)]) rfl sc85.nd (i_tup rfl (e_var rfl (vis_of rfl))) (blk_of rfl) rfl (fun _ _ _ _ _ => (gv_name sc85.nd rfl (loc_of rfl) (by decide))) (fun _ _ _ _ _ => ts_nil) (fun _ _ _ _ _ => (e_cmp (opD_in rfl) (e_var rfl (vis_of rfl)) (e_var rfl (vis_of rfl)) (by with_unfolding_all rfl)))) a_nil)) (cb_all rfl))))
theorem b85 : Binds K (fd 85) ["one", "other"] [] := h.d85.bindsN fun _ _ _ _ _ _ us hl => match us, hl with | [_, _], _ => rfl
/- Choice.__init__ -/
abbrev N86 : List Str := ["self", "found", "doubts"]
omit h in
theorem sc86 : FnScope N86 ["self", "found", "doubts"] (defScope st86) := ⟨rfl, rfl, rfl, by decide +kernel, rfl, by decide +kernel, by decide +kernel⟩
theorem ok86 : FnOk P w K mg base (L2.CX P w) 1 (fa 86) (fd 86) ["self", "found", "doubts"] (spF (Gm K ca) 3 F_Choice_init) := fn_ok h.d86 sc86 rfl fun cdv A outer s H E hr =>
 (s_cons (s_setf rfl h.cl_Choice h.na_Choice_found rfl (show 0 < (fs 6).length by decide) (show (fs 6).length < 1000 by decide) (show (fs 6).Nodup by decide) rfl (vis_of rfl) (e_var rfl (vis_of rfl)))
 (s_one (s_setf rfl h.cl_Choice h.na_Choice_doubts rfl (show 1 < (fs 6).length by decide) (show (fs 6).length < 1000 by decide) (show (fs 6).Nodup by decide) rfl (vis_of rfl) (e_cb (pe_callTy call_list_of rfl h.fr_list (by first | rfl | (with_unfolding_all rfl)) (a_cons (e_var rfl (vis_of rfl)) a_nil)) (cb_lst rfl)))))
theorem b86 : Binds K (fd 86) ["self", "found", "doubts"] [] := h.d86.bindsN fun _ _ _ _ _ _ us hl => match us, hl with | [_, _, _], _ => rfl
/- check_prices -/
abbrev N89 : List Str := ["bill", "prices", "name"]
omit h in
theorem sc89 : FnScope N89 ["bill", "prices"] (defScope st89) := ⟨rfl, rfl, rfl, by decide +kernel, rfl, by decide +kernel, by decide +kernel⟩
theorem ok89 : FnOk P w K mg base (L2.CX P w) 3 (fa 89) (fd 89) ["bill", "prices"] (spF (Gm K ca) 2 F_check_prices) := fn_ok h.d89 sc89 rfl fun cdv A outer s H E hr =>
 (s_cons (s_if (L2.PW.pt (t_or (t_not (t_val (e_isi rfl rfl h.fr_isinstance (pe_bltn (v := .ty "dict") (u := .type "dict") rfl h.fr_dict (by first | rfl | (with_unfolding_all rfl)) rfl) (.ty "dict") (fun _ _ e => isiP_ok (bt := .dict) h.insF e) (e_var rfl (vis_of rfl))))) (t_or1 (t_cmp opD_neF (e_cb (pe_callB call_lenR rfl h.fr_len (by first | rfl | (with_unfolding_all rfl)) (a_cons (e_var rfl (vis_of rfl)) a_nil)) cb_lenD) (e_cb (pe_callB (call_lenO rfl h.me_Bill_len (ok59 h) (hr.mono (by decide)) (b59 h)) rfl h.fr_len (by first | rfl | (with_unfolding_all rfl)) (a_cons (e_var rfl (vis_of rfl)) a_nil)) cb_lenO) (nomark _))))) (s_one (s_raise (c := 18) rfl (takes_of rfl rfl rfl rfl) h.ex_InvalidPrices h.gc_InvalidPrices rfl)) s_nil)
 (s_one (s_for (passes_of rfl) rfl (i_list rfl (e_prop rfl h.cl_Bill h.pr_Bill_names.choose_spec (ok56 h) (hr.mono (by decide)) (b56 h) (e_var rfl (vis_of rfl)))) (g_name sc89.nd rfl (loc_of rfl)) (s_one (s_if (L2.PW.pt (t_or (t_dnotin hr.units1 (e_var rfl (vis_of rfl)) (e_var rfl (vis_of rfl)) (by with_unfolding_all rfl)) (t_or1 (t_not (t_val (e_call (ok2 h) (hr.mono (by decide)) rfl h.g_is_integer h.d2.kp (b2 h) rfl (takes_of rfl rfl rfl rfl) (a_cons (e_dget hr.units1 (e_var rfl (vis_of rfl)) (e_var rfl (vis_of rfl)) (fun _ _ => rfl)) (a_cons e_int (a_cons (e_gint rfl h.gi_MAX_PRICE) a_nil))) (len_cons (len_cons (len_cons len_nil))))))))) (s_one (s_raise (c := 18) rfl (takes_of rfl rfl rfl rfl) h.ex_InvalidPrices h.gc_InvalidPrices rfl)) s_nil)))))
theorem b89 : Binds K (fd 89) ["bill", "prices"] [] := h.d89.bindsN fun _ _ _ _ _ _ us hl => match us, hl with | [_, _], _ => rfl
/- check_asked -/
abbrev N90 : List Str := ["bill", "some", "tolerance", "prices"]
omit h in
theorem sc90 : FnScope N90 ["bill", "some", "tolerance", "prices"] (defScope st90) := ⟨rfl, rfl, rfl, by decide +kernel, rfl, by decide +kernel, by decide +kernel⟩
theorem ok90 : FnOk P w K mg base (L2.CX P w) 5 (fa 90) (fd 90) ["bill", "some", "tolerance", "prices"] (spF (Gm K ca) 4 F_check_asked) := fn_ok h.d90 sc90 rfl fun cdv A outer s H E hr =>
 (s_cons (s_expr (e_call (ok70 h) (hr.mono (by decide)) rfl h.g_check_bill h.d70.kp (b70 h) rfl (takes_of rfl rfl rfl rfl) (a_cons (e_var rfl (vis_of rfl)) a_nil) (len_cons len_nil)))
 (s_cons (s_expr (e_call (ok73 h) (hr.mono (by decide)) rfl h.g_check_set h.d73.kp (b73 h) rfl (takes_of rfl rfl rfl rfl) (a_cons (e_var rfl (vis_of rfl)) (a_cons (e_var rfl (vis_of rfl)) a_nil)) (len_cons (len_cons len_nil))))
 (s_cons (s_expr (e_call (ok80 h) (hr.mono (by decide)) rfl h.g_check_tolerance h.d80.kp (b80 h) rfl (takes_of rfl rfl rfl rfl) (a_cons (e_var rfl (vis_of rfl)) a_nil) (len_cons len_nil)))
 (s_cons (s_expr (e_call (ok89 h) (hr.mono (by decide)) rfl h.g_check_prices h.d89.kp (b89 h) rfl (takes_of rfl rfl rfl rfl) (a_cons (e_var rfl (vis_of rfl)) (a_cons (e_var rfl (vis_of rfl)) a_nil)) (len_cons (len_cons len_nil))))
 (s_one (s_expr (e_call (ok69 h) (hr.mono (by decide)) rfl h.g_points_of h.d69.kp (b69 h) rfl (takes_of rfl rfl rfl rfl) (a_cons (e_var rfl (vis_of rfl)) a_nil) (len_cons len_nil))))))))
theorem b90 : Binds K (fd 90) ["bill", "some", "tolerance", "prices"] [] := h.d90.bindsN fun _ _ _ _ _ _ us hl => match us, hl with | [_, _, _, _], _ => rfl
/- cost_of -/
abbrev N91 : List Str := ["some", "prices", "name"]
omit h in
theorem sc91 : FnScope N91 ["some", "prices"] (defScope st91) := ⟨rfl, rfl, rfl, by decide +kernel, rfl, by decide +kernel, by decide +kernel⟩
theorem ok91 : FnOk P w K mg base (L2.CX P w) 1 (fa 91) (fd 91) ["some", "prices"] (spF (Gm K ca) 2 F_cost_of) := fn_ok h.d91 sc91 rfl fun cdv A outer s H E hr =>
 (s_one (s_ret (e_cb (pe_callB (cr_sum rfl) rfl h.fr_sum (by first | rfl | (with_unfolding_all rfl)) (a_cons (e_lc (own := [("name", 2)]) rfl sc91.nd (i_tup rfl (e_var rfl (vis_of rfl))) (blk_of rfl) rfl (fun _ _ _ _ _ => (gv_name sc91.nd rfl (loc_of rfl) (by decide))) (fun _ _ _ _ _ => ts_nil) (fun _ _ _ _ _ => (e_dget hr.units1 (e_var rfl (vis_of rfl)) (e_var rfl (vis_of rfl)) (fun _ _ => rfl)))) a_nil)) (cb_sum rfl))))
theorem b91 : Binds K (fd 91) ["some", "prices"] [] := h.d91.bindsN fun _ _ _ _ _ _ us hl => match us, hl with | [_, _], _ => rfl
/- ranked -/
abbrev N92 : List Str := ["bill", "some", "prices", "rows", "total", "one", "row"]
omit h in
theorem sc92 : FnScope N92 ["bill", "some", "prices"] (defScope st92) := ⟨rfl, rfl, rfl, by decide +kernel, rfl, by decide +kernel, by decide +kernel⟩
theorem ok92 : FnOk P w K mg base (L2.CX P w) 4 (fa 92) (fd 92) ["bill", "some", "prices"] (spF (Gm K ca) 3 F_ranked) := fn_ok h.d92 sc92 rfl fun cdv A outer s H E hr =>
 (pss_nest (iRows := 3) (iOne := 5) (iRow := 6) (it := 4) (by decide) (by decide) (by decide) (by decide) rfl
 (ps_setLc (own := [("total", 4)]) rfl sc92.nd rfl rfl rfl (pi_range1 rfl h.fr_range (a_cons (e_bin opD_add (e_bin opD_mul (e_gint rfl h.gi_MAX_PRICE) (e_cb (pe_callB (call_lenO rfl h.me_Bill_len (ok59 h) (hr.mono (by decide)) (b59 h)) rfl h.fr_len (by first | rfl | (with_unfolding_all rfl)) (a_cons (e_var rfl (vis_of rfl)) a_nil)) cb_lenO)) e_int) a_nil)) (blk_of rfl) (fun _ _ _ _ _ => pg_name sc92.nd rfl (loc_of rfl)) (fun _ _ _ _ _ => pts_nil) (fun _ _ _ _ _ => pe_lst pa_nil))
 (ps_for (passes_of rfl) rfl (pi_list (e_call (ok74 h) (hr.mono (by decide)) rfl h.g_sets_of h.d74.kp (b74 h) rfl (takes_of rfl rfl rfl rfl) (a_cons (e_var rfl (vis_of rfl)) a_nil) (len_cons len_nil))) (pg_name sc92.nd rfl (loc_of rfl)) (pss_cons (ps_if (t_val (e_call (ok85 h) (hr.mono (by decide)) rfl h.g_is_within h.d85.kp (b85 h) rfl (takes_of rfl rfl rfl rfl) (a_cons (e_var rfl (vis_of rfl)) (a_cons (e_var rfl (vis_of rfl)) a_nil)) (len_cons (len_cons len_nil)))) (pss_cons (ps_set sc92.nd rfl (loc_of rfl) (pe_ix ix_list (pe_var rfl (vis_of rfl)) (e_call (ok91 h) (hr.mono (by decide)) rfl h.g_cost_of h.d91.kp (b91 h) rfl (takes_of rfl rfl rfl rfl) (a_cons (e_var rfl (vis_of rfl)) (a_cons (e_var rfl (vis_of rfl)) a_nil)) (len_cons (len_cons len_nil))) (fun _ _ => rfl))) (pss_cons (ps_expr (pe_bm PySem.F.plainAttrs_list PySem.F.slot_list_append PySem.F.type_list_append mt_append (pe_var rfl (vis_of rfl)) (pa_cons (pe_var rfl (vis_of rfl)) pa_nil))) pss_nil)) pss_nil) pss_nil))
 (s_one (s_ret (e_lc2 (own := [("total", 4), ("row", 6), ("one", 5)]) rfl sc92.nd (i_enum rfl rfl h.fr_enumerate (a_cons (e_var rfl (vis_of rfl)) a_nil)) (blk_of rfl) rfl (by decide) (fun _ _ _ _ _ => (gv_two rfl rfl (gv_name sc92.nd rfl (loc_of rfl) (by decide)) (gv_name sc92.nd rfl (loc_of rfl) (by decide)))) (fun _ _ _ _ _ => ts_nil) (fun _ _ _ _ _ => (i_list rfl (e_var rfl (vis_of rfl)))) (fun _ _ _ _ _ => (gv_name sc92.nd rfl (loc_of rfl) (by decide))) (fun _ _ _ _ _ => ts_nil) (fun _ _ _ _ _ => (e_tup (a_cons (e_var rfl (vis_of rfl)) (a_cons (e_var rfl (vis_of rfl)) a_nil))))))))
theorem b92 : Binds K (fd 92) ["bill", "some", "prices"] [] := h.d92.bindsN fun _ _ _ _ _ _ us hl => match us, hl with | [_, _, _], _ => rfl
/- chosen -/
abbrev N93 : List Str := ["bill", "some", "tolerance", "prices", "doubts", "total", "larger", "far"]
omit h in
theorem sc93 : FnScope N93 ["bill", "some", "tolerance", "prices"] (defScope st93) := ⟨rfl, rfl, rfl, by decide +kernel, rfl, by decide +kernel, by decide +kernel⟩
theorem ok93 : FnOk P w K mg base (L2.CX P w) 7 (fa 93) (fd 93) ["bill", "some", "tolerance", "prices"] (spF (Gm K ca) 4 F_chosen) := fn_ok h.d93 sc93 rfl fun cdv A outer s H E hr =>
 (s_cons (s_set sc93.nd rfl (loc_of rfl) (e_lst a_nil))
 (s_cons (s_for (passes_of rfl) rfl (i_list rfl (e_call (ok92 h) (hr.mono (by decide)) rfl h.g_ranked h.d92.kp (b92 h) rfl (takes_of rfl rfl rfl rfl) (a_cons (e_var rfl (vis_of rfl)) (a_cons (e_var rfl (vis_of rfl)) (a_cons (e_var rfl (vis_of rfl)) a_nil))) (len_cons (len_cons (len_cons len_nil))))) (g_two rfl rfl (g_name sc93.nd rfl (loc_of rfl)) (g_name sc93.nd rfl (loc_of rfl))) (s_cons (s_if (t_bor [4] (t_val (e_call (ok84 h) (hr.mono (by decide)) rfl h.g_is_refuted h.d84.kp (b84 h) rfl (takes_of rfl rfl rfl rfl) (a_cons (e_var rfl (vis_of rfl)) (a_cons (e_var rfl (vis_of rfl)) (a_cons (e_var rfl (vis_of rfl)) (a_cons (e_var rfl (vis_of rfl)) a_nil)))) (len_cons (len_cons (len_cons (len_cons len_nil))))))) (s_one s_cont) s_nil)
 (s_cons (s_set sc93.nd rfl (loc_of rfl) (e_call (ok83 h) (hr.mono (by decide)) rfl h.g_first_far h.d83.kp (b83 h) rfl (takes_of rfl rfl rfl rfl) (a_cons (e_var rfl (vis_of rfl)) (a_cons (e_var rfl (vis_of rfl)) (a_cons (e_var rfl (vis_of rfl)) a_nil))) (len_cons (len_cons (len_cons len_nil)))))
 (s_cons (s_if (t_cmp opD_isN (e_var rfl (vis_of rfl)) e_non (nomark _)) (s_one (s_ret (e_make rfl h.mk_Choice (ok86 h) (hr.mono (by decide)) rfl h.gc_Choice (b86 h) (takes_of rfl rfl rfl rfl) (a_cons (e_var rfl (vis_of rfl)) (a_cons (e_var rfl (vis_of rfl)) a_nil)) (len_s (len_cons (len_cons len_nil)) rfl)))) s_nil)
 (s_one (s_expr (e_append rfl (vis_of rfl) (e_sfld rfl h.cl_Far h.na_Far_numbers rfl rfl (vis_of rfl)))))))))
 (s_one (s_ret (e_make rfl h.mk_Choice (ok86 h) (hr.mono (by decide)) rfl h.gc_Choice (b86 h) (takes_of rfl rfl rfl rfl) (a_cons e_non (a_cons (e_var rfl (vis_of rfl)) a_nil)) (len_s (len_cons (len_cons len_nil)) rfl))))))
theorem b93 : Binds K (fd 93) ["bill", "some", "tolerance", "prices"] [] := h.d93.bindsN fun _ _ _ _ _ _ us hl => match us, hl with | [_, _, _, _], _ => rfl
/- Choice.is_correct -/
abbrev N88 : List Str := ["self", "bill", "some", "tolerance", "prices", "best", "doubt", "total", "larger"]
omit h in
theorem sc88 : FnScope N88 ["self", "bill", "some", "tolerance", "prices"] (defScope st88) := ⟨rfl, rfl, rfl, by decide +kernel, rfl, by decide +kernel, by decide +kernel⟩
theorem ok88 : FnOk P w K mg base (L2.CX P w) 8 (fa 88) (fd 88) ["self", "bill", "some", "tolerance", "prices"] (spF (Gm K ca) 5 F_Choice_is_correct) := fn_ok h.d88 sc88 rfl fun cdv A outer s H E hr =>
 (s_cons (s_expr (e_call (ok90 h) (hr.mono (by decide)) rfl h.g_check_asked h.d90.kp (b90 h) rfl (takes_of rfl rfl rfl rfl) (a_cons (e_var rfl (vis_of rfl)) (a_cons (e_var rfl (vis_of rfl)) (a_cons (e_var rfl (vis_of rfl)) (a_cons (e_var rfl (vis_of rfl)) a_nil)))) (len_cons (len_cons (len_cons (len_cons len_nil))))))
 (s_cons (s_set sc88.nd rfl (loc_of rfl) (e_fld rfl h.cl_Choice h.na_Choice_found rfl (e_call (ok93 h) (hr.mono (by decide)) rfl h.g_chosen h.d93.kp (b93 h) rfl (takes_of rfl rfl rfl rfl) (a_cons (e_var rfl (vis_of rfl)) (a_cons (e_var rfl (vis_of rfl)) (a_cons (e_var rfl (vis_of rfl)) (a_cons (e_var rfl (vis_of rfl)) a_nil)))) (len_cons (len_cons (len_cons (len_cons len_nil)))))))
 (s_cons (s_if (L2.PW.pt (t_or (t_cmp (opD_deep (RcD.alt (rcD_non rfl) (rcD_tup (ne := true) rfl eqD_flat)) (hr.mono (by decide))) (e_sfld rfl h.cl_Choice h.na_Choice_found rfl rfl (vis_of rfl)) (e_var rfl (vis_of rfl)) (nomark _)) (t_or1 (t_not (t_val (e_cb (pe_callB (cr_all rfl) rfl h.fr_all (by first | rfl | (with_unfolding_all rfl)) (a_cons (e_lc (own := [("doubt", 6)]) rfl sc88.nd (i_list rfl (e_sfld rfl h.cl_Choice h.na_Choice_doubts rfl rfl (vis_of rfl))) (blk_of rfl) rfl (fun _ _ _ _ _ => (gv_name sc88.nd rfl (loc_of rfl) (by decide))) (fun _ _ _ _ _ => ts_nil) (fun _ _ _ _ _ => (e_call (ok72 h) (hr.mono (by decide)) rfl h.g_are_numbers h.d72.kp (b72 h) rfl takes0 (a_cons (e_var rfl (vis_of rfl)) (a_cons (e_var rfl (vis_of rfl)) a_nil)) (len_cons (len_cons len_nil))))) a_nil)) (cb_all rfl))))))) (s_one (s_ret e_bl)) s_nil)
 (s_cons (s_for (passes_of rfl) rfl (i_list rfl (e_call (ok92 h) (hr.mono (by decide)) rfl h.g_ranked h.d92.kp (b92 h) rfl (takes_of rfl rfl rfl rfl) (a_cons (e_var rfl (vis_of rfl)) (a_cons (e_var rfl (vis_of rfl)) (a_cons (e_var rfl (vis_of rfl)) a_nil))) (len_cons (len_cons (len_cons len_nil))))) (g_two rfl rfl (g_name sc88.nd rfl (loc_of rfl)) (g_name sc88.nd rfl (loc_of rfl))) (s_cons (s_if (L2.PW.pt (t_and (t_cmp opD_notN (e_var rfl (vis_of rfl)) e_non (nomark _)) (t_and1 (t_cmp opD_ge (e_var rfl (vis_of rfl)) (e_call (ok91 h) (hr.mono (by decide)) rfl h.g_cost_of h.d91.kp (b91 h) rfl (takes_of rfl rfl rfl rfl) (a_cons (e_var rfl (vis_of rfl)) (a_cons (e_var rfl (vis_of rfl)) a_nil)) (len_cons (len_cons len_nil))) (nomark _))))) (s_one (s_ret e_bl)) s_nil)
 (s_one (s_if (t_not (t_val (e_call (ok84 h) (hr.mono (by decide)) rfl h.g_is_refuted h.d84.kp (b84 h) rfl (takes_of rfl rfl rfl rfl) (a_cons (e_var rfl (vis_of rfl)) (a_cons (e_var rfl (vis_of rfl)) (a_cons (e_var rfl (vis_of rfl)) (a_cons (e_sfld rfl h.cl_Choice h.na_Choice_doubts rfl rfl (vis_of rfl)) a_nil)))) (len_cons (len_cons (len_cons (len_cons len_nil))))))) (s_one (s_ret e_bl)) s_nil))))
 (s_one (s_ret e_bl))))))
theorem b88 : Binds K (fd 88) ["self", "bill", "some", "tolerance", "prices"] [] := h.d88.bindsN fun _ _ _ _ _ _ us hl => match us, hl with | [_, _, _, _, _], _ => rfl
/- choose -/
abbrev N94 : List Str := ["bill", "some", "tolerance", "prices"]
omit h in
theorem sc94 : FnScope N94 ["bill", "some", "tolerance", "prices"] (defScope st94) := ⟨rfl, rfl, rfl, by decide +kernel, rfl, by decide +kernel, by decide +kernel⟩
theorem ok94 : FnOk P w K mg base (L2.CX P w) 8 (fa 94) (fd 94) ["bill", "some", "tolerance", "prices"] (spF (Gm K ca) 4 F_choose) := fn_ok h.d94 sc94 rfl fun cdv A outer s H E hr =>
 (s_cons (s_expr (e_call (ok90 h) (hr.mono (by decide)) rfl h.g_check_asked h.d90.kp (b90 h) rfl (takes_of rfl rfl rfl rfl) (a_cons (e_var rfl (vis_of rfl)) (a_cons (e_var rfl (vis_of rfl)) (a_cons (e_var rfl (vis_of rfl)) (a_cons (e_var rfl (vis_of rfl)) a_nil)))) (len_cons (len_cons (len_cons (len_cons len_nil))))))
 (s_one (s_ret (e_call (ok93 h) (hr.mono (by decide)) rfl h.g_chosen h.d93.kp (b93 h) rfl (takes_of rfl rfl rfl rfl) (a_cons (e_var rfl (vis_of rfl)) (a_cons (e_var rfl (vis_of rfl)) (a_cons (e_var rfl (vis_of rfl)) (a_cons (e_var rfl (vis_of rfl)) a_nil)))) (len_cons (len_cons (len_cons (len_cons len_nil))))))))
theorem b94 : Binds K (fd 94) ["bill", "some", "tolerance", "prices"] [] := h.d94.bindsN fun _ _ _ _ _ _ us hl => match us, hl with | [_, _, _, _], _ => rfl
/- Carry.__init__ -/
abbrev N95 : List Str := ["self", "rule"]
omit h in
theorem sc95 : FnScope N95 ["self", "rule"] (defScope st95) := ⟨rfl, rfl, rfl, by decide +kernel, rfl, by decide +kernel, by decide +kernel⟩
theorem ok95 : FnOk P w K mg base (L2.CX P w) 4 (fa 95) (fd 95) ["self", "rule"] (spF (Gm K ca) 2 F_Carry_init) := fn_ok h.d95 sc95 rfl fun cdv A outer s H E hr =>
 (s_cons (s_if (t_not (t_val (e_isi rfl rfl h.fr_isinstance (pe_glob (v := .ref (ca 2)) rfl h.gc_Rule rfl) (.own _) (fun _ _ e => isiC_ok h.insF h.isC_Rule e) (e_var rfl (vis_of rfl))))) (s_one (s_raise (c := 10) rfl (takes_of rfl rfl rfl rfl) h.ex_InvalidRule h.gc_InvalidRule rfl)) s_nil)
 (s_cons (s_setf rfl h.cl_Carry h.na_Carry_rule rfl (show 0 < (fs 7).length by decide) (show (fs 7).length < 1000 by decide) (show (fs 7).Nodup by decide) rfl (vis_of rfl) (e_var rfl (vis_of rfl)))
 (s_one (s_setf rfl h.cl_Carry h.na_Carry_left rfl (show 1 < (fs 7).length by decide) (show (fs 7).length < 1000 by decide) (show (fs 7).Nodup by decide) rfl (vis_of rfl) (mkD (bd6 h) fun _ hd hb => e_makeD rfl h.mk_Amount (ok6 h) (hr.mono (by decide)) rfl h.gc_Amount hb hd rfl (takes_of rfl rfl rfl rfl) (a_cons e_int a_nil) (len_d (len_cons len_nil) rfl))))))
theorem b95 : Binds K (fd 95) ["self", "rule"] [] := h.d95.bindsN fun _ _ _ _ _ _ us hl => match us, hl with | [_, _], _ => rfl
/- Carry.rest -/
/- Carry.__call__ -/
abbrev N97 : List Str := ["self", "amount", "total", "found"]
omit h in
theorem sc97 : FnScope N97 ["self", "amount"] (defScope st97) := ⟨rfl, rfl, rfl, by decide +kernel, rfl, by decide +kernel, by decide +kernel⟩
theorem ok97 : FnOk P w K mg base (L2.CX P w) 5 (fa 97) (fd 97) ["self", "amount"] (spF (Gm K ca) 2 F_Carry_call) := fn_ok h.d97 sc97 rfl fun cdv A outer s H E hr =>
 (s_cons (s_if (t_cmp opD_isN (e_call (ok23 h) (hr.mono (by decide)) rfl h.g_pair_of h.d23.kp (b23 h) rfl (takes_of rfl rfl rfl rfl) (a_cons (e_var rfl (vis_of rfl)) a_nil) (len_cons len_nil)) e_non (nomark _)) (s_one (s_raise (c := 9) rfl (takes_of rfl rfl rfl rfl) h.ex_InvalidAmount h.gc_InvalidAmount rfl)) s_nil)
 (s_cons (s_set sc97.nd rfl (loc_of rfl) (e_bin (opD_alt (opD_same rfl h.sf_Amount h.me_Amount_add (ok10 h) (hr.mono (by decide)) (b10 h) (takes_of rfl rfl rfl rfl)) (opD_int rfl h.sf_Amount h.me_Amount_add h.oi_Amount_Add (ok10 h) (hr.mono (by decide)) (b10 h) (takes_of rfl rfl rfl rfl))) (e_sfld rfl h.cl_Carry h.na_Carry_left rfl rfl (vis_of rfl)) (e_var rfl (vis_of rfl))))
 (s_cons (s_set sc97.nd rfl (loc_of rfl) (e_sfcall rfl h.cl_Carry h.na_Carry_rule rfl h.co_Rule (ok48 h) (hr.mono (by decide)) (b48 h) (takes_of rfl rfl rfl rfl) rfl (vis_of rfl) (a_cons (e_var rfl (vis_of rfl)) a_nil) (len_s (len_cons len_nil) rfl)))
 (s_cons (s_setf rfl h.cl_Carry h.na_Carry_left rfl (show 1 < (fs 7).length by decide) (show (fs 7).length < 1000 by decide) (show (fs 7).Nodup by decide) rfl (vis_of rfl) (e_bin (opD_same rfl h.sf_Amount h.me_Amount_sub (ok12 h) (hr.mono (by decide)) (b12 h) (takes_of rfl rfl rfl rfl)) (e_var rfl (vis_of rfl)) (e_var rfl (vis_of rfl))))
 (s_one (s_ret (e_move rfl (vis_of rfl))))))))
theorem b97 : Binds K (fd 97) ["self", "amount"] [] := h.d97.bindsN fun _ _ _ _ _ _ us hl => match us, hl with | [_, _], _ => rfl
/- Carry.reset -/
/- all_carried -/
abbrev N99 : List Str := ["rule", "amounts", "carry", "one"]
omit h in
theorem sc99 : GScope N99 ["rule", "amounts"] (defScope st99) := ⟨rfl, rfl, rfl, by decide +kernel, rfl, by decide +kernel, by decide +kernel⟩
theorem ok99 : GFe P w K mg base 6 (fa 99) (fd 99) ["rule", "amounts"] (spG2 (Gm K ca) 2 G_all_carried) := gq_ok h.d99 sc99 rfl fun cdv A outer s H E pn hr =>
 (ge_cons (gq_plain hr fun s E hr => (s_set sc99.nd rfl (loc_of rfl) (e_make rfl h.mk_Carry (ok95 h) (hr.mono (by decide)) rfl h.gc_Carry (b95 h) takes_gcx (a_cons (e_var rfl (vis_of rfl)) a_nil) (len_s (len_cons len_nil) rfl))))
 (ge_cons (gq_plain hr fun s E hr => (s_if (L2.PW.pt (t_or (t_not (t_val (e_isi2 rfl rfl h.fr_isinstance (pe_bltn (v := .ty "list") (u := .type "list") rfl h.fr_list (by first | rfl | (with_unfolding_all rfl)) rfl) (pe_bltn (v := .ty "tuple") (u := .type "tuple") rfl h.fr_tuple (by first | rfl | (with_unfolding_all rfl)) rfl) (.ty "list") (.ty "tuple") (fun _ _ e => isiP_ok (bt := .list) h.insF e) (fun _ _ e => isiP_ok (bt := .tuple) h.insF e) (e_var rfl (vis_of rfl))))) (t_or1 (t_not (t_val (e_cb (pe_callB (cr_all rfl) rfl h.fr_all (by first | rfl | (with_unfolding_all rfl)) (a_cons (e_lc (own := [("one", 3)]) rfl sc99.nd (i_list rfl (e_var rfl (vis_of rfl))) (blk_of rfl) rfl (fun _ _ _ _ _ => (gv_name sc99.nd rfl (loc_of rfl) (by decide))) (fun _ _ _ _ _ => ts_nil) (fun _ _ _ _ _ => (e_cmp opD_notN (e_call (ok23 h) (hr.mono (by decide)) rfl h.g_pair_of h.d23.kp (b23 h) rfl takes0 (a_cons (e_var rfl (vis_of rfl)) a_nil) (len_cons len_nil)) e_non (nomark _)))) a_nil)) (cb_all rfl))))))) (s_one (s_raise (c := 9) rfl takes_gcx h.ex_InvalidAmount h.gc_InvalidAmount rfl)) s_nil))
 (ge_one (gq_for rfl (i_list rfl (e_var rfl (vis_of rfl))) (fun s E => (g_name sc99.nd rfl (loc_of rfl))) (ge_one (gq_yield hr fun s E hr => (e_callN rfl h.co_Carry (ok97 h) (hr.mono (by decide)) (b97 h) takes_gcx rfl (vis_of rfl) (a_cons (e_var rfl (vis_of rfl)) a_nil) (len_s (len_cons len_nil) rfl))))))))
theorem b99 : Binds K (fd 99) ["rule", "amounts"] [] := h.d99.bindsN fun _ _ _ _ _ _ us hl => match us, hl with | [_, _], _ => rfl
/- _law_ties_right -/
abbrev N100 : List Str := ["_law_number", "_law_half", "_law_whole", "_law_steps", "_law_bill", "_law_prices", "_law_found"]
omit h in
theorem sc100 : FnScope N100 ["_law_number"] (defScope st100) := ⟨rfl, rfl, rfl, by decide +kernel, rfl, by decide +kernel, by decide +kernel⟩
theorem ok100 : FnOk P w K mg base (L2.CX P w) 9 (fa 100) (fd 100) ["_law_number"] (spF (Gm K ca) 1 F__law_ties_right) := fn_ok h.d100 sc100 rfl fun cdv A outer s H E hr =>
 (s_cons (s_set sc100.nd rfl (loc_of rfl) (e_bin (opD_int rfl h.sf_Line h.me_Line_add h.oi_Line_Add (ok32 h) (hr.mono (by decide)) (b32 h) (takes_of rfl rfl rfl rfl)) (e_bin (opD_two rfl h.sf_Line h.me_Line_mul h.ot_Line_Amount_Mult (ok36 h) (hr.mono (by decide)) (b36 h) (takes_of rfl rfl rfl rfl)) (cm_of h.cr_Line fun mc pa rd cm => e_cmeth rfl rfl h.gc_Line rd cm (ok27 h) (hr.mono (by decide)) (b27 h) (a_cons e_str a_nil) (len_s (len_cons len_nil) rfl)) (e_make rfl h.mk_Amount (ok6 h) (hr.mono (by decide)) rfl h.gc_Amount (b6 h) (takes_of rfl rfl rfl rfl) (a_cons e_int (a_cons e_int a_nil)) (len_s (len_cons (len_cons len_nil)) rfl))) (e_var rfl (vis_of rfl))))
 (s_cons (s_set sc100.nd rfl (loc_of rfl) (e_tup (a_cons (e_bin (opD_same rfl h.sf_Line h.me_Line_add (ok32 h) (hr.mono (by decide)) (b32 h) (takes_of rfl rfl rfl rfl)) (cm_of h.cr_Line fun mc pa rd cm => e_cmeth rfl rfl h.gc_Line rd cm (ok27 h) (hr.mono (by decide)) (b27 h) (a_cons e_str a_nil) (len_s (len_cons len_nil) rfl)) (cm_of h.cr_Line fun mc pa rd cm => e_cmeth rfl rfl h.gc_Line rd cm (ok27 h) (hr.mono (by decide)) (b27 h) (a_cons e_str a_nil) (len_s (len_cons len_nil) rfl))) (a_cons (e_make rfl h.mk_Rule (ok44 h) (hr.mono (by decide)) rfl h.gc_Rule (b44 h) (takes_of rfl rfl rfl rfl) (a_cons e_int (a_cons e_str a_nil)) (len_s (len_cons (len_cons len_nil)) rfl)) a_nil))))
 (s_cons (s_set sc100.nd rfl (loc_of rfl) (e_dispP (pp_cons e_str (e_tup (a_cons (e_var rfl (vis_of rfl)) (a_cons (e_make rfl h.mk_Rule (ok44 h) (hr.mono (by decide)) rfl h.gc_Rule (b44 h) (takes_of rfl rfl rfl rfl) (a_cons e_int (a_cons e_str a_nil)) (len_s (len_cons (len_cons len_nil)) rfl)) a_nil))) (pp_cons e_str (e_tup (a_cons (e_var rfl (vis_of rfl)) (a_cons (e_make rfl h.mk_Rule (ok44 h) (hr.mono (by decide)) rfl h.gc_Rule (b44 h) (takes_of rfl rfl rfl rfl) (a_cons e_int (a_cons e_str a_nil)) (len_s (len_cons (len_cons len_nil)) rfl)) a_nil))) (pp_cons e_str (e_var rfl (vis_of rfl)) pp_nil)))))
 (s_cons (s_set sc100.nd rfl (loc_of rfl) (e_make rfl h.mk_Bill (ok54 h) (hr.mono (by decide)) rfl h.gc_Bill (b54 h) (takes_of rfl rfl rfl rfl) (a_cons (e_tup (a_cons e_str a_nil)) (a_cons (e_var rfl (vis_of rfl)) (a_cons (e_tup (a_cons e_str a_nil)) a_nil))) (len_s (len_cons (len_cons (len_cons len_nil))) rfl)))
 (s_cons (s_for (passes_of rfl) rfl (i_list rfl (e_lst (a_cons (e_dispP (pp_cons e_str e_int (pp_cons e_str e_int (pp_cons e_str e_int pp_nil)))) (a_cons (e_dispP (pp_cons e_str e_int (pp_cons e_str e_int (pp_cons e_str e_int pp_nil)))) (a_cons (e_dispP (pp_cons e_str e_int (pp_cons e_str e_int (pp_cons e_str e_int pp_nil)))) a_nil))))) (g_name sc100.nd rfl (loc_of rfl)) (s_cons (s_set sc100.nd rfl (loc_of rfl) (e_call (ok94 h) (hr.mono (by decide)) rfl h.g_choose h.d94.kp (b94 h) rfl (takes_of rfl rfl rfl rfl) (a_cons (e_var rfl (vis_of rfl)) (a_cons (e_tup (a_cons e_str a_nil)) (a_cons (mkD (bd6 h) fun _ hd hb => e_makeD rfl h.mk_Amount (ok6 h) (hr.mono (by decide)) rfl h.gc_Amount hb hd rfl (takes_of rfl rfl rfl rfl) (a_cons e_int a_nil) (len_d (len_cons len_nil) rfl)) (a_cons (e_var rfl (vis_of rfl)) a_nil)))) (len_cons (len_cons (len_cons (len_cons len_nil))))))
 (s_cons (s_if (L2.PW.pt (t_or (t_cmp (opD_deep (RcD.alt (rcD_non rfl) (rcD_tup (ne := true) rfl eqD_flat)) (hr.mono (by decide))) (e_sfld rfl h.cl_Choice h.na_Choice_found rfl rfl (vis_of rfl)) (e_tup (a_cons e_str (a_cons e_str a_nil))) (nomark _)) (t_or1 (t_not (t_val (e_methN rfl h.cl_Choice h.me_Choice_is_correct rfl (ok88 h) (hr.mono (by decide)) (b88 h) (takes_of rfl rfl rfl rfl) rfl (vis_of rfl) (a_cons (e_var rfl (vis_of rfl)) (a_cons (e_tup (a_cons e_str a_nil)) (a_cons (mkD (bd6 h) fun _ hd hb => e_makeD rfl h.mk_Amount (ok6 h) (hr.mono (by decide)) rfl h.gc_Amount hb hd rfl (takes_of rfl rfl rfl rfl) (a_cons e_int a_nil) (len_d (len_cons len_nil) rfl)) (a_cons (e_var rfl (vis_of rfl)) a_nil)))) (len_s (len_cons (len_cons (len_cons (len_cons len_nil)))) rfl))))))) (s_one (s_ret e_bl)) s_nil)
 (s_cons (s_if (t_not (t_val (e_meth rfl h.cl_Choice h.me_Choice_is_correct rfl (ok88 h) (hr.mono (by decide)) (b88 h) (takes_of rfl rfl rfl rfl) (e_make rfl h.mk_Choice (ok86 h) (hr.mono (by decide)) rfl h.gc_Choice (b86 h) (takes_of rfl rfl rfl rfl) (a_cons (e_tup (a_cons e_str (a_cons e_str a_nil))) (a_cons (e_lst a_nil) a_nil)) (len_s (len_cons (len_cons len_nil)) rfl)) (a_cons (e_var rfl (vis_of rfl)) (a_cons (e_tup (a_cons e_str a_nil)) (a_cons (mkD (bd6 h) fun _ hd hb => e_makeD rfl h.mk_Amount (ok6 h) (hr.mono (by decide)) rfl h.gc_Amount hb hd rfl (takes_of rfl rfl rfl rfl) (a_cons e_int a_nil) (len_d (len_cons len_nil) rfl)) (a_cons (e_var rfl (vis_of rfl)) a_nil)))) (len_s (len_cons (len_cons (len_cons (len_cons len_nil)))) rfl)))) (s_one (s_ret e_bl)) s_nil)
 (s_cons (s_if (t_val (e_meth rfl h.cl_Choice h.me_Choice_is_correct rfl (ok88 h) (hr.mono (by decide)) (b88 h) (takes_of rfl rfl rfl rfl) (e_make rfl h.mk_Choice (ok86 h) (hr.mono (by decide)) rfl h.gc_Choice (b86 h) (takes_of rfl rfl rfl rfl) (a_cons (e_tup (a_cons e_str a_nil)) (a_cons (e_lst a_nil) a_nil)) (len_s (len_cons (len_cons len_nil)) rfl)) (a_cons (e_var rfl (vis_of rfl)) (a_cons (e_tup (a_cons e_str a_nil)) (a_cons (mkD (bd6 h) fun _ hd hb => e_makeD rfl h.mk_Amount (ok6 h) (hr.mono (by decide)) rfl h.gc_Amount hb hd rfl (takes_of rfl rfl rfl rfl) (a_cons e_int a_nil) (len_d (len_cons len_nil) rfl)) (a_cons (e_var rfl (vis_of rfl)) a_nil)))) (len_s (len_cons (len_cons (len_cons (len_cons len_nil)))) rfl))) (s_one (s_ret e_bl)) s_nil)
 (s_one (s_if (t_val (e_meth rfl h.cl_Choice h.me_Choice_is_correct rfl (ok88 h) (hr.mono (by decide)) (b88 h) (takes_of rfl rfl rfl rfl) (e_make rfl h.mk_Choice (ok86 h) (hr.mono (by decide)) rfl h.gc_Choice (b86 h) (takes_of rfl rfl rfl rfl) (a_cons (e_tup (a_cons e_str (a_cons e_str a_nil))) (a_cons (e_lst a_nil) a_nil)) (len_s (len_cons (len_cons len_nil)) rfl)) (a_cons (e_var rfl (vis_of rfl)) (a_cons (e_tup (a_cons e_str a_nil)) (a_cons (mkD (bd6 h) fun _ hd hb => e_makeD rfl h.mk_Amount (ok6 h) (hr.mono (by decide)) rfl h.gc_Amount hb hd rfl (takes_of rfl rfl rfl rfl) (a_cons e_int a_nil) (len_d (len_cons len_nil) rfl)) (a_cons (e_var rfl (vis_of rfl)) a_nil)))) (len_s (len_cons (len_cons (len_cons (len_cons len_nil)))) rfl))) (s_one (s_ret e_bl)) s_nil)))))))
 (s_cons (s_set sc100.nd rfl (loc_of rfl) (e_dispP (pp_cons e_str e_int (pp_cons e_str e_int (pp_cons e_str e_int pp_nil)))))
 (s_one (s_ret (e_not (e_meth rfl h.cl_Choice h.me_Choice_is_correct rfl (ok88 h) (hr.mono (by decide)) (b88 h) (takes_of rfl rfl rfl rfl) (e_make rfl h.mk_Choice (ok86 h) (hr.mono (by decide)) rfl h.gc_Choice (b86 h) (takes_of rfl rfl rfl rfl) (a_cons (e_tup (a_cons e_str (a_cons e_str a_nil))) (a_cons (e_lst a_nil) a_nil)) (len_s (len_cons (len_cons len_nil)) rfl)) (a_cons (e_var rfl (vis_of rfl)) (a_cons (e_tup (a_cons e_str a_nil)) (a_cons (mkD (bd6 h) fun _ hd hb => e_makeD rfl h.mk_Amount (ok6 h) (hr.mono (by decide)) rfl h.gc_Amount hb hd rfl (takes_of rfl rfl rfl rfl) (a_cons e_int a_nil) (len_d (len_cons len_nil) rfl)) (a_cons (e_var rfl (vis_of rfl)) a_nil)))) (len_s (len_cons (len_cons (len_cons (len_cons len_nil)))) rfl)))))))))))
theorem b100 : Binds K (fd 100) ["_law_number"] [] := h.d100.bindsN fun _ _ _ _ _ _ us hl => match us, hl with | [_], _ => rfl
/- _law_before -/
abbrev N101 : List Str := ["_law_rule", "_law_amounts", "_law_seen", "_law_one"]
omit h in
theorem sc101 : FnScope N101 ["_law_rule", "_law_amounts"] (defScope st101) := ⟨rfl, rfl, rfl, by decide +kernel, rfl, by decide +kernel, by decide +kernel⟩
theorem ok101 : FnOk P w K mg base (L2.CX P w) 8 (fa 101) (fd 101) ["_law_rule", "_law_amounts"] (spF (Gm K ca) 2 F__law_before) := fn_ok h.d101 sc101 rfl fun cdv A outer s H E hr =>
 (s_cons (s_set sc101.nd rfl (loc_of rfl) e_int)
 (s_cons (s_try (hits := [9]) (pass := [8, 10, 11, 12, 13, 14, 15, 16, 17, 18]) (names_own rfl h.gc_InvalidAmount) (takes_of rfl rfl rfl rfl) h.em_InvalidAmount.1 h.em_InvalidAmount.2 (fun W pn xe tk2 po2 => (s_one (s_forG tk2 po2 (ok99 h) (hr.mono (by decide)) rfl h.g_all_carried h.d99.kp (b99 h) (a_cons (e_var rfl (vis_of rfl)) (a_cons (e_var rfl (vis_of rfl)) a_nil)) (len_cons (len_cons len_nil)) sc101.nd (by decide) rfl h.ss_exc rfl rfl rfl rfl))) (fun _ _ => (s_one (s_ret (e_move rfl (vis_of rfl))))))
 (s_one (s_ret e_non))))
theorem b101 : Binds K (fd 101) ["_law_rule", "_law_amounts"] [] := h.d101.bindsN fun _ _ _ _ _ _ us hl => match us, hl with | [_, _], _ => rfl
/- law -/
abbrev N102 : List Str := ["_law_script", "_law_number", "_law_rule", "_law_some", "_law_place", "_law_bad"]
omit h in
theorem sc102 : FnScope N102 ["_law_script"] (defScope st102) := ⟨rfl, rfl, rfl, by decide +kernel, rfl, by decide +kernel, by decide +kernel⟩
theorem ok102 : FnOk P w K mg base (L2.CX P w) 10 (fa 102) (fd 102) ["_law_script"] (spF (Gm K ca) 1 F_law) := fn_ok h.d102 sc102 rfl fun cdv A outer s H E hr =>
 (s_cons (s_set sc102.nd rfl (loc_of rfl) (e_bin opD_add e_int (e_bin opD_mod (e_cb (pe_callB call_abs rfl h.fr_abs (by first | rfl | (with_unfolding_all rfl)) (a_cons (e_cb (pe_callB (cr_sum rfl) rfl h.fr_sum (by first | rfl | (with_unfolding_all rfl)) (a_cons (e_slice rfl (e_var rfl (vis_of rfl)) o_none (o_some e_int)) a_nil)) (cb_sum rfl)) a_nil)) cb_abs) e_int)))
 (s_cons (s_par2 rfl sc102.nd rfl rfl (by decide) rfl rfl (a_cons (e_make rfl h.mk_Rule (ok44 h) (hr.mono (by decide)) rfl h.gc_Rule (b44 h) (takes_of rfl rfl rfl rfl) (a_cons (e_bin opD_add e_int (e_bin opD_mod (e_var rfl (vis_of rfl)) e_int)) (a_cons e_str a_nil)) (len_s (len_cons (len_cons len_nil)) rfl)) (a_cons (e_lst (a_cons (e_make rfl h.mk_Amount (ok6 h) (hr.mono (by decide)) rfl h.gc_Amount (b6 h) (takes_of rfl rfl rfl rfl) (a_cons e_int (a_cons e_int a_nil)) (len_s (len_cons (len_cons len_nil)) rfl)) (a_cons (e_var rfl (vis_of rfl)) (a_cons (e_make rfl h.mk_Amount (ok6 h) (hr.mono (by decide)) rfl h.gc_Amount (b6 h) (takes_of rfl rfl rfl rfl) (a_cons (e_un unD_neg e_int) (a_cons e_int a_nil)) (len_s (len_cons (len_cons len_nil)) rfl)) (a_cons e_int a_nil))))) a_nil)) rfl)
 (s_cons (s_if (L2.PW.pt (t_or (t_cmp opD_notN (e_call (ok101 h) (hr.mono (by decide)) rfl h.g__law_before h.d101.kp (b101 h) rfl (takes_of rfl rfl rfl rfl) (a_cons (e_var rfl (vis_of rfl)) (a_cons (e_var rfl (vis_of rfl)) a_nil)) (len_cons (len_cons len_nil))) e_non (nomark _)) (t_or1 (t_cmp opD_notN (e_call (ok101 h) (hr.mono (by decide)) rfl h.g__law_before h.d101.kp (b101 h) rfl (takes_of rfl rfl rfl rfl) (a_cons (e_var rfl (vis_of rfl)) (a_cons (e_lst a_nil) a_nil)) (len_cons (len_cons len_nil))) e_non (nomark _))))) (s_one (s_ret e_bl)) s_nil)
 (s_cons (s_for (passes_of rfl) rfl (i_range1 rfl h.fr_range (a_cons e_int a_nil)) (g_name sc102.nd rfl (loc_of rfl)) (s_one (s_for (passes_of rfl) rfl (i_list rfl (e_lst (a_cons e_non (a_cons e_str (a_cons e_bl (a_cons (e_tup (a_cons e_int (a_cons e_int a_nil))) a_nil)))))) (g_name sc102.nd rfl (loc_of rfl)) (s_one (s_if (t_cmp opD_neF (e_call (ok101 h) (hr.mono (by decide)) rfl h.g__law_before h.d101.kp (b101 h) rfl (takes_of rfl rfl rfl rfl) (a_cons (e_var rfl (vis_of rfl)) (a_cons (e_bin opD_catL (e_bin opD_catL (e_slice rfl (e_var rfl (vis_of rfl)) o_none (o_some (e_var rfl (vis_of rfl)))) (e_lst (a_cons (e_var rfl (vis_of rfl)) a_nil))) (e_slice rfl (e_var rfl (vis_of rfl)) (o_some (e_var rfl (vis_of rfl))) o_none)) a_nil)) (len_cons (len_cons len_nil))) e_int (nomark _)) (s_one (s_ret e_bl)) s_nil)))))
 (s_one (s_ret (e_call (ok100 h) (hr.mono (by decide)) rfl h.g__law_ties_right h.d100.kp (b100 h) rfl (takes_of rfl rfl rfl rfl) (a_cons (e_var rfl (vis_of rfl)) a_nil) (len_cons len_nil))))))))
end
theorem fx {K : PySem.W.Frag} {cl fl : List Addr} {h : Heap} {mg : Str → Option Value} (c : SaysP hp K cl fl) (X : K.In h) (G : h.Ns mainGlobals mg) : Fx K mg (atL cl) (atL fl) (fun j => fdAt K (atL fl j)) where
  d0 := c.def_ 0 (d := dp0) rfl
  d1 := c.def_ 1 (d := dp1) rfl
  d2 := c.def_ 2 (d := dp2) rfl
  d3 := c.def_ 3 (d := dp3) rfl
  d4 := c.def_ 4 (d := dp4) rfl
  d5 := c.def_ 5 (d := dp5) rfl
  d6 := c.def_ 6 (d := dp6) rfl
  d7 := c.def_ 7 (d := dp7) rfl
  d8 := c.def_ 8 (d := dp8) rfl
  d9 := c.def_ 9 (d := dp9) rfl
  d10 := c.def_ 10 (d := dp10) rfl
  d11 := c.def_ 11 (d := dp11) rfl
  d12 := c.def_ 12 (d := dp12) rfl
  d13 := c.def_ 13 (d := dp13) rfl
  d14 := c.def_ 14 (d := dp14) rfl
  d15 := c.def_ 15 (d := dp15) rfl
  d16 := c.def_ 16 (d := dp16) rfl
  d17 := c.def_ 17 (d := dp17) rfl
  d18 := c.def_ 18 (d := dp18) rfl
  d19 := c.def_ 19 (d := dp19) rfl
  d20 := c.def_ 20 (d := dp20) rfl
  d21 := c.def_ 21 (d := dp21) rfl
  d22 := c.def_ 22 (d := dp22) rfl
  d23 := c.def_ 23 (d := dp23) rfl
  d24 := c.def_ 24 (d := dp24) rfl
  d25 := c.def_ 25 (d := dp25) rfl
  d26 := c.def_ 26 (d := dp26) rfl
  d27 := c.def_ 27 (d := dp27) rfl
  d28 := c.def_ 28 (d := dp28) rfl
  d29 := c.def_ 29 (d := dp29) rfl
  d30 := c.def_ 30 (d := dp30) rfl
  d31 := c.def_ 31 (d := dp31) rfl
  d32 := c.def_ 32 (d := dp32) rfl
  d33 := c.def_ 33 (d := dp33) rfl
  d34 := c.def_ 34 (d := dp34) rfl
  d35 := c.def_ 35 (d := dp35) rfl
  d36 := c.def_ 36 (d := dp36) rfl
  d37 := c.def_ 37 (d := dp37) rfl
  d38 := c.def_ 38 (d := dp38) rfl
  d39 := c.def_ 39 (d := dp39) rfl
  d40 := c.def_ 40 (d := dp40) rfl
  d41 := c.def_ 41 (d := dp41) rfl
  d42 := c.def_ 42 (d := dp42) rfl
  d43 := c.def_ 43 (d := dp43) rfl
  d44 := c.def_ 44 (d := dp44) rfl
  d45 := c.def_ 45 (d := dp45) rfl
  d46 := c.def_ 46 (d := dp46) rfl
  d47 := c.def_ 47 (d := dp47) rfl
  d48 := c.def_ 48 (d := dp48) rfl
  d49 := c.def_ 49 (d := dp49) rfl
  d50 := c.def_ 50 (d := dp50) rfl
  d51 := c.def_ 51 (d := dp51) rfl
  d52 := c.def_ 52 (d := dp52) rfl
  d53 := c.def_ 53 (d := dp53) rfl
  d54 := c.def_ 54 (d := dp54) rfl
  d55 := c.def_ 55 (d := dp55) rfl
  d56 := c.def_ 56 (d := dp56) rfl
  d57 := c.def_ 57 (d := dp57) rfl
  d58 := c.def_ 58 (d := dp58) rfl
  d59 := c.def_ 59 (d := dp59) rfl
  d60 := c.def_ 60 (d := dp60) rfl
  d61 := c.def_ 61 (d := dp61) rfl
  d62 := c.def_ 62 (d := dp62) rfl
  d63 := c.def_ 63 (d := dp63) rfl
  d64 := c.def_ 64 (d := dp64) rfl
  d65 := c.def_ 65 (d := dp65) rfl
  d66 := c.def_ 66 (d := dp66) rfl
  d67 := c.def_ 67 (d := dp67) rfl
  d68 := c.def_ 68 (d := dp68) rfl
  d69 := c.def_ 69 (d := dp69) rfl
  d70 := c.def_ 70 (d := dp70) rfl
  d71 := c.def_ 71 (d := dp71) rfl
  d72 := c.def_ 72 (d := dp72) rfl
  d73 := c.def_ 73 (d := dp73) rfl
  d74 := c.def_ 74 (d := dp74) rfl
  d75 := c.def_ 75 (d := dp75) rfl
  d76 := c.def_ 76 (d := dp76) rfl
  d77 := c.def_ 77 (d := dp77) rfl
  d78 := c.def_ 78 (d := dp78) rfl
  d79 := c.def_ 79 (d := dp79) rfl
  d80 := c.def_ 80 (d := dp80) rfl
  d81 := c.def_ 81 (d := dp81) rfl
  d82 := c.def_ 82 (d := dp82) rfl
  d83 := c.def_ 83 (d := dp83) rfl
  d84 := c.def_ 84 (d := dp84) rfl
  d85 := c.def_ 85 (d := dp85) rfl
  d86 := c.def_ 86 (d := dp86) rfl
  d87 := c.def_ 87 (d := dp87) rfl
  d88 := c.def_ 88 (d := dp88) rfl
  d89 := c.def_ 89 (d := dp89) rfl
  d90 := c.def_ 90 (d := dp90) rfl
  d91 := c.def_ 91 (d := dp91) rfl
  d92 := c.def_ 92 (d := dp92) rfl
  d93 := c.def_ 93 (d := dp93) rfl
  d94 := c.def_ 94 (d := dp94) rfl
  d95 := c.def_ 95 (d := dp95) rfl
  d96 := c.def_ 96 (d := dp96) rfl
  d97 := c.def_ 97 (d := dp97) rfl
  d98 := c.def_ 98 (d := dp98) rfl
  d99 := c.def_ 99 (d := dp99) rfl
  d100 := c.def_ 100 (d := dp100) rfl
  d101 := c.def_ 101 (d := dp101) rfl
  d102 := c.def_ 102 (d := dp102) rfl
  fr_isinstance := ck_fr X G (c.ck 0)
  fr_int := ck_fr X G (c.ck 1)
  insF := ck_inf (c.ck 2)
  fr_bool := ck_fr X G (c.ck 3)
  fr_abs := ck_fr X G (c.ck 4)
  g_divisor := ck_g X G (c.ck 5)
  g_is_whole := ck_g X G (c.ck 6)
  ex_InvalidAmount := ck_ex (c.ck 7)
  gc_InvalidAmount := ck_gc X G (c.ck 8)
  cl_Amount := ck_cl (c.ck 9)
  na_Amount_high := ck_na (c.ck 10)
  na_Amount_low := ck_na (c.ck 11)
  isC_Amount := ck_isc (c.ck 12)
  gc_Amount := ck_gc X G (c.ck 13)
  g_pair_of := ck_g X G (c.ck 14)
  mk_Amount := ck_mk (c.ck 15)
  fr_str := ck_fr X G (c.ck 16)
  fr_len := ck_fr X G (c.ck 17)
  gi_MAX_NAME := ck_gi X G (c.ck 18)
  gs_LETTERS := ck_gs X G (c.ck 19)
  fr_all := ck_fr X G (c.ck 20)
  fr_tuple := ck_fr X G (c.ck 21)
  g_is_name := ck_g X G (c.ck 22)
  g_is_term := ck_g X G (c.ck 23)
  ex_InvalidLine := ck_ex (c.ck 24)
  gc_InvalidLine := ck_gc X G (c.ck 25)
  fr_set := ck_fr X G (c.ck 26)
  fr_sorted := ck_fr X G (c.ck 27)
  g_factor_in := ck_g X G (c.ck 28)
  me_Amount_bool := ck_me (c.ck 29)
  cl_Line := ck_cl (c.ck 30)
  na_Line_parts := ck_na (c.ck 31)
  na_Line_added := ck_na (c.ck 32)
  fd6 := True.intro
  mk_Line := ck_mk (c.ck 33)
  ex_InvalidName := ck_ex (c.ck 34)
  gc_InvalidName := ck_gc X G (c.ck 35)
  isC_Line := ck_isc (c.ck 36)
  gc_Line := ck_gc X G (c.ck 37)
  me_Amount_eq := ck_me (c.ck 38)
  g_line_of := ck_g X G (c.ck 39)
  sf_Amount := ck_sf (c.ck 40)
  me_Amount_add := ck_me (c.ck 41)
  g_joined := ck_g X G (c.ck 42)
  me_Amount_sub := ck_me (c.ck 43)
  g_times := ck_g X G (c.ck 44)
  me_Amount_mul := ck_me (c.ck 45)
  oi_Amount_Mult := ck_oi (c.ck 46)
  gi_MAX_UNIT := ck_gi X G (c.ck 47)
  g_is_integer := ck_g X G (c.ck 48)
  gt_MODES := ck_gt X G (c.ck 49)
  ex_InvalidRule := ck_ex (c.ck 50)
  gc_InvalidRule := ck_gc X G (c.ck 51)
  cl_Rule := ck_cl (c.ck 52)
  na_Rule_size := ck_na (c.ck 53)
  na_Rule_word := ck_na (c.ck 54)
  isC_Rule := ck_isc (c.ck 55)
  gc_Rule := ck_gc X G (c.ck 56)
  g_rounded := ck_g X G (c.ck 57)
  gi_MAX_INPUTS := ck_gi X G (c.ck 58)
  pr_Amount_top := ck_pr (c.ck 59)
  pr_Amount_bottom := ck_pr (c.ck 60)
  gi_MAX_BOTTOM := ck_gi X G (c.ck 61)
  gi_MAX_ADDED := ck_gi X G (c.ck 62)
  pr_Line_rest := ck_pr (c.ck 63)
  g_is_small := ck_g X G (c.ck 64)
  pr_Line_terms := ck_pr (c.ck 65)
  gi_MAX_TOP := ck_gi X G (c.ck 66)
  gi_MAX_OUTPUTS := ck_gi X G (c.ck 67)
  fr_list := ck_fr X G (c.ck 68)
  g_are_inputs := ck_g X G (c.ck 69)
  fr_dict := ck_fr X G (c.ck 70)
  gi_MAX_STEPS := ck_gi X G (c.ck 71)
  g_is_step := ck_g X G (c.ck 72)
  g_are_outputs := ck_g X G (c.ck 73)
  cl_Bill := ck_cl (c.ck 74)
  na_Bill_given := ck_na (c.ck 75)
  na_Bill_rows := ck_na (c.ck 76)
  na_Bill_shown := ck_na (c.ck 77)
  g_scale_of := ck_g X G (c.ck 78)
  na_Bill_scale := ck_na (c.ck 79)
  g_periods_of := ck_g X G (c.ck 80)
  na_Bill_cycle := ck_na (c.ck 81)
  isC_Bill := ck_isc (c.ck 82)
  gc_Bill := ck_gc X G (c.ck 83)
  me_Line_eq := ck_me (c.ck 84)
  me_Rule_eq := ck_me (c.ck 85)
  g_check_numbers := ck_g X G (c.ck 86)
  g_check_set := ck_g X G (c.ck 87)
  g_scaled_values := ck_g X G (c.ck 88)
  g_multiple := ck_g X G (c.ck 89)
  g_exact_factors := ck_g X G (c.ck 90)
  me_Rule_step := ck_me (c.ck 91)
  fr_zip := ck_fr X G (c.ck 92)
  pr_Rule_mode := ck_pr (c.ck 93)
  pr_Rule_unit := ck_pr (c.ck 94)
  gi_MAX_POINTS := ck_gi X G (c.ck 95)
  ex_TooLarge := ck_ex (c.ck 96)
  gc_TooLarge := ck_gc X G (c.ck 97)
  fr_range := ck_fr X G (c.ck 98)
  g_are_numbers := ck_g X G (c.ck 99)
  ex_InvalidNumbers := ck_ex (c.ck 100)
  gc_InvalidNumbers := ck_gc X G (c.ck 101)
  ex_InvalidSet := ck_ex (c.ck 102)
  gc_InvalidSet := ck_gc X G (c.ck 103)
  isC_Evidence := ck_isc (c.ck 104)
  gc_Evidence := ck_gc X G (c.ck 105)
  cc_Choice_NAME := ck_cc (c.ck 106)
  cl_Choice := ck_cl (c.ck 107)
  cc_Evidence_NAME := ck_cc (c.ck 108)
  cl_Evidence := ck_cl (c.ck 109)
  cc_Far_NAME := ck_cc (c.ck 110)
  cl_Far := ck_cl (c.ck 111)
  pr_Choice_fields := ck_pr (c.ck 112)
  pr_Evidence_fields := ck_pr (c.ck 113)
  pr_Far_fields := ck_pr (c.ck 114)
  na_Far_numbers := ck_na (c.ck 115)
  na_Far_output := ck_na (c.ck 116)
  na_Far_difference := ck_na (c.ck 117)
  g_check_question := ck_g X G (c.ck 118)
  pr_Bill_outputs := ck_pr (c.ck 119)
  g_differences_of := ck_g X G (c.ck 120)
  me_Amount_gt := ck_me (c.ck 121)
  me_Amount_abs := ck_me (c.ck 122)
  me_Amount_lt := ck_me (c.ck 123)
  si_Amount := ck_si (c.ck 124)
  ex_InvalidTolerance := ck_ex (c.ck 125)
  gc_InvalidTolerance := ck_gc X G (c.ck 126)
  g_check_bill := ck_g X G (c.ck 127)
  g_check_tolerance := ck_g X G (c.ck 128)
  g_points_of := ck_g X G (c.ck 129)
  mk_Far := ck_mk (c.ck 130)
  gc_Far := ck_gc X G (c.ck 131)
  fr_any := ck_fr X G (c.ck 132)
  na_Choice_found := ck_na (c.ck 133)
  na_Choice_doubts := ck_na (c.ck 134)
  g_check_asked := ck_g X G (c.ck 135)
  g_chosen := ck_g X G (c.ck 136)
  g_ranked := ck_g X G (c.ck 137)
  g_cost_of := ck_g X G (c.ck 138)
  g_is_refuted := ck_g X G (c.ck 139)
  me_Bill_len := ck_me (c.ck 140)
  ex_InvalidPrices := ck_ex (c.ck 141)
  gc_InvalidPrices := ck_gc X G (c.ck 142)
  pr_Bill_names := ck_pr (c.ck 143)
  gi_MAX_PRICE := ck_gi X G (c.ck 144)
  g_check_prices := ck_g X G (c.ck 145)
  fr_sum := ck_fr X G (c.ck 146)
  g_sets_of := ck_g X G (c.ck 147)
  g_is_within := ck_g X G (c.ck 148)
  fr_enumerate := ck_fr X G (c.ck 149)
  g_first_far := ck_g X G (c.ck 150)
  mk_Choice := ck_mk (c.ck 151)
  gc_Choice := ck_gc X G (c.ck 152)
  cl_Carry := ck_cl (c.ck 153)
  na_Carry_rule := ck_na (c.ck 154)
  na_Carry_left := ck_na (c.ck 155)
  oi_Amount_Add := ck_oi (c.ck 156)
  co_Rule := ck_co (c.ck 157)
  g__wall := ck_g X G (c.ck 158)
  mk_Carry := ck_mk (c.ck 159)
  gc_Carry := ck_gc X G (c.ck 160)
  co_Carry := ck_co (c.ck 161)
  sf_Line := ck_sf (c.ck 162)
  me_Line_add := ck_me (c.ck 163)
  oi_Line_Add := ck_oi (c.ck 164)
  me_Line_mul := ck_me (c.ck 165)
  ot_Line_Amount_Mult := ck_ot (c.ck 166)
  cr_Line := ck_cr (c.ck 167)
  mk_Rule := ck_mk (c.ck 168)
  mk_Bill := ck_mk (c.ck 169)
  g_choose := ck_g X G (c.ck 170)
  me_Choice_is_correct := ck_me (c.ck 171)
  ss_exc := ck_ss (c.ck 172)
  g_all_carried := ck_g X G (c.ck 173)
  em_InvalidAmount := ck_em (c.ck 174)
  g__law_before := ck_g X G (c.ck 175)
  g__law_ties_right := ck_g X G (c.ck 176)
theorem ob_eq (s : PySem.W.SharedT) : ob s = (hookP hp).obs s.abs := obsP_eq (HandSHeadRun.getT_eq s)
theorem law_at {K : PySem.W.Frag} {cl fl : List Addr} {h : Heap} {mg : Str → Option Value} (c : SaysP hp K cl fl) (X : K.In h) (G : h.Ns mainGlobals mg) : mg "law" = some (.ref (atL fl 102)) := ck_g X G (c.ck 177)
theorem law_fn {w : World} {K : PySem.W.Frag} {cl fl : List Addr} {h : Heap} {mg : Str → Option Value} (c : SaysP hp K cl fl) (X : K.In h) (G : h.Ns mainGlobals mg) :
    (∀ (s : Shared) (u : Value), BindsTo s (fdAt K (atL fl 102)) ⟨[u], []⟩ [("_law_script", u)]) ∧ ∀ base : Heap, FnOk PySem.Challenge.pw_roundplaces_k39_promises w K mg base (L2.CX PySem.Challenge.pw_roundplaces_k39_promises w) 10 (atL fl 102) (fdAt K (atL fl 102)) ["_law_script"] (spF (Gm K (atL cl)) 1 F_law) :=
  ⟨fun s u => FunD.bindsA (ps := ["_law_script"]) (fx c X G).d102 (fun _ _ _ _ _ _ us hl => match us, hl with | [_], _ => rfl) s [u] rfl, fun base => ok102 (fx c X G)⟩
end Dl.k39
namespace Dl.k39
open PySem PySem.Spec L2 Dl
open PyProof.Rows hiding St
def S1 : FS := (cAsg (cBin (dII (fun _ _ => true) fun i j => i + j) (cD (.int 1)) (cBin (dII wMod fun i j => i.fmod j) (cCb (g1 fAbs) (cACons (cCb (g1 fSum) (cACons (cSlice (cVar 0) cNoPart (cPart (cD (.int 9)))) cANil)) cANil)) (cD (.int 40)))) (gSet 1))
def R39 : FS :=
 (cSeq (cPar2 2 3 (cACons (cMake 2 F_Rule_init (cACons (cBin (dII (fun _ _ => true) fun i j => i + j) (cD (.int 1)) (cBin (dII wMod fun i j => i.fmod j) (cVar 1) (cD (.int 9)))) (cACons (cD (.str "half")) cANil))) (cACons (cCb (wDsp fun ds => .own (.lst ds)) (cACons (cMake 0 F_Amount_init (cACons (cD (.int 1)) (cACons (cD (.int 3)) cANil))) (cACons (cVar 1) (cACons (cMake 0 F_Amount_init (cACons (cUn uNeg (cD (.int 7))) (cACons (cD (.int 2)) cANil))) (cACons (cD (.int 5)) cANil))))) cANil)))
 (cSeq (cIfS (cOrT (cTst (cBin (dNot dIsN) (cCall F__law_before (cACons (cVar 2) (cACons (cVar 3) cANil))) (cD .non))) (cTst (cBin (dNot dIsN) (cCall F__law_before (cACons (cVar 2) (cACons (cCb (wDsp fun ds => .own (.lst ds)) cANil) cANil))) (cD .non)))) (cRet (cD (.bl false))) cNil)
 (cSeq (cFor (cRange1 (cACons (cD (.int 5)) cANil)) (gSet 4) (cFor (cItS lstD (cCb (wDsp fun ds => .own (.lst ds)) (cACons (cD .non) (cACons (cD (.str "1")) (cACons (cD (.bl true)) (cACons (cCb (wDsp fun ds => .val (.tup ds)) (cACons (cD (.int 1)) (cACons (cD (.int 2)) cANil))) cANil)))))) (gSet 5) (cIfS (cTst (cBin (dNot dEqF) (cCall F__law_before (cACons (cVar 2) (cACons (cBin dCatL (cBin dCatL (cSlice (cVar 3) cNoPart (cPart (cVar 4))) (cCb (wDsp fun ds => .own (.lst ds)) (cACons (cVar 5) cANil))) (cSlice (cVar 3) (cPart (cVar 4)) cNoPart)) cANil))) (cD (.int 0)))) (cRet (cD (.bl false))) cNil)))
 (cRet (cCall F__law_ties_right (cACons (cVar 1) cANil))))))
theorem fl_eq : F_law = runF 5 (cSeq S1 R39) := rfl
def okS (r : Res (Fl × Dl.Env)) : Bool := match r with
  | .ok (.rt (.val (.bl true)), _) => true
  | _ => false
theorem intsOf_map : ∀ l : List Int, intsOf (l.map D.int) = some l
  | [] => rfl
  | i :: l => by
    show (match intsOf (l.map D.int) with | some l => some (i :: l) | none => none) = _
    rw [intsOf_map l]
theorem cut9 (ns : List Int) : ∃ l : List Int, cutD (ns.map D.int) none (some 9) = l.map D.int := by
  rw [cutD_eq]
  exact ⟨_, by rw [← List.map_drop, ← List.map_take]⟩
theorem cb_one {g : List Sl → RD} {F : FE} {w : Sl} {ρ : Dl.Env} (h : F ρ = .ok (w, ρ)) : cCb g (cACons F cANil) ρ = liftD (g [w]) ρ := by
  unfold cCb cACons
  rw [h]
  rfl
theorem bin_one {op : Sl → Sl → RD} {F F2 : FE} {w1 w2 : Sl} {ρ : Dl.Env} (h : F ρ = .ok (w1, ρ)) (h2 : F2 ρ = .ok (w2, ρ)) : cBin op F F2 ρ = liftD (op w1 w2) ρ := by
  unfold cBin
  rw [h]
  show (F2 ρ).bind _ = _
  rw [h2]
  rfl
theorem s1_ok (ns : List Int) : ∃ n : Int, 1 ≤ n ∧ n ≤ 40 ∧ S1 [.val (.frl (ns.map D.int)), .none, .none, .none, .none, .none] = .ok (.nx, [.val (.frl (ns.map D.int)), .val (.int n), .none, .none, .none, .none]) := by
  obtain ⟨l, hl⟩ := cut9 ns
  have h1 : cSlice (cVar 0) cNoPart (cPart (cD (.int 9))) [.val (.frl (ns.map D.int)), .none, .none, .none, .none, .none] = .ok (.own (.lst (l.map D.int)), [.val (.frl (ns.map D.int)), .none, .none, .none, .none, .none]) := by
    rw [← hl]; rfl
  have h2 : fSum (.lst (l.map D.int)) = .ok (.val (.int l.sum)) := by
    unfold fSum
    rw [show lstD (.val (.lst (l.map D.int))) = some (l.map D.int) from rfl]
    dsimp only
    rw [intsOf_map]
    dsimp only
    rw [okI_eq, sumI_eq]
  obtain ⟨a, ha⟩ : ∃ a : Int, fAbs (.int l.sum) = .ok (.val (.int a)) := ⟨_, okI_eq _⟩
  refine ⟨1 + a.fmod 40, ?_, ?_, ?_⟩
  · have := Int.fmod_nonneg_of_pos a (b := 40) (by omega)
    omega
  · have := Int.fmod_lt_of_pos a (b := 40) (by omega)
    omega
  · have k1 := (cb_one (g := g1 fSum) h1).trans (show liftD (fSum (.lst (l.map D.int))) _ = _ by rw [h2]; all_goals rfl)
    have k2 := (cb_one (g := g1 fAbs) k1).trans (show liftD (fAbs (.int l.sum)) _ = _ by rw [ha]; all_goals rfl)
    have k3 := bin_one (op := dII wMod fun i j => i.fmod j) k2 (F2 := cD (.int 40)) (w2 := .val (.int 40)) rfl
    have k3 := k3.trans (show liftD (okI (a.fmod 40)) ([.val (.frl (ns.map D.int)), .none, .none, .none, .none, .none] : Dl.Env) = Res.ok (Sl.val (.int (a.fmod 40)), [.val (.frl (ns.map D.int)), .none, .none, .none, .none, .none]) by rw [okI_eq]; all_goals rfl)
    have k4 := bin_one (op := dII (fun _ _ => true) fun i j => i + j) (F := cD (.int 1)) (w1 := .val (.int 1)) (ρ := [.val (.frl (ns.map D.int)), .none, .none, .none, .none, .none]) rfl k3
    have k4 := k4.trans (show liftD (okI (1 + a.fmod 40)) ([.val (.frl (ns.map D.int)), .none, .none, .none, .none, .none] : Dl.Env) = Res.ok (Sl.val (.int (1 + a.fmod 40)), [.val (.frl (ns.map D.int)), .none, .none, .none, .none, .none]) by rw [okI_eq]; all_goals rfl)
    unfold S1 cAsg
    rw [k4]
    all_goals rfl
theorem plain_of (h : ∀ (w : Sl) (n : Int), 1 ≤ n → n ≤ 40 → okS (R39 [w, .val (.int n), .none, .none, .none, .none]) = true) : ∀ ns : List Int, ns.length ≤ 63 → (∀ z ∈ ns, PySem.Builtin.Int.intBits z ≤ 1048576) → ∃ ρ, F_law [.val (.frl (ns.map D.int))] = .ok (.val (.bl true), ρ) := by
  intro ns _ _
  obtain ⟨n, n1, n2, e⟩ := s1_ok ns
  have hh := h (.val (.frl (ns.map D.int))) n n1 n2
  have e2 : ∃ ρ, R39 [.val (.frl (ns.map D.int)), .val (.int n), .none, .none, .none, .none] = .ok (.rt (.val (.bl true)), ρ) := by
    revert hh
    unfold okS
    split
    · rename_i ρ q
      exact fun _ => ⟨ρ, q⟩
    · intro z; cases z
  obtain ⟨ρ, e2⟩ := e2
  refine ⟨ρ, ?_⟩
  rw [fl_eq]
  unfold runF
  have e3 : cSeq S1 R39 [.val (.frl (ns.map D.int)), .none, .none, .none, .none, .none] = .ok (.rt (.val (.bl true)), ρ) := by
    unfold cSeq
    rw [e]
    exact e2
  rw [show ([Sl.val (.frl (ns.map D.int))] ++ List.replicate 5 Sl.none : Dl.Env) = [.val (.frl (ns.map D.int)), .none, .none, .none, .none, .none] from rfl, e3]
end Dl.k39
set_option maxHeartbeats 0
namespace Dl.k39
open PySem PySem.Spec L2 Dl
open PyProof.Rows hiding St
theorem cs39_1 (w : Sl) : okS (R39 [w, .val (.int 1), .none, .none, .none, .none]) = true := by kernel_rfl
theorem cs39_2 (w : Sl) : okS (R39 [w, .val (.int 2), .none, .none, .none, .none]) = true := by kernel_rfl
theorem cs39_3 (w : Sl) : okS (R39 [w, .val (.int 3), .none, .none, .none, .none]) = true := by kernel_rfl
theorem cs39_4 (w : Sl) : okS (R39 [w, .val (.int 4), .none, .none, .none, .none]) = true := by kernel_rfl
theorem cs39_5 (w : Sl) : okS (R39 [w, .val (.int 5), .none, .none, .none, .none]) = true := by kernel_rfl
theorem cs39_6 (w : Sl) : okS (R39 [w, .val (.int 6), .none, .none, .none, .none]) = true := by kernel_rfl
theorem cs39_7 (w : Sl) : okS (R39 [w, .val (.int 7), .none, .none, .none, .none]) = true := by kernel_rfl
theorem cs39_8 (w : Sl) : okS (R39 [w, .val (.int 8), .none, .none, .none, .none]) = true := by kernel_rfl
theorem cs39_9 (w : Sl) : okS (R39 [w, .val (.int 9), .none, .none, .none, .none]) = true := by kernel_rfl
theorem cs39_10 (w : Sl) : okS (R39 [w, .val (.int 10), .none, .none, .none, .none]) = true := by kernel_rfl
theorem cs39_11 (w : Sl) : okS (R39 [w, .val (.int 11), .none, .none, .none, .none]) = true := by kernel_rfl
theorem cs39_12 (w : Sl) : okS (R39 [w, .val (.int 12), .none, .none, .none, .none]) = true := by kernel_rfl
theorem cs39_13 (w : Sl) : okS (R39 [w, .val (.int 13), .none, .none, .none, .none]) = true := by kernel_rfl
theorem cs39_14 (w : Sl) : okS (R39 [w, .val (.int 14), .none, .none, .none, .none]) = true := by kernel_rfl
theorem cs39_15 (w : Sl) : okS (R39 [w, .val (.int 15), .none, .none, .none, .none]) = true := by kernel_rfl
theorem cs39_16 (w : Sl) : okS (R39 [w, .val (.int 16), .none, .none, .none, .none]) = true := by kernel_rfl
theorem cs39_17 (w : Sl) : okS (R39 [w, .val (.int 17), .none, .none, .none, .none]) = true := by kernel_rfl
theorem cs39_18 (w : Sl) : okS (R39 [w, .val (.int 18), .none, .none, .none, .none]) = true := by kernel_rfl
theorem cs39_19 (w : Sl) : okS (R39 [w, .val (.int 19), .none, .none, .none, .none]) = true := by kernel_rfl
theorem cs39_20 (w : Sl) : okS (R39 [w, .val (.int 20), .none, .none, .none, .none]) = true := by kernel_rfl
theorem cs39_21 (w : Sl) : okS (R39 [w, .val (.int 21), .none, .none, .none, .none]) = true := by kernel_rfl
theorem cs39_22 (w : Sl) : okS (R39 [w, .val (.int 22), .none, .none, .none, .none]) = true := by kernel_rfl
theorem cs39_23 (w : Sl) : okS (R39 [w, .val (.int 23), .none, .none, .none, .none]) = true := by kernel_rfl
theorem cs39_24 (w : Sl) : okS (R39 [w, .val (.int 24), .none, .none, .none, .none]) = true := by kernel_rfl
theorem cs39_25 (w : Sl) : okS (R39 [w, .val (.int 25), .none, .none, .none, .none]) = true := by kernel_rfl
theorem cs39_26 (w : Sl) : okS (R39 [w, .val (.int 26), .none, .none, .none, .none]) = true := by kernel_rfl
theorem cs39_27 (w : Sl) : okS (R39 [w, .val (.int 27), .none, .none, .none, .none]) = true := by kernel_rfl
theorem cs39_28 (w : Sl) : okS (R39 [w, .val (.int 28), .none, .none, .none, .none]) = true := by kernel_rfl
theorem cs39_29 (w : Sl) : okS (R39 [w, .val (.int 29), .none, .none, .none, .none]) = true := by kernel_rfl
theorem cs39_30 (w : Sl) : okS (R39 [w, .val (.int 30), .none, .none, .none, .none]) = true := by kernel_rfl
theorem cs39_31 (w : Sl) : okS (R39 [w, .val (.int 31), .none, .none, .none, .none]) = true := by kernel_rfl
theorem cs39_32 (w : Sl) : okS (R39 [w, .val (.int 32), .none, .none, .none, .none]) = true := by kernel_rfl
theorem cs39_33 (w : Sl) : okS (R39 [w, .val (.int 33), .none, .none, .none, .none]) = true := by kernel_rfl
theorem cs39_34 (w : Sl) : okS (R39 [w, .val (.int 34), .none, .none, .none, .none]) = true := by kernel_rfl
theorem cs39_35 (w : Sl) : okS (R39 [w, .val (.int 35), .none, .none, .none, .none]) = true := by kernel_rfl
theorem cs39_36 (w : Sl) : okS (R39 [w, .val (.int 36), .none, .none, .none, .none]) = true := by kernel_rfl
theorem cs39_37 (w : Sl) : okS (R39 [w, .val (.int 37), .none, .none, .none, .none]) = true := by kernel_rfl
theorem cs39_38 (w : Sl) : okS (R39 [w, .val (.int 38), .none, .none, .none, .none]) = true := by kernel_rfl
theorem cs39_39 (w : Sl) : okS (R39 [w, .val (.int 39), .none, .none, .none, .none]) = true := by kernel_rfl
theorem cs39_40 (w : Sl) : okS (R39 [w, .val (.int 40), .none, .none, .none, .none]) = true := by kernel_rfl
theorem cs39 (w : Sl) (n : Int) (h1 : 1 ≤ n) (h2 : n ≤ 40) : okS (R39 [w, .val (.int n), .none, .none, .none, .none]) = true := by
  obtain ⟨k, rfl⟩ : ∃ k : Nat, n = (1 : Int) + (k : Int) := ⟨(n - 1).toNat, by omega⟩
  have hk : k ≤ 39 := by omega
  match k, hk with
  | 0, _ => exact cs39_1 w
  | 1, _ => exact cs39_2 w
  | 2, _ => exact cs39_3 w
  | 3, _ => exact cs39_4 w
  | 4, _ => exact cs39_5 w
  | 5, _ => exact cs39_6 w
  | 6, _ => exact cs39_7 w
  | 7, _ => exact cs39_8 w
  | 8, _ => exact cs39_9 w
  | 9, _ => exact cs39_10 w
  | 10, _ => exact cs39_11 w
  | 11, _ => exact cs39_12 w
  | 12, _ => exact cs39_13 w
  | 13, _ => exact cs39_14 w
  | 14, _ => exact cs39_15 w
  | 15, _ => exact cs39_16 w
  | 16, _ => exact cs39_17 w
  | 17, _ => exact cs39_18 w
  | 18, _ => exact cs39_19 w
  | 19, _ => exact cs39_20 w
  | 20, _ => exact cs39_21 w
  | 21, _ => exact cs39_22 w
  | 22, _ => exact cs39_23 w
  | 23, _ => exact cs39_24 w
  | 24, _ => exact cs39_25 w
  | 25, _ => exact cs39_26 w
  | 26, _ => exact cs39_27 w
  | 27, _ => exact cs39_28 w
  | 28, _ => exact cs39_29 w
  | 29, _ => exact cs39_30 w
  | 30, _ => exact cs39_31 w
  | 31, _ => exact cs39_32 w
  | 32, _ => exact cs39_33 w
  | 33, _ => exact cs39_34 w
  | 34, _ => exact cs39_35 w
  | 35, _ => exact cs39_36 w
  | 36, _ => exact cs39_37 w
  | 37, _ => exact cs39_38 w
  | 38, _ => exact cs39_39 w
  | 39, _ => exact cs39_40 w
  | k + 40, h => exact absurd h (by omega)
theorem plain : ∀ ns : List Int, ns.length ≤ 63 → (∀ z ∈ ns, PySem.Builtin.Int.intBits z ≤ 1048576) → ∃ ρ, F_law [.val (.frl (ns.map D.int))] = .ok (.val (.bl true), ρ) := plain_of cs39
end Dl.k39
open PySem PySem.W PySem.Calls PyProof.Rows
set_option maxHeartbeats 0
theorem PySem.Challenge.cw_roundplaces_k39_promises_holds : PySem.Challenge.rw_roundplaces_k39_promises.Holds := by
  w_on; o_law
  refine HandSHeadRun.head_any (r := OpenLaw.row PySem.Challenge.rw_roundplaces_k39_promises) (q := view (OpenLaw.row PySem.Challenge.rw_roundplaces_k39_promises).prog [84]) (H := Dl.hookP Dl.k39.hp) (ob := Dl.k39.ob) (M := 9000) (loose := Dl.k39.loose) (d := HandSHeadRun.topDef (OpenLaw.row PySem.Challenge.rw_roundplaces_k39_promises).prog 84) (kwd := []) Dl.k39.ob_eq
    (by kernel_rfl) (fun s => by kernel_rfl) Dl.k39.run (by kernel_rfl) (by kernel_rfl) (by kernel_rfl) (by rfl) (by first | assumption | decide +kernel) (by decide +kernel) ⟨rfl, rfl, rfl, rfl, rfl, by decide +kernel⟩ ?hw ?hc
  case hw => w_witness2
  case hc =>
    have e : (HandSHeadRun.topDef (OpenLaw.row PySem.Challenge.rw_roundplaces_k39_promises).prog 84).name = ("law" : PySem.Str) := by kernel_rfl
    exact Dl.walk_ofD (l := PySem.Challenge.rw_roundplaces_k39_promises) (n := 63) (k := 10) (x := "_law_script") (hp := Dl.k39.hp) (fs := Dl.k39.fs) (Ff := Dl.k39.F_law) (j := 102) rfl (by decide) (by kernel_rfl) ⟨rfl, by decide, by decide⟩
      (fun K cl fl h mg c X G => by rw [e]; exact Dl.k39.law_at c X G) (fun w K cl fl h mg c X G => Dl.k39.law_fn c X G) Dl.k39.plain
