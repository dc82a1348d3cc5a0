import PyProof.Rows.All
import Wide.All
import OpenK.AllK
import Wide.FinOn
import HandS.ForMost
import HandS.Walk
import HandS.Exc
import HandS.ExcOwn
import HandS.TryOnly
import HandS.WordsExc
import HandS.CallSlots
import HandS.IsInst
import HandS.More
import HandS.Conv
import HandS.ExcIs
import HandS.Small
import HandS.RaiseMore
import KE.KExcIs
import HandS.Style
import HandS.NoneIn
import PyProof.ListStr
import HandS.Replace
import HandS.ExcInit
import HandS.ExcField
import PyProof.Draws
import HandS.Deep
import PyProof.EqKinds
import PyProof.ListRange
import HandS.Wide
import KE.KEqNest
import PyProof.NeKinds
import HandS.SortKw
import KE.DataMinMax
import KE.KDictList
import HandS.Sort
import HandS.SortInts
import HandS.SetFor
import HandS.Zip
import HandS.TryMany
import HandS.Iter
import PyProof.SeqIndex
import KE.LtSeq
import HandS.SetKeys
import PyProof.DictFindH
import PySem.Challenge.RW_bandscribe_k31_desks_split
import KE.KStateDown
import HandS.Head0
import HandS.Head1
import HandS.Head2
import HandS.HeadEnd
import HandS.HeadHook1
import PyProof.Rows.StrStrike
set_option Elab.async false
set_option linter.all false
set_option maxRecDepth 100000
set_option maxHeartbeats 4000000
namespace Lw
open PySem PySem.Spec PyProof.Rows L2
def top (i : Nat) : Stmt:=PySem.Challenge.pw_bandscribe_k31_desks_split.main.body.getD i (.Pass ⟨0,0,0,0⟩)
abbrev Q0 : Stmt:=inClass (top 9) 0
abbrev QV : Stmt:=top 10
abbrev Zz : Stmt:=top 11
abbrev Z0 : Stmt:=top 14
abbrev QU : Stmt:=top 15
abbrev QO : Stmt:=top 17
abbrev Qw : Stmt:=top 19
abbrev QJ : Stmt:=top 16
abbrev Q9 : Stmt:=top 18
abbrev QH : Stmt:=top 20
abbrev Z3 : Stmt:=top 12
abbrev Zi : Stmt:=top 21
abbrev QaP : Stmt:=top 22
end Lw
set_option maxHeartbeats 0
namespace Lw
open PySem PySem.Spec PyProof.Rows L2
def Qj9 (g : Addr → Option Obj) (a : Addr) : List Addr:=match g a with
 | some o => (match o.data with
  | .func fd => He.refV fd.code
  | _ => [])
 | none => []
def Qi7 (g : Addr → Option Obj) (a : Addr) : List Addr:=match g a with
 | some o => (match o.data with
  | .func fd => He.refV fd.code
  | .cls cd => cd.ns :: (match g cd.ns with
   | some m => (He.refsO m).flatMap fun b => b :: Qj9 g b
   | none => [])
  | _ => [])
 | none => []
def asX (g : Addr → Option Obj) (_n : Nat) : List Addr:=PySem.cStatics :: mainGlobals :: (match g mainGlobals with
 | some o => (He.refsO o).flatMap fun a => a :: Qi7 g a
 | none => [])
def QfF (fx : List (PySem.W.Frag → Bool)) (fn : List He.FnD) (K : PySem.W.Frag) : He.Al:=((fx.all fun f => f K) && fn.all fun d => (He.Fa.code d.at_ d.qual).ok K,fn.map fun d => He.fnObs K d.at_)
def QjA (n : Nat) (fx : List (PySem.W.Frag → Bool)) (fn : List He.FnD) : PySem.W.Hook where
 α:=He.Al
 obs:=fun s => QfF fx fn (He.frG s.heap.get? (asX s.heap.get? n))
 val:=fun _ => He.valE fn
 says:=fun _ h => ∃ K : PySem.W.Frag,K.In h ∧ QfF fx fn K = He.valE fn
 of:=fun _ _ e => ⟨_,He.frG_in,e⟩
 keeps:=fun _ _ _ ⟨K,hK,c⟩ k => ⟨K,PySem.W.Frag.In.keeps hK k,c⟩
theorem Qeh {fx : List (PySem.W.Frag → Bool)} {fn : List He.FnD} {K : PySem.W.Frag} (c : QfF fx fn K = He.valE fn) (i : Nat) {f : PySem.W.Frag → Bool} (h : fx[i]? = some f) : f K = true:=by
 have c1:=(He.ba (show ((fx.all fun f => f K) && fn.all fun d => (He.Fa.code d.at_ d.qual).ok K) = true from congrArg (fun z : He.Al => z.1) c)).1
 exact List.all_eq_true.mp c1 f (List.mem_of_getElem? h)
theorem QbU {fx : List (PySem.W.Frag → Bool)} {fn : List He.FnD} {K : PySem.W.Frag} (c : QfF fx fn K = He.valE fn) (i : Nat) {d : He.FnD} (h : fn[i]? = some d) :
  ∃ oc od osl kV doc pm an cdv ct,K.lookup (He.fAd K d.at_) = some ⟨oc,od,.func (PySem.W.fnOf d.name d.qual d.params d.body d.scope .none kV doc pm an cdv ct),osl⟩ ∧ PySem.W.codeIn K cdv d.qual = true:=by
 have c2:=(He.ba (show ((fx.all fun f => f K) && fn.all fun d => (He.Fa.code d.at_ d.qual).ok K) = true from congrArg (fun z : He.Al => z.1) c)).2
 have e : fn.map (fun d => He.fnObs K d.at_) = fn.map He.FnD.val:=congrArg (fun z : He.Al => z.2) c
 have e2 : (fn.map fun d => He.fnObs K d.at_)[i]? = (fn.map He.FnD.val)[i]?:=by rw [e]
 rw [List.getElem?_map,List.getElem?_map,h] at e2
 exact He.fn_ok (Option.some.inj e2) (List.all_eq_true.mp c2 d (List.mem_of_getElem? h))
@[reducible] def nP0 (K : PySem.W.Frag) : Prop:=(PySem.W.nsIn K mainGlobals "Sheet" = some (some (.ref (He.ga K "Sheet")))) ∧
 (PySem.W.nsIn K mainGlobals "BandError" = some (some (.ref (He.ga K "BandError")))) ∧
 (PySem.W.nsIn K mainGlobals "TooMany" = some (some (.ref (He.ga K "TooMany")))) ∧
 (PySem.W.nsIn K mainGlobals "NoPlace" = some (some (.ref (He.ga K "NoPlace")))) ∧
 (PySem.W.nsIn K mainGlobals "NoNumber" = some (some (.ref (He.ga K "NoNumber")))) ∧
 (PySem.W.nsIn K mainGlobals "NoRate" = some (some (.ref (He.ga K "NoRate")))) ∧
 (PySem.W.nsIn K mainGlobals "NoSplit" = some (some (.ref (He.ga K "NoSplit")))) ∧
 (PySem.W.nsIn K mainGlobals "Open" = some (some (.ref (He.ga K "Open")))) ∧
 (PySem.W.findIn K (.ref (He.ga K "Sheet")) "__init__" = some (some (.ref (He.ma K (He.ga K "Sheet") "__init__")))) ∧
 (PySem.W.isFn K (.ref (He.ma K (He.ga K "Sheet") "__init__")) = true) ∧
 (PySem.W.keepIn K (.ref (He.ma K (He.ga K "Sheet") "__init__")) = true) ∧
 (PySem.W.nsIn K mainGlobals "borne_by" = some (some (.ref (He.ga K "borne_by")))) ∧
 (PySem.W.keepIn K (.ref (He.ga K "borne_by")) = true) ∧
 (PySem.W.nsIn K mainGlobals "doubled" = some (some (.ref (He.ga K "doubled")))) ∧
 (PySem.W.keepIn K (.ref (He.ga K "doubled")) = true) ∧
 (PySem.W.nsIn K mainGlobals "_law_nth" = some (some (.ref (He.ga K "_law_nth")))) ∧
 (PySem.W.keepIn K (.ref (He.ga K "_law_nth")) = true) ∧
 (PySem.W.nsIn K mainGlobals "_law_mixed" = some (some (.ref (He.ga K "_law_mixed")))) ∧
 (PySem.W.keepIn K (.ref (He.ga K "_law_mixed")) = true) ∧
 (PySem.W.nsIn K mainGlobals "_law_part" = some (some (.ref (He.ga K "_law_part"))))
@[reducible] def nP1 (K : PySem.W.Frag) : Prop:=(PySem.W.keepIn K (.ref (He.ga K "_law_part")) = true) ∧
 (PySem.W.nsIn K mainGlobals "_law_is_sheet" = some (some (.ref (He.ga K "_law_is_sheet")))) ∧
 (PySem.W.keepIn K (.ref (He.ga K "_law_is_sheet")) = true) ∧
 (PySem.W.nsIn K mainGlobals "_law_sheet" = some (some (.ref (He.ga K "_law_sheet")))) ∧
 (PySem.W.keepIn K (.ref (He.ga K "_law_sheet")) = true) ∧
 (PySem.W.nsIn K mainGlobals "_law_divided" = some (some (.ref (He.ga K "_law_divided")))) ∧
 (PySem.W.keepIn K (.ref (He.ga K "_law_divided")) = true) ∧
 (PySem.W.nsIn K mainGlobals "_law_choice" = some (some (.ref (He.ga K "_law_choice")))) ∧
 (PySem.W.keepIn K (.ref (He.ga K "_law_choice")) = true) ∧
 (PySem.W.nsIn K mainGlobals "split" = some (some (.ref (He.ga K "split")))) ∧
 (PySem.W.keepIn K (.ref (He.ga K "split")) = true) ∧
 (PySem.W.nsIn K mainGlobals "_law_told" = some (some (.ref (He.ga K "_law_told")))) ∧
 (PySem.W.keepIn K (.ref (He.ga K "_law_told")) = true) ∧
 (PySem.W.nsIn K mainGlobals "law" = some (some (.ref (He.ga K "law")))) ∧
 (PySem.W.keepIn K (.ref (He.ga K "law")) = true) ∧
 (PySem.W.plainGet K (He.ga K "Sheet") Str.empty = true) ∧
 (PySem.W.hasDictIn K (He.ga K "Sheet") = true) ∧
 (PySem.W.plainOver K (He.ga K "Sheet") = true) ∧
 (PySem.W.findIn K (.ref (He.ga K "Sheet")) "__setattr__" = some (some (.builtin "object.__setattr__"))) ∧
 (PySem.W.makesIn K (He.ga K "Sheet") = true)
@[reducible] def nP2 (K : PySem.W.Frag) : Prop:=(PySem.W.keepIn K (.ref (He.ga K "Sheet")) = true) ∧
 (PySem.W.findIn K (.ref (He.ga K "Sheet")) "__class__" = some (some (.builtin "object.__class__"))) ∧
 (PySem.W.mroIn K (He.ga K "Sheet") (.type "object") = some true) ∧
 (PySem.W.findIn K (.ref (He.ga K "Sheet")) "homes" = some none) ∧
 (PySem.W.findIn K (.ref (He.ga K "Sheet")) "weights" = some none) ∧
 (PySem.W.findIn K (.ref (He.ga K "Sheet")) "lines" = some none) ∧
 (PySem.W.specialIn K (.builtin "object.__class__") "__get__" = some (some (.builtin "getset_descriptor.__get__"))) ∧
 (PySem.W.takesIn K (.builtin "object.__class__") = some true) ∧
 (PySem.W.keepIn K (.ref (He.ga K "NoSplit")) = true) ∧
 (PySem.W.excIn K (He.ga K "NoSplit") [.type "ValueError",.type "Exception",.type "BaseException",.type "object"] "ValueError.__new__" = true) ∧
 (PySem.W.subIn K (.ref (He.ga K "NoSplit")) (.type "BaseException") = some true) ∧
 (PySem.W.typeIn K (.ref (He.ga K "NoSplit")) = some (.type "type")) ∧
 (PySem.W.findIn K (.ref (He.ga K "NoSplit")) "__getattribute__" = some (some (.builtin "BaseException.__getattribute__"))) ∧
 (PySem.W.findIn K (.ref (He.ga K "NoSplit")) "__getattr__" = some none) ∧
 (PySem.W.hasDictIn K (He.ga K "NoSplit") = true) ∧
 (PySem.W.findIn K (.ref (He.ga K "NoSplit")) "__class__" = some (some (.builtin "object.__class__"))) ∧
 (PySem.W.mroIn K (He.ga K "NoSplit") (.type "object") = some true) ∧
 (PySem.W.subIn K (.ref (He.ga K "BandError")) (.type "BaseException") = some true) ∧
 (PySem.W.hasDictIn K (He.ga K "BandError") = true) ∧
 (PySem.W.typeIn K (.ref (He.ga K "BandError")) = some (.type "type"))
@[reducible] def nP3 (K : PySem.W.Frag) : Prop:=(PySem.W.subIn K (.ref (He.ga K "NoSplit")) (.ref (He.ga K "BandError")) = some true) ∧
 (PySem.W.kitOne K (.type "NoneType") (.ref (He.ga K "NoNumber")) = some false) ∧
 (PySem.W.kitOne K (.ref (He.ga K "NoSplit")) (.ref (He.ga K "NoNumber")) = some false) ∧
 (PySem.W.kitOne K (.type "NoneType") (.ref (He.ga K "NoPlace")) = some false) ∧
 (PySem.W.kitOne K (.ref (He.ga K "NoSplit")) (.ref (He.ga K "NoPlace")) = some false) ∧
 (PySem.W.kitOne K (.type "NoneType") (.ref (He.ga K "NoRate")) = some false) ∧
 (PySem.W.kitOne K (.ref (He.ga K "NoSplit")) (.ref (He.ga K "NoRate")) = some false) ∧
 (PySem.W.kitOne K (.type "NoneType") (.ref (He.ga K "NoSplit")) = some false) ∧
 (PySem.W.kitOne K (.ref (He.ga K "NoSplit")) (.ref (He.ga K "NoSplit")) = some true) ∧
 (PySem.W.kitOne K (.type "NoneType") (.ref (He.ga K "Open")) = some false) ∧
 (PySem.W.kitOne K (.ref (He.ga K "NoSplit")) (.ref (He.ga K "Open")) = some false) ∧
 (PySem.W.kitOne K (.ref (He.ga K "Sheet")) (.ref (He.ga K "Sheet")) = some true) ∧
 (PySem.W.kitOne K (.type "NoneType") (.ref (He.ga K "TooMany")) = some false) ∧
 (PySem.W.kitOne K (.ref (He.ga K "NoSplit")) (.ref (He.ga K "TooMany")) = some false) ∧
 (PySem.W.kitOne K (.ref (He.ga K "NoSplit")) (.type "ValueError") = some true) ∧
 (PySem.W.kitOne K (.ref (He.ga K "NoSplit")) (.type "bool") = some false) ∧
 (PySem.W.kitOne K (.ref (He.ga K "NoSplit")) (.type "int") = some false) ∧
 (PySem.W.kitOne K (.ref (He.ga K "NoSplit")) (.type "list") = some false) ∧
 (PySem.W.nsIn K mainGlobals "ValueError" = some none) ∧
 (PySem.W.nsIn K mainGlobals "abs" = some none)
@[reducible] def nP4 (K : PySem.W.Frag) : Prop:=(PySem.W.nsIn K mainGlobals "all" = some none) ∧
 (PySem.W.nsIn K mainGlobals "any" = some none) ∧
 (PySem.W.nsIn K mainGlobals "bool" = some none) ∧
 (PySem.W.nsIn K mainGlobals "int" = some none) ∧
 (PySem.W.nsIn K mainGlobals "isinstance" = some none) ∧
 (PySem.W.nsIn K mainGlobals "len" = some none) ∧
 (PySem.W.nsIn K mainGlobals "list" = some none) ∧
 (PySem.W.nsIn K mainGlobals "range" = some none) ∧
 (PySem.W.nsIn K mainGlobals "sum" = some none)
def QjB : List (PySem.W.Frag → Bool):=[fun K => decide (nP0 K)]
def QjC : List (PySem.W.Frag → Bool):=[fun K => decide (nP1 K),fun K => decide (nP2 K)]
def QjD : List (PySem.W.Frag → Bool):=[fun K => decide (nP3 K),fun K => decide (nP4 K)]
abbrev nFx : List (PySem.W.Frag → Bool):=QjB ++ (QjC ++ (QjD))
def nD0 : He.FnD:=⟨("Sheet",some "__init__"), "__init__", "Sheet.__init__",L2.defArgs Q0,L2.defBody Q0,L2.defScope Q0⟩
def nD1 : He.FnD:=⟨("borne_by",none), "borne_by", "borne_by",L2.defArgs QV,L2.defBody QV,L2.defScope QV⟩
def nD2 : He.FnD:=⟨("doubled",none), "doubled", "doubled",L2.defArgs Zz,L2.defBody Zz,L2.defScope Zz⟩
def nD3 : He.FnD:=⟨("_law_nth",none), "_law_nth", "_law_nth",L2.defArgs Z0,L2.defBody Z0,L2.defScope Z0⟩
def nD4 : He.FnD:=⟨("_law_mixed",none), "_law_mixed", "_law_mixed",L2.defArgs QU,L2.defBody QU,L2.defScope QU⟩
def nD5 : He.FnD:=⟨("_law_part",none), "_law_part", "_law_part",L2.defArgs QO,L2.defBody QO,L2.defScope QO⟩
def nD6 : He.FnD:=⟨("_law_is_sheet",none), "_law_is_sheet", "_law_is_sheet",L2.defArgs Qw,L2.defBody Qw,L2.defScope Qw⟩
def nD7 : He.FnD:=⟨("_law_sheet",none), "_law_sheet", "_law_sheet",L2.defArgs QJ,L2.defBody QJ,L2.defScope QJ⟩
def nD8 : He.FnD:=⟨("_law_divided",none), "_law_divided", "_law_divided",L2.defArgs Q9,L2.defBody Q9,L2.defScope Q9⟩
def nD9 : He.FnD:=⟨("_law_choice",none), "_law_choice", "_law_choice",L2.defArgs QH,L2.defBody QH,L2.defScope QH⟩
def QjE : He.FnD:=⟨("split",none), "split", "split",L2.defArgs Z3,L2.defBody Z3,L2.defScope Z3⟩
def QjF : He.FnD:=⟨("_law_told",none), "_law_told", "_law_told",L2.defArgs Zi,L2.defBody Zi,L2.defScope Zi⟩
def QjG : He.FnD:=⟨("law",none), "law", "law",L2.defArgs QaP,L2.defBody QaP,L2.defScope QaP⟩
def QjH : List He.FnD:=[nD0,nD1,nD2,nD3,nD4,nD5,nD6,nD7,nD8,nD9,QjE,QjF,QjG]
abbrev nFn : List He.FnD:=QjH
def QjI : List Str:=[("BandError" : Str),("TooMany" : Str),("NoPlace" : Str),("NoNumber" : Str),("NoRate" : Str),("NoSplit" : Str),("Open" : Str),("Sheet" : Str),("borne_by" : Str),("doubled" : Str),("split" : Str),("_law_nth" : Str),("_law_mixed" : Str),("_law_sheet" : Str),("_law_part" : Str),("_law_divided" : Str),("_law_is_sheet" : Str),("_law_choice" : Str),("_law_told" : Str)]
abbrev nNm : List Str:=QjI
abbrev nR : PySem.W.OpenRow:=PySem.W.OpenLaw.row PySem.Challenge.rw_bandscribe_k31_desks_split
abbrev nHk : PySem.W.Hook:=QjA 5 nFx nFn
def nOb (s : PySem.W.SharedT) : He.Al:=QfF nFx nFn (He.frG (HandSHeadRun.getT s) (asX (HandSHeadRun.getT s) 5))
theorem nOb_eq (s : PySem.W.SharedT) : nOb s = nHk.obs s.abs:=by
 have e : HandSHeadRun.getT s = s.abs.heap.get?:=funext (HandSHeadRun.getT_eq s)
 unfold nOb
 rw [e]
 rfl
abbrev nQ : Program:=PySem.W.view nR.prog [22]
noncomputable def Qi8 (w : World) (os : OsState) : Option PySem.W.SharedT:=HandSHeadRun.endF (HandSHeadRun.stepQ (HandSHeadRun.denQ HandSHeadRun.tabQ) nR.prog w) 20000 nR.prog w os
section
open PySem.W
theorem QjJ (w : World) (os : OsState) : (Qi8 w os).map (fun s => (HandSHeadRun.looksF nR.prog (boot_heap w.params) s.abs,HandSHeadRun.seenQ nQ nNm (importedModules nR.prog.main.body) (fun s => xlAt nQ [] s && recOk nR.toRowW.records s) s.abs)) = some (true,openGood nQ nNm):=by
 kernel_rfl
end
theorem QjK (w : World) (os : OsState) : (Qi8 w os).map nOb = some (nHk.val w):=by
 kernel_rfl
theorem nRun (w : World) : HandSHeadRun.RunEq nR nQ nHk nOb 20000 nNm w:=fun os => by
 obtain ⟨s,hs,e0⟩:=Option.map_eq_some_iff.mp (QjK w os)
 have c0:=QjJ w os
 rw [hs] at c0
 have c0:=Option.some.inj c0
 show (Qi8 w os).map _ = _
 rw [hs]
 exact congrArg some (Prod.ext (congrArg (fun z => z.1) c0) (Prod.ext (congrArg (fun z => z.2) c0) e0))
end Lw
namespace Ps
open PySem L2
inductive D where
 | non | bl (b : Bool) | int (i : Int) | str (x : Str)
 | lst (xs : List D) | tup (xs : List D)
 | scr (ns : List Int)
 | rd (xs : List D)
 | dk (kvs : List (Key × D)) | dt (kvs : List (List Key × D))
 | obj (c : Nat) (fs : List (Str × D))
 | exo (c : Nat) (fs : List (Str × D))
def Qho : Nat → List Str
 | 0 => ["signs", "barred", "known", "ways"]
 | 1 => ["homes", "weights", "lines"]
 | 2 => ["weights", "splits", "kept", "last"]
 | 3 => ["strip", "choices", "width", "made", "stands", "moves", "first", "opening"]
 | 4 => ["strip", "width", "tail", "head", "room", "opened", "stands", "moves"]
 | 5 => ["strip", "pen", "glass"]
 | _ => []
def Nms (c : Nat) (fvs : List (Str × V)) : Prop:=∀ n v,fvs.lookup n = some v → n ∈ Qho c
def ExV (cls : Value) (d : Option Addr) (a : Addr) : HO:=.ext fun h => ∃ (oe : Obj) (vs : Array Value),h.get? a = some oe ∧ Zc cls d oe ∧ oe.data = .fields vs
section
variable (K : PySem.W.Frag) (ct : Nat → Addr) (F : Hp)
mutual
def Rep : D → V → Prop
 | .non,v => v = .non
 | .bl b,v => v = .bl b
 | .int i,v => v = .int i
 | .str x,v => v = .str x
 | .lst ds,v => ∃ a vs,v = .ref a ∧ F a = some (.lst vs) ∧ Reps ds vs
 | .tup ds,v => ∃ a vs,v = .ref a ∧ F a = some (.tup vs) ∧ Reps ds vs
 | .scr ns,v => ∃ a,v = .ref a ∧ SqL K F a (ns.map V.int)
 | .rd ds,v => ∃ a vs,v = .ref a ∧ Rd F a (.lst vs) ∧ Reps ds vs
 | .dk kvs,v => ∃ a vs,v = .ref a ∧ Rd F a (.dK vs) ∧ RepK kvs vs
 | .dt kvs,v => ∃ a vs,v = .ref a ∧ Rd F a (.dT vs) ∧ RepT kvs vs
 | .obj c fs,v => ∃ a dx fvs,v = .ref a ∧ F a = some (.ins (ct c) dx fvs) ∧ Nms c fvs ∧ RepF fs fvs
 | .exo c fs,v => ∃ a dx,v = .ref a ∧ F a = some (ExV (.ref (ct c)) dx a) ∧ ((fs = [] ∧ dx = none) ∨ fs ≠ [] ∧ ∃ d fvs,dx = some d ∧ F d = some (.xd fvs) ∧ RepF fs fvs)
def Reps : List D → List V → Prop
 | [],vs => vs = []
 | d :: ds,vs => ∃ v r,vs = v :: r ∧ Rep d v ∧ Reps ds r
def RepK : List (Key × D) → List (Key × V) → Prop
 | [],vs => vs = []
 | (k,d) :: ds,vs => ∃ v r,vs = (k,v) :: r ∧ Rep d v ∧ RepK ds r
def RepT : List (List Key × D) → List (List Key × V) → Prop
 | [],vs => vs = []
 | (k,d) :: ds,vs => ∃ v r,vs = (k,v) :: r ∧ Rep d v ∧ RepT ds r
def RepF : List (Str × D) → List (Str × V) → Prop
 | [],_ => True
 | (f,d) :: fs,fvs => (∃ v,fvs.lookup f = some v ∧ Rep d v) ∧ RepF fs fvs
end
end
structure Le (F F' : Hp) : Prop where
 rd : ∀ a u,(∀ o v,u ≠ .frz o v) → Rd F a u → Rd F' a u
 l : ∀ a vs,F a = some (.lst vs) → F' a = some (.lst vs)
 t : ∀ a vs,F a = some (.tup vs) → F' a = some (.tup vs)
 i : ∀ a C dx fs,F a = some (.ins C dx fs) → F' a = some (.ins C dx fs)
 x : ∀ a c d,F a = some (ExV c d a) → F' a = some (ExV c d a)
 y : ∀ a fs,F a = some (.xd fs) → F' a = some (.xd fs)
abbrev Ex (F F' : Hp) : Prop:=∀ a o,F a = some o → F' a = some o
theorem Ex.refl (F : Hp) : Ex F F:=fun _ _ h => h
theorem Ex.trans {F F1 F2 : Hp} (a : Ex F F1) (b : Ex F1 F2) : Ex F F2:=fun x o h => b x o (a x o h)
theorem Ex.new {H : Hp} {p : Addr} {o : HO} (h : H p = none) : Ex H (upd H p o):=fun a u e => by
 rw [upd_ne (ne_of_none e h)]; exact e
theorem Ex.rd {F F' : Hp} (e : Ex F F') {a : Addr} {u : HO} (h : Rd F a u) : Rd F' a u:=by
 rcases h with h | ⟨o,h⟩
 ·exact .inl (e a _ h)
 ·exact .inr ⟨o,e a _ h⟩
theorem Ex.le {F F' : Hp} (e : Ex F F') : Le F F':=⟨fun _ _ _ h => Ex.rd e h,fun a _ h => e a _ h,fun a _ h => e a _ h,fun a _ _ _ h => e a _ h,fun a _ _ h => e a _ h,fun a _ h => e a _ h⟩
theorem Ex.free {F F' : Hp} (e : Ex F F') {a : Addr} (h : F' a = none) : F a = none:=by
 cases q : F a with
 | none => rfl
 | some o => rw [e a o q] at h; cases h
section
variable {K : PySem.W.Frag} {ct : Nat → Addr} {F F' : Hp}
mutual
theorem Rep.mono (e : Le F F') : ∀ (d : D) (v : V),Rep K ct F d v → Rep K ct F' d v
 | .non,_,h => h
 | .bl _,_,h => h
 | .int _,_,h => h
 | .str _,_,h => h
 | .lst ds,v,h => by
  obtain ⟨a,vs,e1,e2,e3⟩:=h
  exact ⟨a,vs,e1,e.l _ _ e2,Reps.mono e ds vs e3⟩
 | .tup ds,v,h => by
  obtain ⟨a,vs,e1,e2,e3⟩:=h
  exact ⟨a,vs,e1,e.t _ _ e2,Reps.mono e ds vs e3⟩
 | .scr ns,v,h => by
  obtain ⟨a,e1,e2⟩:=h
  refine ⟨a,e1,?_⟩
  rcases e2 with h | h
  ·exact .inl (e.rd _ _ (fun _ _ z => nomatch z) h)
  ·exact .inr h
 | .rd ds,v,h => by
  obtain ⟨a,vs,e1,e2,e3⟩:=h
  exact ⟨a,vs,e1,e.rd _ _ (fun _ _ z => nomatch z) e2,Reps.mono e ds vs e3⟩
 | .dk kvs,v,h => by
  obtain ⟨a,vs,e1,e2,e3⟩:=h
  exact ⟨a,vs,e1,e.rd _ _ (fun _ _ z => nomatch z) e2,RepK.mono e kvs vs e3⟩
 | .dt kvs,v,h => by
  obtain ⟨a,vs,e1,e2,e3⟩:=h
  exact ⟨a,vs,e1,e.rd _ _ (fun _ _ z => nomatch z) e2,RepT.mono e kvs vs e3⟩
 | .obj c fs,v,h => by
  obtain ⟨a,dx,fvs,e1,e2,en,e3⟩:=h
  exact ⟨a,dx,fvs,e1,e.i _ _ _ _ e2,en,RepF.mono e fs fvs e3⟩
 | .exo c fs,v,h => by
  obtain ⟨a,dx,e1,e2,e3⟩:=h
  refine ⟨a,dx,e1,e.x _ _ _ e2,?_⟩
  rcases e3 with e3 | ⟨hne,d,fvs,h1,h2,h3⟩
  ·exact .inl e3
  ·exact .inr ⟨hne,d,fvs,h1,e.y _ _ h2,RepF.mono e fs fvs h3⟩
theorem Reps.mono (e : Le F F') : ∀ (ds : List D) (vs : List V),Reps K ct F ds vs → Reps K ct F' ds vs
 | [],_,h => h
 | d :: ds,vs,h => by
  obtain ⟨v,r,e1,e2,e3⟩:=h
  exact ⟨v,r,e1,Rep.mono e d v e2,Reps.mono e ds r e3⟩
theorem RepK.mono (e : Le F F') : ∀ (ds : List (Key × D)) (vs : List (Key × V)),RepK K ct F ds vs → RepK K ct F' ds vs
 | [],_,h => h
 | (k,d) :: ds,vs,h => by
  obtain ⟨v,r,e1,e2,e3⟩:=h
  exact ⟨v,r,e1,Rep.mono e d v e2,RepK.mono e ds r e3⟩
theorem RepT.mono (e : Le F F') : ∀ (ds : List (List Key × D)) (vs : List (List Key × V)),RepT K ct F ds vs → RepT K ct F' ds vs
 | [],_,h => h
 | (k,d) :: ds,vs,h => by
  obtain ⟨v,r,e1,e2,e3⟩:=h
  exact ⟨v,r,e1,Rep.mono e d v e2,RepT.mono e ds r e3⟩
theorem RepF.mono (e : Le F F') : ∀ (fs : List (Str × D)) (fvs : List (Str × V)),RepF K ct F fs fvs → RepF K ct F' fs fvs
 | [],_,_ => True.intro
 | (f,d) :: fs,fvs,h => by
  obtain ⟨⟨v,e1,e2⟩,e3⟩:=h
  exact ⟨⟨v,e1,Rep.mono e d v e2⟩,RepF.mono e fs fvs e3⟩
end
theorem Reps.length : ∀ {ds : List D} {vs : List V},Reps K ct F ds vs → vs.length = ds.length
 | [],_,h => by rw [show _ = [] from h]; rfl
 | d :: ds,vs,h => by
  obtain ⟨v,r,e1,e2,e3⟩:=h
  rw [e1,List.length_cons,List.length_cons,Reps.length e3]
theorem Reps.get : ∀ {ds : List D} {vs : List V} {i : Nat} {d : D},Reps K ct F ds vs → ds[i]? = some d → ∃ v,vs[i]? = some v ∧ Rep K ct F d v
 | [],_,_,_,_,e => by simp at e
 | d :: ds,vs,0,d',h,e => by
  obtain ⟨v,r,e1,e2,e3⟩:=h
  simp at e; subst e e1
  exact ⟨v,rfl,e2⟩
 | d :: ds,vs,i + 1,d',h,e => by
  obtain ⟨v,r,e1,e2,e3⟩:=h
  subst e1
  obtain ⟨v',h1,h2⟩:=Reps.get e3 (i:=i) (d:=d') (by simpa using e)
  exact ⟨v',by simpa using h1,h2⟩
theorem Reps.append : ∀ {ds es : List D} {vs us : List V},Reps K ct F ds vs → Reps K ct F es us → Reps K ct F (ds ++ es) (vs ++ us)
 | [],_,_,_,h,q => by rw [show _ = [] from h]; exact q
 | d :: ds,es,vs,us,h,q => by
  obtain ⟨v,r,e1,e2,e3⟩:=h
  subst e1
  exact ⟨v,r ++ us,rfl,e2,Reps.append e3 q⟩
theorem Reps.one {d : D} {v : V} (h : Rep K ct F d v) : Reps K ct F [d] [v]:=⟨v,[],rfl,h,rfl⟩
theorem Reps.take : ∀ {ds : List D} {vs : List V} (n : Nat),Reps K ct F ds vs → Reps K ct F (ds.take n) (vs.take n)
 | _,_,0,_ => rfl
 | [],_,n + 1,h => by rw [show _ = [] from h]; rfl
 | d :: ds,vs,n + 1,h => by
  obtain ⟨v,r,e1,e2,e3⟩:=h
  subst e1
  exact ⟨v,r.take n,rfl,e2,Reps.take n e3⟩
theorem Reps.drop : ∀ {ds : List D} {vs : List V} (n : Nat),Reps K ct F ds vs → Reps K ct F (ds.drop n) (vs.drop n)
 | _,_,0,h => h
 | [],_,n + 1,h => by rw [show _ = [] from h]; rfl
 | d :: ds,vs,n + 1,h => by
  obtain ⟨v,r,e1,e2,e3⟩:=h
  subst e1
  exact Reps.drop n e3
theorem Reps.set {d : D} {v : V} (q : Rep K ct F d v) : ∀ {ds : List D} {vs : List V} (i : Nat),Reps K ct F ds vs → Reps K ct F (ds.set i d) (vs.set i v)
 | [],_,_,h => by rw [show _ = [] from h]; rfl
 | d' :: ds,vs,0,h => by
  obtain ⟨v',r,e1,e2,e3⟩:=h
  subst e1
  exact ⟨v,r,rfl,q,e3⟩
 | d' :: ds,vs,i + 1,h => by
  obtain ⟨v',r,e1,e2,e3⟩:=h
  subst e1
  exact ⟨v',r.set i v,rfl,e2,Reps.set q i e3⟩
theorem Reps.ints : ∀ {ns : List Int},Reps K ct F (ns.map D.int) (ns.map V.int)
 | [] => rfl
 | n :: ns => ⟨.int n,ns.map V.int,rfl,rfl,Reps.ints⟩
end
def noScr : D → Bool
 | .scr _ => false
 | _ => true
inductive Nst where
 | one | dk (kvs : List (Key × D)) (k : Key)
inductive Sl where
 | no | sh (d : D) | ow (d : D) | bo (d : D)
 | oo (c : Nat) (fs : List (Str × D)) (gs : List (Str × Nat))
 | gh (d : D)
 | ln (n : Nst) (g : Nat)
def QbA : Sl → Bool
 | .ow _ => true
 | .gh _ => true
 | .oo _ _ _ => true
 | .ln _ _ => true
 | _ => false
abbrev En:=List Sl
def RepB (K : PySem.W.Frag) (ct : Nat → Addr) (F H : Hp) : D → V → Prop
 | .lst ds,v => ∃ a vs,v = .ref a ∧ H a = some (.lst vs) ∧ Reps K ct F ds vs
 | .dk kvs,v => ∃ a vs,v = .ref a ∧ Rd H a (.dK vs) ∧ RepK K ct F kvs vs
 | .dt kvs,v => ∃ a vs,v = .ref a ∧ Rd H a (.dT vs) ∧ RepT K ct F kvs vs
 | .obj c fs,v => ∃ a dx fvs,v = .ref a ∧ H a = some (.ins (ct c) dx fvs) ∧ Nms c fvs ∧ RepF K ct F fs fvs
 | d,v => Rep K ct F d v
theorem Rep.b {K : PySem.W.Frag} {ct : Nat → Addr} {F H : Hp} (e : Ex F H) : ∀ {d : D} {v : V},Rep K ct F d v → RepB K ct F H d v
 | .lst ds,v,h => by
  obtain ⟨a,vs,e1,e2,e3⟩:=h
  exact ⟨a,vs,e1,e _ _ e2,e3⟩
 | .dk ds,v,h => by
  obtain ⟨a,vs,e1,e2,e3⟩:=h
  exact ⟨a,vs,e1,Ex.rd e e2,e3⟩
 | .dt ds,v,h => by
  obtain ⟨a,vs,e1,e2,e3⟩:=h
  exact ⟨a,vs,e1,Ex.rd e e2,e3⟩
 | .obj c fs,v,h => by
  obtain ⟨a,dx,fvs,e1,e2,en,e3⟩:=h
  exact ⟨a,dx,fvs,e1,e _ _ e2,en,e3⟩
 | .non,_,h => h
 | .bl _,_,h => h
 | .int _,_,h => h
 | .str _,_,h => h
 | .tup _,_,h => h
 | .scr _,_,h => h
 | .rd _,_,h => h
 | .exo _ _,_,h => h
theorem RepB.all {K : PySem.W.Frag} {ct : Nat → Addr} {F H : Hp} (e : Ex F H) : ∀ {d : D} {v : V},RepB K ct F H d v → Rep K ct H d v
 | .lst ds,v,h => by
  obtain ⟨a,vs,e1,e2,e3⟩:=h
  exact ⟨a,vs,e1,e2,Reps.mono (Ex.le e) _ _ e3⟩
 | .dk ds,v,h => by
  obtain ⟨a,vs,e1,e2,e3⟩:=h
  exact ⟨a,vs,e1,e2,RepK.mono (Ex.le e) _ _ e3⟩
 | .dt ds,v,h => by
  obtain ⟨a,vs,e1,e2,e3⟩:=h
  exact ⟨a,vs,e1,e2,RepT.mono (Ex.le e) _ _ e3⟩
 | .obj c fs,v,h => by
  obtain ⟨a,dx,fvs,e1,e2,en,e3⟩:=h
  exact ⟨a,dx,fvs,e1,e2,en,RepF.mono (Ex.le e) _ _ e3⟩
 | .non,_,h => h
 | .bl _,_,h => h
 | .int _,_,h => h
 | .str _,_,h => h
 | .tup _,_,h => Rep.mono (Ex.le e) _ _ h
 | .scr _,_,h => Rep.mono (Ex.le e) _ _ h
 | .rd _,_,h => Rep.mono (Ex.le e) _ _ h
 | .exo _ _,_,h => Rep.mono (Ex.le e) _ _ h
def OwnAt (K : PySem.W.Frag) (ct : Nat → Addr) (F H : Hp) (a : Addr) : D → Prop
 | .lst ds => F a = none ∧ ∃ vs,H a = some (.lst vs) ∧ Reps K ct F ds vs
 | .dk kvs => F a = none ∧ ∃ vs,H a = some (.dK vs) ∧ RepK K ct F kvs vs
 | .dt kvs => F a = none ∧ ∃ vs,H a = some (.dT vs) ∧ RepT K ct F kvs vs
 | _ => False
theorem OwnAt.b {K : PySem.W.Frag} {ct : Nat → Addr} {F H : Hp} {a : Addr} : ∀ {d : D},OwnAt K ct F H a d → RepB K ct F H d (.ref a)
 | .lst ds,h => by
  obtain ⟨_,vs,e2,e3⟩:=h
  exact ⟨a,vs,rfl,e2,e3⟩
 | .dk ds,h => by
  obtain ⟨_,vs,e2,e3⟩:=h
  exact ⟨a,vs,rfl,.inl e2,e3⟩
 | .dt ds,h => by
  obtain ⟨_,vs,e2,e3⟩:=h
  exact ⟨a,vs,rfl,.inl e2,e3⟩
 | .obj _ _,h => h.elim
 | .non,h => h.elim
 | .bl _,h => h.elim
 | .int _,h => h.elim
 | .str _,h => h.elim
 | .tup _,h => h.elim
 | .scr _,h => h.elim
 | .rd _,h => h.elim
 | .exo _ _,h => h.elim
theorem OwnAt.free {K : PySem.W.Frag} {ct : Nat → Addr} {F H : Hp} {a : Addr} : ∀ {d : D},OwnAt K ct F H a d → F a = none
 | .lst ds,h => h.1
 | .dk ds,h => h.1
 | .dt ds,h => h.1
 | .obj _ _,h => h.elim
 | .non,h => h.elim
 | .bl _,h => h.elim
 | .int _,h => h.elim
 | .str _,h => h.elim
 | .tup _,h => h.elim
 | .scr _,h => h.elim
 | .rd _,h => h.elim
 | .exo _ _,h => h.elim
theorem OwnAt.there {K : PySem.W.Frag} {ct : Nat → Addr} {F H : Hp} {a : Addr} : ∀ {d : D},OwnAt K ct F H a d → ∃ o,H a = some o
 | .lst ds,h => let ⟨_,_,e,_⟩:=h; ⟨_,e⟩
 | .dk ds,h => let ⟨_,_,e,_⟩:=h; ⟨_,e⟩
 | .dt ds,h => let ⟨_,_,e,_⟩:=h; ⟨_,e⟩
 | .obj _ _,h => h.elim
 | .non,h => h.elim
 | .bl _,h => h.elim
 | .int _,h => h.elim
 | .str _,h => h.elim
 | .tup _,h => h.elim
 | .scr _,h => h.elim
 | .rd _,h => h.elim
 | .exo _ _,h => h.elim
theorem OwnAt.mono {K : PySem.W.Frag} {ct : Nat → Addr} {F H F' H' : Hp} {a : Addr} (e : Ex F F') (hf : F' a = none) (hh : H' a = H a) : ∀ {d : D},OwnAt K ct F H a d → OwnAt K ct F' H' a d
 | .lst ds,h => by
  obtain ⟨_,vs,e2,e3⟩:=h
  exact ⟨hf,vs,hh.trans e2,Reps.mono (Ex.le e) _ _ e3⟩
 | .dk ds,h => by
  obtain ⟨_,vs,e2,e3⟩:=h
  exact ⟨hf,vs,hh.trans e2,RepK.mono (Ex.le e) _ _ e3⟩
 | .dt ds,h => by
  obtain ⟨_,vs,e2,e3⟩:=h
  exact ⟨hf,vs,hh.trans e2,RepT.mono (Ex.le e) _ _ e3⟩
 | .obj _ _,h => h.elim
 | .non,h => h.elim
 | .bl _,h => h.elim
 | .int _,h => h.elim
 | .str _,h => h.elim
 | .tup _,h => h.elim
 | .scr _,h => h.elim
 | .rd _,h => h.elim
 | .exo _ _,h => h.elim
theorem OwnAt.freeze {K : PySem.W.Frag} {ct : Nat → Addr} {F H : Hp} {a : Addr} {o : HO} (ho : H a = some o) : ∀ {d : D},OwnAt K ct F H a d → Rep K ct (upd F a o) d (.ref a)
 | .lst ds,h => by
  obtain ⟨e1,vs,e2,e3⟩:=h
  rw [ho] at e2; cases e2
  exact ⟨a,vs,rfl,upd_same,Reps.mono (Ex.le (Ex.new e1)) _ _ e3⟩
 | .dk ds,h => by
  obtain ⟨e1,vs,e2,e3⟩:=h
  rw [ho] at e2; cases e2
  exact ⟨a,vs,rfl,.inl upd_same,RepK.mono (Ex.le (Ex.new e1)) _ _ e3⟩
 | .dt ds,h => by
  obtain ⟨e1,vs,e2,e3⟩:=h
  rw [ho] at e2; cases e2
  exact ⟨a,vs,rfl,.inl upd_same,RepT.mono (Ex.le (Ex.new e1)) _ _ e3⟩
 | .obj _ _,h => h.elim
 | .non,h => h.elim
 | .bl _,h => h.elim
 | .int _,h => h.elim
 | .str _,h => h.elim
 | .tup _,h => h.elim
 | .scr _,h => h.elim
 | .rd _,h => h.elim
 | .exo _ _,h => h.elim
def NstAt (K : PySem.W.Frag) (ct : Nat → Addr) (F H : Hp) (a b : Addr) : Nst → Prop
 | .one => H a = some (.lst [.ref b])
 | .dk kvs k => ∃ vs,H a = some (.dK (vs ++ [(k,.ref b)])) ∧ RepK K ct F kvs vs
theorem NstAt.there {K : PySem.W.Frag} {ct : Nat → Addr} {F H : Hp} {a b : Addr} : ∀ {n : Nst},NstAt K ct F H a b n → ∃ o,H a = some o
 | .one,h => ⟨_,h⟩
 | .dk _ _,⟨_,h,_⟩ => ⟨_,h⟩
theorem NstAt.le {K : PySem.W.Frag} {ct : Nat → Addr} {F H F' H' : Hp} {a b : Addr} (e : Le F F') (hh : H' a = H a) : ∀ {n : Nst},NstAt K ct F H a b n → NstAt K ct F' H' a b n
 | .one,h => hh.trans h
 | .dk _ _,⟨vs,h,r⟩ => ⟨vs,hh.trans h,RepK.mono e _ _ r⟩
theorem NstAt.at {K : PySem.W.Frag} {ct : Nat → Addr} {F H H' : Hp} {a b : Addr} (hh : H' a = H a) {n : Nst} (h : NstAt K ct F H a b n) : NstAt K ct F H' a b n:=
 NstAt.le (Ex.le (Ex.refl F)) hh h
def ZH (env : En) (σ : L2.St) (a : Addr) : Prop:=∃ (i : Nat) (s : Sl),env[i]? = some s ∧ QbA s = true ∧ σ[i]? = some (some (V.ref a))
structure EnvOk (K : PySem.W.Frag) (ct : Nat → Addr) (F H : Hp) (env : En) (σ : L2.St) : Prop where
 ex : Ex F H
 len : env.length = σ.length
 sh : ∀ (i : Nat) (d : D),env[i]? = some (.sh d) → ∃ v,σ[i]? = some (some v) ∧ Rep K ct F d v
 ow : ∀ (i : Nat) (d : D),env[i]? = some (.ow d) → ∃ a,σ[i]? = some (some (.ref a)) ∧ OwnAt K ct F H a d
 bo : ∀ (i : Nat) (d : D),env[i]? = some (.bo d) → ∃ v,σ[i]? = some (some v) ∧ RepB K ct F H d v ∧ ∀ a,noScr d = true → v = .ref a → ¬ ZH env σ a
 oo : ∀ (i : Nat) (c : Nat) (fs : List (Str × D)) (gs : List (Str × Nat)),env[i]? = some (.oo c fs gs) → ∃ a dx fvs,σ[i]? = some (some (.ref a)) ∧ F a = none ∧ H a = some (.ins (ct c) dx fvs) ∧ Nms c fvs ∧ fvs.length ≤ fs.length + gs.length ∧ RepF K ct F fs fvs ∧
  ∀ n g,(n,g) ∈ gs → ∃ v d,fvs.lookup n = some v ∧ σ[g]? = some (some v) ∧ env[g]? = some (.gh d)
 gh : ∀ (i : Nat) (d : D),env[i]? = some (.gh d) → ∃ a,σ[i]? = some (some (.ref a)) ∧ OwnAt K ct F H a d
 ln : ∀ (i : Nat) (n : Nst) (g : Nat),env[i]? = some (.ln n g) → ∃ (a b : Addr) (d : D),σ[i]? = some (some (.ref a)) ∧ F a = none ∧ NstAt K ct F H a b n ∧ σ[g]? = some (some (.ref b)) ∧ env[g]? = some (.gh d)
 ap : ∀ (i j : Nat) (s t : Sl) (a : Addr),env[i]? = some s → env[j]? = some t → QbA s = true → QbA t = true → σ[i]? = some (some (.ref a)) → σ[j]? = some (some (.ref a)) → i = j
structure Gr (F H F' H' : Hp) : Prop where
 f : Ex F F'
 h : Ex H H'
 e : Ex F' H'
 n : ∀ a o,F' a = some o → F a = some o ∨ H a = none
theorem Gr.refl {F H : Hp} (e : Ex F H) : Gr F H F H:=⟨Ex.refl _,Ex.refl _,e,fun _ _ h => .inl h⟩
theorem Gr.trans {F H F1 H1 F2 H2 : Hp} (a : Gr F H F1 H1) (b : Gr F1 H1 F2 H2) : Gr F H F2 H2:=
 ⟨a.f.trans b.f,a.h.trans b.h,b.e,fun x o q => by
  rcases b.n x o q with q | q
  ·exact a.n x o q
  ·exact .inr (Ex.free a.h q)⟩
theorem Gr.new {F H : Hp} (e : Ex F H) {p : Addr} {o : HO} (hp : H p = none) : Gr F H (upd F p o) (upd H p o):=
 ⟨Ex.new (Ex.free e hp),Ex.new hp,fun a u q => by
  by_cases ha : a = p
  ·subst ha; rw [upd_same] at q ⊢; exact q
  ·rw [upd_ne ha] at q ⊢; exact e a u q,fun a u q => by
  by_cases ha : a = p
  ·subst ha; exact .inr hp
  ·rw [upd_ne ha] at q; exact .inl q⟩
theorem Gr.own {F H : Hp} (e : Ex F H) {p : Addr} {o : HO} (hp : H p = none) : Gr F H F (upd H p o):=
 ⟨Ex.refl _,Ex.new hp,e.trans (Ex.new hp),fun _ _ q => .inl q⟩
theorem Gr.share {F H F' H' : Hp} (g : Gr F H F' H') (e0 : Ex F H) {p : Addr} {o : HO} (hp : H p = none) (ho : H' p = some o) : Gr F H (upd F' p o) H':=
 ⟨fun a u q => by
  by_cases ha : a = p
  ·subst ha
   rw [Ex.free e0 hp] at q; cases q
  ·rw [upd_ne ha]; exact g.f a u q,g.h,fun a u q => by
  by_cases ha : a = p
  ·subst ha; rw [upd_same] at q; cases q; exact ho
  ·rw [upd_ne ha] at q; exact g.e a u q,fun a u q => by
  by_cases ha : a = p
  ·subst ha; exact .inr hp
  ·rw [upd_ne ha] at q; exact g.n a u q⟩
theorem RepB.mono2 {K : PySem.W.Frag} {ct : Nat → Addr} {F H F' H' : Hp} (gf : Ex F F') (gh : Ex H H') : ∀ {d : D} {v : V},RepB K ct F H d v → RepB K ct F' H' d v
 | .lst ds,v,h => by
  obtain ⟨a,vs,e1,e2,e3⟩:=h
  exact ⟨a,vs,e1,gh _ _ e2,Reps.mono (Ex.le gf) _ _ e3⟩
 | .dk ds,v,h => by
  obtain ⟨a,vs,e1,e2,e3⟩:=h
  exact ⟨a,vs,e1,Ex.rd gh e2,RepK.mono (Ex.le gf) _ _ e3⟩
 | .dt ds,v,h => by
  obtain ⟨a,vs,e1,e2,e3⟩:=h
  exact ⟨a,vs,e1,Ex.rd gh e2,RepT.mono (Ex.le gf) _ _ e3⟩
 | .obj c fs,v,h => by
  obtain ⟨a,dx,fvs,e1,e2,en,e3⟩:=h
  exact ⟨a,dx,fvs,e1,gh _ _ e2,en,RepF.mono (Ex.le gf) _ _ e3⟩
 | .non,_,h => h
 | .bl _,_,h => h
 | .int _,_,h => h
 | .str _,_,h => h
 | .tup _,_,h => Rep.mono (Ex.le gf) _ _ h
 | .scr _,_,h => Rep.mono (Ex.le gf) _ _ h
 | .rd _,_,h => Rep.mono (Ex.le gf) _ _ h
 | .exo _ _,_,h => Rep.mono (Ex.le gf) _ _ h
theorem RepB.gr {K : PySem.W.Frag} {ct : Nat → Addr} {F H F' H' : Hp} (g : Gr F H F' H') {d : D} {v : V} (h : RepB K ct F H d v) : RepB K ct F' H' d v:=RepB.mono2 g.f g.h h
theorem Gr.none {F H F' H' : Hp} (g : Gr F H F' H') {a : Addr} {o : HO} (h1 : F a = none) (h2 : H a = some o) : F' a = none:=by
 cases q : F' a with
 | none => rfl
 | some u =>
  rcases g.n a u q with z | z
  ·rw [h1] at z; cases z
  ·rw [h2] at z; cases z
theorem EnvOk.gr {K : PySem.W.Frag} {ct : Nat → Addr} {F H F' H' : Hp} {env : En} {σ : L2.St} (E : EnvOk K ct F H env σ) (g : Gr F H F' H') : EnvOk K ct F' H' env σ where
 ex:=g.e
 len:=E.len
 sh:=fun i d h => let ⟨v,e1,e2⟩:=E.sh i d h; ⟨v,e1,Rep.mono (Ex.le g.f) _ _ e2⟩
 ow:=fun i d h => by
  obtain ⟨a,e1,e2⟩:=E.ow i d h
  obtain ⟨o,ho⟩:=e2.there
  exact ⟨a,e1,e2.mono g.f (g.none e2.free ho) ((g.h a o ho).trans ho.symm)⟩
 bo:=fun i d h => by
  obtain ⟨v,e1,e2,e3⟩:=E.bo i d h
  exact ⟨v,e1,RepB.gr g e2,e3⟩
 oo:=fun i c fs gs h => by
  obtain ⟨a,dx,fvs,e1,e2,e3,e4,e5,e6,e7⟩:=E.oo i c fs gs h
  exact ⟨a,dx,fvs,e1,g.none e2 e3,g.h _ _ e3,e4,e5,RepF.mono (Ex.le g.f) _ _ e6,e7⟩
 gh:=fun i d h => by
  obtain ⟨a,e1,e2⟩:=E.gh i d h
  obtain ⟨o,ho⟩:=e2.there
  exact ⟨a,e1,e2.mono g.f (g.none e2.free ho) ((g.h a o ho).trans ho.symm)⟩
 ln:=fun i n g' h => by
  obtain ⟨a,b,d,e1,e2,e3,e4,e5⟩:=E.ln i n g' h
  obtain ⟨o,ho⟩:=e3.there
  exact ⟨a,b,d,e1,g.none e2 ho,e3.le (Ex.le g.f) ((g.h _ _ ho).trans ho.symm),e4,e5⟩
 ap:=E.ap
end Ps
namespace Ps
open PySem L2
inductive R where
 | ok (d : D) | er (c : Nat) (fs : List (Str × D)) | st
inductive RA where
 | ok (ds : List D) | er (c : Nat) (fs : List (Str × D)) | st
inductive O where
 | nx (e : En) | bk (e : En) | ct (e : En) | rt (d : D) | rn (d : D) | er (c : Nat) (fs : List (Str × D)) (e : En) | st
abbrev SE:=En → R
abbrev SA:=En → RA
abbrev SS:=En → O
def ExcOk (K : PySem.W.Frag) (ct : Nat → Addr) (F : Hp) (dx : Option Addr) (fs : List (Str × D)) : Prop:=
 (fs = [] ∧ dx = none) ∨ fs ≠ [] ∧ ∃ d fvs,dx = some d ∧ F d = some (.xd fvs) ∧ RepF K ct F fs fvs
theorem ExcOk.mono {K : PySem.W.Frag} {ct : Nat → Addr} {F F' : Hp} {dx : Option Addr} {fs : List (Str × D)} (e : Ex F F') (h : ExcOk K ct F dx fs) : ExcOk K ct F' dx fs:=by
 rcases h with h | ⟨hne,d,fvs,h1,h2,h3⟩
 ·exact .inl h
 ·exact .inr ⟨hne,d,fvs,h1,e _ _ h2,RepF.mono (Ex.le e) _ _ h3⟩
abbrev Md:=Hp → Hp → Hp → D → V → Prop
section
variable (K : PySem.W.Frag) (ct : Nat → Addr) (W : WX)
def mR : Md:=fun _ F' _ d v => Rep K ct F' d v
def mB : Md:=fun _ F' H' d v => RepB K ct F' H' d v
def mN : Md:=fun H F' H' d v => ∃ p,v = .ref p ∧ H p = none ∧ OwnAt K ct F' H' p d
def Fin (M : Md) (F H : Hp) (σ : L2.St) (r : R) (Q : VK) : Prop:=match r with
 | .ok d => ∀ v F' H',Gr F H F' H' → M H F' H' d v → Q v H'
 | .er c fs => ∀ dx F' H',Gr F H F' H' → ExcOk K ct F' dx fs → W (.ref (ct c)) dx σ H'
 | .st => False
def tM (M : Md) (f : SE) : TE:=fun σ H Q => ∃ env F,EnvOk K ct F H env σ ∧ Fin K ct W M F H σ (f env) Q
abbrev ER (f : SE) : TE:=tM K ct W (mR K ct) f
abbrev EB (f : SE) : TE:=tM K ct W (mB K ct) f
abbrev EN (f : SE) : TE:=tM K ct W (mN K ct) f
def TT1 (f : SE) : TT:=fun σ H Q => ∃ env F,EnvOk K ct F H env σ ∧ match f env with
 | .ok (.bl b) => ∀ F' H',Gr F H F' H' → Q b H'
 | .ok _ => False
 | .er c fs => ∀ dx F' H',Gr F H F' H' → ExcOk K ct F' dx fs → W (.ref (ct c)) dx σ H'
 | .st => False
def ArgsRep (F H : Hp) : List Bool → List D → List V → Prop
 | [],ds,vs => ds = [] ∧ vs = []
 | m :: ms,ds,vs => ∃ d ds' v vs',ds = d :: ds' ∧ vs = v :: vs' ∧ (if m then RepB K ct F H d v else Rep K ct F d v) ∧ ArgsRep F H ms ds' vs'
def tA (ms : List Bool) (f : SA) : TA:=fun σ H Q => ∃ env F,EnvOk K ct F H env σ ∧ match f env with
 | .ok ds => ∀ vs F' H',Gr F H F' H' → ArgsRep K ct F' H' ms ds vs → Q vs H'
 | .er c fs => ∀ dx F' H',Gr F H F' H' → ExcOk K ct F' dx fs → W (.ref (ct c)) dx σ H'
 | .st => False
end
theorem _root_.L2.PE.imp {X : Cx} {e : Expr} {t t' : TE} (p : PE X e t) (h : ∀ σ H Q,t' σ H Q → t σ H Q) : PE X e t':=⟨fun pins s σ H Q I q => p.run pins s σ H Q I (h σ H Q q)⟩
theorem _root_.L2.PT.imp {X : Cx} {e : Expr} {t t' : TT} (p : PT X e t) (h : ∀ σ H Q,t' σ H Q → t σ H Q) : PT X e t':=⟨fun pins s σ H Q I q => p.run pins s σ H Q I (h σ H Q q)⟩
theorem _root_.L2.PW.imp {X : Cx} {e : Expr} {t t' : TT} (p : PW X e t) (h : ∀ σ H Q,t' σ H Q → t σ H Q) : PW X e t':=⟨fun w pins s σ H Q I q => p.run w pins s σ H Q I (h σ H Q q)⟩
theorem _root_.L2.PA.imp {X : Cx} {e : List Expr} {t t' : TA} (p : PA X e t) (h : ∀ σ H Q,t' σ H Q → t σ H Q) : PA X e t':=⟨fun pos pins s σ H Q I q => p.run pos pins s σ H Q I (h σ H Q q)⟩
theorem _root_.L2.PS.imp {X : Cx} {e : Stmt} {t t' : TS} (p : PS X e t) (h : ∀ D σ H,t' D σ H → t D σ H) : PS X e t':=⟨fun pins s σ H D I q => p.run pins s σ H D I (h D σ H q)⟩
theorem _root_.L2.PSs.imp {X : Cx} {e : List Stmt} {t t' : TS} (p : PSs X e t) (h : ∀ D σ H,t' D σ H → t D σ H) : PSs X e t':=⟨fun pins s σ H D I q => p.run pins s σ H D I (h D σ H q)⟩
section
variable {K : PySem.W.Frag} {ct : Nat → Addr} {W : WX} {M : Md} {F H F' H' : Hp} {σ : L2.St} {r : R} {Q : VK} {env : En}
theorem JJ (g : Gr F H F' H') (hM : ∀ F2 H2 d v,M H' F2 H2 d v → M H F2 H2 d v) (h : Fin K ct W M F H σ r Q) : Fin K ct W M F' H' σ r Q:=by
 cases r with
 | ok d => exact fun v F2 H2 g2 m => h v F2 H2 (g.trans g2) (hM _ _ _ _ m)
 | er c fs => exact fun dx F2 H2 g2 x => h dx F2 H2 (g.trans g2) x
 | st => exact h
def bnd (r : R) (k : D → R) : R:=match r with
 | .ok d => k d
 | .er c fs => .er c fs
 | .st => .st
def QG (r : RA) (k : List D → R) : R:=match r with
 | .ok d => k d
 | .er c fs => .er c fs
 | .st => .st
theorem Z7 {M1 : Md} {f : SE} {k : D → R} (E : EnvOk K ct F H env σ) (h : Fin K ct W M F H σ (bnd (f env) k) Q) {t : TE} (ht : t = tM K ct W M1 f)
  {Q1 : VK} (hk : ∀ d v F1 H1,f env = .ok d → Gr F H F1 H1 → M1 H F1 H1 d v → EnvOk K ct F1 H1 env σ → Fin K ct W M F H σ (k d) Q → Q1 v H1) : t σ H Q1:=by
 subst ht
 refine ⟨env,F,E,?_⟩
 cases e : f env with
 | ok d =>
  rw [e] at h
  exact fun v F1 H1 g m => hk d v F1 H1 e g m (E.gr g) h
 | er c fs =>
  rw [e] at h
  exact h
 | st =>
  rw [e] at h
  exact h
end
section
variable {X : Cx} {ct : Nat → Addr} {W : WX} {a b e : Expr} {f g : SE} {pos : Pos}
def Qh (i : Nat) : SE:=fun env => match env[i]? with
 | some (.sh d) => .ok d
 | _ => .st
def QA (i : Nat) : SE:=fun env => match env[i]? with
 | some (.sh d) => .ok d
 | some (.ow d) => .ok d
 | some (.bo d) => .ok d
 | some (.oo c fs _) => .ok (.obj c fs)
 | _ => .st
theorem Qc (i : Nat) {x : Str} (hN : X.N[i]? = some x:=by rfl) (hv : Vis X.env.scope x:=by first | exact Or.inl rfl | exact Or.inr (Or.inl rfl) | exact Or.inr (Or.inr rfl)) (hd : (x == ("__debug__" : Str)) = false:=by decide)
  (hcd : (x == ("__classdict__" : Str)) = false:=by decide) : PE X (.Name x pos) (ER X.K ct W (Qh i)):=by
 refine (pe_var hN hv hd hcd).imp fun σ H Q ⟨env,F,E,h⟩ => ?_
 unfold Qh at h
 split at h
 ·rename_i d q
  obtain ⟨v,e1,e2⟩:=E.sh i d q
  exact ⟨v,e1,h v F H (Gr.refl E.ex) e2⟩
 ·exact h.elim
theorem QL (i : Nat) {x : Str} (hN : X.N[i]? = some x:=by rfl) (hv : Vis X.env.scope x:=by first | exact Or.inl rfl | exact Or.inr (Or.inl rfl) | exact Or.inr (Or.inr rfl)) (hd : (x == ("__debug__" : Str)) = false:=by decide)
  (hcd : (x == ("__classdict__" : Str)) = false:=by decide) : PE X (.Name x pos) (EB X.K ct W (QA i)):=by
 refine (pe_var hN hv hd hcd).imp fun σ H Q ⟨env,F,E,h⟩ => ?_
 unfold QA at h
 split at h
 ·rename_i d q
  obtain ⟨v,e1,e2⟩:=E.sh i d q
  exact ⟨v,e1,h v F H (Gr.refl E.ex) (e2.b E.ex)⟩
 ·rename_i d q
  obtain ⟨v,e1,e2⟩:=E.ow i d q
  exact ⟨_,e1,h _ F H (Gr.refl E.ex) e2.b⟩
 ·rename_i d q
  obtain ⟨v,e1,e2,_⟩:=E.bo i d q
  exact ⟨v,e1,h v F H (Gr.refl E.ex) e2⟩
 ·rename_i c fs gs q
  obtain ⟨a,dx,fvs,e1,e2,e3,e4,e5,e6,_⟩:=E.oo i c fs gs q
  exact ⟨_,e1,h _ F H (Gr.refl E.ex) ⟨a,dx,fvs,rfl,e3,e4,e6⟩⟩
 ·exact h.elim
theorem e_b (h : PE X e (ER X.K ct W f)) : PE X e (EB X.K ct W f):=by
 refine PE.imp h fun σ H Q ⟨env,F,E,h⟩ => ⟨env,F,E,?_⟩
 cases q : f env with
 | ok d =>
  rw [q] at h
  exact fun v F' H' g m => h v F' H' g (Rep.b g.e m)
 | er c fs => rw [q] at h; exact h
 | st => rw [q] at h; exact h
theorem e_n (h : PE X e (EN X.K ct W f)) : PE X e (ER X.K ct W f):=by
 refine PE.imp h fun σ H Q ⟨env,F,E,h⟩ => ⟨env,F,E,?_⟩
 cases q : f env with
 | ok d =>
  rw [q] at h
  refine fun v F' H' g ⟨p,e1,e2,e3⟩ => ?_
  obtain ⟨o,ho⟩:=e3.there
  subst e1
  exact h _ _ H' (g.share E.ex e2 ho) (e3.freeze ho)
 | er c fs => rw [q] at h; exact h
 | st => rw [q] at h; exact h
def sC (d : D) : SE:=fun _ => .ok d
theorem Qn {i j} : PE X (.Constant (.int i) j pos) (ER X.K ct W (sC (.int i))):=pe_int.imp fun σ H Q ⟨env,F,E,h⟩ => h _ F H (Gr.refl E.ex) rfl
theorem QeG {i j} : PE X (.Constant (.bool i) j pos) (ER X.K ct W (sC (.bl i))):=pe_bl.imp fun σ H Q ⟨env,F,E,h⟩ => h _ F H (Gr.refl E.ex) rfl
theorem Qdt {j} : PE X (.Constant .none j pos) (ER X.K ct W (sC .non)):=pe_non.imp fun σ H Q ⟨env,F,E,h⟩ => h _ F H (Gr.refl E.ex) rfl
theorem Qfl {x j} : PE X (.Constant (.str x) j pos) (ER X.K ct W (sC (.str x))):=pe_str.imp fun σ H Q ⟨env,F,E,h⟩ => h _ F H (Gr.refl E.ex) rfl
def cV : D → Option V
 | .int i => some (.int i)
 | .str x => some (.str x)
 | .bl b => some (.bl b)
 | .non => some .non
 | _ => none
def Sp2 (K : PySem.W.Frag) (ct : Nat → Addr) (m1 m2 : Bool) (M : Md) (r : R2) (op : D → D → Option D) : Prop:=∀ F H x y d e z Q,Ex F H → (if m1 then RepB K ct F H d x else Rep K ct F d x) → (if m2 then RepB K ct F H e y else Rep K ct F e y) → op d e = some z →
 (∀ v F' H',Gr F H F' H' → M H F' H' z v → Q v H') → r x y H Q
def ofO : Option D → R
 | some d => .ok d
 | none => .st
def s2 (op : D → D → Option D) (f g : SE) : SE:=fun env => bnd (f env) fun d => bnd (g env) fun e => ofO (op d e)
def mX (K : PySem.W.Frag) (ct : Nat → Addr) (m : Bool) : Md:=if m then mB K ct else mR K ct
theorem Qie {K : PySem.W.Frag} {m : Bool} {H0 F H F' H' : Hp} {d : D} {v : V} (g : Gr F H F' H') (h : mX K ct m H0 F H d v) : if m then RepB K ct F' H' d v else Rep K ct F' d v:=by
 cases m with
 | true => exact RepB.gr g h
 | false => exact Rep.mono (Ex.le g.f) _ _ h
theorem QjL {K : PySem.W.Frag} {m : Bool} {H0 F H : Hp} {d : D} {v : V} (h : mX K ct m H0 F H d v) : if m then RepB K ct F H d v else Rep K ct F d v:=by
 cases m with
 | true => exact h
 | false => exact h
def QdF (M : Md) : Prop:=∀ (H H1 F2 H2 : Hp) d v,Ex H H1 → M H1 F2 H2 d v → M H F2 H2 d v
theorem Js {K : PySem.W.Frag} : QdF (mR K ct):=fun _ _ _ _ _ _ _ h => h
theorem Qif {K : PySem.W.Frag} : QdF (mN K ct):=fun _ _ _ _ _ _ e ⟨p,h1,h2,h3⟩ => ⟨p,h1,Ex.free e h2,h3⟩
theorem t2 {K : PySem.W.Frag} {M : Md} (hM : QdF M) {m1 m2 : Bool} {r : R2} {op : D → D → Option D} (hs : Sp2 K ct m1 m2 M r op) {σ : L2.St} {H : Hp} {Q : VK} (h : tM K ct W M (s2 op f g) σ H Q) :
  tOp r (tM K ct W (mX K ct m1) f) (tM K ct W (mX K ct m2) g) σ H Q:=by
 obtain ⟨env,F,E,h⟩:=h
 refine Z7 (Q1:=fun x H1 => tM K ct W (mX K ct m2) g σ H1 fun y H2 => r x y H2 Q) E h rfl fun d x F1 H1 e1 g1 r1 E1 h => ?_
 have h1 : Fin K ct W M F1 H1 σ (bnd (g env) fun e => ofO (op d e)) Q:=JJ g1 (fun _ _ _ _ m => hM _ _ _ _ _ _ g1.h m) h
 refine Z7 E1 h1 rfl fun e y F2 H2 e2 g2 r2 E2 h => ?_
 cases q : op d e with
 | none => rw [q] at h; exact h.elim
 | some z =>
  rw [q] at h
  exact hs F2 H2 x y d e z Q E2.ex (Qie g2 r1) (QjL r2) q fun v F' H' g3 m => h v F' H' (g2.trans g3) (hM _ _ _ _ _ _ g2.h m)
theorem QfG {op : Operator} {r : R2} {M : Md} {m1 m2 : Bool} {o2 : D → D → Option D} (ho : OpR X (binaryOp op) r) (hM : QdF M) (hs : Sp2 X.K ct m1 m2 M r o2) (ha : PE X a (tM X.K ct W (mX X.K ct m1) f)) (hb : PE X b (tM X.K ct W (mX X.K ct m2) g)) :
  PE X (.BinOp a op b pos) (tM X.K ct W M (s2 o2 f g)):=(pe_op ho ha hb).imp fun _ _ _ h => t2 hM hs h
theorem Qei {op : CmpOp} {r : R2} {m1 m2 : Bool} {o2 : D → D → Option D} (ho : OpR X (compareOp op) r) (hs : Sp2 X.K ct m1 m2 (mR X.K ct) r o2) (ha : PE X a (tM X.K ct W (mX X.K ct m1) f)) (hb : PE X b (tM X.K ct W (mX X.K ct m2) g))
  (hm : behindInMarks op b = false:=by first | exact nomark _ | rfl) : PE X (.Compare a [op] [b] pos) (ER X.K ct W (s2 o2 f g)):=(pe_cmpR ho ha hb hm).imp fun _ _ _ h => t2 Js hs h
theorem Qig {K : PySem.W.Frag} {t : TE} {f : SE} {σ : L2.St} {H : Hp} {Q : Bool → Hp → Prop} (ht : ∀ Q',tM K ct W (mR K ct) f σ H Q' → t σ H Q') (h : TT1 K ct W f σ H Q) : t σ H fun x H1 => ∃ c,x = .bl c ∧ Q c H1:=by
 obtain ⟨env,F,E,h⟩:=h
 refine ht _ ⟨env,F,E,?_⟩
 split at h
 ·rename_i b q
  rw [q]
  exact fun v F' H' g m => ⟨b,m,h F' H' g⟩
 ·exact h.elim
 ·rename_i c fs q
  rw [q]; exact h
 ·exact h.elim
theorem QcD {op : CmpOp} {r : R2} {m1 m2 : Bool} {o2 : D → D → Option D} (ho : OpR X (compareOp op) r) (hs : Sp2 X.K ct m1 m2 (mR X.K ct) r o2) (ha : PE X a (tM X.K ct W (mX X.K ct m1) f)) (hb : PE X b (tM X.K ct W (mX X.K ct m2) g))
  (hm : behindInMarks op b = false:=by first | exact nomark _ | rfl) : PT X (.Compare a [op] [b] pos) (TT1 X.K ct W (s2 o2 f g)):=(pt_cmpR ho ha hb hm).imp fun _ _ _ h => Qig (fun _ q => t2 Js hs q) h
theorem Jt (h : PE X e (ER X.K ct W f)) (he : ∀ whole,isTrue e X.env whole = (do let v ← whole; standAt e.pos; holding [v] (truthy v)):=by intro _; rfl) : PT X e (TT1 X.K ct W f):=(pt_val h he).imp fun _ _ _ h => Qig (fun _ q => q) h
def JK (f : SE) : SE:=fun env => bnd (f env) fun d => match d with
 | .bl b => .ok (.bl (!b))
 | _ => .st
def Qdn (f g : SE) : SE:=fun env => bnd (f env) fun d => match d with
 | .bl true => g env
 | .bl false => .ok (.bl false)
 | _ => .st
def sOr (f g : SE) : SE:=fun env => bnd (f env) fun d => match d with
 | .bl true => .ok (.bl true)
 | .bl false => g env
 | _ => .st
def sIf (c f g : SE) : SE:=fun env => bnd (c env) fun d => match d with
 | .bl true => f env
 | .bl false => g env
 | _ => .st
def Qi9 (K : PySem.W.Frag) (ct : Nat → Addr) (W : WX) (F H : Hp) (σ : L2.St) (r : R) (Q : Bool → Hp → Prop) : Prop:=match r with
 | .ok (.bl b) => ∀ F' H',Gr F H F' H' → Q b H'
 | .ok _ => False
 | .er c fs => ∀ dx F' H',Gr F H F' H' → ExcOk K ct F' dx fs → W (.ref (ct c)) dx σ H'
 | .st => False
theorem QeH {K : PySem.W.Frag} {F H F' H' : Hp} {σ : L2.St} {r : R} {Q : Bool → Hp → Prop} (g : Gr F H F' H') (h : Qi9 K ct W F H σ r Q) : Qi9 K ct W F' H' σ r Q:=by
 cases r with
 | ok d => cases d <;> first | exact h.elim | exact fun F2 H2 g2 => h F2 H2 (g.trans g2)
 | er c fs => exact fun dx F2 H2 g2 x => h dx F2 H2 (g.trans g2) x
 | st => exact h
theorem QbB {K : PySem.W.Frag} {F H : Hp} {σ : L2.St} {env : En} {f : SE} {C : Prop} {Q1 : Bool → Hp → Prop} (E : EnvOk K ct F H env σ)
  (hb : ∀ b,f env = .ok (.bl b) → ∀ F1 H1,Gr F H F1 H1 → EnvOk K ct F1 H1 env σ → Q1 b H1)
  (he : ∀ c fs,f env = .er c fs → ∀ dx F' H',Gr F H F' H' → ExcOk K ct F' dx fs → W (.ref (ct c)) dx σ H')
  (hs : (∀ b,f env ≠ .ok (.bl b)) → (∀ c fs,f env ≠ .er c fs) → False) : TT1 K ct W f σ H Q1:=by
 refine ⟨env,F,E,?_⟩
 cases e : f env with
 | ok d =>
  cases d with
  | bl b => exact fun F1 H1 g => hb b e F1 H1 g (E.gr g)
  | _ => exact hs (fun b q => by rw [e] at q; cases q) (fun c fs q => by rw [e] at q; cases q)
 | er c fs => exact he c fs e
 | st => exact hs (fun b q => by rw [e] at q; cases q) (fun c fs q => by rw [e] at q; cases q)
theorem QaK (h : PT X a (TT1 X.K ct W f)) : PT X (.UnaryOp .Not a pos) (TT1 X.K ct W (JK f)):=by
 refine (pt_not h).imp fun σ H Q ⟨env,F,E,h⟩ => ?_
 refine QbB (C:=True) E (fun b e F1 H1 g _ => ?_) (fun c fs e => ?_) (fun n1 n2 => ?_)
 ·rw [show JK f env = .ok (.bl (!b)) from by unfold JK; rw [e]; rfl] at h
  exact h F1 H1 g
 ·rw [show JK f env = .er c fs from by unfold JK; rw [e]; rfl] at h
  exact h
 ·unfold JK at h
  cases e : f env with
  | ok d => rw [e] at h; cases d <;> first | exact n1 _ e | exact h.elim
  | er c fs => exact n2 _ _ e
  | st => rw [e] at h; exact h.elim
theorem Qbx (ha : PT X a (TT1 X.K ct W f)) : PW X (.BoolOp .Or [a] pos) (TT1 X.K ct W f):=pw_or1 ha
theorem Qbz {rest : List Expr} (ha : PT X a (TT1 X.K ct W f)) (hb : PW X (.BoolOp .Or (b :: rest) pos) (TT1 X.K ct W g)) : PW X (.BoolOp .Or (a :: b :: rest) pos) (TT1 X.K ct W (sOr f g)):=by
 refine (pw_or ha hb).imp fun σ H Q ⟨env,F,E,h⟩ => ?_
 refine QbB (C:=True) E (fun b e F1 H1 g1 E1 => ?_) (fun c fs e => ?_) (fun n1 n2 => ?_)
 ·have hh : Qi9 X.K ct W F H σ (sOr f g env) Q:=h
  unfold sOr at hh
  rw [e] at hh
  cases b with
  | true => exact hh F1 H1 g1
  | false =>
   show TT1 X.K ct W g σ H1 Q
   exact ⟨env,F1,E1,QeH g1 hh⟩
 ·rw [show sOr f g env = .er c fs from by unfold sOr; rw [e]; rfl] at h
  exact h
 ·unfold sOr at h
  cases e : f env with
  | ok d => rw [e] at h; cases d <;> first | exact n1 _ e | exact h.elim
  | er c fs => exact n2 _ _ e
  | st => rw [e] at h; exact h.elim
theorem Qej {op} (h : PE X a (ER X.K ct W f)) : PE X (.BoolOp op [a] pos) (ER X.K ct W f):=pe_one h
theorem Qih (h : PE X a (ER X.K ct W f)) : PE X (.UnaryOp .Not a pos) (ER X.K ct W (JK f)):=by
 refine (pe_not h).imp fun σ H Q ⟨env,F,E,h⟩ => ?_
 refine Z7 E h rfl fun d v F1 H1 e1 g1 r1 E1 h => ?_
 cases d <;> first | exact h.elim | skip
 exact ⟨_,r1,h _ F1 H1 g1 rfl⟩
theorem Qdu {rest : List Expr} (ha : PE X a (ER X.K ct W f)) (hb : PE X (.BoolOp .And (b :: rest) pos) (ER X.K ct W g)) : PE X (.BoolOp .And (a :: b :: rest) pos) (ER X.K ct W (Qdn f g)):=by
 refine (pe_and ha hb).imp fun σ H Q ⟨env,F,E,h⟩ => ?_
 refine Z7 E h rfl fun d v F1 H1 e1 g1 r1 E1 h => ?_
 cases d <;> first | exact h.elim | skip
 rename_i b
 refine ⟨_,r1,?_⟩
 cases b with
 | true => exact ⟨env,F1,E1,JJ g1 (fun _ _ _ _ m => m) h⟩
 | false => exact h _ F1 H1 g1 rfl
theorem QjM {rest : List Expr} (ha : PE X a (ER X.K ct W f)) (hb : PE X (.BoolOp .Or (b :: rest) pos) (ER X.K ct W g)) : PE X (.BoolOp .Or (a :: b :: rest) pos) (ER X.K ct W (sOr f g)):=by
 refine (pe_or ha hb).imp fun σ H Q ⟨env,F,E,h⟩ => ?_
 refine Z7 E h rfl fun d v F1 H1 e1 g1 r1 E1 h => ?_
 cases d <;> first | exact h.elim | skip
 rename_i b
 refine ⟨_,r1,?_⟩
 cases b with
 | true => exact h _ F1 H1 g1 rfl
 | false => exact ⟨env,F1,E1,JJ g1 (fun _ _ _ _ m => m) h⟩
def Qk : SA:=fun _ => .ok []
def Qa (f : SE) (g : SA) : SA:=fun env => match f env with
 | .ok d => (match g env with
  | .ok ds => .ok (d :: ds)
  | .er c fs => .er c fs
  | .st => .st)
 | .er c fs => .er c fs
 | .st => .st
theorem ArgsRep.gr {K : PySem.W.Frag} {F H F' H' : Hp} (g : Gr F H F' H') : ∀ {ms : List Bool} {ds : List D} {vs : List V},ArgsRep K ct F H ms ds vs → ArgsRep K ct F' H' ms ds vs
 | [],_,_,h => h
 | m :: ms,_,_,⟨d,ds',v,vs',e1,e2,h,r⟩ => ⟨d,ds',v,vs',e1,e2,by
   cases m with
   | true => exact RepB.gr g h
   | false => exact Rep.mono (Ex.le g.f) _ _ h,ArgsRep.gr g r⟩
theorem ArgsRep.length {K : PySem.W.Frag} {F H : Hp} : ∀ {ms : List Bool} {ds : List D} {vs : List V},ArgsRep K ct F H ms ds vs → vs.length = ms.length
 | [],_,_,h => by rw [h.2]; rfl
 | m :: ms,_,_,⟨d,ds',v,vs',e1,e2,h,r⟩ => by rw [e2,List.length_cons,List.length_cons,ArgsRep.length r]
theorem Qo : PA X [] (tA X.K ct W [] Qk):=pa_nil.imp fun σ H Q ⟨env,F,E,h⟩ => h [] F H (Gr.refl E.ex) ⟨rfl,rfl⟩
theorem Qe {m : Bool} {ms : List Bool} {es : List Expr} {fs : SA} (ha : PE X e (tM X.K ct W (mX X.K ct m) f)) (hr : PA X es (tA X.K ct W ms fs)) (hs : starEach (e :: es) X.env = (false,eval e X.env) :: starEach es X.env:=by rfl) : PA X (e :: es) (tA X.K ct W (m :: ms) (Qa f fs)):=by
 refine (pa_cons ha hr hs).imp fun σ H Q ⟨env,F,E,h⟩ => ⟨env,F,E,?_⟩
 unfold Qa at h
 cases e1 : f env with
 | ok d =>
  rw [e1] at h
  refine fun v F1 H1 g1 r1 => ⟨env,F1,E.gr g1,?_⟩
  cases e2 : fs env with
  | ok ds =>
   rw [e2] at h
   exact fun vs F2 H2 g2 r2 => h (v :: vs) F2 H2 (g1.trans g2) ⟨d,ds,v,vs,rfl,rfl,Qie g2 r1,r2⟩
  | er c fs =>
   rw [e2] at h
   exact fun dx F2 H2 g2 x => h dx F2 H2 (g1.trans g2) x
  | st => rw [e2] at h; exact h.elim
 | er c fs => rw [e1] at h; exact h
 | st => rw [e1] at h; exact h.elim
theorem Qan {K : PySem.W.Frag} {M : Md} {F H : Hp} {σ : L2.St} {Q : VK} {env : En} {ms : List Bool} {f : SA} {k : List D → R} (E : EnvOk K ct F H env σ) (h : Fin K ct W M F H σ (QG (f env) k) Q)
  {Q1 : List V → Hp → Prop} (hk : ∀ ds vs F1 H1,Gr F H F1 H1 → ArgsRep K ct F1 H1 ms ds vs → EnvOk K ct F1 H1 env σ → Fin K ct W M F H σ (k ds) Q → Q1 vs H1) : tA K ct W ms f σ H Q1:=by
 refine ⟨env,F,E,?_⟩
 cases e : f env with
 | ok d =>
  rw [e] at h
  exact fun vs F1 H1 g m => hk d vs F1 H1 g m (E.gr g) h
 | er c fs =>
  rw [e] at h
  exact h
 | st =>
  rw [e] at h
  exact h
end
end Ps
namespace Ps
open PySem L2
def QiA : D → D → Option D
 | .int i,.int j => some (.int (i + j))
 | .str x,.str y => if x.length + y.length ≤ sizeLine then some (.str (x ++ y)) else none
 | _,_ => none
def QiB : D → D → Option D
 | .lst xs,.lst ys => if xs.length + ys.length ≤ sizeLine then some (.lst (xs ++ ys)) else none
 | _,_ => none
def Qek : D → D → Option D
 | .int i,.int j => some (.int (i - j))
 | _,_ => none
def QiC : D → D → Option D
 | .int i,.int j => if (-(2 ^ 64) < i ∧ i < 2 ^ 64) ∨ (-(2 ^ 64) < j ∧ j < 2 ^ 64) then some (.int (i * j)) else none
 | _,_ => none
def JL : D → D → Option D
 | .int i,.int j => if 0 < j ∧ j < 1073741824 then some (.int (i / j)) else none
 | _,_ => none
def Qa2 : D → D → Option D
 | .int i,.int j => if 0 < j then some (.int (i % j)) else none
 | _,_ => none
def QfH : D → D → Option D
 | .int i,.int j => if 0 ≤ j ∧ j ≤ 1000000 ∧ i.natAbs < 2 ^ 64 then some (.int (i ^ j.toNat)) else none
 | _,_ => none
def dLt : D → D → Option D
 | .int i,.int j => some (.bl (decide (i < j)))
 | _,_ => none
def dLe : D → D → Option D
 | .int i,.int j => some (.bl (decide (i ≤ j)))
 | _,_ => none
def dGt : D → D → Option D
 | .int i,.int j => some (.bl (decide (j < i)))
 | _,_ => none
def dGe : D → D → Option D
 | .int i,.int j => some (.bl (decide (j ≤ i)))
 | _,_ => none
def QcE : D → Bool
 | .non => true
 | _ => false
def dIs : D → D → Option D
 | d,.non => some (.bl (QcE d))
 | _,_ => none
mutual
def toP : D → Option PyData
 | .non => some .none
 | .bl b => some (.bool b)
 | .int i => some (.int i)
 | .str x => some (.str x)
 | .lst ds => (toPs ds).map .list
 | .tup ds => (toPs ds).map .tuple
 | .scr ns => some (.list (ns.map .int))
 | _ => none
def toPs : List D → Option (List PyData)
 | [] => some []
 | d :: ds => (toP d).bind fun p => (toPs ds).map fun ps => p :: ps
end
def dEq (d e : D) : Option D:=(toP d).bind fun p => (toP e).bind fun q => if SeqAt.shaped p && SeqAt.shaped q then some (.bl (PyData.eqv p q)) else none
def dNe (d e : D) : Option D:=(toP d).bind fun p => (toP e).bind fun q => if SeqAt.shaped p && SeqAt.shaped q then some (.bl (!PyData.eqv p q)) else none
section
variable {K : PySem.W.Frag} {ct : Nat → Addr} {F H : Hp}
theorem QcF : ∀ (ns : List Int),DpAll K H (ns.map V.int) (ns.map PyData.int)
 | [] => .nil
 | n :: ns => .cons (.int n) (QcF ns)
mutual
theorem Rep.dp : ∀ (d : D) (v : V) (p : PyData),Rep K ct F d v → toP d = some p → Dp K F v p
 | .non,v,p,h,e => by cases e; rw [show v = .non from h]; exact .non
 | .bl b,v,p,h,e => by cases e; rw [show v = .bl b from h]; exact .bl b
 | .int i,v,p,h,e => by cases e; rw [show v = .int i from h]; exact .int i
 | .str x,v,p,h,e => by cases e; rw [show v = .str x from h]; exact .str x
 | .lst ds,v,p,h,e => by
  obtain ⟨a,vs,e1,e2,e3⟩:=h
  obtain ⟨ps,q1,q2⟩:=Option.map_eq_some_iff.mp (show (toPs ds).map .list = some p from e)
  subst e1 q2
  exact .lst (.inl (.inl e2)) (Reps.dp ds vs ps e3 q1)
 | .tup ds,v,p,h,e => by
  obtain ⟨a,vs,e1,e2,e3⟩:=h
  obtain ⟨ps,q1,q2⟩:=Option.map_eq_some_iff.mp (show (toPs ds).map .tuple = some p from e)
  subst e1 q2
  exact .tup (.inl (.inl e2)) (Reps.dp ds vs ps e3 q1)
 | .scr ns,v,p,h,e => by
  obtain ⟨a,e1,e2⟩:=h
  cases e; subst e1
  exact .lst e2 (QcF ns)
 | .rd _,_,_,_,e => by cases e
 | .dk _,_,_,_,e => by cases e
 | .dt _,_,_,_,e => by cases e
 | .obj _ _,_,_,_,e => by cases e
 | .exo _ _,_,_,_,e => by cases e
theorem Reps.dp : ∀ (ds : List D) (vs : List V) (ps : List PyData),Reps K ct F ds vs → toPs ds = some ps → DpAll K F vs ps
 | [],vs,ps,h,e => by cases e; rw [show vs = [] from h]; exact .nil
 | d :: ds,vs,ps,h,e => by
  obtain ⟨v,r,e1,e2,e3⟩:=h
  obtain ⟨p,q1,q2⟩:=Option.bind_eq_some_iff.mp (show ((toP d).bind fun p => (toPs ds).map fun ps => p :: ps) = some ps from e)
  obtain ⟨ps',q3,q4⟩:=Option.map_eq_some_iff.mp q2
  subst e1 q4
  exact .cons (Rep.dp d v p e2 q1) (Reps.dp ds r ps' e3 q3)
end
end
section
variable {K : PySem.W.Frag} {ct : Nat → Addr}
theorem QaQ {m1 m2 : Bool} {r : R2} {op : D → D → Option D} (ho : ∀ d e z,op d e = some z → ∃ i j w,d = .int i ∧ e = .int j ∧ cV z = some w ∧ ∀ (H : Hp) (Q : VK),Q w H → r (.int i) (.int j) H Q) : Sp2 K ct m1 m2 (mR K ct) r op:=by
 intro F H x y d e z Q ex hx hy hz hQ
 obtain ⟨i,j,w,rfl,rfl,hw,hr⟩:=ho d e z hz
 have ex1 : x = .int i:=by cases m1 <;> exact hx
 have ey1 : y = .int j:=by cases m2 <;> exact hy
 subst ex1 ey1
 refine hr H Q (hQ w F H (Gr.refl ex) ?_)
 cases z <;> first | (cases hw; done) | (injection hw with hw; subst hw; rfl)
def Qii : R2:=fun x y H Q => (rI0 (fun i j => .int (i + j)) x y H Q) ∨ (∃ i j,x = .str i ∧ y = .str j ∧ i.length + j.length ≤ sizeLine ∧ Q (.str (i ++ j)) H)
theorem op_add1 {X : Cx} : OpR X (binaryOp .Add) Qii:=op_add.or op_add_str
theorem QiD {m1 m2 : Bool} : Sp2 K ct m1 m2 (mR K ct) Qii QiA:=by
 intro F H x y d e z Q ex hx hy hz hQ
 cases d <;> cases e <;> first | (cases hz; done) | skip
 ·rename_i i j
  have ex1 : x = .int i:=by cases m1 <;> exact hx
  have ey1 : y = .int j:=by cases m2 <;> exact hy
  subst ex1 ey1
  cases hz
  exact .inl ⟨i,j,rfl,rfl,hQ _ F H (Gr.refl ex) rfl⟩
 ·rename_i i j
  have ex1 : x = .str i:=by cases m1 <;> exact hx
  have ey1 : y = .str j:=by cases m2 <;> exact hy
  subst ex1 ey1
  simp only [QiA] at hz
  split at hz
  ·rename_i hl
   cases hz
   exact .inr ⟨i,j,rfl,rfl,hl,hQ _ F H (Gr.refl ex) rfl⟩
  ·cases hz
theorem Qgh {m : Bool} {F H : Hp} {ds : List D} {x : V} (ex : Ex F H) (h : if m then RepB K ct F H (.lst ds) x else Rep K ct F (.lst ds) x) : ∃ a vs,x = .ref a ∧ H a = some (.lst vs) ∧ Reps K ct F ds vs:=by
 cases m with
 | true => exact h
 | false => exact Rep.b ex (d:=.lst ds) h
theorem QiE {m1 m2 : Bool} : Sp2 K ct m1 m2 (mN K ct) rCat QiB:=by
 intro F H x y d e z Q ex hx hy hz hQ
 cases d <;> cases e <;> first | (cases hz; done) | skip
 rename_i ds es
 obtain ⟨a,vs,rfl,h1,r1⟩:=Qgh ex hx
 obtain ⟨b,us,rfl,h2,r2⟩:=Qgh ex hy
 simp only [QiB] at hz
 split at hz
 ·rename_i hl
  cases hz
  refine ⟨a,b,vs,us,rfl,rfl,h1,h2,by rw [r1.length,r2.length]; exact hl,fun p hp => hQ _ F _ (Gr.own ex hp) ⟨p,rfl,hp,Ex.free ex hp,vs ++ us,upd_same,r1.append r2⟩⟩
 ·cases hz
theorem QiF {m1 m2 : Bool} : Sp2 K ct m1 m2 (mR K ct) (rI0 fun i j => .int (i - j)) Qek:=QaQ fun d e z h => by
 cases d <;> cases e <;> cases h
 exact ⟨_,_,_,rfl,rfl,rfl,fun H Q q => ⟨_,_,rfl,rfl,q⟩⟩
theorem QiG {m1 m2 : Bool} : Sp2 K ct m1 m2 (mR K ct) (rI CMul fun i j => .int (i * j)) QiC:=QaQ fun d e z h => by
 cases d <;> cases e <;> first | (cases h; done) | skip
 simp only [QiC] at h
 split at h
 ·rename_i hc
  cases h
  exact ⟨_,_,_,rfl,rfl,rfl,fun H Q q => ⟨_,_,rfl,rfl,hc,q⟩⟩
 ·cases h
theorem Qhp {m1 m2 : Bool} : Sp2 K ct m1 m2 (mR K ct) (rI CDiv fun i j => .int (i / j)) JL:=QaQ fun d e z h => by
 cases d <;> cases e <;> first | (cases h; done) | skip
 simp only [JL] at h
 split at h
 ·rename_i hc
  cases h
  exact ⟨_,_,_,rfl,rfl,rfl,fun H Q q => ⟨_,_,rfl,rfl,hc,q⟩⟩
 ·cases h
theorem QiH {m1 m2 : Bool} : Sp2 K ct m1 m2 (mR K ct) (rI (fun _ j => 0 < j) fun i j => .int (i % j)) Qa2:=QaQ fun d e z h => by
 cases d <;> cases e <;> first | (cases h; done) | skip
 simp only [Qa2] at h
 split at h
 ·rename_i hc
  cases h
  exact ⟨_,_,_,rfl,rfl,rfl,fun H Q q => ⟨_,_,rfl,rfl,hc,q⟩⟩
 ·cases h
theorem QiI {m1 m2 : Bool} : Sp2 K ct m1 m2 (mR K ct) (rI CPow fun i j => .int (i ^ j.toNat)) QfH:=QaQ fun d e z h => by
 cases d <;> cases e <;> first | (cases h; done) | skip
 simp only [QfH] at h
 split at h
 ·rename_i hc
  cases h
  exact ⟨_,_,_,rfl,rfl,rfl,fun H Q q => ⟨_,_,rfl,rfl,hc,q⟩⟩
 ·cases h
theorem Qij {m1 m2 : Bool} : Sp2 K ct m1 m2 (mR K ct) (rI0 fun i j => .bl (decide (i < j))) dLt:=QaQ fun d e z h => by
 cases d <;> cases e <;> cases h
 exact ⟨_,_,_,rfl,rfl,rfl,fun H Q q => ⟨_,_,rfl,rfl,q⟩⟩
theorem QjN {m1 m2 : Bool} : Sp2 K ct m1 m2 (mR K ct) (rI0 fun i j => .bl (decide (j < i))) dGt:=QaQ fun d e z h => by
 cases d <;> cases e <;> cases h
 exact ⟨_,_,_,rfl,rfl,rfl,fun H Q q => ⟨_,_,rfl,rfl,q⟩⟩
theorem Qik {m1 m2 : Bool} : Sp2 K ct m1 m2 (mR K ct) (rI0 fun i j => .bl (decide (j ≤ i))) dGe:=QaQ fun d e z h => by
 cases d <;> cases e <;> cases h
 exact ⟨_,_,_,rfl,rfl,rfl,fun H Q q => ⟨_,_,rfl,rfl,q⟩⟩
theorem Qbn {m : Bool} {F H : Hp} {d : D} {x : V} (ex : Ex F H) (h : if m then RepB K ct F H d x else Rep K ct F d x) : Rep K ct H d x:=by
 cases m with
 | true => exact RepB.all ex h
 | false => exact Rep.mono (Ex.le ex) _ _ h
theorem Qil {m1 m2 : Bool} : Sp2 K ct m1 m2 (mR K ct) (rEqD K) dEq:=by
 intro F H x y d e z Q ex hx hy hz hQ
 obtain ⟨p,q1,hz⟩:=Option.bind_eq_some_iff.mp hz
 obtain ⟨q,q2,hz⟩:=Option.bind_eq_some_iff.mp hz
 split at hz
 ·rename_i hs
  obtain ⟨s1,s2⟩:=Bool.and_eq_true_iff.mp hs
  cases hz
  exact ⟨p,q,Rep.dp _ _ _ (Qbn ex hx) q1,Rep.dp _ _ _ (Qbn ex hy) q2,s1,s2,hQ _ F H (Gr.refl ex) rfl⟩
 ·cases hz
theorem Qim {m1 m2 : Bool} : Sp2 K ct m1 m2 (mR K ct) (rNeD K) dNe:=by
 intro F H x y d e z Q ex hx hy hz hQ
 obtain ⟨p,q1,hz⟩:=Option.bind_eq_some_iff.mp hz
 obtain ⟨q,q2,hz⟩:=Option.bind_eq_some_iff.mp hz
 split at hz
 ·rename_i hs
  obtain ⟨s1,s2⟩:=Bool.and_eq_true_iff.mp hs
  cases hz
  exact ⟨p,q,Rep.dp _ _ _ (Qbn ex hx) q1,Rep.dp _ _ _ (Qbn ex hy) q2,s1,s2,hQ _ F H (Gr.refl ex) rfl⟩
 ·cases hz
theorem Qgi {m : Bool} {F H : Hp} {d : D} {x : V} (h : if m then RepB K ct F H d x else Rep K ct F d x) : decide (x = .non) = QcE d:=by
 cases d with
 | non =>
  have e : x = .non:=by cases m <;> exact h
  subst e; rfl
 | bl b =>
  have e : x = .bl b:=by cases m <;> exact h
  subst e; rfl
 | int i =>
  have e : x = .int i:=by cases m <;> exact h
  subst e; rfl
 | str i =>
  have e : x = .str i:=by cases m <;> exact h
  subst e; rfl
 | lst ds =>
  obtain ⟨a,e⟩ : ∃ a,x = .ref a:=by cases m <;> exact let ⟨a,_,e,_⟩:=h; ⟨a,e⟩
  subst e; rfl
 | tup ds =>
  obtain ⟨a,e⟩ : ∃ a,x = .ref a:=by cases m <;> exact let ⟨a,_,e,_⟩:=h; ⟨a,e⟩
  subst e; rfl
 | scr ds =>
  obtain ⟨a,e⟩ : ∃ a,x = .ref a:=by cases m <;> exact let ⟨a,e,_⟩:=h; ⟨a,e⟩
  subst e; rfl
 | rd ds =>
  obtain ⟨a,e⟩ : ∃ a,x = .ref a:=by cases m <;> exact let ⟨a,_,e,_⟩:=h; ⟨a,e⟩
  subst e; rfl
 | dk ds =>
  obtain ⟨a,e⟩ : ∃ a,x = .ref a:=by cases m <;> exact let ⟨a,_,e,_⟩:=h; ⟨a,e⟩
  subst e; rfl
 | dt ds =>
  obtain ⟨a,e⟩ : ∃ a,x = .ref a:=by cases m <;> exact let ⟨a,_,e,_⟩:=h; ⟨a,e⟩
  subst e; rfl
 | obj c fs =>
  obtain ⟨a,e⟩ : ∃ a,x = .ref a:=by cases m <;> exact let ⟨a,_,_,e,_⟩:=h; ⟨a,e⟩
  subst e; rfl
 | exo c fs =>
  obtain ⟨a,e⟩ : ∃ a,x = .ref a:=by cases m <;> exact let ⟨a,_,e,_⟩:=h; ⟨a,e⟩
  subst e; rfl
theorem QjO {m1 m2 : Bool} : Sp2 K ct m1 m2 (mR K ct) (fun x y H Q => y = .non ∧ Q (.bl (decide (x = .non))) H) dIs:=by
 intro F H x y d e z Q ex hx hy hz hQ
 cases e <;> first | (cases d <;> cases hz; done) | skip
 have hz' : z = .bl (QcE d):=by cases d <;> cases hz <;> rfl
 subst hz'
 refine ⟨by cases m2 <;> exact hy,?_⟩
 rw [Qgi hx]
 exact hQ _ F H (Gr.refl ex) rfl
end
def J8 : D → Bool
 | .non => true | .bl _ => true | .int _ => true | .str _ => true | _ => false
def QcG : D → Option Key
 | .int i => some (.inl i)
 | .str x => some (.inr x)
 | _ => none
def Qao : List D → Option (List Key)
 | [] => some []
 | d :: ds => (QcG d).bind fun k => (Qao ds).map fun ks => k :: ks
def toV : D → V
 | .non => .non | .bl b => .bl b | .int i => .int i | .str x => .str x | _ => .non
def JD {κ : Type} [DecidableEq κ] (kvs : List (κ × D)) (k : κ) : Option D:=(kvs.find? fun kv => decide (kv.1 = k)).map (·.2)
def inD (d e : D) : Option Bool:=match e with
 | .str y => (match d with
  | .str x => some (!(Builtin.Str.occurrences y x 0 y.length 1).isEmpty)
  | _ => none)
 | .lst ds => if J8 d && ds.all J8 then some (inV (toV d) (ds.map toV)) else none
 | .tup ds => if J8 d && ds.all J8 then some (inV (toV d) (ds.map toV)) else none
 | .dk kvs => (QcG d).map fun k => (JD kvs k).isSome
 | .dt kvs => (match d with
  | .tup ds => (Qao ds).map fun k => (JD kvs k).isSome
  | _ => none)
 | _ => none
def dIn (d e : D) : Option D:=(inD d e).map .bl
def QcH (d e : D) : Option D:=(inD d e).map fun b => .bl (!b)
def QjP : R2:=fun x y H Q => ∃ a o,y = .ref a ∧ DGet H a x o ∧ Q (.bl o.isSome) H
def Qfm : R2:=fun x y H Q => ∃ a o,y = .ref a ∧ DGet H a x o ∧ Q (.bl (!o.isSome)) H
theorem QiJ {X : Cx} (hu : X.A.units + 1 < cLine) : OpR X (compareOp .In) QjP:=by
 intro pins s σ H x y v u Q I rx ry h
 obtain ⟨a,o,rfl,g,q⟩:=h
 obtain rfl : u = Value.ref a:=ry
 exact d_in hu I g rx fun s' I' => ⟨.bl o.isSome,H,I',rfl,q⟩
theorem QfI {X : Cx} (hu : X.A.units + 1 < cLine) : OpR X (compareOp .NotIn) Qfm:=by
 intro pins s σ H x y v u Q I rx ry h
 obtain ⟨a,o,rfl,g,q⟩:=h
 obtain rfl : u = Value.ref a:=ry
 exact d_notIn hu I g rx fun s' I' => ⟨.bl (!o.isSome),H,I',rfl,q⟩
abbrev QjQ (K : PySem.W.Frag) : R2:=fun x y H Q => (∃ i j,x = .str i ∧ y = .str j ∧ Q (.bl (!(Builtin.Str.occurrences j i 0 j.length 1).isEmpty)) H) ∨ (rIn K false x y H Q ∨ QjP x y H Q)
abbrev Qfn (K : PySem.W.Frag) : R2:=fun x y H Q => (∃ i j,x = .str i ∧ y = .str j ∧ Q (.bl (!(!(Builtin.Str.occurrences j i 0 j.length 1).isEmpty))) H) ∨ (rIn K true x y H Q ∨ Qfm x y H Q)
theorem QiK {X : Cx} (hu : X.A.units + 1 < cLine) : OpR X (compareOp .In) (QjQ X.K):=op_in_str.or (op_in_seq.or (QiJ hu))
theorem QfJ {X : Cx} (hu : X.A.units + 1 < cLine) : OpR X (compareOp .NotIn) (Qfn X.K):=op_notin_str.or (op_notIn_seq.or (QfI hu))
section
variable {K : PySem.W.Frag} {ct : Nat → Addr} {F H : Hp}
theorem QaR {d : D} {v : V} (h : Rep K ct F d v) (f : J8 d = true) : v = toV d ∧ flatV v = true:=by
 cases d <;> first | (cases f; done) | (rw [show v = _ from h]; exact ⟨rfl,rfl⟩)
theorem QbV : ∀ {ds : List D} {vs : List V},Reps K ct F ds vs → ds.all J8 = true → vs = ds.map toV ∧ vs.all flatV = true
 | [],vs,h,_ => by rw [show vs = [] from h]; exact ⟨rfl,rfl⟩
 | d :: ds,vs,h,f => by
  obtain ⟨v,r,e1,e2,e3⟩:=h
  obtain ⟨f1,f2⟩:=Bool.and_eq_true_iff.mp (by rw [List.all_cons] at f; exact f)
  obtain ⟨g1,g2⟩:=QaR e2 f1
  obtain ⟨g3,g4⟩:=QbV e3 f2
  subst e1
  exact ⟨by rw [List.map_cons,← g1,← g3],by rw [List.all_cons,g2,g4]; rfl⟩
theorem QdG {d : D} {v : V} {k : Key} (h : Rep K ct F d v) (f : QcG d = some k) : v = kV k:=by
 cases d <;> first | (cases f; done) | (cases f; exact h)
theorem QbW : ∀ {ds : List D} {vs : List V} {ks : List Key},Reps K ct F ds vs → Qao ds = some ks → vs = ks.map kV
 | [],vs,ks,h,f => by cases f; exact h
 | d :: ds,vs,ks,h,f => by
  obtain ⟨v,r,e1,e2,e3⟩:=h
  obtain ⟨k,q1,q2⟩:=Option.bind_eq_some_iff.mp (show ((QcG d).bind fun k => (Qao ds).map fun ks => k :: ks) = some ks from f)
  obtain ⟨ks',q3,q4⟩:=Option.map_eq_some_iff.mp q2
  subst e1 q4
  rw [QdG e2 q1,QbW e3 q3]; rfl
theorem QcI : ∀ {kvs : List (Key × D)} {vs : List (Key × V)} (k : Key),RepK K ct F kvs vs → (JD kvs k = none ∧ valV vs k = none) ∨ ∃ d v,JD kvs k = some d ∧ valV vs k = some v ∧ Rep K ct F d v
 | [],vs,k,h => by rw [show vs = [] from h]; exact .inl ⟨rfl,rfl⟩
 | (k',d) :: kvs,vs,k,h => by
  obtain ⟨v,r,e1,e2,e3⟩:=h
  subst e1
  by_cases e : k' = k
  ·subst e
   exact .inr ⟨d,v,by simp [JD,List.find?_cons],by rw [valV_pos rfl],e2⟩
  ·have h1 : JD ((k',d) :: kvs) k = JD kvs k:=by simp [JD,List.find?_cons,e]
   rw [h1,valV_neg (p:=(k',v)) e]
   exact QcI k e3
theorem QcJ : ∀ {kvs : List (List Key × D)} {vs : List (List Key × V)} (k : List Key),RepT K ct F kvs vs → (JD kvs k = none ∧ valV vs k = none) ∨ ∃ d v,JD kvs k = some d ∧ valV vs k = some v ∧ Rep K ct F d v
 | [],vs,k,h => by rw [show vs = [] from h]; exact .inl ⟨rfl,rfl⟩
 | (k',d) :: kvs,vs,k,h => by
  obtain ⟨v,r,e1,e2,e3⟩:=h
  subst e1
  by_cases e : k' = k
  ·subst e
   exact .inr ⟨d,v,by simp [JD,List.find?_cons],by rw [valV_pos rfl],e2⟩
  ·have h1 : JD ((k',d) :: kvs) k = JD kvs k:=by simp [JD,List.find?_cons,e]
   rw [h1,valV_neg (p:=(k',v)) e]
   exact QcJ k e3
theorem QfK {kvs : List (Key × D)} {vs : List (Key × V)} (k : Key) (h : RepK K ct F kvs vs) : (JD kvs k).isSome = (valV vs k).isSome:=by
 rcases QcI k h with ⟨e1,e2⟩ | ⟨d,v,e1,e2,_⟩ <;> rw [e1,e2] <;> rfl
theorem QfL {kvs : List (List Key × D)} {vs : List (List Key × V)} (k : List Key) (h : RepT K ct F kvs vs) : (JD kvs k).isSome = (valV vs k).isSome:=by
 rcases QcJ k h with ⟨e1,e2⟩ | ⟨d,v,e1,e2,_⟩ <;> rw [e1,e2] <;> rfl
theorem Qgj {a : Addr} {vs : List (Key × V)} {x : V} {d : D} {k : Key} (e : Rd H a (.dK vs)) (hx : Rep K ct H d x) (hk : QcG d = some k) : DGet H a x (valV vs k):=.inl ⟨vs,k,e,QdG hx hk,rfl⟩
theorem Qgk {a : Addr} {vs : List (List Key × V)} {x : V} {ds : List D} {k : List Key} (e : Rd H a (.dT vs)) (hx : Rep K ct H (.tup ds) x) (hk : Qao ds = some k) : DGet H a x (valV vs k):=by
 obtain ⟨b,us,rfl,h1,h2⟩:=hx
 rw [QbW h2 hk] at h1
 exact .inr ⟨vs,k,b,e,rfl,h1,rfl⟩
theorem Qgl {m1 m2 : Bool} {op : D → D → Option D} {r : R2} {g : Bool → Bool} (hop : ∀ d e,op d e = (inD d e).map fun b => .bl (g b))
  (hr : ∀ x y H Q,((∃ i j,x = .str i ∧ y = .str j ∧ Q (.bl (g (!(Builtin.Str.occurrences j i 0 j.length 1).isEmpty))) H) ∨ ((∃ p xs,y = .ref p ∧ (SqL K H p xs ∨ SqT K H p xs) ∧ flatV x = true ∧ xs.all flatV = true ∧ Q (.bl (g (inV x xs))) H) ∨ (∃ a o,y = .ref a ∧ DGet H a x o ∧ Q (.bl (g o.isSome)) H))) → r x y H Q) :
  Sp2 K ct m1 m2 (mR K ct) r op:=by
 intro F H x y d e z Q ex hx hy hz hQ
 rw [hop] at hz
 obtain ⟨b,hb,rfl⟩:=Option.map_eq_some_iff.mp hz
 have hq : Q (.bl (g b)) H:=hQ _ F H (Gr.refl ex) rfl
 have hx':=Qbn ex hx
 have hy':=Qbn ex hy
 apply hr
 cases e <;> first | (cases hb; done) | skip
 ·rename_i y'
  cases d <;> first | (cases hb; done) | skip
  cases hb
  rw [show y = .str y' from hy',show x = .str _ from hx']
  exact .inl ⟨_,_,rfl,rfl,hq⟩
 ·rename_i ds
  simp only [inD] at hb
  split at hb
  ·rename_i hf
   obtain ⟨f1,f2⟩:=Bool.and_eq_true_iff.mp hf
   cases hb
   obtain ⟨a,vs,rfl,h1,h2⟩:=hy'
   obtain ⟨g1,g2⟩:=QaR hx' f1
   obtain ⟨g3,g4⟩:=QbV h2 f2
   rw [← g1,← g3] at hq
   exact .inr (.inl ⟨a,vs,rfl,.inl (SqL.of h1),g2,g4,hq⟩)
  ·cases hb
 ·rename_i ds
  simp only [inD] at hb
  split at hb
  ·rename_i hf
   obtain ⟨f1,f2⟩:=Bool.and_eq_true_iff.mp hf
   cases hb
   obtain ⟨a,vs,rfl,h1,h2⟩:=hy'
   obtain ⟨g1,g2⟩:=QaR hx' f1
   obtain ⟨g3,g4⟩:=QbV h2 f2
   rw [← g1,← g3] at hq
   exact .inr (.inl ⟨a,vs,rfl,.inr (SqT.of h1),g2,g4,hq⟩)
  ·cases hb
 ·rename_i kvs
  obtain ⟨k,hk,rfl⟩:=Option.map_eq_some_iff.mp (show ((QcG d).map fun k => (JD kvs k).isSome) = some b from hb)
  obtain ⟨a,vs,rfl,h1,h2⟩:=hy'
  rw [QfK k h2] at hq
  exact .inr (.inr ⟨a,_,rfl,Qgj h1 hx' hk,hq⟩)
 ·rename_i kvs
  cases d <;> first | (cases hb; done) | skip
  rename_i ds
  obtain ⟨k,hk,rfl⟩:=Option.map_eq_some_iff.mp (show ((Qao ds).map fun k => (JD kvs k).isSome) = some b from hb)
  obtain ⟨a,vs,rfl,h1,h2⟩:=hy'
  rw [QfL k h2] at hq
  exact .inr (.inr ⟨a,_,rfl,Qgk h1 hx' hk,hq⟩)
theorem QjR {m1 m2 : Bool} : Sp2 K ct m1 m2 (mR K ct) (QjQ K) dIn:=Qgl (g:=fun b => b) (fun d e => rfl) fun x y H Q h => by
 rcases h with h | ⟨p,xs,h1,h2,h3,h4,h5⟩ | h
 ·exact .inl h
 ·exact .inr (.inl ⟨p,xs,h1,h2,h3,h4,h5⟩)
 ·exact .inr (.inr h)
theorem Qgm {m1 m2 : Bool} : Sp2 K ct m1 m2 (mR K ct) (Qfn K) QcH:=Qgl (g:=fun b => !b) (fun d e => rfl) fun x y H Q h => by
 rcases h with h | ⟨p,xs,h1,h2,h3,h4,h5⟩ | h
 ·exact .inl h
 ·exact .inr (.inl ⟨p,xs,h1,h2,h3,h4,h5⟩)
 ·exact .inr (.inr h)
end
end Ps
namespace Ps
open PySem PySem.Spec PyProof.Rows L2
def dIx (d e : D) : Option D:=match d,e with
 | .lst ds,.int i => atI ds i
 | .tup ds,.int i => atI ds i
 | .str x,.int i => if x.length ≤ sizeLine then (atI x.cps.toList i).map fun c => .str ⟨#[c]⟩ else none
 | .scr ns,.int i => (atI ns i).map .int
 | .dk kvs,k => (QcG k).bind fun k => JD kvs k
 | .dt kvs,.tup ds => (Qao ds).bind fun k => JD kvs k
 | _,_ => none
def Qin : R2:=fun x y H Q => ∃ a v,x = .ref a ∧ DGet H a y (some v) ∧ Q v H
theorem QjS {X : Cx} (hu : X.A.units + 1 < cLine) : IxR X Qin:=by
 intro value slice pins s σ H x y v u Q I rx ry h hs
 obtain ⟨a,w,rfl,g,q⟩:=h
 obtain rfl : v = Value.ref a:=rx
 have hT:=dict_typeIs I g
 have hg : wpAny (model X.prog X.w) X.A (getItem (.ref a) u) (EP X pins σ Q) X.xe s:=d_getItem hu I g ry fun w' s3 I3 rw' => ⟨w,H,I3,rw',q⟩
 unfold subscriptTail
 refine wpAny_bind ?_
 rw [getitemInPython_of_ne hT.not_modules]
 refine wpAny_bind (wpAny_specialOf hT PySem.F.slot_dict_getitem.lookup ?_)
 have fin : wpAny (model X.prog X.w) X.A (subscripted slice false (.ref a) u) (fun r s₃ => wpAny (model X.prog X.w) X.A (letTemporaryGo value (.ref a) r >>= fun _ => pure r) (EP X pins σ Q) X.xe s₃) X.xe s:=by
  rw [hs]
  exact wpAny_operating (wpAny_mono hg (fun r s₃ h₃ => wpAny_bind (wpAny_letTemporaryGo (wpAny_pure h₃))) fun _ _ x => x)
 first
  | exact wpAny_pure (wpAny_bind fin)
  | exact wpAny_bind (wpAny_pure (wpAny_bind fin))
  | exact wpAny_bind fin
abbrev QjT (K : PySem.W.Frag) : R2:=fun x y H Q => rIx K x y H Q ∨ Qin x y H Q
theorem ix1 {X : Cx} (hu : X.A.units + 1 < cLine) : IxR X (QjT X.K):=ix_seq.or (QjS hu)
section
variable {K : PySem.W.Frag} {ct : Nat → Addr} {F H : Hp}
theorem Qfo {ds : List D} {vs : List V} {i : Int} {d : D} (h : Reps K ct F ds vs) (e : atI ds i = some d) : ∃ v,atI vs i = some v ∧ Rep K ct F d v:=by
 unfold atI at e ⊢
 rw [h.length]
 obtain ⟨j,e1,e2⟩:=Option.bind_eq_some_iff.mp e
 obtain ⟨v,h1,h2⟩:=h.get e2
 exact ⟨v,by rw [e1]; exact h1,h2⟩
theorem Qc2 {α β : Type} (f : α → β) (xs : List α) (i : Int) : atI (xs.map f) i = (atI xs i).map f:=by
 unfold atI
 rw [List.length_map]
 cases ixN xs.length i with
 | none => rfl
 | some j => simp
theorem QjU : Sp2 K ct true false (mR K ct) (QjT K) dIx:=by
 intro F H x y d e z Q ex hx hy hz hQ
 replace hy : Rep K ct F e y:=hy
 have fin : ∀ v,Rep K ct F z v → Q v H:=fun v r => hQ v F H (Gr.refl ex) r
 cases d with
 | lst ds =>
  cases e <;> first | (cases hz; done) | skip
  rename_i i
  obtain ⟨a,vs,rfl,h1,h2⟩:=hx
  obtain ⟨v,q1,q2⟩:=Qfo h2 (show atI ds i = some z from hz)
  cases (show y = .int i from hy)
  exact .inl (.inl ⟨a,vs,i,v,rfl,rfl,SqL.of h1,q1,fin v q2⟩)
 | tup ds =>
  cases e <;> first | (cases hz; done) | skip
  rename_i i
  obtain ⟨a,vs,rfl,h1,h2⟩:=hx
  obtain ⟨v,q1,q2⟩:=Qfo h2 (show atI ds i = some z from hz)
  cases (show y = .int i from hy)
  exact .inl (.inr (.inl ⟨a,vs,i,v,rfl,rfl,SqT.of (ex _ _ h1),q1,fin v q2⟩))
 | str w =>
  cases e <;> first | (cases hz; done) | skip
  rename_i i
  cases (show x = .str w from hx)
  cases (show y = .int i from hy)
  simp only [dIx] at hz
  split at hz
  ·rename_i hl
   obtain ⟨c,q1,rfl⟩:=Option.map_eq_some_iff.mp hz
   exact .inl (.inr (.inr ⟨w,i,c,rfl,rfl,hl,q1,fin _ rfl⟩))
  ·cases hz
 | scr ns =>
  cases e <;> first | (cases hz; done) | skip
  rename_i i
  obtain ⟨a,rfl,h1⟩:=hx
  cases (show y = .int i from hy)
  obtain ⟨n,q1,rfl⟩:=Option.map_eq_some_iff.mp (show (atI ns i).map .int = some z from hz)
  have h2 : SqL K H a (ns.map V.int):=by
   rcases h1 with h | h
   ·exact .inl (Ex.rd ex h)
   ·exact .inr h
  exact .inl (.inl ⟨a,_,i,.int n,rfl,rfl,h2,by rw [Qc2,q1]; rfl,fin _ rfl⟩)
 | dk kvs =>
  obtain ⟨k,hk,hv⟩:=Option.bind_eq_some_iff.mp (show ((QcG e).bind fun k => JD kvs k) = some z from by cases e <;> exact hz)
  obtain ⟨a,vs,rfl,h1,h2⟩:=hx
  rcases QcI k h2 with ⟨e1,_⟩ | ⟨d',v,e1,e2,e3⟩
  ·rw [hv] at e1; cases e1
  ·rw [hv] at e1; cases e1
   exact .inr ⟨a,v,rfl,by rw [← e2]; exact Qgj h1 (Rep.mono (Ex.le ex) _ _ hy) hk,fin v e3⟩
 | dt kvs =>
  cases e <;> first | (cases hz; done) | skip
  rename_i ds
  obtain ⟨k,hk,hv⟩:=Option.bind_eq_some_iff.mp (show ((Qao ds).bind fun k => JD kvs k) = some z from hz)
  obtain ⟨a,vs,rfl,h1,h2⟩:=hx
  rcases QcJ k h2 with ⟨e1,_⟩ | ⟨d',v,e1,e2,e3⟩
  ·rw [hv] at e1; cases e1
  ·rw [hv] at e1; cases e1
   exact .inr ⟨a,v,rfl,by rw [← e2]; exact Qgk h1 (Rep.mono (Ex.le ex) _ _ hy) hk,fin v e3⟩
 | _ => cases e <;> cases hz
end
section
variable {X : Cx} {ct : Nat → Addr} {W : WX} {a b e : Expr} {f g : SE} {pos : Pos}
theorem ZI (hu : X.A.units + 1 < cLine) (ha : PE X a (EB X.K ct W f)) (hb : PE X b (ER X.K ct W g)) (hs : PlainIx b:=by intro _ _; rfl) : PE X (.Subscript a b pos) (ER X.K ct W (s2 dIx f g)):=
 (pe_ix (ix1 hu) ha hb hs).imp fun _ _ _ h => t2 (m1:=true) (m2:=false) Js QjU h
def Ju (f : SE) : SE:=fun env => bnd (f env) fun d => match d with
 | .int i => .ok (.int i)
 | _ => .st
def oI : D → Option (Option Int)
 | .int i => some (some i)
 | .non => some none
 | _ => none
def tO (K : PySem.W.Frag) (ct : Nat → Addr) (W : WX) (f : SE) : TO:=fun σ H Q => ∃ env F,EnvOk K ct F H env σ ∧ match f env with
 | .ok d => (match oI d with
  | some o => ∀ F' H',Gr F H F' H' → Q o H'
  | none => False)
 | .er c fs => ∀ dx F' H',Gr F H F' H' → ExcOk K ct F' dx fs → W (.ref (ct c)) dx σ H'
 | .st => False
theorem _root_.L2.PO.imp {X : Cx} {e : Option Expr} {t t' : TO} (p : PO X e t) (h : ∀ σ H Q,t' σ H Q → t σ H Q) : PO X e t':=⟨fun pins s σ H Q I q => p.run pins s σ H Q I (h σ H Q q)⟩
theorem QbX : PO X none (tO X.K ct W (sC .non)):=po_none.imp fun σ H Q ⟨env,F,E,h⟩ => h F H (Gr.refl E.ex)
theorem Qam (ha : PE X a (ER X.K ct W f)) : PO X (some a) (tO X.K ct W (Ju f)):=by
 refine (po_some ha).imp fun σ H Q ⟨env,F,E,h⟩ => ⟨env,F,E,?_⟩
 unfold Ju at h
 cases e : f env with
 | ok d =>
  rw [e] at h
  intro v F' H' g m
  cases d <;> first | exact h.elim | skip
  exact ⟨_,m,h F' H' g⟩
 | er c fs => rw [e] at h; exact h
 | st => rw [e] at h; exact h.elim
def QjV (d : D) (lo hi : Option Int) : Option D:=match d with
 | .lst ds => some (.lst ((ds.drop (HT.sIx ds.length 0 lo)).take (HT.sIx ds.length ds.length hi - HT.sIx ds.length 0 lo)))
 | .scr ns => some (.lst (((ns.drop (HT.sIx ns.length 0 lo)).take (HT.sIx ns.length ns.length hi - HT.sIx ns.length 0 lo)).map .int))
 | _ => none
def QiL (d : D) (lo hi : Option Int) : Option D:=match d with
 | .str z => if z.length ≤ sizeLine then some (.str (cutS z lo hi)) else none
 | _ => none
def sSl (op : D → Option Int → Option Int → Option D) (f lo hi : SE) : SE:=fun env => bnd (f env) fun d => bnd (lo env) fun l => match oI l with
 | some l => bnd (hi env) fun u => (match oI u with
  | some u => ofO (op d l u)
  | none => .st)
 | none => .st
def SpS (K : PySem.W.Frag) (ct : Nat → Addr) (M : Md) (r : V → Option Int → Option Int → Hp → VK → Prop) (op : D → Option Int → Option Int → Option D) : Prop:=
 ∀ F H x d lo hi z Q,Ex F H → RepB K ct F H d x → op d lo hi = some z → (∀ v F' H',Gr F H F' H' → M H F' H' z v → Q v H') → r x lo hi H Q
theorem Qgn {K : PySem.W.Frag} {F : Hp} {ds : List D} {vs : List V} (h : Reps K ct F ds vs) (lo hi : Option Int) : Reps K ct F ((ds.drop (HT.sIx ds.length 0 lo)).take (HT.sIx ds.length ds.length hi - HT.sIx ds.length 0 lo)) (cutV vs lo hi):=by
 unfold cutV
 rw [h.length]
 exact (h.drop _).take _
theorem QjW {K : PySem.W.Frag} : SpS K ct (mN K ct) (rSlL K) QjV:=by
 intro F H x d lo hi z Q ex hx hz hQ
 cases d <;> first | (cases hz; done) | skip
 ·rename_i ds
  obtain ⟨a,vs,rfl,h1,h2⟩:=hx
  cases hz
  exact ⟨a,vs,rfl,SqL.of h1,fun p hp => hQ _ F _ (Gr.own ex hp) ⟨p,rfl,hp,Ex.free ex hp,_,upd_same,Qgn h2 lo hi⟩⟩
 ·rename_i ns
  obtain ⟨a,rfl,h1⟩:=hx
  cases hz
  have h2 : SqL K H a (ns.map V.int):=by
   rcases h1 with h | h
   ·exact .inl (Ex.rd ex h)
   ·exact .inr h
  refine ⟨a,_,rfl,h2,fun p hp => hQ _ F _ (Gr.own ex hp) ⟨p,rfl,hp,Ex.free ex hp,_,upd_same,?_⟩⟩
  have e : cutV (ns.map V.int) lo hi = ((ns.drop (HT.sIx ns.length 0 lo)).take (HT.sIx ns.length ns.length hi - HT.sIx ns.length 0 lo)).map V.int:=by
   unfold cutV
   rw [List.length_map,← List.map_drop,← List.map_take]
  rw [e]
  exact Reps.ints
theorem QjX {K : PySem.W.Frag} : SpS K ct (mR K ct) rSlS QiL:=by
 intro F H x d lo hi z Q ex hx hz hQ
 cases d <;> first | (cases hz; done) | skip
 rename_i w
 cases (show x = .str w from hx)
 simp only [QiL] at hz
 split at hz
 ·rename_i hl
  cases hz
  exact ⟨w,rfl,hl,hQ _ F H (Gr.refl ex) rfl⟩
 ·cases hz
theorem Qdv {K : PySem.W.Frag} {M : Md} {F H : Hp} {σ : L2.St} {Q : VK} {env : En} {f : SE} {k : D → R} (E : EnvOk K ct F H env σ) (h : Fin K ct W M F H σ (bnd (f env) k) Q)
  {Q1 : Option Int → Hp → Prop} (hn : ∀ d,oI d = none → k d = .st) (hk : ∀ d o F1 H1,oI d = some o → Gr F H F1 H1 → EnvOk K ct F1 H1 env σ → Fin K ct W M F H σ (k d) Q → Q1 o H1) : tO K ct W f σ H Q1:=by
 refine ⟨env,F,E,?_⟩
 cases e : f env with
 | ok d =>
  rw [e] at h
  have h : Fin K ct W M F H σ (k d) Q:=h
  show (match oI d with | some o => ∀ F' H',Gr F H F' H' → Q1 o H' | none => False)
  cases q : oI d with
  | some o => exact fun F1 H1 g => hk d o F1 H1 q g (E.gr g) h
  | none => rw [hn d q] at h; exact h.elim
 | er c fs => rw [e] at h; exact h
 | st => rw [e] at h; exact h
theorem Qmg {lo hi : Option Expr} {fl fh : SE} {p2 : Pos} {M : Md} {r : V → Option Int → Option Int → Hp → VK → Prop} {op : D → Option Int → Option Int → Option D} (hr : SlR X r) (hM : QdF M) (hs : SpS X.K ct M r op)
  (he : PE X e (EB X.K ct W f)) (hl : PO X lo (tO X.K ct W fl)) (hh : PO X hi (tO X.K ct W fh)) : PE X (.Subscript e (.Slice lo hi none p2) pos) (tM X.K ct W M (sSl op f fl fh)):=by
 refine (pe_slice hr he hl hh).imp fun σ H Q ⟨env,F,E,h⟩ => ?_
 refine Z7 E h rfl fun d x F1 H1 e1 g1 r1 E1 h => ?_
 have h1:=JJ (M:=M) g1 (fun _ _ _ _ m => hM _ _ _ _ _ _ g1.h m) h
 refine Qdv E1 h1 (fun l hl => by rw [hl]) fun l o F2 H2 ol g2 E2 h2 => ?_
 rw [ol] at h2
 have h3:=JJ (M:=M) g2 (fun _ _ _ _ m => hM _ _ _ _ _ _ g2.h m) h2
 refine Qdv E2 h3 (fun u hu => by rw [hu]) fun u o2 F3 H3 ou g3 E3 h4 => ?_
 rw [ou] at h4
 have h4 : Fin X.K ct W M F2 H2 σ (ofO (op d o o2)) Q:=h4
 cases q : op d o o2 with
 | none => rw [q] at h4; exact h4.elim
 | some z =>
  rw [q] at h4
  exact hs F3 H3 x d o o2 z Q E3.ex (RepB.gr g3 (RepB.gr g2 r1)) q fun v F' H' g m => h4 v F' H' (g3.trans g) (hM _ _ _ _ _ _ g3.h m)
end
end Ps
namespace Ps
open PySem PySem.Spec PyProof.Rows L2
section
variable {X : Cx} {ct : Nat → Addr} {W : WX} {a b e : Expr} {es : List Expr} {f g : SE} {fs : SA} {pos p : Pos}
def Qab (c : Nat) (n : Str) (f : SE) : SE:=fun env => bnd (f env) fun d => match d with
 | .obj c' fs => if c' = c then ofO (fs.lookup n) else .st
 | _ => .st
theorem Qel {K : PySem.W.Frag} {F : Hp} {n : Str} {d : D} : ∀ {fs : List (Str × D)} {fvs : List (Str × V)},RepF K ct F fs fvs → fs.lookup n = some d → ∃ v,fvs.lookup n = some v ∧ Rep K ct F d v
 | [],_,_,e => by cases e
 | (g,d') :: fs,fvs,h,e => by
  obtain ⟨⟨v,e1,e2⟩,e3⟩:=h
  rw [List.lookup_cons] at e
  cases q : (n == g) with
  | true =>
   rw [q] at e
   cases e
   have : n = g:=eq_of_beq q
   subst this
   exact ⟨v,e1,e2⟩
  | false =>
   rw [q] at e
   exact Qel e3 e
theorem ZQ (c : Nat) {n : Str} (hc : Cls X.K (ct c)) (hn : NoAttr X.K (ct c) n) (he : PE X e (EB X.K ct W f)) (hb : attributeBase e n X.env (eval e X.env) = eval e X.env:=by rfl) : PE X (.Attribute e n pos) (ER X.K ct W (Qab c n f)):=by
 refine (pe_fld he hb).imp fun σ H Q ⟨env,F,E,h⟩ => ?_
 refine Z7 E h rfl fun d x F1 H1 e1 g1 r1 E1 h => ?_
 cases d <;> first | exact h.elim | skip
 rename_i c' gs
 by_cases hcc : c' = c
 ·subst hcc
  have h : Fin X.K ct W (mR X.K ct) F H σ (ofO (gs.lookup n)) Q:=by simpa using h
  obtain ⟨a,dx,fvs,rfl,ea,_,hf⟩:=r1
  cases q : gs.lookup n with
  | none => rw [q] at h; exact h.elim
  | some z =>
   rw [q] at h
   obtain ⟨v,l,r⟩:=Qel hf q
   exact ⟨a,_,dx,fvs,v,rfl,ea,hc,hn,l,h v F1 H1 g1 r⟩
 ·have h : Fin X.K ct W (mR X.K ct) F H σ (if c' = c then ofO (gs.lookup n) else .st) Q:=h
  rw [if_neg hcc] at h
  exact h.elim
def SpC (K : PySem.W.Frag) (ct : Nat → Addr) (ms : List Bool) (M : Md) (r : List V → Hp → VK → Prop) (op : List D → Option D) : Prop:=∀ F H vs ds z Q,Ex F H → ArgsRep K ct F H ms ds vs → op ds = some z → (∀ v F' H',Gr F H F' H' → M H F' H' z v → Q v H') → r vs H Q
def QI (op : List D → Option D) (fs : SA) : SE:=fun env => QG (fs env) fun ds => ofO (op ds)
theorem tcb {K : PySem.W.Frag} {M : Md} (hM : QdF M) {ms : List Bool} {r : List V → Hp → VK → Prop} {op : List D → Option D} (hs : SpC K ct ms M r op) {σ : L2.St} {H : Hp} {Q : VK} (h : tM K ct W M (QI op fs) σ H Q) :
  tA K ct W ms fs σ H fun vs H1 => r vs H1 Q:=by
 obtain ⟨env,F,E,h⟩:=h
 refine Qan E h fun ds vs F1 H1 g1 r1 E1 h => ?_
 cases q : op ds with
 | none => rw [q] at h; exact h.elim
 | some z =>
  rw [q] at h
  exact hs F1 H1 vs ds z Q E1.ex r1 q fun v F' H' g m => h v F' H' (g1.trans g) (hM _ _ _ _ _ _ g1.h m)
theorem QbC {id : String} {x : Str} {M : Md} {ms : List Bool} {r : List V → Hp → VK → Prop} {op : List D → Option D} (hc : CallR X (.builtin id) r) (hM : QdF M) (hs : SpC X.K ct ms M r op) (hg : Gl X x) (hm : X.mg x = none) (hv : bootBuiltins x = some (.builtin id))
  (ha : PA X (e :: es) (tA X.K ct W ms fs)) (hn : x ≠ "__name__":=by decide) (hdb : (x == ("__debug__" : Str)) = false:=by decide) (he : starEach (e :: es) X.env = (false,eval e X.env) :: starEach es X.env:=by rfl) (hpl : (backTo pos (starEach es X.env)).any (·.1) = false:=by rfl) :
  PE X (.Call (.Name x p) (e :: es) [] pos) (tM X.K ct W M (QI op fs)):=(pe_callB hc hg hm hv ha hn hdb he hpl).imp fun _ _ _ h => tcb hM hs h
theorem Qem {T : String} {x : Str} {M : Md} {ms : List Bool} {r : List V → Hp → VK → Prop} {op : List D → Option D} (hc : CallR X (.type T) r) (hM : QdF M) (hs : SpC X.K ct ms M r op) (hg : Gl X x) (hm : X.mg x = none) (hv : bootBuiltins x = some (.type T))
  (ha : PA X (e :: es) (tA X.K ct W ms fs)) (hn : x ≠ "__name__":=by decide) (hdb : (x == ("__debug__" : Str)) = false:=by decide) (he : starEach (e :: es) X.env = (false,eval e X.env) :: starEach es X.env:=by rfl) (hpl : (backTo pos (starEach es X.env)).any (·.1) = false:=by rfl) :
  PE X (.Call (.Name x p) (e :: es) [] pos) (tM X.K ct W M (QI op fs)):=(pe_callTy hc hg hm hv ha hn hdb he hpl).imp fun _ _ _ h => tcb hM hs h
end
section
variable {X : Cx} {K : PySem.W.Frag} {ct : Nat → Addr}
theorem Qap {F H : Hp} {m : Bool} {ds : List D} {vs : List V} (h : ArgsRep K ct F H [m] ds vs) : ∃ d v,ds = [d] ∧ vs = [v] ∧ (if m then RepB K ct F H d v else Rep K ct F d v):=by
 obtain ⟨d,ds',v,vs',rfl,rfl,h,h1,h2⟩:=h
 subst h1 h2
 exact ⟨d,v,rfl,rfl,h⟩
theorem Qgo {F H : Hp} {m1 m2 : Bool} {ds : List D} {vs : List V} (h : ArgsRep K ct F H [m1,m2] ds vs) : ∃ d e v w,ds = [d,e] ∧ vs = [v,w] ∧ (if m1 then RepB K ct F H d v else Rep K ct F d v) ∧ (if m2 then RepB K ct F H e w else Rep K ct F e w):=by
 obtain ⟨d,ds',v,vs',rfl,rfl,h,r⟩:=h
 obtain ⟨e,w,rfl,rfl,h2⟩:=Qap r
 exact ⟨d,e,v,w,rfl,rfl,h,h2⟩
def Qbv : List D → Option D
 | [.str x] => if x.length ≤ sizeLine then some (.int x.length) else none
 | [.lst ds] => some (.int ds.length)
 | [.tup ds] => some (.int ds.length)
 | [.scr ns] => some (.int ns.length)
 | [.dk kvs] => some (.int kvs.length)
 | _ => none
theorem QeI : CallR X (.builtin "len") (fun xs H Q => ∃ a kvs,xs = [V.ref a] ∧ Rd H a (.dK kvs) ∧ Q (.int kvs.length) H):=by
 intro pins s σ H xs us Q I r h
 obtain ⟨a,kvs,rfl,ha,q⟩:=h
 obtain ⟨u,rfl,ru⟩:=vals1 r
 cases ru
 exact d_len I ha fun t s' I' => ⟨.int kvs.length,H,I',⟨t,rfl⟩,q⟩
abbrev Qio (K : PySem.W.Frag) : List V → Hp → VK → Prop:=fun xs H Q => (∃ p ys,xs = [.ref p] ∧ (SqL K H p ys ∨ SqT K H p ys) ∧ Q (.int ys.length) H) ∨ ((∃ z,xs = [.str z] ∧ z.length ≤ sizeLine ∧ Q (.int z.length) H) ∨ (∃ a kvs,xs = [V.ref a] ∧ Rd H a (.dK kvs) ∧ Q (.int kvs.length) H))
theorem QfM : CallR X (.builtin "len") (Qio X.K):=call_len_seq.or (call_len_str.or QeI)
theorem QcK {F : Hp} : ∀ {kvs : List (Key × D)} {vs : List (Key × V)},RepK K ct F kvs vs → vs.length = kvs.length
 | [],vs,h => by rw [show vs = [] from h]; rfl
 | (k,d) :: kvs,vs,h => by
  obtain ⟨v,r,e1,e2,e3⟩:=h
  rw [e1,List.length_cons,List.length_cons,QcK e3]
theorem Qgp {F H : Hp} (ex : Ex F H) {ns : List Int} {x : V} (h : Rep K ct F (.scr ns) x) : ∃ a,x = .ref a ∧ SqL K H a (ns.map V.int):=by
 obtain ⟨a,rfl,h1⟩:=h
 refine ⟨a,rfl,?_⟩
 rcases h1 with h | h
 ·exact .inl (Ex.rd ex h)
 ·exact .inr h
theorem Qhq : SpC K ct [true] (mR K ct) (Qio K) Qbv:=by
 intro F H vs ds z Q ex hA hz hQ
 obtain ⟨d,v,rfl,rfl,h⟩:=Qap hA
 replace h : RepB K ct F H d v:=h
 cases d <;> first | (cases hz; done) | skip
 ·rename_i x
  cases (show v = .str x from h)
  simp only [Qbv] at hz
  split at hz
  ·rename_i hl
   cases hz
   exact .inr (.inl ⟨x,rfl,hl,hQ _ F H (Gr.refl ex) rfl⟩)
  ·cases hz
 ·rename_i ds
  obtain ⟨a,vs,rfl,h1,h2⟩:=h
  cases hz
  exact .inl ⟨a,vs,rfl,.inl (SqL.of h1),by rw [h2.length]; exact hQ _ F H (Gr.refl ex) rfl⟩
 ·rename_i ds
  obtain ⟨a,vs,rfl,h1,h2⟩:=h
  cases hz
  exact .inl ⟨a,vs,rfl,.inr (SqT.of (ex _ _ h1)),by rw [h2.length]; exact hQ _ F H (Gr.refl ex) rfl⟩
 ·rename_i ns
  obtain ⟨a,rfl,h1⟩:=Qgp (ct:=ct) ex h
  cases hz
  exact .inl ⟨a,_,rfl,.inl h1,by rw [List.length_map]; exact hQ _ F H (Gr.refl ex) rfl⟩
 ·rename_i kvs
  obtain ⟨a,vs,rfl,h1,h2⟩:=h
  cases hz
  exact .inr (.inr ⟨a,vs,rfl,h1,by rw [QcK h2]; exact hQ _ F H (Gr.refl ex) rfl⟩)
def Qgq : List D → Option D
 | [.int i] => some (.int (if i < 0 then -i else i))
 | _ => none
theorem Qhr {m : Bool} : SpC K ct [m] (mR K ct) (fun xs H Q => ∃ i,xs = [.int i] ∧ Q (.int (if i < 0 then -i else i)) H) Qgq:=by
 intro F H vs ds z Q ex hA hz hQ
 obtain ⟨d,v,rfl,rfl,h⟩:=Qap hA
 cases d <;> first | (cases hz; done) | skip
 rename_i i
 have e : v = .int i:=by cases m <;> exact h
 subst e
 cases hz
 exact ⟨i,rfl,hQ _ F H (Gr.refl ex) rfl⟩
def QeJ : List D → Option D
 | [.int i] => some (.int i)
 | [.bl b] => some (.int (if b then 1 else 0))
 | _ => none
theorem Qhs {m : Bool} : SpC K ct [m] (mR K ct) (fun xs H Q => (∃ i,xs = [.int i] ∧ Q (.int i) H) ∨ ∃ k,xs = [.bl k] ∧ Q (.int (if k then 1 else 0)) H) QeJ:=by
 intro F H vs ds z Q ex hA hz hQ
 obtain ⟨d,v,rfl,rfl,h⟩:=Qap hA
 cases d <;> first | (cases hz; done) | skip
 ·rename_i i
  have e : v = .bl i:=by cases m <;> exact h
  subst e
  cases hz
  exact .inr ⟨i,rfl,hQ _ F H (Gr.refl ex) rfl⟩
 ·rename_i i
  have e : v = .int i:=by cases m <;> exact h
  subst e
  cases hz
  exact .inl ⟨i,rfl,hQ _ F H (Gr.refl ex) rfl⟩
def QaS : List D → Option (List Int)
 | [] => some []
 | .int i :: ds => (QaS ds).map fun r => i :: r
 | _ => none
def QaT : List D → Option (List Bool)
 | [] => some []
 | .bl i :: ds => (QaT ds).map fun r => i :: r
 | _ => none
def QaU : List D → Option (List Str)
 | [] => some []
 | .str i :: ds => (QaU ds).map fun r => i :: r
 | _ => none
theorem Qdw {F : Hp} : ∀ {ds : List D} {vs : List V} {ns : List Int},Reps K ct F ds vs → QaS ds = some ns → vs = ns.map V.int
 | [],vs,ns,h,e => by cases e; exact h
 | d :: ds,vs,ns,h,e => by
  obtain ⟨v,r,e1,e2,e3⟩:=h
  cases d <;> first | (cases e; done) | skip
  obtain ⟨r',q1,q2⟩:=Option.map_eq_some_iff.mp (show (QaS ds).map _ = some ns from e)
  subst e1 q2
  rw [Qdw e3 q1,show v = _ from e2]; rfl
theorem QcL {F : Hp} : ∀ {ds : List D} {vs : List V} {ns : List Bool},Reps K ct F ds vs → QaT ds = some ns → vs = ns.map V.bl
 | [],vs,ns,h,e => by cases e; exact h
 | d :: ds,vs,ns,h,e => by
  obtain ⟨v,r,e1,e2,e3⟩:=h
  cases d <;> first | (cases e; done) | skip
  obtain ⟨r',q1,q2⟩:=Option.map_eq_some_iff.mp (show (QaT ds).map _ = some ns from e)
  subst e1 q2
  rw [QcL e3 q1,show v = _ from e2]; rfl
theorem Qdx {F : Hp} : ∀ {ds : List D} {vs : List V} {ns : List Str},Reps K ct F ds vs → QaU ds = some ns → vs = ns.map V.str
 | [],vs,ns,h,e => by cases e; exact h
 | d :: ds,vs,ns,h,e => by
  obtain ⟨v,r,e1,e2,e3⟩:=h
  cases d <;> first | (cases e; done) | skip
  obtain ⟨r',q1,q2⟩:=Option.map_eq_some_iff.mp (show (QaU ds).map _ = some ns from e)
  subst e1 q2
  rw [Qdx e3 q1,show v = _ from e2]; rfl
def Qgr : List D → Option D
 | [.lst ds] => (QaS ds).map fun ns => .int ns.sum
 | _ => none
theorem Qht : SpC K ct [true] (mR K ct) (rSum K) Qgr:=by
 intro F H vs ds z Q ex hA hz hQ
 obtain ⟨d,v,rfl,rfl,h⟩:=Qap hA
 cases d <;> first | (cases hz; done) | skip
 rename_i ds
 obtain ⟨ns,q1,rfl⟩:=Option.map_eq_some_iff.mp (show (QaS ds).map _ = some z from hz)
 obtain ⟨a,vs,rfl,h1,h2⟩:=(show RepB K ct F H (.lst ds) v from h)
 have e:=Qdw h2 q1
 subst e
 exact ⟨a,ns,rfl,SqL.of h1,hQ _ F H (Gr.refl ex) rfl⟩
def Qhu : List D → Option D
 | [.lst ds] => (QaT ds).map fun ns => .bl (ns.any id)
 | _ => none
def Qgs : List D → Option D
 | [.lst ds] => (QaT ds).map fun ns => .bl (ns.all id)
 | _ => none
theorem Qhv : SpC K ct [true] (mR K ct) (rAny K) Qhu:=by
 intro F H vs ds z Q ex hA hz hQ
 obtain ⟨d,v,rfl,rfl,h⟩:=Qap hA
 cases d <;> first | (cases hz; done) | skip
 rename_i ds
 obtain ⟨ns,q1,rfl⟩:=Option.map_eq_some_iff.mp (show (QaT ds).map _ = some z from hz)
 obtain ⟨a,vs,rfl,h1,h2⟩:=(show RepB K ct F H (.lst ds) v from h)
 have e:=QcL h2 q1
 subst e
 exact ⟨a,ns,rfl,SqL.of h1,hQ _ F H (Gr.refl ex) rfl⟩
theorem Qhw : SpC K ct [true] (mR K ct) (rAll K) Qgs:=by
 intro F H vs ds z Q ex hA hz hQ
 obtain ⟨d,v,rfl,rfl,h⟩:=Qap hA
 cases d <;> first | (cases hz; done) | skip
 rename_i ds
 obtain ⟨ns,q1,rfl⟩:=Option.map_eq_some_iff.mp (show (QaT ds).map _ = some z from hz)
 obtain ⟨a,vs,rfl,h1,h2⟩:=(show RepB K ct F H (.lst ds) v from h)
 have e:=QcL h2 q1
 subst e
 exact ⟨a,ns,rfl,SqL.of h1,hQ _ F H (Gr.refl ex) rfl⟩
def Qaq : List D → Option D
 | [.lst ds] => some (.lst ds)
 | [.tup ds] => some (.lst ds)
 | [.scr ns] => some (.lst (ns.map .int))
 | [.rd ds] => some (.lst ds)
 | _ => none
theorem Qgt : SpC K ct [true] (mN K ct) (fun xs H Q => ∃ p ys,xs = [.ref p] ∧ (SqL K H p ys ∨ SqT K H p ys) ∧ ∀ l,H l = none → Q (.ref l) (upd H l (.lst ys))) Qaq:=by
 intro F H vs ds z Q ex hA hz hQ
 obtain ⟨d,v,rfl,rfl,h⟩:=Qap hA
 replace h : RepB K ct F H d v:=h
 cases d <;> first | (cases hz; done) | skip
 ·rename_i ds
  obtain ⟨a,vs,rfl,h1,h2⟩:=h
  cases hz
  exact ⟨a,vs,rfl,.inl (SqL.of h1),fun p hp => hQ _ F _ (Gr.own ex hp) ⟨p,rfl,hp,Ex.free ex hp,vs,upd_same,h2⟩⟩
 ·rename_i ds
  obtain ⟨a,vs,rfl,h1,h2⟩:=h
  cases hz
  exact ⟨a,vs,rfl,.inr (SqT.of (ex _ _ h1)),fun p hp => hQ _ F _ (Gr.own ex hp) ⟨p,rfl,hp,Ex.free ex hp,vs,upd_same,h2⟩⟩
 ·rename_i ns
  obtain ⟨a,rfl,h1⟩:=Qgp (ct:=ct) ex h
  cases hz
  exact ⟨a,_,rfl,.inl h1,fun p hp => hQ _ F _ (Gr.own ex hp) ⟨p,rfl,hp,Ex.free ex hp,_,upd_same,Reps.ints⟩⟩
 ·rename_i ds
  obtain ⟨a,vs,rfl,h1,h2⟩:=(show Rep K ct F (.rd ds) v from h)
  cases hz
  exact ⟨a,vs,rfl,.inl (.inl (Ex.rd ex h1)),fun p hp => hQ _ F _ (Gr.own ex hp) ⟨p,rfl,hp,Ex.free ex hp,vs,upd_same,h2⟩⟩
end
section
variable {X : Cx} {ct : Nat → Addr} {W : WX} {a b e : Expr} {es : List Expr} {f g : SE} {fs : SA} {pos p : Pos}
def Qa3 (fs : SA) : SE:=fun env => QG (fs env) fun ds => if ds.length ≤ sizeLine then .ok (.tup ds) else .st
def ZR (fs : SA) : SE:=fun env => QG (fs env) fun ds => if ds.length ≤ sizeLine then .ok (.lst ds) else .st
theorem QbY {K : PySem.W.Frag} {F H : Hp} : ∀ {n : Nat} {ds : List D} {vs : List V},ArgsRep K ct F H (List.replicate n false) ds vs → Reps K ct F ds vs
 | 0,_,_,h => by rw [h.1,h.2]; exact rfl
 | n + 1,_,_,⟨d,ds',v,vs',e1,e2,h,r⟩ => by
  subst e1 e2
  exact ⟨v,vs',rfl,h,QbY (n:=n) r⟩
theorem JM {k : Nat} (n : Nat) (h : PA X es (tA X.K ct W (List.replicate n false) fs)) : PE X (.Tuple es k pos) (ER X.K ct W (Qa3 fs)):=by
 refine (pe_tup h).imp fun σ H Q ⟨env,F,E,h⟩ => ?_
 refine Qan E h fun ds vs F1 H1 g1 r1 E1 h => ?_
 have rr:=QbY r1
 have h : Fin X.K ct W (mR X.K ct) F H σ (if ds.length ≤ sizeLine then .ok (.tup ds) else .st) Q:=h
 split at h
 ·rename_i hl
  refine ⟨by rw [rr.length]; exact hl,fun p hp => ?_⟩
  have g2:=Gr.new E1.ex (o:=.tup vs) hp
  exact h _ _ _ (g1.trans g2) ⟨p,vs,rfl,upd_same,Reps.mono (Ex.le g2.f) _ _ rr⟩
 ·exact h.elim
theorem ZJ {k : Nat} (n : Nat) (h : PA X es (tA X.K ct W (List.replicate n false) fs)) : PE X (.List es pos) (EN X.K ct W (ZR fs)):=by
 refine (pe_lst h).imp fun σ H Q ⟨env,F,E,h⟩ => ?_
 refine Qan E h fun ds vs F1 H1 g1 r1 E1 h => ?_
 have rr:=QbY r1
 have h : Fin X.K ct W (mN X.K ct) F H σ (if ds.length ≤ sizeLine then .ok (.lst ds) else .st) Q:=h
 split at h
 ·rename_i hl
  refine ⟨by rw [rr.length]; exact hl,fun p hp => ?_⟩
  have g2:=Gr.own E1.ex (o:=.lst vs) hp
  exact h _ _ _ (g1.trans g2) ⟨p,rfl,Ex.free g1.h hp,Ex.free E1.ex hp,vs,upd_same,rr⟩
 ·exact h.elim
end
end Ps
namespace Ps
open PySem PySem.Spec PyProof.Rows L2
section
variable {X : Cx} {ct : Nat → Addr} {W : WX} {a b e o : Expr} {es : List Expr} {f g : SE} {fs : SA} {pos p apos cpos : Pos}
def SpM (K : PySem.W.Frag) (ct : Nat → Addr) (r : V → List V → Hp → VK → Prop) (op : D → D → Option D) : Prop:=∀ F H x y d e z Q,Ex F H → RepB K ct F H d x → RepB K ct F H e y → op d e = some z → (∃ s,x = .str s) ∧ ((∀ v F' H',Gr F H F' H' → Rep K ct F' z v → Q v H') → r x [y] H Q)
def Qgu : D → Bool
 | .str _ => true
 | _ => false
def sM1 (op : D → D → Option D) (f g : SE) : SE:=fun env => bnd (f env) fun d => if Qgu d then bnd (g env) fun e => ofO (op d e) else .st
theorem Qmh {id : String} {name : Str} {r : V → List V → Hp → VK → Prop} {op : D → D → Option D} (slot : Slot "str" name id) (ty : typeOf (.builtin id) = pure (.type "method_descriptor")) (rule : MtR X id r) (hs : SpM X.K ct r op)
  (ho : PE X o (EB X.K ct W f)) (he : PE X e (EB X.K ct W g)) (h1 : starEach [e] X.env = [(false,eval e X.env)]:=by rfl) (hbase : attributeBase o name X.env (eval o X.env) = eval o X.env:=by rfl) (hline : (apos.endLine == pos.line) = true:=by rfl) :
  PE X (.Call (.Attribute o name apos) [e] [] pos) (ER X.K ct W (sM1 op f g)):=by
 refine (pe_m1 slot ty rule ho he h1 hbase hline).imp fun σ H Q ⟨env,F,E,h⟩ => ?_
 refine Z7 E h rfl fun d x F1 H1 e1 g1 r1 E1 h => ?_
 cases d <;> first | exact h.elim | skip
 rename_i z
 refine ⟨⟨z,r1⟩,?_⟩
 have h1:=JJ (M:=mR X.K ct) g1 (fun _ _ _ _ m => m) h
 refine Z7 (k:=fun e => ofO (op (.str z) e)) E1 h1 rfl fun e y F2 H2 e2 g2 r2 E2 h => ?_
 cases q : op (.str z) e with
 | none => rw [q] at h; exact h.elim
 | some w =>
  rw [q] at h
  exact (hs F2 H2 x y (.str z) e w Q E2.ex r1 r2 q).2 fun v F' H' g3 m => h v F' H' (g2.trans g3) m
def Qfp : D → D → Option D
 | .str a,.lst ds => (QaU ds).bind fun ys => if (ys.map (·.length)).sum + ys.length * a.length ≤ 16777216 then some (.str (Txt.join a ys)) else none
 | _,_ => none
theorem Qgv {K : PySem.W.Frag} : SpM K ct (fun x xs H Q => ∃ a p,∃ ys : List Str,x = .str a ∧ xs = [.ref p] ∧ (SqL K H p (ys.map V.str) ∨ SqT K H p (ys.map V.str)) ∧
  (ys.map (·.length)).sum + ys.length * a.length ≤ 16777216 ∧ Q (.str (Txt.join a ys)) H) Qfp:=by
 intro F H x y d e z Q ex hx hy hz
 cases d <;> cases e <;> first | (cases hz; done) | skip
 rename_i s ds
 cases (show x = .str s from hx)
 refine ⟨⟨s,rfl⟩,fun hQ => ?_⟩
 obtain ⟨ys,q1,q2⟩:=Option.bind_eq_some_iff.mp (show ((QaU ds).bind fun ys => if (ys.map (·.length)).sum + ys.length * s.length ≤ 16777216 then some (D.str (Txt.join s ys)) else none) = some z from hz)
 split at q2
 ·rename_i hl
  obtain ⟨a,vs,rfl,h1,h2⟩:=(show RepB K ct F H (.lst ds) y from hy)
  have ev:=Qdx h2 q1
  subst ev
  cases q2
  exact ⟨s,a,ys,rfl,rfl,.inl (SqL.of h1),hl,hQ _ F H (Gr.refl ex) rfl⟩
 ·cases q2
def mF (K : PySem.W.Frag) (ct : Nat → Addr) (fr : Bool) : Md:=if fr then mN K ct else mR K ct
theorem QjY {K : PySem.W.Frag} {fr : Bool} : QdF (mF K ct fr):=by
 cases fr with
 | true => exact Qif
 | false => exact Js
def spP (K : PySem.W.Frag) (ct : Nat → Addr) (ms : List Bool) (fr : Bool) (m : List D → R) : Sp:=fun vs H Q E => ∃ F ds,Ex F H ∧ ArgsRep K ct F H ms ds vs ∧ match m ds with
 | .ok d => ∀ v F' H',Gr F H F' H' → mF K ct fr H F' H' d v → Q v H'
 | .er c fs => ∀ dx F' H',Gr F H F' H' → ExcOk K ct F' dx fs → E (.ref (ct c)) dx H'
 | .st => False
theorem Qhx {K : PySem.W.Frag} {ms : List Bool} {fr : Bool} {m : List D → R} {vs : List V} {H : Hp} {Q : VK} {E : XK} (h : spP K ct ms fr m vs H Q E) : vs.length = ms.length:=by
 obtain ⟨F,ds,_,h,_⟩:=h
 exact h.length
structure Cal (P : Program) (w : World) (K : PySem.W.Frag) (mg : Str → Option Value) (base : Heap) (k : Nat) (f : Addr) (sp : Sp) : Prop where
 ex : ∃ fd ps,FnOk P w K mg base (L2.CX P w) k f fd ps sp ∧ Binds K fd ps []
 kp : PySem.W.keepIn K (.ref f) = true
def sFn (m : List D → R) (fs : SA) : SE:=fun env => QG (fs env) m
theorem QjZ {K : PySem.W.Frag} {ms : List Bool} {fr : Bool} {m : List D → R} {σ : L2.St} {H : Hp} {Q : VK} (h : tM K ct W (mF K ct fr) (sFn m fs) σ H Q) :
  tA K ct W ms fs σ H fun vs H1 => spP K ct ms fr m vs H1 Q (WE W σ):=by
 obtain ⟨env,F,E,h⟩:=h
 refine Qan E h fun ds vs F1 H1 g1 r1 E1 h => ⟨F1,ds,E1.ex,r1,?_⟩
 cases q : m ds with
 | ok d => rw [q] at h; exact fun v F' H' g r => h v F' H' (g1.trans g) (QjY _ _ _ _ _ _ g1.h r)
 | er c fs => rw [q] at h; exact fun dx F' H' g x => h dx F' H' (g1.trans g) x
 | st => rw [q] at h; exact h
theorem Q6 {k j : Nat} {x : Str} {fa : Addr} {ms : List Bool} {fr : Bool} {m : List D → R} (c : Cal X.prog X.w X.K X.mg X.base k fa (spP X.K ct ms fr m)) (hm : X.mg x = some (.ref fa)) (tk : Takes X W) (hr : Room j X.A) (hk : k ≤ j) (hg : Gl X x)
  (ha : PA X (e :: es) (tA X.K ct W ms fs)) (hdb : (x == ("__debug__" : Str)) = false:=by decide) (he : starEach (e :: es) X.env = (false,eval e X.env) :: starEach es X.env:=by rfl) (hpl : (backTo pos (starEach es X.env)).any (·.1) = false:=by rfl) :
  PE X (.Call (.Name x p) (e :: es) [] pos) (tM X.K ct W (mF X.K ct fr) (sFn m fs)):=by
 obtain ⟨⟨fd,ps,F,b⟩,kp⟩:=c
 exact (pe_callSD F (hr.mono hk) hg hm kp b .nil (fun σ => passAt tk σ) ha hdb he hpl).imp fun σ H Q h => by
  have q:=QjZ (ms:=ms) h
  show tA X.K ct W ms fs σ H fun vs H1 => spP X.K ct ms fr m (vs ++ []) H1 Q (WE W σ)
  simpa using q
inductive RI where
 | ok (fs : List (Str × D)) | er (c : Nat) (fs : List (Str × D)) | st
def spI (K : PySem.W.Frag) (ct : Nat → Addr) (c : Nat) (ms : List Bool) (m : List D → RI) : Sp:=fun vs H Q E => ∃ F ds x dx vs',vs = .ref x :: vs' ∧ Ex F H ∧ F x = none ∧ H x = some (.ins (ct c) dx []) ∧ ArgsRep K ct F H ms ds vs' ∧ (∀ v ∈ vs',v ≠ .ref x) ∧ match m ds with
 | .ok fs => ∀ F' H' dx' fvs,Ex F F' → Ex F' H' → (∀ a o,H a = some o → a ≠ x → H' a = some o) → (∀ a o,F' a = some o → F a = some o ∨ H a = none) → H' x = some (.ins (ct c) dx' fvs) → Nms c fvs → RepF K ct F' fs fvs → Q .non H'
 | .er c fs => ∀ dx F' H',Ex F F' → Ex F' H' → (∀ a o,H a = some o → a ≠ x → H' a = some o) → (∀ a o,F' a = some o → F a = some o ∨ H a = none) → ExcOk K ct F' dx fs → E (.ref (ct c)) dx H'
 | .st => False
theorem Qhy {K : PySem.W.Frag} {c : Nat} {ms : List Bool} {m : List D → RI} {vs : List V} {H : Hp} {Q : VK} {E : XK} (h : spI K ct c ms m vs H Q E) : vs.length = ms.length + 1:=by
 obtain ⟨F,ds,x,dx,vs',rfl,_,_,_,h,_⟩:=h
 rw [List.length_cons,h.length]
def sMk (c : Nat) (m : List D → RI) (fs : SA) : SE:=fun env => QG (fs env) fun ds => if ds.all noScr then (match m ds with
 | .ok gs => .ok (.obj c gs)
 | .er _ _ => .st
 | .st => .st) else .st
theorem QcM {H : Hp} {a : Addr} {u : HO} (h : Rd H a u) : ∃ o,H a = some o:=by
 rcases h with h | ⟨o,h⟩
 ·exact ⟨_,h⟩
 ·exact ⟨_,h⟩
theorem QcN {K : PySem.W.Frag} {F H : Hp} (ex : Ex F H) {d : D} {a : Addr} (n : noScr d = true) (h : RepB K ct F H d (.ref a)) : ∃ o,H a = some o:=by
 cases d <;> first | (cases h; done) | (cases n; done) | skip
 ·obtain ⟨b,vs,e,h1,_⟩:=h; cases e; exact ⟨_,h1⟩
 ·obtain ⟨b,vs,e,h1,_⟩:=h; cases e; exact ⟨_,ex _ _ h1⟩
 ·obtain ⟨b,vs,e,h1,_⟩:=(show Rep K ct F (.rd _) _ from h); cases e; exact QcM (Ex.rd ex h1)
 ·obtain ⟨b,vs,e,h1,_⟩:=h; cases e; exact QcM h1
 ·obtain ⟨b,vs,e,h1,_⟩:=h; cases e; exact QcM h1
 ·obtain ⟨b,dx,vs,e,h1,_⟩:=h; cases e; exact ⟨_,h1⟩
 ·obtain ⟨b,dx,e,h1,_⟩:=h; cases e; exact ⟨_,ex _ _ h1⟩
theorem Qfq {K : PySem.W.Frag} {F H : Hp} {x : Addr} (ex : Ex F H) (hx : H x = none) : ∀ {ms : List Bool} {ds : List D} {vs : List V},ds.all noScr = true → ArgsRep K ct F H ms ds vs → ∀ v ∈ vs,v ≠ .ref x
 | [],_,_,_,h => by rw [h.2]; simp
 | m :: ms,_,_,n,⟨d,ds',v,vs',e1,e2,h,r⟩ => by
  subst e1 e2
  obtain ⟨n1,n2⟩:=Bool.and_eq_true_iff.mp (by rw [List.all_cons] at n; exact n)
  intro w hw
  rcases List.mem_cons.mp hw with rfl | hw
  ·intro e
   subst e
   have hb : RepB K ct F H d (.ref x):=by
    cases m with
    | true => exact h
    | false => exact Rep.b ex h
   obtain ⟨o,ho⟩:=QcN ex n1 hb
   rw [hx] at ho; cases ho
  ·exact Qfq ex hx n2 r w hw
theorem RepB.ext {K : PySem.W.Frag} {F H H' : Hp} (e : ∀ a o,H a = some o → H' a = some o) : ∀ {d : D} {v : V},RepB K ct F H d v → RepB K ct F H' d v
 | .lst ds,v,h => by
  obtain ⟨a,vs,e1,e2,e3⟩:=h
  exact ⟨a,vs,e1,e _ _ e2,e3⟩
 | .dk ds,v,h => by
  obtain ⟨a,vs,e1,e2,e3⟩:=h
  exact ⟨a,vs,e1,Ex.rd e e2,e3⟩
 | .dt ds,v,h => by
  obtain ⟨a,vs,e1,e2,e3⟩:=h
  exact ⟨a,vs,e1,Ex.rd e e2,e3⟩
 | .obj c fs,v,h => by
  obtain ⟨a,dx,fvs,e1,e2,en,e3⟩:=h
  exact ⟨a,dx,fvs,e1,e _ _ e2,en,e3⟩
 | .non,_,h => h
 | .bl _,_,h => h
 | .int _,_,h => h
 | .str _,_,h => h
 | .tup _,_,h => h
 | .scr _,_,h => h
 | .rd _,_,h => h
 | .exo _ _,_,h => h
theorem ArgsRep.ext {K : PySem.W.Frag} {F H H' : Hp} (e : ∀ a o,H a = some o → H' a = some o) : ∀ {ms : List Bool} {ds : List D} {vs : List V},ArgsRep K ct F H ms ds vs → ArgsRep K ct F H' ms ds vs
 | [],_,_,h => h
 | m :: ms,_,_,⟨d,ds',v,vs',e1,e2,h,r⟩ => ⟨d,ds',v,vs',e1,e2,by
   cases m with
   | true => exact RepB.ext e h
   | false => exact h,ArgsRep.ext e r⟩
theorem Qka {k j : Nat} {x : Str} {fa : Addr} {ms : List Bool} {m : List D → RI} (c : Nat) (M : Mk X.K (ct c) fa) (cal : Cal X.prog X.w X.K X.mg X.base k fa (spI X.K ct c ms m)) (hm : X.mg x = some (.ref (ct c))) (tk : Takes X W) (hr : Room j X.A) (hk : k + 1 ≤ j) (hg : Gl X x)
  (ha : PA X (e :: es) (tA X.K ct W ms fs)) (hdb : (x == ("__debug__" : Str)) = false:=by decide) (he : starEach (e :: es) X.env = (false,eval e X.env) :: starEach es X.env:=by rfl) (hpl : (backTo pos (starEach es X.env)).any (·.1) = false:=by rfl) :
  PE X (.Call (.Name x p) (e :: es) [] pos) (ER X.K ct W (sMk c m fs)):=by
 obtain ⟨⟨fd,ps,F,b⟩,kp⟩:=cal
 have base:=pe_make (p:=p) (E:=E0) (ds:=[]) (dvs:=[]) M F (hr.mono hk) hg hm b .nil passL ha hdb he hpl
 refine base.imp fun σ H Q ⟨env,F0,E,h⟩ => ?_
 refine Qan E h fun ds vs F1 H1 g1 r1 E1 h y dx hy hdx hne => ?_
 have h : Fin X.K ct W (mR X.K ct) F0 H σ (if ds.all noScr then (match m ds with | .ok gs => .ok (.obj c gs) | .er _ _ => .st | .st => .st) else .st) Q:=h
 split at h
 ·rename_i hns
  have hF : F1 y = none:=Ex.free E1.ex hy
  have e2 : ∀ a o,H1 a = some o → (upd (upd H1 dx (.own y)) y (.ins (ct c) dx [])) a = some o:=fun a o q => by
   rw [upd_ne (ne_of_none q hy),upd_ne (ne_of_none q hdx)]; exact q
  have e3 : Ex F1 (upd (upd H1 dx (.own y)) y (.ins (ct c) dx [])):=fun a o q => e2 a o (E1.ex a o q)
  refine ⟨F1,ds,y,dx,vs,by rw [List.append_nil],e3,hF,upd_same,r1.ext e2,Qfq E1.ex hy hns r1,?_⟩
  have keep : ∀ {F' H' : Hp},Ex F1 F' → Ex F' H' → (∀ a o,(upd (upd H1 dx (.own y)) y (.ins (ct c) dx [])) a = some o → a ≠ y → H' a = some o) → (∀ a o,F' a = some o → F1 a = some o ∨ (upd (upd H1 dx (.own y)) y (.ins (ct c) dx [])) a = none) → Gr F0 H F' H':=fun {F' H'} a1 a2 a3 a4 => by
   refine g1.trans ⟨a1,fun a o q => a3 a o (e2 a o q) (ne_of_none q hy),a2,fun a o q => ?_⟩
   rcases a4 a o q with z | z
   ·exact .inl z
   ·refine .inr ?_
    cases q2 : H1 a with
    | none => rfl
    | some u => rw [e2 a u q2] at z; cases z
  cases q : m ds with
  | ok gs =>
   rw [q] at h
   intro F' H' dx' fvs a1 a2 a3 a4 a5 a6 a7
   refine ⟨rfl,?_⟩
   have g2:=keep a1 a2 a3 a4
   have hyH : H y = none:=Ex.free g1.h hy
   exact h _ _ _ (g2.share E.ex hyH a5) ⟨y,dx',fvs,rfl,upd_same,a6,RepF.mono (Ex.le (Ex.new (by
    cases z : F' y with
    | none => rfl
    | some o =>
     rcases a4 y o z with z | z
     ·rw [hF] at z; cases z
     ·rw [upd_same] at z; cases z))) _ _ a7⟩
  | er c' fs' => rw [q] at h; exact h.elim
  | st => rw [q] at h; exact h
 ·exact h.elim
end
end Ps
namespace Ps
open PySem PySem.Spec PyProof.Rows L2
def ItOk (K : PySem.W.Frag) (ct : Nat → Addr) (J : It) (ds : List D) (O : Addr → Prop) (F H : Hp) : Prop:=∃ (G : Hp → Prop) (Y : Nat → Hp → V → Hp → Prop),Walk J ds.length G Y ∧ (∀ H2,(∀ b o,H b = some o → ¬ O b → H2 b = some o) → G H2) ∧
 ∀ (i : Nat) d F1 H1 x H1',ds[i]? = some d → Ex F F1 → Ex F1 H1 → Y i H1 x H1' → ∃ F1',Gr F1 H1 F1' H1' ∧ Rep K ct F1' d x
theorem ItOk.mono {K : PySem.W.Frag} {ct : Nat → Addr} {J : It} {ds : List D} {O O' : Addr → Prop} {F H : Hp} (h : ItOk K ct J ds O F H) (hO : ∀ a,O' a → O a) : ItOk K ct J ds O' F H:=by
 obtain ⟨G,Y,h1,h2,h3⟩:=h
 exact ⟨G,Y,h1,fun H2 k => h2 H2 fun b o q n => k b o q fun z => n (hO b z),h3⟩
abbrev OW:=En → L2.St → Addr → Prop
def O1 : OW:=ZH
def O0 : OW:=fun _ _ _ => False
def tI (K : PySem.W.Frag) (ct : Nat → Addr) (W : WX) (O : OW) (f : SE) : TI:=fun σ H R => ∃ env F,EnvOk K ct F H env σ ∧ match f env with
 | .ok (.lst ds) => ∀ J F' H',Gr F H F' H' → ItOk K ct J ds (O env σ) F' H' → R J H'
 | .ok _ => False
 | .er c fs => ∀ dx F' H',Gr F H F' H' → ExcOk K ct F' dx fs → W (.ref (ct c)) dx σ H'
 | .st => False
theorem _root_.L2.PI.imp {X : Cx} {tg e : Expr} {t t' : TI} (p : PI X tg e t) (h : ∀ σ H R,t' σ H R → t σ H R) : PI X tg e t':=⟨fun pins s σ H R I q => p.run pins s σ H R I (h σ H R q)⟩
theorem _root_.L2.PI.or {X : Cx} {tg e : Expr} {t t' : TI} (p : PI X tg e t) (p' : PI X tg e t') : PI X tg e (fun σ H R => t σ H R ∨ t' σ H R):=⟨fun pins s σ H R I q => by
 rcases q with q | q
 ·exact p.run pins s σ H R I q
 ·exact p'.run pins s σ H R I q⟩
section
variable {K : PySem.W.Frag} {ct : Nat → Addr} {W : WX} {F H : Hp} {env : En} {σ : L2.St} {O : OW}
theorem JN (E : EnvOk K ct F H env σ) {a : Addr} (h : ZH env σ a) : F a = none ∧ ∃ o,H a = some o:=by
 obtain ⟨i,s,e1,e2,e3⟩:=h
 cases s <;> first | (cases e2; done) | skip
 ·obtain ⟨b,q1,q2⟩:=E.ow _ _ e1
  rw [e3] at q1; cases q1
  exact ⟨q2.free,q2.there⟩
 ·obtain ⟨b,dx,fvs,q1,q2,q3,_⟩:=E.oo _ _ _ _ e1
  rw [e3] at q1; cases q1
  exact ⟨q2,_,q3⟩
 ·obtain ⟨b,q1,q2⟩:=E.gh _ _ e1
  rw [e3] at q1; cases q1
  exact ⟨q2.free,q2.there⟩
 ·obtain ⟨b,b2,d,q1,q2,q3,_⟩:=E.ln _ _ _ e1
  rw [e3] at q1; cases q1
  exact ⟨q2,q3.there⟩
theorem Qc3 {a : Addr} {vs : List V} {ds : List D} {O : Addr → Prop} (hs : ∀ H2,(∀ b o,H b = some o → ¬ O b → H2 b = some o) → SqL K H2 a vs) (hr : Reps K ct F ds vs) : ItOk K ct (Itl K a) ds O F H:=by
 have w:=walk_list (K:=K) (a:=a) (xs:=vs)
 rw [hr.length] at w
 refine ⟨_,_,w,hs,fun i d F1 H1 x H1' e1 e2 e3 y => ?_⟩
 obtain ⟨rfl,y2⟩:=y
 obtain ⟨v,h1,h2⟩:=hr.get e1
 rw [y2] at h1; cases h1
 exact ⟨F1,Gr.refl e3,Rep.mono (Ex.le e2) _ _ h2⟩
theorem Qgw {a : Addr} {vs : List V} {ds : List D} {O : Addr → Prop} (hs : ∀ H2,(∀ b o,H b = some o → ¬ O b → H2 b = some o) → SqT K H2 a vs) (hr : Reps K ct F ds vs) : ItOk K ct (Itt K a) ds O F H:=by
 have w:=walk_tup (K:=K) (a:=a) (xs:=vs)
 rw [hr.length] at w
 refine ⟨_,_,w,hs,fun i d F1 H1 x H1' e1 e2 e3 y => ?_⟩
 obtain ⟨rfl,y2⟩:=y
 obtain ⟨v,h1,h2⟩:=hr.get e1
 rw [y2] at h1; cases h1
 exact ⟨F1,Gr.refl e3,Rep.mono (Ex.le e2) _ _ h2⟩
def sgn (c : Nat) : D:=.str ⟨#[c]⟩
theorem Qgx {z : Str} {O : Addr → Prop} : ItOk K ct (Its z) (z.cps.toList.map sgn) O F H:=by
 have w:=walk_str (z:=z)
 have e : z.cps.size = (z.cps.toList.map sgn).length:=by simp
 rw [e] at w
 refine ⟨_,_,w,fun _ _ => True.intro,fun i d F1 H1 x H1' e1 e2 e3 y => ?_⟩
 obtain ⟨rfl,c,y2,rfl⟩:=y
 have : d = sgn c:=by
  rw [List.getElem?_map] at e1
  obtain ⟨c',q1,q2⟩:=Option.map_eq_some_iff.mp e1
  have : z.cps.toList[i]? = some c:=by simpa using y2
  rw [this] at q1; cases q1; exact q2.symm
 subst this
 exact ⟨F1,Gr.refl e3,rfl⟩
theorem QeK {lo : Int} {n : Nat} {O : Addr → Prop} : ItOk K ct (Itr lo n) ((List.range n).map fun (i : Nat) => D.int (lo + (i : Int))) O F H:=by
 have w:=walk_range (lo:=lo) (n:=n)
 have e : n = ((List.range n).map fun (i : Nat) => D.int (lo + (i : Int))).length:=by simp
 refine ⟨_,_,by rw [← e]; exact w,fun _ _ => True.intro,fun i d F1 H1 x H1' e1 e2 e3 y => ?_⟩
 obtain ⟨rfl,rfl⟩:=y
 rw [List.getElem?_map] at e1
 obtain ⟨c',q1,q2⟩:=Option.map_eq_some_iff.mp e1
 obtain ⟨hlt,q1⟩:=List.getElem?_eq_some_iff.mp q1
 rw [List.getElem_range] at q1
 subst q1 q2
 exact ⟨F1,Gr.refl e3,rfl⟩
end
section
variable {X : Cx} {ct : Nat → Addr} {W : WX} {a b e tg : Expr} {es : List Expr} {f : SE} {fs : SA} {pos p : Pos} {O : OW}
def Qb0 : D → Option (List D)
 | .lst ds => some ds
 | .tup ds => some ds
 | .scr ns => some (ns.map .int)
 | .rd ds => some ds
 | .str z => some (z.cps.toList.map sgn)
 | _ => none
def QP (f : SE) : SE:=fun env => bnd (f env) fun d => match Qb0 d with
 | some ds => .ok (.lst ds)
 | none => .st
def Fit (m : Bool) (O : OW) : Prop:=m = true → ∀ env σ a,¬ O env σ a
theorem Qgy : Fit false O1:=fun h => nomatch h
theorem QcO : Fit true O0:=fun _ _ _ _ z => z
theorem Qkb {K : PySem.W.Frag} {H0 F H : Hp} {env : En} {σ : L2.St} {m : Bool} {O : OW} (hO : ∀ env σ a,O env σ a → ZH env σ a) (fit : Fit m O) (E : EnvOk K ct F H env σ) {d : D} {x : V} {a : Addr} (hx : x = .ref a) (r : mX K ct m H0 F H d x) {o : HO} (ho : H a = some o) (hF : m = false → F a = some o) :
  ∀ H2 : Hp,(∀ b o,H b = some o → ¬ O env σ b → H2 b = some o) → H2 a = some o:=fun H2 k => k a o ho fun z => by
 cases m with
 | true => exact fit rfl _ _ _ z
 | false =>
  have:=(JN E (hO _ _ _ z)).1
  rw [hF rfl] at this; cases this
theorem QcP : ∀ env σ a,O1 env σ a → ZH env σ a:=fun _ _ _ h => h
theorem JO : ∀ env σ a,O0 env σ a → ZH env σ a:=fun _ _ _ h => h.elim
theorem J9 {m : Bool} (hO : ∀ env σ a,O env σ a → ZH env σ a) (fit : Fit m O) (he : PE X e (tM X.K ct W (mX X.K ct m) f)) : PI X tg e (tI X.K ct W O (QP f)):=by
 refine ((pi_list he).or ((pi_tup he).or (pi_str he))).imp fun σ H RR ⟨env,F,E,h⟩ => ?_
 have er : ∀ {t : TE} {Q1 : VK},t = tM X.K ct W (mX X.K ct m) f → (∀ d,f env = .ok d → ∀ v F' H',Gr F H F' H' → mX X.K ct m H F' H' d v → Q1 v H') → t σ H Q1:=fun {t Q1} et k => by
  subst et
  refine ⟨env,F,E,?_⟩
  unfold QP at h
  cases q : f env with
  | ok d => exact fun v F' H' g r => k d q v F' H' g r
  | er c fs => rw [q] at h; exact h
  | st => rw [q] at h; exact h.elim
 have go : ∀ d ds,f env = .ok d → Qb0 d = some ds → ∀ J F' H',Gr F H F' H' → ItOk X.K ct J ds (O env σ) F' H' → RR J H':=fun d ds q1 q2 => by
  have h2 : (match QP f env with | .ok (.lst ds) => ∀ J F' H',Gr F H F' H' → ItOk X.K ct J ds (O env σ) F' H' → RR J H' | .ok _ => False | .er c fs => ∀ dx F' H',Gr F H F' H' → ExcOk X.K ct F' dx fs → W (.ref (ct c)) dx σ H' | .st => False):=h
  have e : QP f env = .ok (.lst ds):=by unfold QP; rw [q1]; show (match Qb0 d with | some ds => Ps.R.ok (D.lst ds) | none => Ps.R.st) = _; rw [q2]
  rw [e] at h2
  exact h2
 have hsh : ∀ {d : D} {v : V} {F' H' : Hp},mX X.K ct m H F' H' d v → Ex F' H' → RepB X.K ct F' H' d v:=fun {d v F' H'} r ex => by
  cases m with
  | true => exact r
  | false => exact Rep.b ex r
 cases q : f env with
 | er c fs => exact .inl (er rfl fun d e => by rw [q] at e; cases e)
 | st => exact .inl (er rfl fun d e => by rw [q] at e; cases e)
 | ok d =>
  have no : Qb0 d = none → False:=fun hn => by
   have h2 : (match QP f env with | .ok (.lst ds) => ∀ J F' H',Gr F H F' H' → ItOk X.K ct J ds (O env σ) F' H' → RR J H' | .ok _ => False | .er c fs => ∀ dx F' H',Gr F H F' H' → ExcOk X.K ct F' dx fs → W (.ref (ct c)) dx σ H' | .st => False):=h
   have e : QP f env = .st:=by unfold QP; rw [q]; show (match Qb0 d with | some ds => Ps.R.ok (D.lst ds) | none => Ps.R.st) = _; rw [hn]
   rw [e] at h2
   exact h2
  cases d <;> first | exact (no rfl).elim | skip
  ·rename_i z
   refine .inr (.inr (er rfl fun d e v F' H' g r => ?_))
   rw [q] at e; cases e
   have hv : v = .str z:=by cases m <;> exact r
   subst hv
   exact ⟨z,rfl,go _ _ q rfl _ F' H' g Qgx⟩
  ·rename_i ds
   refine .inl (er rfl fun d e v F' H' g r => ?_)
   rw [q] at e; cases e
   obtain ⟨a,vs,rfl,h1,h2⟩:=hsh r g.e
   have kp:=Qkb hO fit (E.gr g) rfl r h1 (fun hm => by
    subst hm
    obtain ⟨b,us,e1,e2,_⟩:=(show Rep X.K ct F' (.lst ds) (.ref a) from r)
    cases e1
    have:=g.e _ _ e2
    rw [h1] at this; cases this; exact e2)
   exact ⟨a,rfl,⟨vs,SqL.of h1⟩,go _ _ q rfl _ F' H' g (Qc3 (fun H2 k => SqL.of (kp H2 k)) h2)⟩
  ·rename_i ds
   refine .inr (.inl (er rfl fun d e v F' H' g r => ?_))
   rw [q] at e; cases e
   have r2 : Rep X.K ct F' (.tup ds) v:=by cases m <;> exact r
   obtain ⟨a,vs,rfl,h1,h2⟩:=r2
   refine ⟨a,rfl,⟨vs,SqT.of (g.e _ _ h1)⟩,go _ _ q rfl _ F' H' g (Qgw (fun H2 k => SqT.of (k a _ (g.e _ _ h1) fun z => ?_)) h2)⟩
   have:=(JN (E.gr g) (hO _ _ _ z)).1
   rw [h1] at this; cases this
  ·rename_i ns
   refine .inl (er rfl fun d e v F' H' g r => ?_)
   rw [q] at e; cases e
   have r2 : Rep X.K ct F' (.scr ns) v:=by cases m <;> exact r
   obtain ⟨a,rfl,h1⟩:=r2
   have st : ∀ H2,(∀ b o,H' b = some o → ¬ O env σ b → H2 b = some o) → SqL X.K H2 a (ns.map V.int):=fun H2 k => by
    rcases h1 with h1 | h1
    ·have : ∀ o,F' a = some o → H2 a = some o:=fun o ho => k a o (g.e _ _ ho) fun z => by
      have:=(JN (E.gr g) (hO _ _ _ z)).1
      rw [ho] at this; cases this
     rcases h1 with h1 | ⟨o,h1⟩
     ·exact .inl (.inl (this _ h1))
     ·exact .inl (.inr ⟨o,this _ h1⟩)
    ·exact .inr h1
   refine ⟨a,rfl,⟨_,st H' fun _ _ q _ => q⟩,go _ _ q rfl _ F' H' g (Qc3 st Reps.ints)⟩
  ·rename_i ds
   refine .inl (er rfl fun d e v F' H' g r => ?_)
   rw [q] at e; cases e
   have r2 : Rep X.K ct F' (.rd ds) v:=by cases m <;> exact r
   obtain ⟨a,vs,rfl,h1,h2⟩:=r2
   have st : ∀ H2,(∀ b o,H' b = some o → ¬ O env σ b → H2 b = some o) → SqL X.K H2 a vs:=fun H2 k => by
    have : ∀ o,F' a = some o → H2 a = some o:=fun o ho => k a o (g.e _ _ ho) fun z => by
     have:=(JN (E.gr g) (hO _ _ _ z)).1
     rw [ho] at this; cases this
    rcases h1 with h1 | ⟨o,h1⟩
    ·exact .inl (.inl (this _ h1))
    ·exact .inl (.inr ⟨o,this _ h1⟩)
   refine ⟨a,rfl,⟨_,st H' fun _ _ q _ => q⟩,go _ _ q rfl _ F' H' g (Qc3 st h2)⟩
def inR (i : Int) : Bool:=decide (-(2 ^ 62) ≤ i) && decide (i < 2 ^ 62)
def Qcu : List D → Option (List D)
 | [.int j] => if inR j then some ((List.range j.toNat).map fun (i : Nat) => D.int (0 + (i : Int))) else none
 | _ => none
def QbD (r : List D → Option (List D)) (fs : SA) : SE:=fun env => QG (fs env) fun ds => match r ds with
 | some xs => .ok (.lst xs)
 | none => .st
theorem Qhz {ms : List Bool} {r : List D → Option (List D)} {σ : L2.St} {H : Hp} {RR : It → Hp → Prop} (h : tI X.K ct W O (QbD r fs) σ H RR) {Q1 : List V → Hp → Prop}
  (k : ∀ ds xs vs F' H',r ds = some xs → Ex F' H' → ArgsRep X.K ct F' H' ms ds vs → (∀ J,(∀ O,ItOk X.K ct J xs O F' H') → RR J H') → Q1 vs H') : tA X.K ct W ms fs σ H Q1:=by
 obtain ⟨env,F,E,h⟩:=h
 refine ⟨env,F,E,?_⟩
 unfold QbD at h
 cases q : fs env with
 | er c fs => rw [q] at h; exact h
 | st => rw [q] at h; exact h.elim
 | ok ds =>
  rw [q] at h
  intro vs F' H' g ra
  cases q2 : r ds with
  | none =>
   have h2 : (match (match r ds with | some xs => Ps.R.ok (D.lst xs) | none => Ps.R.st) with | .ok (.lst ds) => ∀ J F' H',Gr F H F' H' → ItOk X.K ct J ds (O env σ) F' H' → RR J H' | .ok _ => False | .er c fs => ∀ dx F' H',Gr F H F' H' → ExcOk X.K ct F' dx fs → W (.ref (ct c)) dx σ H' | .st => False):=h
   rw [q2] at h2
   exact h2.elim
  | some xs =>
   have h2 : (match (match r ds with | some xs => Ps.R.ok (D.lst xs) | none => Ps.R.st) with | .ok (.lst ds) => ∀ J F' H',Gr F H F' H' → ItOk X.K ct J ds (O env σ) F' H' → RR J H' | .ok _ => False | .er c fs => ∀ dx F' H',Gr F H F' H' → ExcOk X.K ct F' dx fs → W (.ref (ct c)) dx σ H' | .st => False):=h
   rw [q2] at h2
   exact k ds xs vs F' H' q2 g.e ra fun J hJ => h2 J F' H' g (hJ _)
theorem Qfr {i : Int} (h : inR i = true) : -(2 ^ 62) ≤ i ∧ i < 2 ^ 62:=by
 obtain ⟨h1,h2⟩:=Bool.and_eq_true_iff.mp h
 exact ⟨of_decide_eq_true h1,of_decide_eq_true h2⟩
theorem Qa4 (hg : Gl X "range") (hm : X.mg "range" = none) (ha : PA X [a] (tA X.K ct W [false] fs)) (hs : starEach [a] X.env = [(false,eval a X.env)]:=by rfl) : PI X tg (.Call (.Name "range" p) [a] [] pos) (tI X.K ct W O (QbD Qcu fs)):=by
 refine (pi_range1 hg hm ha hs).imp fun σ H R h => Qhz h fun ds xs vs F' H' q ex ra k => ?_
 obtain ⟨d,v,rfl,rfl,r⟩:=Qap ra
 cases d <;> first | (cases q; done) | skip
 rename_i j
 cases (show v = .int j from r)
 simp only [Qcu] at q
 split at q
 ·rename_i hj
  cases q
  exact ⟨j,rfl,(Qfr hj).1,(Qfr hj).2,k _ fun O => QeK⟩
 ·cases q
end
end Ps
namespace Ps
open PySem PySem.Spec PyProof.Rows L2
structure Sr (F H : Hp) (env : En) (σ : L2.St) (F' H' : Hp) : Prop where
 f : Ex F F'
 e : Ex F' H'
 k : ∀ a o,H a = some o → ¬ ZH env σ a → H' a = some o
 t : ∀ a o,H a = some o → ∃ o',H' a = some o'
 n : ∀ a o,F' a = some o → F a = some o ∨ H a = none ∨ ZH env σ a
structure Sx (F H : Hp) (env : En) (σ : L2.St) (F' H' : Hp) (env' : En) (σ' : L2.St) : Prop extends Sr F H env σ F' H' where
 o : ∀ a,ZH env' σ' a → ZH env σ a ∨ H a = none
 b : ∀ (i : Nat) (d : D),env[i]? = some (.bo d) → env'[i]? = some (.bo d) ∧ σ'[i]? = σ[i]?
 q : ∀ (i c : Nat) (fs : List (Str × D)) (gs : List (Str × Nat)),env[i]? = some (.oo c fs gs) → (∃ fs' gs',env'[i]? = some (.oo c fs' gs')) ∧ σ'[i]? = σ[i]?
section
variable {F H F1 H1 F2 H2 : Hp} {env e1 e2 : En} {σ σ1 σ2 : L2.St}
theorem Gr.sr (g : Gr F H F1 H1) : Sr F H env σ F1 H1:=⟨g.f,g.e,fun a o q _ => g.h a o q,fun a o q => ⟨o,g.h a o q⟩,fun a o q => (g.n a o q).imp id .inl⟩
theorem Gr.sx (g : Gr F H F1 H1) : Sx F H env σ F1 H1 env σ:=⟨g.sr,fun _ h => .inl h,fun _ _ h => ⟨h,rfl⟩,fun _ _ fs gs h => ⟨⟨fs,gs,h⟩,rfl⟩⟩
theorem QeL (t : ∀ a o,H a = some o → ∃ o',H1 a = some o') {a : Addr} (h : H1 a = none) : H a = none:=by
 cases q : H a with
 | none => rfl
 | some o => obtain ⟨o',q'⟩:=t a o q; rw [h] at q'; cases q'
theorem Sx.sr_trans (x : Sx F H env σ F1 H1 e1 σ1) (y : Sr F1 H1 e1 σ1 F2 H2) : Sr F H env σ F2 H2 where
 f:=x.f.trans y.f
 e:=y.e
 k:=fun a o q n => y.k a o (x.k a o q n) fun z => by
  rcases x.o a z with z | z
  ·exact n z
  ·rw [q] at z; cases z
 t:=fun a o q => let ⟨o1,q1⟩:=x.t a o q; y.t a o1 q1
 n:=fun a o q => by
  rcases y.n a o q with z | z | z
  ·exact x.n a o z
  ·exact .inr (.inl (QeL x.t z))
  ·rcases x.o a z with z | z
   ·exact .inr (.inr z)
   ·exact .inr (.inl z)
theorem Sx.trans (x : Sx F H env σ F1 H1 e1 σ1) (y : Sx F1 H1 e1 σ1 F2 H2 e2 σ2) : Sx F H env σ F2 H2 e2 σ2 where
 toSr:=x.sr_trans y.toSr
 o:=fun a z => by
  rcases y.o a z with z | z
  ·exact x.o a z
  ·exact .inr (QeL x.t z)
 b:=fun i d h => by
  obtain ⟨h1,h2⟩:=x.b i d h
  obtain ⟨h3,h4⟩:=y.b i d h1
  exact ⟨h3,h4.trans h2⟩
 q:=fun i c fs gs h => by
  obtain ⟨⟨fs1,gs1,h1⟩,h2⟩:=x.q i c fs gs h
  obtain ⟨h3,h4⟩:=y.q i c fs1 gs1 h1
  exact ⟨h3,h4.trans h2⟩
end
def J3 : Sl → Bool
 | .bo _ => false
 | .oo _ _ _ => false
 | .gh _ => false
 | .ln _ _ => false
 | _ => true
def Zf (env : En) (i : Nat) (s : Sl) : Option En:=match env[i]? with
 | some t => if J3 t then some (env.set i s) else none
 | none => none
theorem JP {env env' : En} {i : Nat} {s : Sl} (h : Zf env i s = some env') : ∃ t,env[i]? = some t ∧ J3 t = true ∧ env' = env.set i s:=by
 unfold Zf at h
 split at h
 ·rename_i t q
  split at h
  ·rename_i hc
   cases h
   exact ⟨t,q,hc,rfl⟩
  ·cases h
 ·cases h
section
variable {K : PySem.W.Frag} {ct : Nat → Addr} {F H : Hp} {env env' : En} {σ : L2.St} {i : Nat}
theorem Qi {α : Type} {l : List α} {i : Nat} {x t : α} (h : l[i]? = some t) : (l.set i x)[i]? = some x:=by
 obtain ⟨hl,_⟩:=List.getElem?_eq_some_iff.mp h
 simp [hl]
theorem Qf {α : Type} {l : List α} {i j : Nat} {x : α} (h : j ≠ i) : (l.set i x)[j]? = l[j]?:=List.getElem?_set_ne (Ne.symm h)
theorem Qen {s t : Sl} {x : Option V} (hi : env[i]? = some t) (hs : QbA s = false) {a : Addr} (h : ZH (env.set i s) (σ.set i x) a) : ZH env σ a:=by
 obtain ⟨j,u,e1,e2,e3⟩:=h
 by_cases hj : j = i
 ·subst hj
  rw [Qi hi] at e1
  cases e1; rw [hs] at e2; cases e2
 ·rw [Qf hj] at e1 e3
  exact ⟨j,u,e1,e2,e3⟩
theorem Qa5 (E : EnvOk K ct F H env σ) {t s : Sl} {x : Option V} (hi : env[i]? = some t) (hc : J3 t = true) (hs : QbA s = false) (hb : ∀ d,s ≠ .bo d) (hsh : ∀ d,s = .sh d → ∃ v,x = some v ∧ Rep K ct F d v) :
  EnvOk K ct F H (env.set i s) (σ.set i x) ∧ Sx F H env σ F H (env.set i s) (σ.set i x):=by
 have hl : i < σ.length:=by
  obtain ⟨h1,_⟩:=List.getElem?_eq_some_iff.mp hi
  rw [← E.len]; exact h1
 have hσ : (σ.set i x)[i]? = some x:=by simp [hl]
 refine ⟨⟨E.ex,by simp [E.len],fun j d h => ?_,fun j d h => ?_,fun j d h => ?_,fun j c fs gs h => ?_,fun j d h => ?_,fun j n g h => ?_,fun j k u w a h1 h2 h3 h4 h5 h6 => ?_⟩,⟨(Gr.refl E.ex).sr,fun a h => .inl (Qen hi hs h),fun j d h => ?_,fun j c fs gs h => ?_⟩⟩
 ·by_cases hj : j = i
  ·subst hj
   rw [Qi hi] at h; cases h
   obtain ⟨v,rfl,r⟩:=hsh d rfl
   exact ⟨v,hσ,r⟩
  ·rw [Qf hj] at h ⊢
   exact E.sh j d h
 ·by_cases hj : j = i
  ·subst hj; rw [Qi hi] at h; cases h; cases hs
  ·rw [Qf hj] at h ⊢
   exact E.ow j d h
 ·by_cases hj : j = i
  ·subst hj; rw [Qi hi] at h; cases h; exact absurd rfl (hb d)
  ·rw [Qf hj] at h ⊢
   obtain ⟨v,e1,e2,e3⟩:=E.bo j d h
   exact ⟨v,e1,e2,fun a hn ha z => e3 a hn ha (Qen hi hs z)⟩
 ·by_cases hj : j = i
  ·subst hj; rw [Qi hi] at h; cases h; cases hs
  ·rw [Qf hj] at h ⊢
   obtain ⟨a,dx,fvs,e1,e2,e3,e4,e5,e6,e7⟩:=E.oo j c fs gs h
   refine ⟨a,dx,fvs,e1,e2,e3,e4,e5,e6,fun n g hg => ?_⟩
   obtain ⟨v,d,q1,q2,q3⟩:=e7 n g hg
   have hgi : g ≠ i:=fun z => by subst z; rw [hi] at q3; cases q3; cases hc
   exact ⟨v,d,q1,by rw [Qf hgi]; exact q2,by rw [Qf hgi]; exact q3⟩
 ·by_cases hj : j = i
  ·subst hj; rw [Qi hi] at h; cases h; cases hs
  ·rw [Qf hj] at h ⊢
   exact E.gh j d h
 ·by_cases hj : j = i
  ·subst hj; rw [Qi hi] at h; cases h; cases hs
  ·rw [Qf hj] at h ⊢
   obtain ⟨a,b,d,e1,e2,e3,e4,e5⟩:=E.ln j n g h
   have hgi : g ≠ i:=fun z => by subst z; rw [hi] at e5; cases e5; cases hc
   exact ⟨a,b,d,e1,e2,e3,by rw [Qf hgi]; exact e4,by rw [Qf hgi]; exact e5⟩
 ·have hj : j ≠ i:=fun z => by subst z; rw [Qi hi] at h1; cases h1; rw [hs] at h3; cases h3
  have hk : k ≠ i:=fun z => by subst z; rw [Qi hi] at h2; cases h2; rw [hs] at h4; cases h4
  rw [Qf hj] at h1 h5
  rw [Qf hk] at h2 h6
  exact E.ap j k u w a h1 h2 h3 h4 h5 h6
 ·have hj : j ≠ i:=fun z => by subst z; rw [hi] at h; cases h; cases hc
  rw [Qf hj,Qf hj]
  exact ⟨h,rfl⟩
 ·have hj : j ≠ i:=fun z => by subst z; rw [hi] at h; cases h; cases hc
  rw [Qf hj,Qf hj]
  exact ⟨⟨fs,gs,h⟩,rfl⟩
end
inductive Tgt where
 | nm (i : Nat) | tp (is : List Nat)
def QaV : Tgt → List Nat
 | .nm i => [i]
 | .tp is => is
def QaW : List Nat → List D → En → Option En
 | [],[],env => some env
 | i :: is,d :: ds,env => (Zf env i (.sh d)).bind fun e => QaW is ds e
 | _,_,_ => none
def QW : Tgt → D → En → Option En
 | .nm i,d,env => Zf env i (.sh d)
 | .tp is,.tup ds,env => QaW is ds env
 | _,_,_ => none
def Qcv (K : PySem.W.Frag) (ct : Nat → Addr) (g : TG) (T : Tgt) : Prop:=∀ (v : V) (σ : L2.St) (F H : Hp) (env env' : En) (d : D) (Q : L2.St → Hp → Prop),EnvOk K ct F H env σ → Rep K ct F d v → QW T d env = some env' →
 (∀ σ',EnvOk K ct F H env' σ' → Sx F H env σ F H env' σ' → (∀ (k : Nat),k ∉ QaV T → σ'[k]? = σ[k]?) → σ'.length = σ.length → Q σ' H) → g v σ H Q
section
variable {K : PySem.W.Frag} {ct : Nat → Addr}
theorem Z8 (i : Nat) : Qcv K ct (gName i) (.nm i):=by
 intro v σ F H env env' d Q E r hb hQ
 obtain ⟨t,h1,h2,rfl⟩:=JP hb
 obtain ⟨E',S⟩:=Qa5 (s:=.sh d) (x:=some v) E h1 h2 rfl (fun _ z => nomatch z) fun d' q => by cases q; exact ⟨v,rfl,r⟩
 exact hQ _ E' S (fun k hk => Qf fun z => hk (by rw [z]; exact List.mem_singleton.mpr rfl)) (by simp)
def QeM : List Nat → TGs
 | [] => gNil
 | i :: is => gCons (gName i) (QeM is)
theorem Qeo : ∀ (is : List Nat) (ds : List D) (vs : List V) (σ : L2.St) (F H : Hp) (env env' : En) (Q : L2.St → Hp → Prop),EnvOk K ct F H env σ → Reps K ct F ds vs → QaW is ds env = some env' →
  (∀ σ',EnvOk K ct F H env' σ' → Sx F H env σ F H env' σ' → (∀ (k : Nat),k ∉ is → σ'[k]? = σ[k]?) → σ'.length = σ.length → Q σ' H) → QeM is vs σ H Q
 | [],[],vs,σ,F,H,env,env',Q,E,r,hb,hQ => by
  cases hb
  exact ⟨r,hQ σ E (Gr.refl E.ex).sx (fun _ _ => rfl) rfl⟩
 | [],_ :: _,_,_,_,_,_,_,_,_,_,hb,_ => by cases hb
 | _ :: _,[],_,_,_,_,_,_,_,_,_,hb,_ => by cases hb
 | i :: is,d :: ds,vs,σ,F,H,env,env',Q,E,r,hb,hQ => by
  obtain ⟨v,vr,rfl,r1,r2⟩:=r
  obtain ⟨e1,q1,q2⟩:=Option.bind_eq_some_iff.mp (show ((Zf env i (.sh d)).bind fun e => QaW is ds e) = some env' from hb)
  refine ⟨v,vr,rfl,Z8 i v σ F H env e1 d _ E r1 q1 fun σ1 E1 S1 k1 l1 => ?_⟩
  refine Qeo is ds vr σ1 F H e1 env' Q E1 r2 q2 fun σ2 E2 S2 k2 l2 => ?_
  exact hQ σ2 E2 (S1.trans S2) (fun k hk => by
   rw [k2 k fun z => hk (List.mem_cons_of_mem _ z),k1 k fun z => hk (by rw [List.mem_singleton.mp z]; exact List.mem_cons_self)]) (l2.trans l1)
theorem Qdy : ∀ (is : List Nat) (ds : List D) (env env' : En),QaW is ds env = some env' → is.length = ds.length
 | [],[],_,_,_ => rfl
 | [],_ :: _,_,_,h => by cases h
 | _ :: _,[],_,_,h => by cases h
 | i :: is,d :: ds,env,env',h => by
  obtain ⟨e1,_,q2⟩:=Option.bind_eq_some_iff.mp (show ((Zf env i (.sh d)).bind fun e => QaW is ds e) = some env' from h)
  rw [List.length_cons,List.length_cons,Qdy is ds e1 env' q2]
theorem Qcn (is : List Nat) : Qcv K ct (gTup K is.length (QeM is)) (.tp is):=by
 intro v σ F H env env' d Q E r hb hQ
 cases d <;> first | (cases hb; done) | skip
 rename_i ds
 have hb : QaW is ds env = some env':=hb
 obtain ⟨a,vs,rfl,h1,h2⟩:=r
 exact ⟨a,vs,rfl,SqT.of (E.ex _ _ h1),by rw [h2.length,Qdy is ds env env' hb],Qeo is ds vs σ F H env env' Q E h2 hb hQ⟩
end
def Qac (env : En) : List Nat → En
 | [] => env
 | v :: vs => (Qac env vs).set v .no
def JQ (env : En) (vs : List Nat) : Bool:=vs.all fun i => match env[i]? with
 | some t => J3 t
 | none => false
def ZS (T : Tgt) (env0 : En) (ft fe : SE) : List D → Option (List D)
 | [] => some []
 | d :: ds => match QW T d env0 with
  | none => none
  | some e => match ft e with
   | .ok (.bl true) => (match fe e with
    | .ok x => (ZS T env0 ft fe ds).map fun r => x :: r
    | _ => none)
   | .ok (.bl false) => ZS T env0 ft fe ds
   | _ => none
def Zg (T : Tgt) (vs : List Nat) (fi ft fe : SE) : SE:=fun env => bnd (fi env) fun d => match d with
 | .lst ds => if ds.length < sizeLine ∧ JQ env vs = true then (match ZS T (Qac env vs) ft fe ds with
  | some r => .ok (.lst r)
  | none => .st) else .st
 | _ => .st
abbrev W0 : WX:=fun _ _ _ _ => False
section
variable {K : PySem.W.Frag} {ct : Nat → Addr} {F H : Hp}
theorem Qdz {env : En} {v : Nat} {t : Sl} : ∀ (vs : List Nat),env[v]? = some t → J3 t = true → ∃ t',(Qac env vs)[v]? = some t' ∧ J3 t' = true
 | [],q,h => ⟨t,q,h⟩
 | u :: us,q,h => by
  obtain ⟨t',a,b⟩:=Qdz us q h
  show ∃ t',((Qac env us).set u .no)[v]? = some t' ∧ J3 t' = true
  by_cases hu : v = u
  ·subst hu; exact ⟨.no,Qi a,rfl⟩
  ·exact ⟨t',by rw [Qf hu]; exact a,b⟩
theorem QdH : ∀ (vs : List Nat) {env : En} {σ : L2.St},EnvOk K ct F H env σ → JQ env vs = true → EnvOk K ct F H (Qac env vs) (wipe σ vs)
 | [],env,σ,E,_ => E
 | v :: vs,env,σ,E,h => by
  have h : ((match env[v]? with | some t => J3 t | none => false) && JQ env vs) = true:=by
   unfold JQ at h ⊢
   rw [List.all_cons] at h; exact h
  obtain ⟨h1,h2⟩:=Bool.and_eq_true_iff.mp h
  have ih:=QdH vs E h2
  cases q : env[v]? with
  | none => rw [q] at h1; cases h1
  | some t =>
   rw [q] at h1
   have q2:=Qdz vs q h1
   obtain ⟨t',a,b⟩:=q2
   exact (Qa5 (s:=.no) (x:=none) ih a b rfl (fun _ z => nomatch z) fun d z => nomatch z).1
theorem QcQ (vs : List Nat) (σ : L2.St) (k : Nat) : (wipe σ vs)[k]? = if k ∈ vs ∧ k < σ.length then some none else σ[k]?:=by
 induction vs with
 | nil => simp [wipe]
 | cons v vs ih =>
  show ((wipe σ vs).set v none)[k]? = _
  by_cases hk : k = v
  ·subst hk
   by_cases hl : k < σ.length
   ·rw [List.getElem?_set_self (by rw [wipe_length]; exact hl),if_pos ⟨List.mem_cons_self,hl⟩]
   ·have : k ≥ σ.length:=Nat.le_of_not_lt hl
    rw [List.getElem?_eq_none (by simp [wipe_length]; omega),if_neg (fun z => hl z.2),List.getElem?_eq_none this]
  ·rw [Qf hk,ih]
   have : k ∈ v :: vs ↔ k ∈ vs:=by simp [hk]
   simp only [this]
theorem Qd0 {vs : List Nat} {σ σ2 : L2.St} (hl : σ2.length = (wipe σ vs).length) (h : ∀ (k : Nat),k ∉ vs → σ2[k]? = (wipe σ vs)[k]?) : wipe σ2 vs = wipe σ vs:=by
 apply List.ext_getElem?
 intro k
 rw [wipe_length] at hl
 rw [QcQ,QcQ,hl]
 by_cases hk : k ∈ vs ∧ k < σ.length
 ·rw [if_pos hk,if_pos hk]
 ·rw [if_neg hk,if_neg hk]
  by_cases hv : k ∈ vs
  ·have : ¬ k < σ.length:=fun z => hk ⟨hv,z⟩
   rw [List.getElem?_eq_none (by omega),List.getElem?_eq_none (by omega)]
  ·rw [h k hv,QcQ,if_neg hk]
theorem QcR {T : Tgt} {env0 : En} {ft fe : SE} {d : D} {ds r : List D} (h : ZS T env0 ft fe (d :: ds) = some r) : ∃ e,QW T d env0 = some e ∧ ((ft e = .ok (.bl true) ∧ ∃ x r',fe e = .ok x ∧ ZS T env0 ft fe ds = some r' ∧ r = x :: r') ∨ (ft e = .ok (.bl false) ∧ ZS T env0 ft fe ds = some r)):=by
 unfold ZS at h
 split at h
 ·cases h
 ·rename_i e q
  refine ⟨e,q,?_⟩
  split at h
  ·rename_i q2
   split at h
   ·rename_i x q3
    obtain ⟨r',h1,h2⟩:=Option.map_eq_some_iff.mp h
    exact .inl ⟨q2,x,r',q3,h1,h2.symm⟩
   ·cases h
  ·rename_i q2
   exact .inr ⟨q2,h⟩
  ·cases h
end
section
variable {X : Cx} {ct : Nat → Addr} {W : WX} {elt tg iter : Expr} {ifs : List Expr} {scope : Scope} {own : List (Str × Nat)} {pos : Pos} {g : TG} {T : Tgt} {fi ft fe : SE}
theorem tlc (hT : Qcv X.K ct g T) (hsub : ∀ i ∈ QaV T,i ∈ own.map (·.2)) {σ : L2.St} {H : Hp} {Q : VK} (h : tM X.K ct W (mN X.K ct) (Zg T (own.map (·.2)) fi ft fe) σ H Q) :
  tLc (tI X.K ct W O0 fi) g (TT1 X.K ct W0 ft) (ER X.K ct W0 fe) (own.map (·.2)) σ H Q:=by
 obtain ⟨env,F,E,h⟩:=h
 refine ⟨env,F,E,?_⟩
 unfold Zg at h
 cases q : fi env with
 | er c fs => rw [q] at h; exact h
 | st => rw [q] at h; exact h.elim
 | ok d =>
  rw [q] at h
  cases d <;> first | exact h.elim | skip
  rename_i ds
  intro J F1 H1 g1 hJ D0 hD
  have h : Fin X.K ct W (mN X.K ct) F H σ (if ds.length < sizeLine ∧ JQ env (own.map (·.2)) = true then (match ZS T (Qac env (own.map (·.2))) ft fe ds with | some r => .ok (.lst r) | none => .st) else .st) Q:=h
  split at h
  ·rename_i hc
   cases q2 : ZS T (Qac env (own.map (·.2))) ft fe ds with
   | none => rw [q2] at h; exact h.elim
   | some r =>
    rw [q2] at h
    obtain ⟨G,Y,w,hG,hY⟩:=hJ
    have E1:=E.gr g1
    have hDH : H D0 = none:=Ex.free g1.h hD
    refine lc_it w (fun i H' => ∃ F' acc vs rest,Gr F1 H1 F' H' ∧ F' D0 = none ∧ H' D0 = some (.lst vs) ∧ Reps X.K ct F' acc vs ∧ acc.length ≤ i ∧ ZS T (Qac env (own.map (·.2))) ft fe (ds.drop i) = some rest ∧ r = acc ++ rest)
     ⟨F1,[],[],r,Gr.own E1.ex hD,Ex.free E1.ex hD,upd_same,rfl,Nat.le_refl _,q2,rfl⟩ (fun i H' hi p => ?_) (fun i x H2 H2' hi p y => ?_) fun H' p => ?_
    ·obtain ⟨F',acc,vs,rest,g2,_⟩:=p
     exact hG H' fun b o q _ => g2.h b o q
    ·obtain ⟨F',acc,vs,rest,g2,hF0,hl,hr,hal,hcl,hre⟩:=p
     have hd : ds[i]? = some ds[i]:=by simp [hi]
     obtain ⟨F3,g3,r3⟩:=hY i ds[i] F' H2 x H2' hd g2.f g2.e y
     rw [List.drop_eq_getElem_cons hi] at hcl
     obtain ⟨e,hb,hcase⟩:=QcR hcl
     have g23:=g2.trans g3
     have Ew:=QdH (own.map (·.2)) (E1.gr g23) hc.2
     have hD3 : F3 D0 = none:=g3.none hF0 hl
     refine hT x _ F3 H2' _ e ds[i] _ Ew r3 hb fun σ2 E2 _ k2 l2 => ⟨Qd0 l2 fun k hk => k2 k fun z => hk (hsub k z),?_⟩
     refine QbB (C:=True) E2 (fun b hb F4 H4 g4 E4 => ?_) (fun c fs z => ?_) (fun n1 n2 => ?_)
     ·have g24:=g23.trans g4
      have hl4 : H4 D0 = some (.lst vs):=g4.h _ _ (g3.h _ _ hl)
      have hD4 : F4 D0 = none:=g4.none hD3 (g3.h _ _ hl)
      rcases hcase with ⟨hft,xx,r',hfe,hcl',rfl⟩ | ⟨hft,hcl'⟩
      ·rw [hft] at hb; cases hb
       refine ⟨e,F4,E4,?_⟩
       rw [hfe]
       intro v F5 H5 g5 r5
       have hl5 : H5 D0 = some (.lst vs):=g5.h _ _ hl4
       have hD5 : F5 D0 = none:=g5.none hD4 hl4
       have g25:=g24.trans g5
       have hrep : Reps X.K ct F5 acc vs:=Reps.mono (Ex.le ((g3.f.trans g4.f).trans g5.f)) _ _ hr
       refine ⟨vs,hl5,by rw [hr.length]; omega,F5,acc ++ [xx],vs ++ [v],r',⟨g25.f,fun a o z => by rw [upd_ne (ne_of_none z hD)]; exact g25.h a o z,fun a o z => by rw [upd_ne (ne_of_none z hD5)]; exact g25.e a o z,g25.n⟩,hD5,upd_same,hrep.append (Reps.one r5),by simp; omega,hcl',by rw [hre]; simp⟩
      ·rw [hft] at hb; cases hb
       exact ⟨F4,acc,vs,rest,g24,hD4,hl4,Reps.mono (Ex.le (g3.f.trans g4.f)) _ _ hr,by omega,hcl',hre⟩
     ·rcases hcase with ⟨hft,_⟩ | ⟨hft,_⟩ <;> (rw [hft] at z; cases z)
     ·rcases hcase with ⟨hft,_⟩ | ⟨hft,_⟩ <;> exact n1 _ hft
    ·obtain ⟨F',acc,vs,rest,g2,hF0,hl,hr,hal,hcl,hre⟩:=p
     rw [List.drop_length] at hcl
     cases hcl
     rw [List.append_nil] at hre
     subst hre
     exact h _ F' H' (g1.trans g2) ⟨D0,rfl,hDH,hF0,vs,hl,hr⟩
  ·exact h.elim
theorem J4 : PTs X [] (TT1 X.K ct W (sC (.bl true))):=⟨fun pins s σ H Q I h => pts_nil.run pins s σ H Q I (by obtain ⟨env,F,E,h⟩:=h; exact h F H (Gr.refl E.ex))⟩
theorem QcS {c : Expr} {f : SE} (h : PT X c (TT1 X.K ct W f)) : PTs X [c] (TT1 X.K ct W f):=pts_one h
theorem Qmi (hc : X.calm = true) (hN : X.N.Nodup) (hi : PI X tg iter (tI X.K ct W O0 fi)) (ok : BlkOk X.N X.env.scope scope own)
  (hg : ∀ (s : Shared) (H : Hp) (C : Addr) (cl : List (Str × Addr)) (fp : List Addr),PG (X.blk s H scope (compEnvC scope cl C X.env) fp) tg g) (hT : Qcv X.K ct g T) (hsub : ∀ i ∈ QaV T,i ∈ own.map (·.2))
  (ht : ∀ (s : Shared) (H : Hp) (C : Addr) (cl : List (Str × Addr)) (fp : List Addr),PTs (X.blk s H scope (compEnvC scope cl C X.env) fp) ifs (TT1 X.K ct W0 ft))
  (he : ∀ (s : Shared) (H : Hp) (C : Addr) (cl : List (Str × Addr)) (fp : List Addr),PE (X.blk s H scope (compEnvC scope cl C X.env) fp) elt (ER X.K ct W0 fe)) (hs : ∀ x,foldedSetIterable iter X.env x = pure x:=by intro _; rfl) :
  PE X (.ListComp elt [⟨tg,iter,ifs,0⟩] scope pos) (EN X.K ct W (Zg T (own.map (·.2)) fi ft fe)):=(pe_lc hc hN hi ok hg ht he hs).imp fun _ _ _ h => tlc hT hsub h
end
end Ps
namespace Ps
open PySem PySem.Spec PyProof.Rows L2
section
variable (K : PySem.W.Frag) (ct : Nat → Addr) (W : WX)
def QbZ (F H : Hp) (env : En) (σ : L2.St) (o : O) (D : Ends) : Prop:=match o with
 | .nx e => ∀ σ' F' H',Sx F H env σ F' H' e σ' → EnvOk K ct F' H' e σ' → D.nx σ' H'
 | .bk e => ∀ σ' F' H',Sx F H env σ F' H' e σ' → EnvOk K ct F' H' e σ' → D.bk σ' H'
 | .ct e => ∀ σ' F' H',Sx F H env σ F' H' e σ' → EnvOk K ct F' H' e σ' → D.ct σ' H'
 | .rt d => ∀ v F' H',Sr F H env σ F' H' → Rep K ct F' d v → D.rt v H'
 | .rn d => ∀ p F' H',Sr F H env σ F' H' → (H p = none ∨ ZH env σ p) → OwnAt K ct F' H' p d → D.rt (.ref p) H'
 | .er c fs e => ∀ dx σ' F' H',Sx F H env σ F' H' e σ' → EnvOk K ct F' H' e σ' → ExcOk K ct F' dx fs → W (.ref (ct c)) dx σ' H'
 | .st => False
def sOf (g : SS) : TS:=fun D σ H => ∃ env F,EnvOk K ct F H env σ ∧ QbZ K ct W F H env σ (g env) D
end
section
variable {K : PySem.W.Frag} {ct : Nat → Addr} {W : WX} {F H F1 H1 : Hp} {env e1 : En} {σ σ1 : L2.St} {o : O} {Z : Ends}
theorem Zv (x : Sx F H env σ F1 H1 e1 σ1) (h : QbZ K ct W F H env σ o Z) : QbZ K ct W F1 H1 e1 σ1 o Z:=by
 cases o with
 | nx e => exact fun σ' F' H' y E => h σ' F' H' (x.trans y) E
 | bk e => exact fun σ' F' H' y E => h σ' F' H' (x.trans y) E
 | ct e => exact fun σ' F' H' y E => h σ' F' H' (x.trans y) E
 | rt d => exact fun v F' H' y r => h v F' H' (x.sr_trans y) r
 | rn d =>
  refine fun p F' H' y q r => h p F' H' (x.sr_trans y) ?_ r
  rcases q with q | q
  ·exact .inl (QeL x.t q)
  ·rcases x.o p q with z | z
   ·exact .inr z
   ·exact .inl z
 | er c fs e => exact fun dx σ' F' H' y E q => h dx σ' F' H' (x.trans y) E q
 | st => exact h
def ZP (r : R) (env : En) (k : D → O) : O:=match r with
 | .ok d => k d
 | .er c fs => .er c fs env
 | .st => .st
theorem Je {M1 : Md} {f : SE} {k : D → O} (E : EnvOk K ct F H env σ) (h : QbZ K ct W F H env σ (ZP (f env) env k) Z) {Q1 : VK}
  (hk : ∀ d v F1 H1,f env = .ok d → Gr F H F1 H1 → M1 H F1 H1 d v → EnvOk K ct F1 H1 env σ → QbZ K ct W F H env σ (k d) Z → Q1 v H1) : tM K ct W M1 f σ H Q1:=by
 refine ⟨env,F,E,?_⟩
 cases e : f env with
 | ok d => rw [e] at h; exact fun v F1 H1 g m => hk d v F1 H1 e g m (E.gr g) h
 | er c fs => rw [e] at h; exact fun dx F' H' g x => h dx σ F' H' g.sx (E.gr g) x
 | st => rw [e] at h; exact h
theorem QfN {f : SE} {kt kf : O} (E : EnvOk K ct F H env σ)
  (h : QbZ K ct W F H env σ (ZP (f env) env fun d => match d with | .bl true => kt | .bl false => kf | _ => .st) Z) {Q1 : Bool → Hp → Prop}
  (hk : ∀ b F1 H1,f env = .ok (.bl b) → Gr F H F1 H1 → EnvOk K ct F1 H1 env σ → QbZ K ct W F H env σ (if b then kt else kf) Z → Q1 b H1) : TT1 K ct W f σ H Q1:=by
 refine QbB (C:=True) E (fun b hb F1 H1 g E1 => ?_) (fun c fs e => ?_) (fun n1 n2 => ?_)
 ·rw [hb] at h
  cases b with
  | true => exact hk true F1 H1 hb g E1 h
  | false => exact hk false F1 H1 hb g E1 h
 ·rw [e] at h; exact fun dx F' H' g x => h dx σ F' H' g.sx (E.gr g) x
 ·cases e : f env with
  | ok d => rw [e] at h; cases d <;> first | exact n1 _ e | exact h.elim
  | er c fs => exact n2 _ _ e
  | st => rw [e] at h; exact h.elim
end
def Qr : SS:=fun env => .nx env
def Qkc : SS:=fun env => .bk env
def QiM : SS:=fun env => .ct env
def Qg (f g : SS) : SS:=fun env => match f env with
 | .nx e => g e
 | o => o
def Qv (T : Tgt) (f : SE) : SS:=fun env => ZP (f env) env fun d => match QW T d env with
 | some e => .nx e
 | none => .st
def QfO : D → Bool
 | .lst _ => true | .dk _ => true | .dt _ => true | _ => false
def ZF (i : Nat) (f : SE) : SS:=fun env => ZP (f env) env fun d => match Zf env i (.ow d) with
 | some e => .nx e
 | none => .st
def Zx (c : SE) (f g : SS) : SS:=fun env => ZP (c env) env fun d => match d with
 | .bl true => f env
 | .bl false => g env
 | _ => .st
def QiN (f : SE) : SS:=fun env => ZP (f env) env fun _ => .nx env
def Zl (f : SE) : SS:=fun env => ZP (f env) env fun d => .rt d
def Jd (i : Nat) : SS:=fun env => match env[i]? with
 | some (.ow d) => .nx (env.set i (.sh d))
 | _ => .st
def JA (i : Nat) (f : SE) : SS:=fun env => match env[i]? with
 | some (.ow (.lst ds)) => ZP (f env) env fun d => if ds.length < sizeLine then .nx (env.set i (.ow (.lst (ds ++ [d])))) else .st
 | _ => .st
def QdI {κ : Type} [DecidableEq κ] (kvs : List (κ × D)) (k : κ) (v : D) : List (κ × D):=
 if kvs.any (fun kv => decide (kv.1 = k)) then kvs.map (fun kv => if kv.1 = k then (kv.1,v) else kv) else kvs ++ [(k,v)]
def QcT (x k v : D) : Option D:=match x with
 | .lst ds => (match k with
  | .int i => (ixN ds.length i).map fun j => .lst (ds.set j v)
  | _ => none)
 | .dk kvs => (QcG k).bind fun k => if kvs.length < sizeLine then some (.dk (QdI kvs k v)) else none
 | .dt kvs => (match k with
  | .tup ds => (Qao ds).bind fun k => if kvs.length < sizeLine then some (.dt (QdI kvs k v)) else none
  | _ => none)
 | _ => none
def QbE (i : Nat) (fk fv : SE) : SS:=fun env => ZP (fv env) env fun v => match env[i]? with
 | some (.ow x) => ZP (fk env) env fun k => (match QcT x k v with
  | some z => .nx (env.set i (.ow z))
  | none => .st)
 | _ => .st
def Qar (o : O) (k : En → O) : O:=match o with
 | .nx e => k e
 | .ct e => k e
 | .bk e => .nx e
 | o => o
def JB (T : Tgt) (body : SS) : List D → En → O
 | [],env => .nx env
 | d :: ds,env => match QW T d env with
  | none => .st
  | some e => Qar (body e) (JB T body ds)
def JC (T : Tgt) (it : SE) (body : SS) : SS:=fun env => ZP (it env) env fun d => match d with
 | .lst ds => JB T body ds env
 | _ => .st
section
variable {X : Cx} {ct : Nat → Addr} {W : WX} {st : Stmt} {rest body orelse : List Stmt} {a b e c : Expr} {f : SE} {g g2 : SS} {pos pos' p : Pos} {T : Tgt}
theorem QE : PSs X [] (sOf X.K ct W Qr):=pss_nil.imp fun D σ H ⟨env,F,E,h⟩ => h σ F H (Gr.refl E.ex).sx E
theorem Zj (h : PS X st (sOf X.K ct W g)) : PSs X [st] (sOf X.K ct W g):=pss_one h
theorem Qh0 {K : PySem.W.Frag} {F H : Hp} {env : En} {σ : L2.St} {D : Ends} {o : O} {N : L2.St → Hp → Prop} (hN : ∀ e,o = .nx e → ∀ σ' F' H',Sx F H env σ F' H' e σ' → EnvOk K ct F' H' e σ' → N σ' H')
  (hO : (∀ e,o ≠ .nx e) → QbZ K ct W F H env σ o D) : QbZ K ct W F H env σ o { D with nx:=N }:=by
 cases o with
 | nx e => exact hN e rfl
 | bk e => exact hO fun _ z => nomatch z
 | ct e => exact hO fun _ z => nomatch z
 | rt d => exact hO fun _ z => nomatch z
 | rn d => exact hO fun _ z => nomatch z
 | er c fs e => exact hO fun _ z => nomatch z
 | st => exact hO fun _ z => nomatch z
theorem Qj (h1 : PS X st (sOf X.K ct W g)) (h2 : PSs X rest (sOf X.K ct W g2)) : PSs X (st :: rest) (sOf X.K ct W (Qg g g2)):=by
 refine (pss_cons h1 h2).imp fun D σ H ⟨env,F,E,h⟩ => ⟨env,F,E,?_⟩
 refine Qh0 (fun e q σ' F' H' x E' => ⟨e,F',E',?_⟩) fun n => ?_
 ·unfold Qg at h
  rw [q] at h
  exact Zv x h
 ·have q : Qg g g2 env = g env:=by
   unfold Qg
   cases z : g env with
   | nx e => exact absurd z (n e)
   | _ => rfl
  rw [q] at h
  exact h
theorem Qip {K : PySem.W.Frag} {gt : TG} (hT : Qcv K ct gt T) {D : Ends} {σ : L2.St} {H : Hp} (h : sOf K ct W (Qv T f) D σ H) : tAsg (ER K ct W f) gt D σ H:=by
 obtain ⟨env,F,E,h⟩:=h
 refine Je E h fun d v F1 H1 e1 g1 r1 E1 h => ?_
 cases q : QW T d env with
 | none => rw [q] at h; exact h.elim
 | some e =>
  rw [q] at h
  exact hT v σ F1 H1 env e d _ E1 r1 q fun σ' E2 S2 _ _ => h σ' F1 H1 (g1.sx.trans S2) E2
theorem Qfs {tg : Expr} {gt : TG} (hT : Qcv X.K ct gt T) (hg : PG X tg gt) (he : PE X e (ER X.K ct W f)) (hs : swapsWithSole [tg] e pos.line X.env = pure false:=by rfl) (hw : swappedStores [tg] e X.env = pure none:=by rfl) (h1 : (assignEach [tg] X.env).map (·.2) = [assign tg X.env]:=by rfl) :
  PS X (.Assign [tg] e pos) (sOf X.K ct W (Qv T f)):=(ps_asg he hg hs hw h1).imp fun _ _ _ h => Qip hT h
theorem QK {i : Nat} {x : Str} (hN : X.N.Nodup) (hi : X.N[i]? = some x) (hx : Loc X.env.scope x) (he : PE X e (ER X.K ct W f)) (hs : swapsWith e (some (.Name x pos')) pos.line X.env = pure false:=by rfl) (hf : X.fn x = true ∨ X.env.scope.names.lookup x = some .local:=by first | exact .inl rfl | exact .inr rfl | assumption) :
  PS X (.Assign [.Name x pos'] e pos) (sOf X.K ct W (Qv (.nm i) f)):=(ps_set hN hi hx he hs hf).imp fun _ _ _ h => Qip (Z8 i) h
def QdJ (b : Bool) (d : D) : Sl:=if b then .gh d else .ow d
theorem QdK (b : Bool) (d : D) : QbA (QdJ b d) = true:=by cases b <;> rfl
theorem QiO (b : Bool) {K : PySem.W.Frag} {F0 H0 F H : Hp} {env : En} {σ : L2.St} {i : Nat} {t : Sl} {p : Addr} {d : D} (g : Gr F0 H0 F H) (E0 : EnvOk K ct F0 H0 env σ) (hi : env[i]? = some t) (hc : J3 t = true) (hp : H0 p = none) (ho : OwnAt K ct F H p d) :
  EnvOk K ct F H (env.set i (QdJ b d)) (σ.set i (some (.ref p))) ∧ Sx F0 H0 env σ F H (env.set i (QdJ b d)) (σ.set i (some (.ref p))):=by
 have E:=E0.gr g
 have hl : i < σ.length:=by
  obtain ⟨h1,_⟩:=List.getElem?_eq_some_iff.mp hi
  rw [← E.len]; exact h1
 have hσ : (σ.set i (some (V.ref p)))[i]? = some (some (.ref p)):=by simp [hl]
 have np : ¬ ZH env σ p:=fun z => by
  obtain ⟨_,o,ho⟩:=JN E0 z
  rw [hp] at ho; cases ho
 have ow : ∀ {a : Addr},ZH (env.set i (QdJ b d)) (σ.set i (some (.ref p))) a → a = p ∨ ZH env σ a:=fun {a} ⟨j,s,e1,e2,e3⟩ => by
  by_cases hj : j = i
  ·subst hj; rw [hσ] at e3; cases e3; exact .inl rfl
  ·rw [Qf hj] at e1 e3
   exact .inr ⟨j,s,e1,e2,e3⟩
 refine ⟨⟨E.ex,by simp [E.len],fun j e h => ?_,fun j e h => ?_,fun j e h => ?_,fun j c fs gs h => ?_,fun j e h => ?_,fun j n g' h => ?_,fun j k u w a h1 h2 h3 h4 h5 h6 => ?_⟩,⟨g.sr,fun a h => ?_,fun j e h => ?_,fun j c fs gs h => ?_⟩⟩
 ·by_cases hj : j = i
  ·subst hj; rw [Qi hi] at h; cases b <;> cases h
  ·rw [Qf hj] at h ⊢; exact E.sh j e h
 ·by_cases hj : j = i
  ·subst hj; rw [Qi hi] at h; cases b <;> cases h; exact ⟨p,hσ,ho⟩
  ·rw [Qf hj] at h ⊢; exact E.ow j e h
 ·by_cases hj : j = i
  ·subst hj; rw [Qi hi] at h; cases b <;> cases h
  ·rw [Qf hj] at h ⊢
   obtain ⟨v,e1,e2,e3⟩:=E.bo j e h
   refine ⟨v,e1,e2,fun a hn ha z => ?_⟩
   rcases ow z with z | z
   ·subst ha z
    obtain ⟨v',e1',e2',_⟩:=E0.bo j e h
    rw [e1] at e1'; cases e1'
    obtain ⟨o,ho⟩:=QcN E0.ex hn e2'
    rw [hp] at ho; cases ho
   ·exact e3 a hn ha z
 ·by_cases hj : j = i
  ·subst hj; rw [Qi hi] at h; cases b <;> cases h
  ·rw [Qf hj] at h ⊢
   obtain ⟨a,dx,fvs,e1,e2,e3,e4,e5,e6,e7⟩:=E.oo j c fs gs h
   refine ⟨a,dx,fvs,e1,e2,e3,e4,e5,e6,fun n g hg => ?_⟩
   obtain ⟨v,d',q1,q2,q3⟩:=e7 n g hg
   have hgi : g ≠ i:=fun z => by subst z; rw [hi] at q3; cases q3; cases hc
   exact ⟨v,d',q1,by rw [Qf hgi]; exact q2,by rw [Qf hgi]; exact q3⟩
 ·by_cases hj : j = i
  ·subst hj; rw [Qi hi] at h; cases b <;> cases h; exact ⟨p,hσ,ho⟩
  ·rw [Qf hj] at h ⊢; exact E.gh j e h
 ·by_cases hj : j = i
  ·subst hj; rw [Qi hi] at h; cases b <;> cases h
  ·rw [Qf hj] at h ⊢
   obtain ⟨a,b2,d2,e1,e2,e3,e4,e5⟩:=E.ln j n g' h
   have hgi : g' ≠ i:=fun z => by subst z; rw [hi] at e5; cases e5; cases hc
   exact ⟨a,b2,d2,e1,e2,e3,by rw [Qf hgi]; exact e4,by rw [Qf hgi]; exact e5⟩
 ·by_cases hj : j = i
  ·by_cases hk : k = i
   ·rw [hj,hk]
   ·subst hj
    rw [hσ] at h5; cases h5
    rw [Qf hk] at h2 h6
    exact absurd ⟨k,w,h2,h4,h6⟩ np
  ·by_cases hk : k = i
   ·subst hk
    rw [hσ] at h6; cases h6
    rw [Qf hj] at h1 h5
    exact absurd ⟨j,u,h1,h3,h5⟩ np
   ·rw [Qf hj] at h1 h5
    rw [Qf hk] at h2 h6
    exact E.ap j k u w a h1 h2 h3 h4 h5 h6
 ·rcases ow h with z | z
  ·subst z; exact .inr hp
  ·exact .inl z
 ·have hj : j ≠ i:=fun z => by subst z; rw [hi] at h; cases h; cases hc
  rw [Qf hj,Qf hj]
  exact ⟨h,rfl⟩
 ·have hj : j ≠ i:=fun z => by subst z; rw [hi] at h; cases h; cases hc
  rw [Qf hj,Qf hj]
  exact ⟨⟨fs,gs,h⟩,rfl⟩
theorem Qiq {K : PySem.W.Frag} {i : Nat} {D : Ends} {σ : L2.St} {H : Hp} (h : sOf K ct W (ZF i f) D σ H) : tAsg (EN K ct W f) (gName i) D σ H:=by
 obtain ⟨env,F,E,h⟩:=h
 refine Je E h fun d v F1 H1 e1 g1 r1 E1 h => ?_
 obtain ⟨p,rfl,hp,ho⟩:=r1
 cases q : Zf env i (.ow d) with
 | none => rw [q] at h; exact h.elim
 | some e =>
  rw [q] at h
  obtain ⟨t,q1,q2,rfl⟩:=JP q
  obtain ⟨E2,S2⟩:=QiO false g1 E q1 q2 hp ho
  exact h _ F1 H1 S2 E2
theorem Qd1 {i : Nat} {x : Str} (hN : X.N.Nodup) (hi : X.N[i]? = some x) (hx : Loc X.env.scope x) (he : PE X e (EN X.K ct W f)) (hs : swapsWith e (some (.Name x pos')) pos.line X.env = pure false:=by rfl) (hf : X.fn x = true ∨ X.env.scope.names.lookup x = some .local:=by first | exact .inl rfl | exact .inr rfl | assumption) :
  PS X (.Assign [.Name x pos'] e pos) (sOf X.K ct W (ZF i f)):=(ps_set hN hi hx he hs hf).imp fun _ _ _ h => Qiq h
theorem JR (hc : PT X c (TT1 X.K ct W f)) (ha : PSs X body (sOf X.K ct W g)) (hb : PSs X orelse (sOf X.K ct W g2)) : PS X (.If c body orelse pos) (sOf X.K ct W (Zx f g g2)):=by
 refine (ps_if hc ha hb).imp fun D σ H ⟨env,F,E,h⟩ => ?_
 refine QfN E h fun b F1 H1 _ g1 E1 h => ?_
 cases b with
 | true => exact ⟨env,F1,E1,Zv g1.sx h⟩
 | false => exact ⟨env,F1,E1,Zv g1.sx h⟩
theorem Z9 (he : PE X e (ER X.K ct W f)) : PS X (.Return (some e) pos) (sOf X.K ct W (Zl f)):=by
 refine (ps_ret he).imp fun D σ H ⟨env,F,E,h⟩ => ?_
 exact Je E h fun d v F1 H1 e1 g1 r1 E1 h => h v F1 H1 g1.sr r1
theorem QiP {K : PySem.W.Frag} {F H : Hp} {env : En} {σ : L2.St} {i : Nat} {d : D} (E : EnvOk K ct F H env σ) (hi : env[i]? = some (.ow d)) : ∃ F',EnvOk K ct F' H (env.set i (.sh d)) σ ∧ Sx F H env σ F' H (env.set i (.sh d)) σ:=by
 obtain ⟨p,e1,e2⟩:=E.ow i d hi
 obtain ⟨o,ho⟩:=e2.there
 have hF:=e2.free
 have le : Ex F (upd F p o):=Ex.new hF
 have ex : Ex (upd F p o) H:=fun a u q => by
  by_cases ha : a = p
  ·subst ha; rw [upd_same] at q; cases q; exact ho
  ·rw [upd_ne ha] at q; exact E.ex a u q
 have op : ZH env σ p:=⟨i,_,hi,rfl,e1⟩
 have ne : ∀ {j : Nat} {s : Sl} {a : Addr},j ≠ i → env[j]? = some s → QbA s = true → σ[j]? = some (some (.ref a)) → a ≠ p:=fun {j s a} hj h1 h2 h3 z => by
  subst z
  exact hj (E.ap j i s _ a h1 hi h2 rfl h3 e1)
 have own' : ∀ {a : Addr},ZH (env.set i (.sh d)) σ a → ZH env σ a:=fun {a} ⟨j,s,h1,h2,h3⟩ => by
  by_cases hj : j = i
  ·subst hj; rw [Qi hi] at h1; cases h1; cases h2
  ·rw [Qf hj] at h1; exact ⟨j,s,h1,h2,h3⟩
 refine ⟨upd F p o,⟨ex,by simp [E.len],fun j e h => ?_,fun j e h => ?_,fun j e h => ?_,fun j c fs gs h => ?_,fun j e h => ?_,fun j n g' h => ?_,fun j k u w a h1 h2 h3 h4 h5 h6 => ?_⟩,⟨⟨le,ex,fun a u q _ => q,fun a u q => ⟨u,q⟩,fun a u q => ?_⟩,fun a h => .inl (own' h),fun j e h => ?_,fun j c fs gs h => ?_⟩⟩
 ·by_cases hj : j = i
  ·subst hj; rw [Qi hi] at h; cases h
   exact ⟨.ref p,e1,e2.freeze ho⟩
  ·rw [Qf hj] at h
   obtain ⟨v,q1,q2⟩:=E.sh j e h
   exact ⟨v,q1,Rep.mono (Ex.le le) _ _ q2⟩
 ·by_cases hj : j = i
  ·subst hj; rw [Qi hi] at h; cases h
  ·rw [Qf hj] at h
   obtain ⟨a,q1,q2⟩:=E.ow j e h
   exact ⟨a,q1,q2.mono le (by rw [upd_ne (ne hj h rfl q1)]; exact q2.free) rfl⟩
 ·by_cases hj : j = i
  ·subst hj; rw [Qi hi] at h; cases h
  ·rw [Qf hj] at h
   obtain ⟨v,q1,q2,q3⟩:=E.bo j e h
   refine ⟨v,q1,?_,fun a hn ha z => q3 a hn ha (own' z)⟩
   exact RepB.mono2 le (Ex.refl _) q2
 ·by_cases hj : j = i
  ·subst hj; rw [Qi hi] at h; cases h
  ·rw [Qf hj] at h
   obtain ⟨a,dx,fvs,q1,q2,q3,q4,q5,q6,q7⟩:=E.oo j c fs gs h
   refine ⟨a,dx,fvs,q1,by rw [upd_ne (ne hj h rfl q1)]; exact q2,q3,q4,q5,RepF.mono (Ex.le le) _ _ q6,fun n g hg => ?_⟩
   obtain ⟨v,d',r1,r2,r3⟩:=q7 n g hg
   have hgi : g ≠ i:=fun z => by subst z; rw [hi] at r3; cases r3
   exact ⟨v,d',r1,r2,by rw [Qf hgi]; exact r3⟩
 ·by_cases hj : j = i
  ·subst hj; rw [Qi hi] at h; cases h
  ·rw [Qf hj] at h
   obtain ⟨a,q1,q2⟩:=E.gh j e h
   exact ⟨a,q1,q2.mono le (by rw [upd_ne (ne hj h rfl q1)]; exact q2.free) rfl⟩
 ·by_cases hj : j = i
  ·subst hj; rw [Qi hi] at h; cases h
  ·rw [Qf hj] at h
   obtain ⟨a,b2,d2,q1,q2,q3,q4,q5⟩:=E.ln j n g' h
   have hgi : g' ≠ i:=fun z => by subst z; rw [hi] at q5; cases q5
   exact ⟨a,b2,d2,q1,by rw [upd_ne (ne hj h rfl q1)]; exact q2,q3.le (Ex.le le) rfl,q4,by rw [Qf hgi]; exact q5⟩
 ·have hj : j ≠ i:=fun z => by subst z; rw [Qi hi] at h1; cases h1; cases h3
  have hk : k ≠ i:=fun z => by subst z; rw [Qi hi] at h2; cases h2; cases h4
  rw [Qf hj] at h1
  rw [Qf hk] at h2
  exact E.ap j k u w a h1 h2 h3 h4 h5 h6
 ·by_cases ha : a = p
  ·subst ha; exact .inr (.inr op)
  ·rw [upd_ne ha] at q; exact .inl q
 ·have hj : j ≠ i:=fun z => by subst z; rw [hi] at h; cases h
  rw [Qf hj]
  exact ⟨h,rfl⟩
 ·have hj : j ≠ i:=fun z => by subst z; rw [hi] at h; cases h
  rw [Qf hj]
  exact ⟨⟨fs,gs,h⟩,rfl⟩
theorem JS (i : Nat) (h : PSs X rest (sOf X.K ct W g)) : PSs X rest (sOf X.K ct W (Qg (Jd i) g)):=by
 refine PSs.imp h fun D σ H ⟨env,F,E,h⟩ => ?_
 unfold Qg Jd at h
 cases q : env[i]? with
 | none => rw [q] at h; exact h.elim
 | some s =>
  rw [q] at h
  cases s <;> first | exact h.elim | skip
  rename_i d
  obtain ⟨F',E',S'⟩:=QiP E q
  exact ⟨_,F',E',Zv S' h⟩
end
end Ps
namespace Ps
open PySem PySem.Spec PyProof.Rows L2
section
variable {K : PySem.W.Frag} {ct : Nat → Addr} {F H : Hp} {env : En} {σ : L2.St} {i : Nat}
theorem Qgz (b : Bool) {x z : D} {p : Addr} {o : HO} (E : EnvOk K ct F H env σ) (hi : env[i]? = some (QdJ b x)) (hp : σ[i]? = some (some (.ref p))) (hF : F p = none) (hz : OwnAt K ct F (upd H p o) p z) :
  EnvOk K ct F (upd H p o) (env.set i (QdJ b z)) σ ∧ Sx F H env σ F (upd H p o) (env.set i (QdJ b z)) σ:=by
 have op : ZH env σ p:=⟨i,_,hi,QdK b x,hp⟩
 have ex : Ex F (upd H p o):=fun a u q => by rw [upd_ne (ne_of_none q hF)]; exact E.ex a u q
 have ne : ∀ {j : Nat} {s : Sl} {a : Addr},j ≠ i → env[j]? = some s → QbA s = true → σ[j]? = some (some (.ref a)) → a ≠ p:=fun {j s a} hj h1 h2 h3 q => by
  subst q
  exact hj (E.ap j i s _ a h1 hi h2 (QdK b x) h3 hp)
 have own' : ∀ {a : Addr},ZH (env.set i (QdJ b z)) σ a → ZH env σ a:=fun {a} ⟨j,s,h1,h2,h3⟩ => by
  by_cases hj : j = i
  ·subst hj; rw [hp] at h3; cases h3; exact op
  ·rw [Qf hj] at h1; exact ⟨j,s,h1,h2,h3⟩
 refine ⟨⟨ex,by simp [E.len],fun j e h => ?_,fun j e h => ?_,fun j e h => ?_,fun j c fs gs h => ?_,fun j e h => ?_,fun j n g' h => ?_,fun j k u w a h1 h2 h3 h4 h5 h6 => ?_⟩,⟨⟨Ex.refl _,ex,fun a u q n => ?_,fun a u q => ?_,fun a u q => .inl q⟩,fun a h => .inl (own' h),fun j e h => ?_,fun j c fs gs h => ?_⟩⟩
 ·by_cases hj : j = i
  ·subst hj; rw [Qi hi] at h; cases b <;> cases h
  ·rw [Qf hj] at h; exact E.sh j e h
 ·by_cases hj : j = i
  ·subst hj; rw [Qi hi] at h
   cases b <;> cases h
   exact ⟨p,hp,hz⟩
  ·rw [Qf hj] at h
   obtain ⟨a,q1,q2⟩:=E.ow j e h
   exact ⟨a,q1,q2.mono (Ex.refl _) q2.free (upd_ne (ne hj h rfl q1))⟩
 ·by_cases hj : j = i
  ·subst hj; rw [Qi hi] at h; cases b <;> cases h
  ·rw [Qf hj] at h
   obtain ⟨v,q1,q2,q3⟩:=E.bo j e h
   refine ⟨v,q1,?_,fun a hn ha q => q3 a hn ha (own' q)⟩
   have st : ∀ a,v = .ref a → noScr e = true → ∀ u,H a = some u → upd H p o a = some u:=fun a ha hn u q => by
    rw [upd_ne fun z => q3 a hn ha (by rw [z]; exact op)]; exact q
   cases e with
   | lst ds => obtain ⟨a,vs,r1,r2,r3⟩:=q2; exact ⟨a,vs,r1,st a r1 rfl _ r2,r3⟩
   | dk ds =>
    obtain ⟨a,vs,r1,r2,r3⟩:=q2
    refine ⟨a,vs,r1,?_,r3⟩
    rcases r2 with r2 | ⟨o',r2⟩
    ·exact .inl (st a r1 rfl _ r2)
    ·exact .inr ⟨o',st a r1 rfl _ r2⟩
   | dt ds =>
    obtain ⟨a,vs,r1,r2,r3⟩:=q2
    refine ⟨a,vs,r1,?_,r3⟩
    rcases r2 with r2 | ⟨o',r2⟩
    ·exact .inl (st a r1 rfl _ r2)
    ·exact .inr ⟨o',st a r1 rfl _ r2⟩
   | obj c fs => obtain ⟨a,dx,vs,r1,r2,rn,r3⟩:=q2; exact ⟨a,dx,vs,r1,st a r1 rfl _ r2,rn,r3⟩
   | non => exact q2
   | bl _ => exact q2
   | int _ => exact q2
   | str _ => exact q2
   | tup _ => exact q2
   | scr _ => exact q2
   | rd _ => exact q2
   | exo _ _ => exact q2
 ·by_cases hj : j = i
  ·subst hj; rw [Qi hi] at h; cases b <;> cases h
  ·rw [Qf hj] at h
   obtain ⟨a,dx,fvs,q1,q2,q3,q4,q5,q6,q7⟩:=E.oo j c fs gs h
   refine ⟨a,dx,fvs,q1,q2,by rw [upd_ne (ne hj h rfl q1)]; exact q3,q4,q5,q6,fun n g hg => ?_⟩
   obtain ⟨v,d',r1,r2,r3⟩:=q7 n g hg
   by_cases hgi : g = i
   ·subst hgi
    rw [hi] at r3
    cases b
    ·cases r3
    ·exact ⟨v,z,r1,r2,Qi hi⟩
   ·exact ⟨v,d',r1,r2,by rw [Qf hgi]; exact r3⟩
 ·by_cases hj : j = i
  ·subst hj; rw [Qi hi] at h
   cases b <;> cases h
   exact ⟨p,hp,hz⟩
  ·rw [Qf hj] at h
   obtain ⟨a,q1,q2⟩:=E.gh j e h
   exact ⟨a,q1,q2.mono (Ex.refl _) q2.free (upd_ne (ne hj h rfl q1))⟩
 ·by_cases hj : j = i
  ·subst hj; rw [Qi hi] at h; cases b <;> cases h
  ·rw [Qf hj] at h
   obtain ⟨a,b2,d2,q1,q2,q3,q4,q5⟩:=E.ln j n g' h
   by_cases hgi : g' = i
   ·subst hgi
    rw [hi] at q5
    cases b
    ·cases q5
    ·exact ⟨a,b2,z,q1,q2,q3.at (upd_ne (ne hj h rfl q1)),q4,Qi hi⟩
   ·exact ⟨a,b2,d2,q1,q2,q3.at (upd_ne (ne hj h rfl q1)),q4,by rw [Qf hgi]; exact q5⟩
 ·have fx : ∀ {j : Nat} {u : Sl},(env.set i (QdJ b z))[j]? = some u → QbA u = true → ∃ u',env[j]? = some u' ∧ QbA u' = true:=fun {j u} h hu => by
   by_cases hj : j = i
   ·subst hj; exact ⟨_,hi,QdK b x⟩
   ·rw [Qf hj] at h; exact ⟨u,h,hu⟩
  obtain ⟨u',a1,a2⟩:=fx h1 h3
  obtain ⟨w',b1,b2⟩:=fx h2 h4
  exact E.ap j k u' w' a a1 b1 a2 b2 h5 h6
 ·rw [upd_ne fun z => n (by rw [z]; exact op)]; exact q
 ·by_cases ha : a = p
  ·subst ha; exact ⟨_,upd_same⟩
  ·exact ⟨u,by rw [upd_ne ha]; exact q⟩
 ·have hj : j ≠ i:=fun z => by subst z; rw [hi] at h; cases b <;> cases h
  rw [Qf hj]
  exact ⟨h,rfl⟩
 ·have hj : j ≠ i:=fun z => by subst z; rw [hi] at h; cases b <;> cases h
  rw [Qf hj]
  exact ⟨⟨fs,gs,h⟩,rfl⟩
theorem Qg0 {kvs : List (Key × D)} {vs : List (Key × V)} {k : Key} {d : D} {v : V} (r : Rep K ct F d v) (h : RepK K ct F kvs vs) : RepK K ct F (QdI kvs k d) (putK vs k v):=by
 have an : ∀ {kvs : List (Key × D)} {vs : List (Key × V)},RepK K ct F kvs vs → (kvs.any fun kv => decide (kv.1 = k)) = vs.any fun kv => decide (kv.1 = k):=by
  intro kvs
  induction kvs with
  | nil => intro vs h; rw [show vs = [] from h]; rfl
  | cons p pr ih =>
   intro vs h
   obtain ⟨v',vr,rfl,e2,e3⟩:=h
   rw [List.any_cons,List.any_cons,ih e3]
 have mp : ∀ {kvs : List (Key × D)} {vs : List (Key × V)},RepK K ct F kvs vs → RepK K ct F (kvs.map fun kv => if kv.1 = k then (kv.1,d) else kv) (vs.map fun kv => if kv.1 = k then (kv.1,v) else kv):=by
  intro kvs
  induction kvs with
  | nil => intro vs h; rw [show vs = [] from h]; rfl
  | cons p pr ih =>
   intro vs h
   obtain ⟨v',vr,rfl,e2,e3⟩:=h
   obtain ⟨pk,pd⟩:=p
   rw [List.map_cons,List.map_cons]
   by_cases e : pk = k
   ·rw [if_pos e,if_pos e]; exact ⟨v,_,rfl,r,ih e3⟩
   ·rw [if_neg e,if_neg e]; exact ⟨v',_,rfl,e2,ih e3⟩
 have sn : ∀ {kvs : List (Key × D)} {vs : List (Key × V)},RepK K ct F kvs vs → RepK K ct F (kvs ++ [(k,d)]) (vs ++ [(k,v)]):=by
  intro kvs
  induction kvs with
  | nil => intro vs h; rw [show vs = [] from h]; exact ⟨v,[],rfl,r,rfl⟩
  | cons p pr ih =>
   intro vs h
   obtain ⟨v',vr,rfl,e2,e3⟩:=h
   exact ⟨v',_,rfl,e2,ih e3⟩
 unfold QdI putK
 rw [an h]
 cases vs.any fun kv => decide (kv.1 = k) with
 | true => exact mp h
 | false => exact sn h
theorem Qg1 {kvs : List (List Key × D)} {vs : List (List Key × V)} {k : List Key} {d : D} {v : V} (r : Rep K ct F d v) (h : RepT K ct F kvs vs) : RepT K ct F (QdI kvs k d) (putK vs k v):=by
 have an : ∀ {kvs : List (List Key × D)} {vs : List (List Key × V)},RepT K ct F kvs vs → (kvs.any fun kv => decide (kv.1 = k)) = vs.any fun kv => decide (kv.1 = k):=by
  intro kvs
  induction kvs with
  | nil => intro vs h; rw [show vs = [] from h]; rfl
  | cons p pr ih =>
   intro vs h
   obtain ⟨v',vr,rfl,e2,e3⟩:=h
   rw [List.any_cons,List.any_cons,ih e3]
 have mp : ∀ {kvs : List (List Key × D)} {vs : List (List Key × V)},RepT K ct F kvs vs → RepT K ct F (kvs.map fun kv => if kv.1 = k then (kv.1,d) else kv) (vs.map fun kv => if kv.1 = k then (kv.1,v) else kv):=by
  intro kvs
  induction kvs with
  | nil => intro vs h; rw [show vs = [] from h]; rfl
  | cons p pr ih =>
   intro vs h
   obtain ⟨v',vr,rfl,e2,e3⟩:=h
   obtain ⟨pk,pd⟩:=p
   rw [List.map_cons,List.map_cons]
   by_cases e : pk = k
   ·rw [if_pos e,if_pos e]; exact ⟨v,_,rfl,r,ih e3⟩
   ·rw [if_neg e,if_neg e]; exact ⟨v',_,rfl,e2,ih e3⟩
 have sn : ∀ {kvs : List (List Key × D)} {vs : List (List Key × V)},RepT K ct F kvs vs → RepT K ct F (kvs ++ [(k,d)]) (vs ++ [(k,v)]):=by
  intro kvs
  induction kvs with
  | nil => intro vs h; rw [show vs = [] from h]; exact ⟨v,[],rfl,r,rfl⟩
  | cons p pr ih =>
   intro vs h
   obtain ⟨v',vr,rfl,e2,e3⟩:=h
   exact ⟨v',_,rfl,e2,ih e3⟩
 unfold QdI putK
 rw [an h]
 cases vs.any fun kv => decide (kv.1 = k) with
 | true => exact mp h
 | false => exact sn h
theorem Qep : ∀ {kvs : List (List Key × D)} {vs : List (List Key × V)},RepT K ct F kvs vs → vs.length = kvs.length
 | [],vs,h => by rw [show vs = [] from h]; rfl
 | (k,d) :: kvs,vs,h => by
  obtain ⟨v,r,e1,e2,e3⟩:=h
  rw [e1,List.length_cons,List.length_cons,Qep e3]
def Qir : TSet:=fun o i v H Q => rSetL o i v H Q ∨ ∃ a H4,o = .ref a ∧ DPut H a i v H4 ∧ Q H4
theorem Qg2 {X : Cx} (hu : X.A.units + 1 < cLine) : PSet X Qir:=by
 intro pins s σ H o i v ov iv u Q I ro ri rv h
 rcases h with h | ⟨a,H4,rfl,g,q⟩
 ·exact set_list pins s σ H o i v ov iv u Q I ro ri rv h
 ·obtain rfl : ov = Value.ref a:=ro
  exact d_setItem hu I g ri rv fun s' I' => ⟨H4,I',q⟩
theorem QiQ {x k v z : D} {p : Addr} {kv vv : V} (ex : Ex F H) (ho : OwnAt K ct F H p x) (hk : Rep K ct F k kv) (hv : Rep K ct F v vv) (hz : QcT x k v = some z) :
  ∃ o,OwnAt K ct F (upd H p o) p z ∧ ∀ Q : Hp → Prop,Q (upd H p o) → Qir (.ref p) kv vv H Q:=by
 cases x <;> first | (cases hz; done) | skip
 ·rename_i ds
  cases k <;> first | (cases hz; done) | skip
  rename_i i
  obtain ⟨hF,vs,h1,h2⟩:=ho
  obtain ⟨j,q1,rfl⟩:=Option.map_eq_some_iff.mp (show (ixN ds.length i).map (fun j => D.lst (ds.set j v)) = some z from hz)
  cases (show kv = .int i from hk)
  exact ⟨.lst (vs.set j vv),⟨hF,_,upd_same,h2.set hv j⟩,fun Q q => .inl ⟨p,vs,i,j,rfl,rfl,h1,by rw [h2.length]; exact q1,q⟩⟩
 ·rename_i kvs
  obtain ⟨hF,vs,h1,h2⟩:=ho
  obtain ⟨kk,q1,q2⟩:=Option.bind_eq_some_iff.mp (show ((QcG k).bind fun k => if kvs.length < sizeLine then some (D.dk (QdI kvs k v)) else none) = some z from by cases k <;> exact hz)
  split at q2
  ·rename_i hl
   cases q2
   have ek:=QdG hk q1
   subst ek
   exact ⟨.dK (putK vs kk vv),⟨hF,_,upd_same,Qg0 hv h2⟩,fun Q q => .inr ⟨p,_,rfl,DPut.k h1 (by rw [QcK h2]; exact hl),q⟩⟩
  ·cases q2
 ·rename_i kvs
  cases k <;> first | (cases hz; done) | skip
  rename_i ks
  obtain ⟨hF,vs,h1,h2⟩:=ho
  obtain ⟨kk,q1,q2⟩:=Option.bind_eq_some_iff.mp (show ((Qao ks).bind fun k => if kvs.length < sizeLine then some (D.dt (QdI kvs k v)) else none) = some z from hz)
  split at q2
  ·rename_i hl
   cases q2
   obtain ⟨b,us,rfl,b1,b2⟩:=hk
   rw [QbW b2 q1] at b1
   exact ⟨.dT (putK vs kk vv),⟨hF,_,upd_same,Qg1 hv h2⟩,fun Q q => .inr ⟨p,_,rfl,DPut.t h1 (ex _ _ b1) (by rw [Qep h2]; exact hl),q⟩⟩
  ·cases q2
end
section
variable {X : Cx} {ct : Nat → Addr} {W : WX} {st : Stmt} {rest body orelse : List Stmt} {a b e c tg iter : Expr} {f fk fv fi : SE} {g g2 : SS} {pos pos' p p' apos cpos : Pos} {T : Tgt}
theorem QbF (i : Nat) {x : Str} (he : PE X e (ER X.K ct W f)) (hN : X.N[i]? = some x:=by rfl) (hv : Vis X.env.scope x:=by first | exact Or.inl rfl | exact Or.inr (Or.inl rfl) | exact Or.inr (Or.inr rfl)) (hd : (x == ("__debug__" : Str)) = false:=by decide)
  (hcd : (x == ("__classdict__" : Str)) = false:=by decide) (hs : swapsWith (.Call (.Attribute (.Name x p) "append" apos) [e] [] cpos) none pos.line X.env = pure false:=by rfl)
  (hbase : attributeBase (.Name x p) "append" X.env (eval (.Name x p) X.env) = eval (.Name x p) X.env:=by rfl)
  (hfew : ((backTo cpos (starEach [e] X.env)).all (fun x => !x.1) && (backToKw cpos (keywordEach [] X.env)).all (fun x => x.1.isSome)
   && decide ([e].length + ([] : List Keyword).length + (if ([] : List Keyword).isEmpty then 0 else 1) < 30)) = true:=by rfl)
  (hline : (apos.endLine == cpos.line) = true:=by rfl) (h1 : starEach [e] X.env = (false,eval e X.env) :: starEach [] X.env:=by rfl) (hplain : (backTo cpos (starEach [] X.env)).any (·.1) = false:=by rfl) :
  PS X (.Expr (.Call (.Attribute (.Name x p) "append" apos) [e] [] cpos) pos) (sOf X.K ct W (JA i f)):=by
 refine (ps_expr (pe_bm PySem.F.plainAttrs_list PySem.F.slot_list_append PySem.F.type_list_append mt_append (pe_var hN hv hd hcd) (pa_cons he pa_nil h1) hbase hfew hline h1 hplain) hs).imp fun D σ H ⟨env,F,E,h⟩ => ?_
 unfold JA at h
 split at h
 ·rename_i ds q
  obtain ⟨l,e1,hF,vs,h1,h2⟩:=E.ow i _ q
  refine ⟨.ref l,e1,.inl ⟨rfl,vs,SqL.of h1⟩,?_⟩
  refine Je E h fun d v F1 H1 e2 g1 r1 E1 h => ?_
  split at h
  ·rename_i hl
   obtain ⟨l',e1',hF1,vs1,h3,h4⟩:=E1.ow i _ q
   rw [e1] at e1'; cases e1'
   refine ⟨l,vs1,v,rfl,rfl,h3,by rw [h4.length]; exact hl,?_⟩
   obtain ⟨E2,S2⟩:=Qgz false (z:=.lst (ds ++ [d])) (o:=.lst (vs1 ++ [v])) E1 q e1 hF1 ⟨hF1,_,upd_same,h4.append (Reps.one r1)⟩
   exact h σ F1 _ (g1.sx.trans S2) E2
  ·exact h.elim
 ·exact h.elim
theorem Qkd (i : Nat) {x : Str} (hu : X.A.units + 1 < cLine) (hk : PE X a (ER X.K ct W fk)) (hvv : PE X b (ER X.K ct W fv)) (hN : X.N[i]? = some x:=by rfl) (hv : Vis X.env.scope x:=by first | exact Or.inl rfl | exact Or.inr (Or.inl rfl) | exact Or.inr (Or.inr rfl)) (hd : (x == ("__debug__" : Str)) = false:=by decide)
  (hcd : (x == ("__classdict__" : Str)) = false:=by decide)
  (ha : ∀ v,assign (.Subscript (.Name x p) a pos') X.env v = (do
   let ov ← holding [v] (eval (.Name x p) X.env)
   let iv ← holding [v,ov] (eval a X.env)
   standAt pos'
   holding [v,ov,iv] (setItem ov iv v)
   release [v,ov,iv] []):=by intro _; rfl)
  (hs : swapsWithSole [.Subscript (.Name x p) a pos'] b pos.line X.env = pure false:=by rfl) (hw : swappedStores [.Subscript (.Name x p) a pos'] b X.env = pure none:=by rfl) (h1 : (assignEach [.Subscript (.Name x p) a pos'] X.env).map (·.2) = [assign (.Subscript (.Name x p) a pos') X.env]:=by rfl) :
  PS X (.Assign [.Subscript (.Name x p) a pos'] b pos) (sOf X.K ct W (QbE i fk fv)):=by
 refine (ps_asg hvv (pg_sub (pe_var hN hv hd hcd) hk (Qg2 hu) ha) hs hw h1).imp fun D σ H ⟨env,F,E,h⟩ => ?_
 unfold QbE at h
 refine Je E h fun v vv F1 H1 e2 g1 r1 E1 h => ?_
 split at h
 ·rename_i z q
  obtain ⟨l,e1,o1⟩:=E1.ow i _ q
  refine ⟨.ref l,e1,?_⟩
  have h':=Zv g1.sx h
  refine Je E1 h' fun k kv F2 H2 e3 g2 r2 E2 h => ?_
  obtain ⟨l',e1',o2⟩:=E2.ow i _ q
  rw [e1] at e1'; cases e1'
  cases q2 : QcT z k v with
  | none => rw [q2] at h; exact h.elim
  | some y =>
   rw [q2] at h
   obtain ⟨o,o3,k3⟩:=QiQ E2.ex o2 r2 (Rep.mono (Ex.le g2.f) _ _ r1) q2
   obtain ⟨E3,S3⟩:=Qgz false (z:=y) (o:=o) E2 q e1 o2.free o3
   exact k3 _ (h σ F2 _ (g2.sx.trans S3) E3)
 ·exact h.elim
theorem QeN {T : Tgt} {body : SS} {d : D} {ds : List D} {env : En} : JB T body (d :: ds) env = (match QW T d env with
  | none => .st
  | some e => Qar (body e) (JB T body ds)):=rfl
theorem Qco {gt : TG} (hp : PassesOwn (model X.prog X.w) X.A X.env X.xe) (hc : X.calm = true) (hT : Qcv X.K ct gt T) (hi : PI X tg iter (tI X.K ct W O1 fi)) (hg : PG X tg gt) (hb : PSs X body (sOf X.K ct W g))
  (hs : ∀ x,foldedSetIterable iter X.env x = pure x:=by intro _; rfl) : PS X (.For tg iter body [] pos) (sOf X.K ct W (JC T fi g)):=by
 refine (ps_for hp hc hi hg hb hs).imp fun D σ H ⟨env,F,E,h⟩ => ?_
 refine ⟨env,F,E,?_⟩
 unfold JC at h
 cases q : fi env with
 | er c fs => rw [q] at h; exact fun dx F' H' g x => h dx σ F' H' g.sx (E.gr g) x
 | st => rw [q] at h; exact h
 | ok d =>
  rw [q] at h
  cases d <;> first | exact h.elim | skip
  rename_i ds
  intro J F1 H1 g1 hJ
  obtain ⟨G,Y,w,hG,hY⟩:=hJ
  have h : QbZ X.K ct W F H env σ (JB T g ds env) D:=h
  refine for_it w (fun i σ' H' => ∃ env' F',Sx F1 H1 env σ F' H' env' σ' ∧ EnvOk X.K ct F' H' env' σ' ∧ JB T g (ds.drop i) env' = JB T g ds env)
   ⟨env,F1,(Gr.refl g1.e).sx,E.gr g1,rfl⟩ (fun i σ' H' hi p => ?_) (fun i x σ' H2 H2' hi p y => ?_) fun σ' H' p => ?_
  ·obtain ⟨env',F',S,E',_⟩:=p
   exact hG H' fun b o q n => S.k b o q n
  ·obtain ⟨env',F',S,E',hl⟩:=p
   have hd : ds[i]? = some ds[i]:=by simp [hi]
   obtain ⟨F3,g3,r3⟩:=hY i ds[i] F' H2 x H2' hd S.f S.e y
   rw [List.drop_eq_getElem_cons hi,QeN] at hl
   cases hb : QW T ds[i] env' with
   | none => rw [hb] at hl; rw [← hl] at h; exact h.elim
   | some e =>
    rw [hb] at hl
    replace hl : Qar (g e) (JB T g (ds.drop (i + 1))) = JB T g ds env:=hl
    refine hT x σ' F3 H2' env' e ds[i] _ (E'.gr g3) r3 hb fun σ2 E2 S2 _ _ => ⟨e,F3,E2,?_⟩
    have S':=(S.trans g3.sx).trans S2
    have hS:=Zv (g1.sx.trans S') h
    cases ho : g e with
    | nx e' => rw [ho] at hl; exact fun σ4 F4 H4 S4 E4 => ⟨e',F4,S'.trans S4,E4,hl⟩
    | ct e' => rw [ho] at hl; exact fun σ4 F4 H4 S4 E4 => ⟨e',F4,S'.trans S4,E4,hl⟩
    | bk e' => rw [ho] at hl; rw [← hl] at hS; exact hS
    | rt d => rw [ho] at hl; rw [← hl] at hS; exact hS
    | rn d => rw [ho] at hl; rw [← hl] at hS; exact hS
    | er c fs e' => rw [ho] at hl; rw [← hl] at hS; exact hS
    | st => rw [ho] at hl; rw [← hl] at h; exact h.elim
  ·obtain ⟨env',F',S,E',hl⟩:=p
   rw [List.drop_length] at hl
   rw [← hl] at h
   exact h σ' F' H' (g1.sx.trans S) E'
theorem Qh1 {i : Nat} {y : Str} {py : Pos} {elt : Expr} {ifs : List Expr} {scope : Scope} {own : List (Str × Nat)} {spos : Pos} {gt : TG} {ft fe : SE} (hc : X.calm = true) (hN : X.N.Nodup) (hy : X.N[i]? = some y) (hyl : X.env.scope.names.lookup y = some .local)
  (hsw : swapsWith (.ListComp elt [⟨tg,iter,ifs,0⟩] scope pos) (some (.Name y py)) spos.line X.env = pure true) (hi : PI X tg iter (tI X.K ct W O0 fi)) (ok : BlkOk X.N X.env.scope scope own)
  (hg : ∀ (s : Shared) (H : Hp) (C : Addr) (cl : List (Str × Addr)) (fp : List Addr),PG (X.blk s H scope (compEnvC scope cl C X.env) fp) tg gt) (hT : Qcv X.K ct gt T) (hsub : ∀ i ∈ QaV T,i ∈ own.map (·.2))
  (ht : ∀ (s : Shared) (H : Hp) (C : Addr) (cl : List (Str × Addr)) (fp : List Addr),PTs (X.blk s H scope (compEnvC scope cl C X.env) fp) ifs (TT1 X.K ct W0 ft))
  (he : ∀ (s : Shared) (H : Hp) (C : Addr) (cl : List (Str × Addr)) (fp : List Addr),PE (X.blk s H scope (compEnvC scope cl C X.env) fp) elt (ER X.K ct W0 fe)) (hs : ∀ x,foldedSetIterable iter X.env x = pure x:=by intro _; rfl) :
  PS X (.Assign [.Name y py] (.ListComp elt [⟨tg,iter,ifs,0⟩] scope pos) spos) (sOf X.K ct W (ZF i (Zg T (own.map (·.2)) fi ft fe))):=by
 refine (ps_setLc hc hN hy hyl hsw hi ok hg ht he hs).imp fun D σ H h => ?_
 have h2:=Qiq h
 exact tlc hT hsub h2
end
end Ps
namespace Ps
open PySem PySem.Spec PyProof.Rows L2
def Qh2 (n : Str) (fs : List (Str × D)) : Bool:=fs.any fun p => decide (p.1 = n)
def noG (n : Str) (gs : List (Str × Nat)) : Bool:=gs.all fun p => decide (p.1 ≠ n)
def QbG (c i : Nat) (n : Str) (f : SE) : SS:=fun env => match env[i]? with
 | some (.oo c' fs gs) => if c' = c ∧ n ∈ Qho c ∧ noG n gs = true ∧ Qh2 n fs = false ∧ fs.length + gs.length < 800 then ZP (f env) env fun d => .nx (env.set i (.oo c (fs ++ [(n,d)]) gs)) else .st
 | _ => .st
section
variable {K : PySem.W.Frag} {ct : Nat → Addr} {F H : Hp} {env : En} {σ : L2.St} {i c : Nat} {fs : List (Str × D)} {gs : List (Str × Nat)}
theorem Qd2 {n : Str} {v : V} {fvs : List (Str × V)} : ∀ {fs : List (Str × D)},Qh2 n fs = false → RepF K ct F fs fvs → RepF K ct F fs (putF n v fvs)
 | [],_,_ => True.intro
 | (m,e) :: fs,hn,h => by
  obtain ⟨⟨x,h1,h2⟩,h3⟩:=h
  obtain ⟨n1,n2⟩:=Bool.or_eq_false_iff.mp (show (decide (m = n) || Qh2 n fs) = false from hn)
  exact ⟨⟨x,by rw [lookup_putF,if_neg (of_decide_eq_false n1)]; exact h1,h2⟩,Qd2 n2 h3⟩
theorem Qd3 {n : Str} {d : D} {v : V} {fvs : List (Str × V)} (hv : fvs.lookup n = some v) (r : Rep K ct F d v) : ∀ {fs : List (Str × D)},RepF K ct F fs fvs → RepF K ct F (fs ++ [(n,d)]) fvs
 | [],_ => ⟨⟨v,hv,r⟩,True.intro⟩
 | (m,e) :: fs,h => ⟨h.1,Qd3 hv r h.2⟩
theorem Qh3 {n : Str} {v : V} {fvs : List (Str × V)} (hn : n ∈ Qho c) (h : Nms c fvs) : Nms c (putF n v fvs):=fun m x q => by
 rw [lookup_putF] at q
 split at q
 ·rename_i e; rw [e]; exact hn
 ·exact h m x q
theorem Qke {a dx : Addr} {fvs : List (Str × V)} {fs' : List (Str × D)} {gs' : List (Str × Nat)} (E : EnvOk K ct F H env σ) (hi : env[i]? = some (.oo c fs gs)) (ha : σ[i]? = some (some (.ref a)))
  (hn : Nms c fvs) (hl : fvs.length ≤ fs'.length + gs'.length) (hr : RepF K ct F fs' fvs) (hg : ∀ n g,(n,g) ∈ gs' → ∃ v d,fvs.lookup n = some v ∧ σ[g]? = some (some v) ∧ env[g]? = some (.gh d)) :
  EnvOk K ct F (upd H a (.ins (ct c) dx fvs)) (env.set i (.oo c fs' gs')) σ ∧ Sx F H env σ F (upd H a (.ins (ct c) dx fvs)) (env.set i (.oo c fs' gs')) σ:=by
 obtain ⟨a',dx',fvs',q1,hF,_⟩:=E.oo i c fs gs hi
 rw [ha] at q1; cases q1
 have op : ZH env σ a:=⟨i,_,hi,rfl,ha⟩
 have ex : Ex F (upd H a (.ins (ct c) dx fvs)):=fun b u q => by rw [upd_ne (ne_of_none q hF)]; exact E.ex b u q
 have ne : ∀ {j : Nat} {s : Sl} {b : Addr},j ≠ i → env[j]? = some s → QbA s = true → σ[j]? = some (some (.ref b)) → b ≠ a:=fun {j s b} hj h1 h2 h3 q => by
  subst q
  exact hj (E.ap j i s _ b h1 hi h2 rfl h3 ha)
 have own' : ∀ {b : Addr},ZH (env.set i (.oo c fs' gs')) σ b → ZH env σ b:=fun {b} ⟨j,s,h1,h2,h3⟩ => by
  by_cases hj : j = i
  ·subst hj; rw [ha] at h3; cases h3; exact op
  ·rw [Qf hj] at h1; exact ⟨j,s,h1,h2,h3⟩
 have gne : ∀ {g : Nat} {d : D},env[g]? = some (.gh d) → g ≠ i:=fun {g d} h z => by subst z; rw [hi] at h; cases h
 refine ⟨⟨ex,by simp [E.len],fun j e h => ?_,fun j e h => ?_,fun j e h => ?_,fun j c2 fs2 gs2 h => ?_,fun j e h => ?_,fun j n g' h => ?_,fun j k u w b h1 h2 h3 h4 h5 h6 => ?_⟩,⟨⟨Ex.refl _,ex,fun b u q n => ?_,fun b u q => ?_,fun b u q => .inl q⟩,fun b h => .inl (own' h),fun j e h => ?_,fun j c2 fs2 gs2 h => ?_⟩⟩
 ·by_cases hj : j = i
  ·subst hj; rw [Qi hi] at h; cases h
  ·rw [Qf hj] at h; exact E.sh j e h
 ·by_cases hj : j = i
  ·subst hj; rw [Qi hi] at h; cases h
  ·rw [Qf hj] at h
   obtain ⟨b,q1,q2⟩:=E.ow j e h
   exact ⟨b,q1,q2.mono (Ex.refl _) q2.free (upd_ne (ne hj h rfl q1))⟩
 ·by_cases hj : j = i
  ·subst hj; rw [Qi hi] at h; cases h
  ·rw [Qf hj] at h
   obtain ⟨v,q1,q2,q3⟩:=E.bo j e h
   refine ⟨v,q1,?_,fun b hn ha z => q3 b hn ha (own' z)⟩
   have st : ∀ b,v = .ref b → noScr e = true → ∀ u,H b = some u → upd H a (.ins (ct c) dx fvs) b = some u:=fun b hb hn u q => by
    rw [upd_ne fun z => q3 b hn hb (by rw [z]; exact op)]; exact q
   cases e with
   | lst ds => obtain ⟨b,vs,r1,r2,r3⟩:=q2; exact ⟨b,vs,r1,st b r1 rfl _ r2,r3⟩
   | dk ds =>
    obtain ⟨b,vs,r1,r2,r3⟩:=q2
    refine ⟨b,vs,r1,?_,r3⟩
    rcases r2 with r2 | ⟨o',r2⟩
    ·exact .inl (st b r1 rfl _ r2)
    ·exact .inr ⟨o',st b r1 rfl _ r2⟩
   | dt ds =>
    obtain ⟨b,vs,r1,r2,r3⟩:=q2
    refine ⟨b,vs,r1,?_,r3⟩
    rcases r2 with r2 | ⟨o',r2⟩
    ·exact .inl (st b r1 rfl _ r2)
    ·exact .inr ⟨o',st b r1 rfl _ r2⟩
   | obj c fs => obtain ⟨b,dx,vs,r1,r2,rn,r3⟩:=q2; exact ⟨b,dx,vs,r1,st b r1 rfl _ r2,rn,r3⟩
   | non => exact q2
   | bl _ => exact q2
   | int _ => exact q2
   | str _ => exact q2
   | tup _ => exact q2
   | scr _ => exact q2
   | rd _ => exact q2
   | exo _ _ => exact q2
 ·by_cases hj : j = i
  ·subst hj; rw [Qi hi] at h; cases h
   exact ⟨a,dx,fvs,ha,hF,upd_same,hn,hl,hr,fun n g z => by
    obtain ⟨v,d,r1,r2,r3⟩:=hg n g z
    exact ⟨v,d,r1,r2,by rw [Qf (gne r3)]; exact r3⟩⟩
  ·rw [Qf hj] at h
   obtain ⟨b,dx2,fvs2,q1,q2,q3,q4,q5,q6,q7⟩:=E.oo j c2 fs2 gs2 h
   exact ⟨b,dx2,fvs2,q1,q2,by rw [upd_ne (ne hj h rfl q1)]; exact q3,q4,q5,q6,fun n g z => by
    obtain ⟨v,d,r1,r2,r3⟩:=q7 n g z
    exact ⟨v,d,r1,r2,by rw [Qf (gne r3)]; exact r3⟩⟩
 ·by_cases hj : j = i
  ·subst hj; rw [Qi hi] at h; cases h
  ·rw [Qf hj] at h
   obtain ⟨b,q1,q2⟩:=E.gh j e h
   exact ⟨b,q1,q2.mono (Ex.refl _) q2.free (upd_ne (ne hj h rfl q1))⟩
 ·by_cases hj : j = i
  ·subst hj; rw [Qi hi] at h; cases h
  ·rw [Qf hj] at h
   obtain ⟨b,b2,d2,q1,q2,q3,q4,q5⟩:=E.ln j n g' h
   exact ⟨b,b2,d2,q1,q2,q3.at (upd_ne (ne hj h rfl q1)),q4,by rw [Qf (gne q5)]; exact q5⟩
 ·have fx : ∀ {j : Nat} {u : Sl},(env.set i (.oo c fs' gs'))[j]? = some u → QbA u = true → ∃ u',env[j]? = some u' ∧ QbA u' = true:=fun {j u} h hu => by
   by_cases hj : j = i
   ·subst hj; exact ⟨_,hi,rfl⟩
   ·rw [Qf hj] at h; exact ⟨u,h,hu⟩
  obtain ⟨u',a1,a2⟩:=fx h1 h3
  obtain ⟨w',b1,b2⟩:=fx h2 h4
  exact E.ap j k u' w' b a1 b1 a2 b2 h5 h6
 ·rw [upd_ne fun z => n (by rw [z]; exact op)]; exact q
 ·by_cases hb : b = a
  ·subst hb; exact ⟨_,upd_same⟩
  ·exact ⟨u,by rw [upd_ne hb]; exact q⟩
 ·have hj : j ≠ i:=fun z => by subst z; rw [hi] at h; cases h
  rw [Qf hj]
  exact ⟨h,rfl⟩
 ·by_cases hj : j = i
  ·subst hj
   rw [hi] at h; cases h
   exact ⟨⟨fs',gs',Qi hi⟩,rfl⟩
  ·rw [Qf hj]
   exact ⟨⟨fs2,gs2,h⟩,rfl⟩
end
section
variable {X : Cx}
end
section
variable {X : Cx} {ct : Nat → Addr} {W : WX} {a b e : Expr} {f fk fv : SE} {pos pos' p p' : Pos}
theorem Qg3 (c i : Nat) {x n : Str} (hc : Cls X.K (ct c)) (hna : NoAttr X.K (ct c) n) (he : PE X e (ER X.K ct W f)) (hN : X.N[i]? = some x:=by rfl) (hv : Vis X.env.scope x:=by first | exact Or.inl rfl | exact Or.inr (Or.inl rfl) | exact Or.inr (Or.inr rfl)) (hd : (x == ("__debug__" : Str)) = false:=by decide)
  (hcd : (x == ("__classdict__" : Str)) = false:=by decide) (hs : swapsWith e (some (.Attribute (.Name x p) n pos')) pos.line X.env = pure false:=by rfl) :
  PS X (.Assign [.Attribute (.Name x p) n pos'] e pos) (sOf X.K ct W (QbG c i n f)):=by
 refine (ps_fld (pe_var hN hv hd hcd) he hs).imp fun D σ H ⟨env,F,E,h⟩ => ?_
 unfold QbG at h
 split at h
 ·rename_i c' fs gs q
  split at h
  ·rename_i hh
   obtain ⟨rfl,h1,h2,h3,h4⟩:=hh
   refine Je E h fun d y F1 H1 e2 g1 r1 E1 h => ?_
   obtain ⟨l,dx,fvs,q1,q2,q3,q4,q5,q6,q7⟩:=E1.oo i c' fs gs q
   refine ⟨.ref l,q1,l,_,dx,fvs,rfl,q3,hc,hna,by omega,?_⟩
   have lp : (putF n y fvs).lookup n = some y:=by rw [lookup_putF,if_pos rfl]
   obtain ⟨E2,S2⟩:=Qke (fs':=fs ++ [(n,d)]) (gs':=gs) (fvs:=putF n y fvs) (dx:=dx) E1 q q1 (Qh3 h1 q4) (by have:=length_putF n y fvs; simp; omega) (Qd3 lp r1 (Qd2 h3 q6)) fun m g z => by
    obtain ⟨v,d',r1,r2,r3⟩:=q7 m g z
    have hm : m ≠ n:=of_decide_eq_true (List.all_eq_true.mp h2 (m,g) z)
    exact ⟨v,d',by rw [lookup_putF,if_neg hm]; exact r1,r2,r3⟩
   exact h σ F1 _ (g1.sx.trans S2) E2
  ·exact h.elim
 ·exact h.elim
end
def Qca : List Bool → List D → En
 | m :: ms,d :: ds => (if m then .bo d else .sh d) :: Qca ms ds
 | _,_ => []
def env0 (n : Nat) (ms : List Bool) (ds : List D) : En:=Qca ms ds ++ List.replicate (n - ms.length) .no
def Qg4 (o : O) (fr : Bool) : R:=match o with
 | .nx _ => if fr then .st else .ok .non
 | .rt d => if fr then .st else .ok d
 | .rn d => .ok d
 | .er c fs _ => .er c fs
 | _ => .st
def Qb1 (n : Nat) (ms : List Bool) (fr : Bool) (body : SS) (ds : List D) : R:=Qg4 (body (env0 n ms ds)) fr
section
variable {K : PySem.W.Frag} {ct : Nat → Addr} {F H : Hp}
theorem QcU : ∀ {ms : List Bool} {ds : List D} {vs : List V},ArgsRep K ct F H ms ds vs → (Qca ms ds).length = ms.length ∧ vs.length = ms.length
 | [],_,_,h => by rw [h.1,h.2]; exact ⟨rfl,rfl⟩
 | m :: ms,_,_,⟨d,ds',v,vs',e1,e2,h,r⟩ => by
  subst e1 e2
  obtain ⟨h1,h2⟩:=QcU r
  exact ⟨by show ((if m then Sl.bo d else Sl.sh d) :: Qca ms ds').length = _; rw [List.length_cons,List.length_cons,h1],by rw [List.length_cons,List.length_cons,h2]⟩
theorem QcV : ∀ {ms : List Bool} {ds : List D} {vs : List V} {i : Nat} {s : Sl},ArgsRep K ct F H ms ds vs → (Qca ms ds)[i]? = some s → ∃ d v,vs[i]? = some v ∧ ((s = .bo d ∧ RepB K ct F H d v) ∨ (s = .sh d ∧ Rep K ct F d v))
 | [],_,_,i,s,h,e => by rw [h.1] at e; simp [Qca] at e
 | m :: ms,_,_,0,s,⟨d,ds',v,vs',e1,e2,h,r⟩,e => by
  subst e1 e2
  refine ⟨d,v,rfl,?_⟩
  have : (if m then Sl.bo d else Sl.sh d) = s:=by simpa [Qca] using e
  subst this
  cases m with
  | true => exact .inl ⟨rfl,h⟩
  | false => exact .inr ⟨rfl,h⟩
 | m :: ms,_,_,i + 1,s,⟨d,ds',v,vs',e1,e2,h,r⟩,e => by
  subst e1 e2
  have e : (Qca ms ds')[i]? = some s:=by simpa [Qca] using e
  obtain ⟨d2,v2,h1,h2⟩:=QcV r e
  exact ⟨d2,v2,by simpa using h1,h2⟩
theorem Qas {N : List Str} {vs : List V} {i : Nat} {v : V} (h : vs[i]? = some v) : (L2.start N vs)[i]? = some (some v):=by
 have hl : i < vs.length:=(List.getElem?_eq_some_iff.mp h).1
 unfold L2.start
 rw [List.getElem?_append_left (by simpa using hl),List.getElem?_map,h]; rfl
theorem QfP {N : List Str} {ms : List Bool} {ds : List D} {vs : List V} (ex : Ex F H) (h : ArgsRep K ct F H ms ds vs) (hN : ms.length ≤ N.length) : EnvOk K ct F H (env0 N.length ms ds) (L2.start N vs) ∧ ∀ a,¬ ZH (env0 N.length ms ds) (L2.start N vs) a:=by
 obtain ⟨l1,l2⟩:=QcU h
 have get : ∀ {i : Nat} {s : Sl},(env0 N.length ms ds)[i]? = some s → s = .no ∨ ∃ d v,vs[i]? = some v ∧ ((s = .bo d ∧ RepB K ct F H d v) ∨ (s = .sh d ∧ Rep K ct F d v)):=fun {i s} e => by
  unfold env0 at e
  by_cases hi : i < (Qca ms ds).length
  ·rw [List.getElem?_append_left hi] at e
   exact .inr (QcV h e)
  ·rw [List.getElem?_append_right (Nat.le_of_not_lt hi)] at e
   obtain ⟨_,e⟩:=List.getElem?_eq_some_iff.mp e
   exact .inl (by rw [List.getElem_replicate] at e; exact e.symm)
 have no : ∀ a,¬ ZH (env0 N.length ms ds) (L2.start N vs) a:=fun a ⟨i,s,e1,e2,_⟩ => by
  rcases get e1 with rfl | ⟨d,v,_,(⟨rfl,_⟩ | ⟨rfl,_⟩)⟩ <;> cases e2
 refine ⟨⟨ex,?_,fun i d e => ?_,fun i d e => ?_,fun i d e => ?_,fun i c fs gs e => ?_,fun i d e => ?_,fun i n g' e => ?_,fun i j s t a h1 h2 h3 h4 h5 h6 => ?_⟩,no⟩
 ·unfold env0 L2.start
  rw [List.length_append,List.length_append,List.length_replicate,List.length_replicate,List.length_map,l1,l2]
 ·rcases get e with z | ⟨d',v,h1,(⟨z,_⟩ | ⟨z,r⟩)⟩
  ·cases z
  ·cases z
  ·cases z; exact ⟨v,Qas h1,r⟩
 ·rcases get e with z | ⟨d',v,h1,(⟨z,_⟩ | ⟨z,r⟩)⟩ <;> cases z
 ·rcases get e with z | ⟨d',v,h1,(⟨z,r⟩ | ⟨z,r⟩)⟩
  ·cases z
  ·cases z; exact ⟨v,Qas h1,r,fun a _ _ => no a⟩
  ·cases z
 ·rcases get e with z | ⟨d',v,h1,(⟨z,_⟩ | ⟨z,r⟩)⟩ <;> cases z
 ·rcases get e with z | ⟨d',v,h1,(⟨z,_⟩ | ⟨z,r⟩)⟩ <;> cases z
 ·rcases get e with z | ⟨d',v,h1,(⟨z,_⟩ | ⟨z,r⟩)⟩ <;> cases z
 ·exact absurd ⟨i,s,h1,h3,h5⟩ (no a)
theorem Qft {F' H' : Hp} {env : En} {σ : L2.St} (no : ∀ a,¬ ZH env σ a) (s : Sr F H env σ F' H') : Gr F H F' H':=
 ⟨s.f,fun a o q => s.k a o q (no a),s.e,fun a o q => by
  rcases s.n a o q with z | z | z
  ·exact .inl z
  ·exact .inr z
  ·exact absurd z (no a)⟩
end
section
variable {P : Program} {w : World} {K : PySem.W.Frag} {mg : Str → Option Value} {base : Heap} {ct : Nat → Addr}
abbrev WE0 (E : XK) : WX:=fun cls d _ H => E cls d H
theorem fn_ok {x qual : Str} {st : Stmt} {f : Addr} {fd : FuncData} {N ps : List Str} {k : Nat} {ms : List Bool} {fr : Bool} {body : SS} (Fn : L2.Fun K x qual st f fd) (S : FnScope N ps (L2.defScope st)) (hl : ms.length = ps.length)
  (hb : ∀ (cdv : Value) (A : Around) (outer : List PySem.Env) (s : Shared) (H : Hp) (E : XK),Room k (A.deeper (envOfC qual (L2.defScope st) s.heap.objs.size f cdv)) →
   PSs (cxOf (L2.CX P w) P w K mg base N qual (L2.defScope st) f cdv A outer s H E) (L2.defBody st) (sOf K ct (WE0 E) body)) : FnOk P w K mg base (L2.CX P w) (k + 1) f fd ps (spP K ct ms fr (Qb1 N.length ms fr body)):=by
 refine Fn.okX S (fun vs H Q E h => by rw [Qhx h,hl]) fun cdv A outer s H vs Q E hr h => ?_
 refine ⟨_,hb cdv A outer s H E hr,?_⟩
 obtain ⟨F,ds,ex,hA,h⟩:=h
 have hN : ms.length ≤ N.length:=by
  have:=S.pre
  rw [hl,← this,List.length_take]
  exact Nat.min_le_right _ _
 obtain ⟨E0,no⟩:=QfP (N:=N) ex hA hN
 refine ⟨_,F,E0,?_⟩
 unfold Qb1 at h
 cases q : body (env0 N.length ms ds) with
 | nx e =>
  rw [q] at h
  cases fr with
  | true => exact h.elim
  | false => exact fun σ' F' H' x _ => h .non F' H' (Qft no x.toSr) rfl
 | bk e => rw [q] at h; exact h.elim
 | ct e => rw [q] at h; exact h.elim
 | rt d =>
  rw [q] at h
  cases fr with
  | true => exact h.elim
  | false => exact fun v F' H' x r => h v F' H' (Qft no x) r
 | rn d =>
  rw [q] at h
  intro p F' H' x hp r
  have hp' : H p = none:=by
   rcases hp with z | z
   ·exact z
   ·exact absurd z (no p)
  have g:=Qft no x
  cases fr with
  | true => exact h _ F' H' g ⟨p,rfl,hp',r⟩
  | false =>
   obtain ⟨o,ho⟩:=r.there
   exact h _ _ H' (g.share ex hp' ho) (r.freeze ho)
 | er c fs e =>
  rw [q] at h
  exact fun dx σ' F' H' x _ r => h dx F' H' (Qft no x.toSr) r
 | st => rw [q] at h; exact h.elim
def Qat (env : En) : List (Str × Nat) → Option (List (Str × D))
 | [] => some []
 | (n,g) :: r => match env[g]? with
  | some (.gh d) => (Qat env r).map fun l => (n,d) :: l
  | _ => none
def Qh4 (c : Nat) (o : O) : RI:=match o with
 | .nx env => (match (env[0]? : Option Sl) with
  | some (Sl.oo c' fs gs) => if c' = c then (match Qat env gs with
   | some l => .ok (fs ++ l)
   | none => .st) else .st
  | _ => .st)
 | .er c fs _ => .er c fs
 | _ => .st
def QbH (n c : Nat) (ms : List Bool) (ds : List D) : En:=.oo c [] [] :: (Qca ms ds ++ List.replicate (n - (ms.length + 1)) .no)
def Qc4 (n c : Nat) (ms : List Bool) (body : SS) (ds : List D) : RI:=Qh4 c (body (QbH n c ms ds))
def QdL (env : En) (σ : L2.St) (a : Addr) : Prop:=∃ (g : Nat) (d : D),env[g]? = some (Sl.gh d) ∧ σ[g]? = some (some (V.ref a))
theorem QeO {F H : Hp} {env : En} {σ : L2.St} (E : EnvOk K ct F H env σ) : ∃ F' : Hp,Ex F F' ∧ Ex F' H ∧ (∀ a o,F' a = some o → F a = some o ∨ QdL env σ a) ∧ ∀ (g : Nat) (d : D),env[g]? = some (Sl.gh d) → ∃ v,σ[g]? = some (some v) ∧ Rep K ct F' d v:=by
 classical
 have e1 : Ex F (fun a => if QdL env σ a then H a else F a):=fun a o q => by
  have : ¬ QdL env σ a:=fun ⟨g,d,h1,h2⟩ => by
   have:=(JN E ⟨g,_,h1,rfl,h2⟩).1
   rw [q] at this; cases this
  show (if QdL env σ a then H a else F a) = some o
  rw [if_neg this]; exact q
 refine ⟨fun a => if QdL env σ a then H a else F a,e1,fun a o q => ?_,fun a o q => ?_,fun g d hg => ?_⟩
 ·have q : (if QdL env σ a then H a else F a) = some o:=q
  split at q
  ·exact q
  ·exact E.ex a o q
 ·have q : (if QdL env σ a then H a else F a) = some o:=q
  by_cases hc : QdL env σ a
  ·exact .inr hc
  ·rw [if_neg hc] at q; exact .inl q
 ·obtain ⟨p,h1,h2⟩:=E.gh g d hg
  obtain ⟨o,ho⟩:=h2.there
  refine ⟨_,h1,Rep.mono (Ex.le fun a u q => ?_) _ _ (h2.freeze ho)⟩
  by_cases ha : a = p
  ·subst ha
   rw [upd_same] at q; cases q
   show (if QdL env σ a then H a else F a) = some o
   rw [if_pos ⟨g,d,hg,h1⟩]; exact ho
  ·rw [upd_ne ha] at q; exact e1 a u q
theorem Qcp {F : Hp} {env : En} {σ : L2.St} {fvs : List (Str × V)} (hG : ∀ (g : Nat) (d : D),env[g]? = some (Sl.gh d) → ∃ v,σ[g]? = some (some v) ∧ Rep K ct F d v) : ∀ {gs : List (Str × Nat)} {l : List (Str × D)},
  (∀ n g,(n,g) ∈ gs → ∃ v d,fvs.lookup n = some v ∧ σ[g]? = some (some v) ∧ env[g]? = some (Sl.gh d)) → Qat env gs = some l → RepF K ct F l fvs
 | [],l,_,h => by cases h; exact True.intro
 | (n,g) :: r,l,hg,h => by
  unfold Qat at h
  split at h
  ·rename_i d q
   obtain ⟨l',h1,rfl⟩:=Option.map_eq_some_iff.mp h
   obtain ⟨v,d',r1,r2,r3⟩:=hg n g List.mem_cons_self
   obtain ⟨v',s1,s2⟩:=hG g d q
   rw [r2] at s1; cases s1
   exact ⟨⟨v,r1,s2⟩,Qcp hG (fun m k z => hg m k (List.mem_cons_of_mem _ z)) h1⟩
  ·cases h
theorem Qeq {F : Hp} {fvs : List (Str × V)} : ∀ {fs l : List (Str × D)},RepF K ct F fs fvs → RepF K ct F l fvs → RepF K ct F (fs ++ l) fvs
 | [],_,_,h => h
 | (m,e) :: fs,l,h,h2 => ⟨h.1,Qeq h.2 h2⟩
theorem QeP {F H : Hp} {N : List Str} {c : Nat} {ms : List Bool} {ds : List D} {vs : List V} {x dx : Addr} (ex : Ex F H) (hF : F x = none) (hx : H x = some (.ins (ct c) dx [])) (h : ArgsRep K ct F H ms ds vs) (hne : ∀ v ∈ vs,v ≠ .ref x) (hN : ms.length + 1 ≤ N.length) :
  EnvOk K ct F H (QbH N.length c ms ds) (L2.start N (.ref x :: vs)) ∧ ∀ a,ZH (QbH N.length c ms ds) (L2.start N (.ref x :: vs)) a → a = x:=by
 obtain ⟨l1,l2⟩:=QcU h
 have s0 : (L2.start N (.ref x :: vs))[0]? = some (some (.ref x)):=Qas (vs:=.ref x :: vs) (i:=0) rfl
 have get : ∀ {i : Nat} {s : Sl},(QbH N.length c ms ds)[i]? = some s → (i = 0 ∧ s = .oo c [] []) ∨ s = .no ∨ ∃ d v,(L2.start N (.ref x :: vs))[i]? = some (some v) ∧ v ∈ vs ∧ ((s = .bo d ∧ RepB K ct F H d v) ∨ (s = .sh d ∧ Rep K ct F d v)):=fun {i s} e => by
  cases i with
  | zero => exact .inl ⟨rfl,by simpa [QbH] using e.symm⟩
  | succ i =>
   refine .inr ?_
   have e : (Qca ms ds ++ List.replicate (N.length - (ms.length + 1)) Sl.no)[i]? = some s:=by simpa [QbH] using e
   by_cases hi : i < (Qca ms ds).length
   ·rw [List.getElem?_append_left hi] at e
    obtain ⟨d,v,h1,h2⟩:=QcV h e
    exact .inr ⟨d,v,Qas (vs:=.ref x :: vs) (i:=i + 1) (by simpa using h1),List.mem_of_getElem? h1,h2⟩
   ·rw [List.getElem?_append_right (Nat.le_of_not_lt hi)] at e
    obtain ⟨_,e⟩:=List.getElem?_eq_some_iff.mp e
    exact .inl (by rw [List.getElem_replicate] at e; exact e.symm)
 have ow : ∀ a,ZH (QbH N.length c ms ds) (L2.start N (.ref x :: vs)) a → a = x:=fun a ⟨i,s,e1,e2,e3⟩ => by
  rcases get e1 with ⟨rfl,rfl⟩ | rfl | ⟨d,v,_,_,(⟨rfl,_⟩ | ⟨rfl,_⟩)⟩
  ·rw [s0] at e3; cases e3; rfl
  ·cases e2
  ·cases e2
  ·cases e2
 refine ⟨⟨ex,?_,fun i d e => ?_,fun i d e => ?_,fun i d e => ?_,fun i c2 fs gs e => ?_,fun i d e => ?_,fun i n g' e => ?_,fun i j s t a h1 h2 h3 h4 h5 h6 => ?_⟩,ow⟩
 ·unfold QbH L2.start
  rw [List.length_cons,List.length_append,List.length_append,List.length_replicate,List.length_replicate,List.length_map,List.length_cons,l1,l2]
  omega
 ·rcases get e with ⟨_,z⟩ | z | ⟨d',v,h1,_,(⟨z,_⟩ | ⟨z,r⟩)⟩ <;> first | (cases z; done) | (cases z; exact ⟨v,h1,r⟩)
 ·rcases get e with ⟨_,z⟩ | z | ⟨d',v,h1,_,(⟨z,_⟩ | ⟨z,r⟩)⟩ <;> cases z
 ·rcases get e with ⟨_,z⟩ | z | ⟨d',v,h1,hm,(⟨z,r⟩ | ⟨z,r⟩)⟩ <;> first | (cases z; done) | (cases z; exact ⟨v,h1,r,fun a _ ha o => hne v hm (by rw [ha,ow a o])⟩)
 ·rcases get e with ⟨z0,z⟩ | z | ⟨d',v,h1,_,(⟨z,_⟩ | ⟨z,r⟩)⟩ <;> first | (cases z; done) | skip
  subst z0
  cases z
  exact ⟨x,dx,[],s0,hF,hx,fun n v q => (nomatch q),Nat.le_refl _,True.intro,fun n g q => (nomatch q)⟩
 ·rcases get e with ⟨_,z⟩ | z | ⟨d',v,h1,_,(⟨z,_⟩ | ⟨z,r⟩)⟩ <;> cases z
 ·rcases get e with ⟨_,z⟩ | z | ⟨d',v,h1,_,(⟨z,_⟩ | ⟨z,r⟩)⟩ <;> cases z
 ·have f : ∀ {i : Nat} {s : Sl},(QbH N.length c ms ds)[i]? = some s → QbA s = true → i = 0:=fun {i s} e hs => by
   rcases get e with ⟨z,_⟩ | rfl | ⟨d',v,h1,_,(⟨rfl,_⟩ | ⟨rfl,r⟩)⟩
   ·exact z
   ·cases hs
   ·cases hs
   ·cases hs
  rw [f h1 h3,f h2 h4]
theorem Qh5 {x qual : Str} {st : Stmt} {f : Addr} {fd : FuncData} {N ps : List Str} {k c : Nat} {ms : List Bool} {body : SS} (Fn : L2.Fun K x qual st f fd) (S : FnScope N ps (L2.defScope st)) (hl : ms.length + 1 = ps.length)
  (hb : ∀ (cdv : Value) (A : Around) (outer : List PySem.Env) (s : Shared) (H : Hp) (E : XK),Room k (A.deeper (envOfC qual (L2.defScope st) s.heap.objs.size f cdv)) →
   PSs (cxOf (L2.CX P w) P w K mg base N qual (L2.defScope st) f cdv A outer s H E) (L2.defBody st) (sOf K ct (WE0 E) body)) : FnOk P w K mg base (L2.CX P w) (k + 1) f fd ps (spI K ct c ms (Qc4 N.length c ms body)):=by
 refine Fn.okX S (fun vs H Q E h => by rw [Qhy h,hl]) fun cdv A outer s H vs Q E hr h => ?_
 refine ⟨_,hb cdv A outer s H E hr,?_⟩
 obtain ⟨F,ds,y,dx,vs',rfl,ex,hF,hx,hA,hne,h⟩:=h
 have hN : ms.length + 1 ≤ N.length:=by
  have:=S.pre
  rw [hl,← this,List.length_take]
  exact Nat.min_le_right _ _
 obtain ⟨E0,ow⟩:=QeP (N:=N) (c:=c) ex hF hx hA hne hN
 have s0 : (L2.start N (.ref y :: vs'))[0]? = some (some (.ref y)):=Qas (vs:=.ref y :: vs') (i:=0) rfl
 have e0 : (QbH N.length c ms ds)[0]? = some (.oo c [] []):=by simp [QbH]
 have kk : ∀ {F' H' : Hp},Sr F H (QbH N.length c ms ds) (L2.start N (.ref y :: vs')) F' H' → ∀ a o,H a = some o → a ≠ y → H' a = some o:=fun {F' H'} x a o q n => x.k a o q fun z => n (ow a z)
 refine ⟨_,F,E0,?_⟩
 unfold Qc4 Qh4 at h
 cases q : body (QbH N.length c ms ds) with
 | nx e =>
  rw [q] at h
  intro σ' F' H' x E'
  obtain ⟨⟨fs',gs',q1⟩,q2⟩:=x.q 0 c [] [] e0
  rw [s0] at q2
  have h : (match (match (e[0]? : Option Sl) with | some (Sl.oo c' fs gs) => if c' = c then (match Qat e gs with | some l => RI.ok (fs ++ l) | none => .st) else .st | _ => .st) with
   | .ok fs => ∀ F' H' dx' fvs,Ex F F' → Ex F' H' → (∀ a o,H a = some o → a ≠ y → H' a = some o) → (∀ a o,F' a = some o → F a = some o ∨ H a = none) → H' y = some (.ins (ct c) dx' fvs) → Nms c fvs → RepF K ct F' fs fvs → Q .non H'
   | .er c fs => ∀ dx F' H',Ex F F' → Ex F' H' → (∀ a o,H a = some o → a ≠ y → H' a = some o) → (∀ a o,F' a = some o → F a = some o ∨ H a = none) → ExcOk K ct F' dx fs → E (.ref (ct c)) dx H'
   | .st => False):=h
  rw [q1] at h
  simp only [if_true] at h
  cases q3 : Qat e gs' with
  | none => rw [q3] at h; exact h.elim
  | some l =>
   rw [q3] at h
   obtain ⟨a,dx',fvs,r1,r2,r3,r4,r5,r6,r7⟩:=E'.oo 0 c fs' gs' q1
   rw [q2] at r1; cases r1
   obtain ⟨F2,g1,g2,g3,g4⟩:=QeO E'
   refine h F2 H' dx' fvs (x.f.trans g1) g2 (kk x.toSr) (fun b o hb => ?_) r3 r4 (Qeq (RepF.mono (Ex.le g1) _ _ r6) (Qcp g4 r7 q3))
   rcases g3 b o hb with z | z
   ·rcases x.n b o z with z | z | z
    ·exact .inl z
    ·exact .inr z
    ·have hby:=ow b z
     subst hby
     rename_i hb1
     rcases g3 b o hb with y2 | ⟨g,d,y1,y2⟩
     ·rw [r2] at y2; cases y2
     ·have:=E'.ap g 0 _ _ b y1 q1 rfl rfl y2 q2
      subst this
      rw [q1] at y1; cases y1
   ·obtain ⟨g,d,z1,z2⟩:=z
    rcases x.o b ⟨g,_,z1,rfl,z2⟩ with z | z
    ·have hby:=ow b z
     subst hby
     have:=E'.ap g 0 _ _ b z1 q1 rfl rfl z2 q2
     subst this
     rw [q1] at z1; cases z1
    ·exact .inr z
 | bk e => rw [q] at h; exact h.elim
 | ct e => rw [q] at h; exact h.elim
 | rt d => rw [q] at h; exact h.elim
 | rn d => rw [q] at h; exact h.elim
 | er c' fs e =>
  rw [q] at h
  intro dx σ' F' H' x E' r
  obtain ⟨⟨fs',gs',q1⟩,q2⟩:=x.q 0 c [] [] e0
  rw [s0] at q2
  obtain ⟨a,dx',fvs,r1,r2,_⟩:=E'.oo 0 c fs' gs' q1
  rw [q2] at r1; cases r1
  refine h dx F' H' x.f x.e (kk x.toSr) (fun b o hb => ?_) r
  rcases x.n b o hb with z | z | z
  ·exact .inl z
  ·exact .inr z
  ·have hby:=ow b z
   subst hby
   rw [r2] at hb; cases hb
 | st => rw [q] at h; exact h.elim
end
end Ps
namespace L2
open PySem PySem.Spec
open PyProof.Rows
section
variable {X : Cx} {pins : List (Addr × Obj)} {σ : St} {H : Hp} {s sI : Shared} {a : Addr} {o : HO} {B : Heap} {cls : Value} {d : Option Addr}
theorem Inv.psTrack (I : Inv X pins σ H s) (na : H a = none) (h0 : X.s_0.heap.get? a = none) (nL : a ≠ X.env.locals) (nc : ∀ x c,X.env.cells.lookup x = some c → c ≠ a) (np : ∀ p ∈ X.pn ++ pins,p.1 ≠ a) (new : ObjOk X.prog X.w (upd H a o) s.heap a o) :
  Inv X pins σ (upd H a o) s:=
 have off : ∀ {b u},H b = some u → upd H a o b = some u:=fun {b u} q => (upd_ne (ne_of_none q na)).trans q
 have on : ∀ {b},b ≠ a → H b = none → upd H a o b = none:=fun hb q => (upd_ne hb).trans q
 {ok:=I.ok,os:=I.os,bare:=I.bare,loc:=I.loc,cell:=I.cell,len:=I.len
  free:=on (Ne.symm nL) I.free
  freeC:=fun x c e => on (nc x c e) (I.freeC x c e)
  base:={ keep:=I.base.keep,slot:=I.base.slot,there:=I.base.there,free:=fun b ob e n hx => on (fun z => by subst z; rw [h0] at e; exact nomatch e) (I.base.free b ob e n hx),tups:=fun b xs e => off (I.base.tups b xs e),frzs:=fun b ob u e => off (I.base.frzs b ob u e),tbls:=fun b ps e => (I.base.tbls b ps e).imp fun _ q => off q }
  pin:=fun p hp => (I.pin p hp).imp_right fun r => r.imp_left fun n => on (np p hp) n
  hok:=fun b u e => (Decidable.em (b = a)).elim
   (fun hb => by subst hb; cases upd_same.symm.trans e; exact new)
   (fun hb => (I.hok b u ((upd_ne hb).symm.trans e)).stay (fun _ _ _ q => q) (fun _ q => off q) (fun _ _ q => off q)) }
structure PsDown (X : Cx) (pins : List (Addr × Obj)) (σ : St) (H : Hp) (B : Heap) (a : Addr) (cls : Value) (d : Option Addr) (s : Shared) : Prop where
 inv : Inv X pins σ H s
 fly : HandSPX.FlyingZ B (X.env :: X.outer) a (Zc cls d) s.heap
 new : H a = none
 old : X.s_0.heap.get? a = none
 loc : a ≠ X.env.locals
 cal : a ∉ X.fs
 pnn : ∀ p ∈ X.pn ++ pins,p.1 ≠ a
theorem Qg5 (hex : X.ex = []) (hs : X.stack = X.env :: X.outer) (hf : X.env.frame = some X.env.locals) (J : Inv X pins σ H sI) (nb : ∀ b o,sI.heap.get? b = some o → b ∉ frs X.stack → B.get? b = some o) (up : sI.heap.UpToSlots s.heap)
  (fly : HandSPX.FlyingZ B (X.env :: X.outer) a (Zc cls d) s.heap) (new : H a = none) (os : s.os = sI.os) (ag : AllBare s.gens) : PsDown X pins σ H B a cls d s:=by
 obtain ⟨oe,vs,ha,_,hv⟩:=fly.there
 have far : a ∉ frs (X.env :: X.outer):=fun hm => by
  obtain ⟨_,o2,g2,nf⟩:=fly.2.2.1.mem hm
  cases g2.symm.trans ha
  exact nf vs hv
 have gone : ∀ {o},sI.heap.get? a ≠ some o:=fun {o} e => by
  have:=nb a o e (hs ▸ far)
  rw [fly.2.1] at this
  exact nomatch this
 have inFr : ∀ {e : Env},e ∈ X.env :: X.outer → e.frame ≠ some a:=fun he q => far (List.mem_filterMap.mpr ⟨_,he,q⟩)
 exact {
  inv:=J.landed nb fly.1 up os ag
  fly:=fly
  new:=new
  old:=(Option.eq_none_iff_forall_ne_some.mpr fun o q => by
   obtain ⟨o1,q1⟩:=J.base.there a o q (hex ▸ List.not_mem_nil)
   exact gone q1)
  loc:=fun z => inFr List.mem_cons_self (z ▸ hf)
  cal:=fun hm => (List.mem_filterMap.mp hm).elim fun _ w => inFr (List.mem_cons_of_mem _ w.1) w.2
  pnn:=fun p hp z => gone (z ▸ (J.pin p hp).1) }
theorem PsDown.tracked (P : PsDown X pins σ H B a cls d s) : Inv X pins σ (upd H a (Ps.ExV cls d a)) s:=by
 obtain ⟨oe,vs,ha,hz,hv⟩:=P.fly.there
 refine P.inv.psTrack P.new P.old P.loc (fun y k e z => ?_) P.pnn ⟨⟨oe,vs,ha,hz,hv⟩,⟨oe,ha⟩,fun _ _ ⟨oe,vs,q1,q2⟩ k => ⟨oe,vs,k _ q1,q2⟩⟩
 obtain ⟨_,ob,g,gd⟩:=P.inv.cell y k e
 subst z
 cases g.symm.trans ha
 exact nomatch gd.symm.trans hv
def Qkf (K : PySem.W.Frag) (c : Value) (i : Nat) (ts : Addr → TS) (Wout : WX) (Z : Ends) : WX:=fun cls d σ H =>
 ∃ b,PySem.W.exmOne K cls c = some b ∧ (b = true → ∀ a,H a = none → ts a { nx:=fun σ' H' => Z.nx (σ'.set i none) H',rt:=Z.rt,bk:=fun σ' H' => Z.bk (σ'.set i none) H',ct:=fun σ' H' => Z.ct (σ'.set i none) H' } (σ.set i (some (.ref a))) (upd H a (Ps.ExV cls d a))) ∧
  (b = false → Wout cls d σ H)
theorem Inv.psIn (I : Inv X pins σ H s) : Inv (X.suite a (X.pn ++ pins)) [] σ H s:=
 {I with ok:=I.ok.suite _ _,pin:=fun p hp => I.pin p (List.append_nil (X.pn ++ pins) ▸ hp) }
theorem Inv.psOut {more : List (Addr × Obj)} (I : Inv (X.suite a (X.pn ++ pins)) more σ H s) (ok : X.Ok) : Inv X pins σ H s:=
 {I with ok:=ok,pin:=fun p hp => I.pin p (List.mem_append_left more hp) }
end
section
variable {X : Cx} {pins : List (Addr × Obj)} {σ : St} {H : Hp} {s : Shared} {a : Addr} {B : Heap} {cls c : Value} {d : Option Addr} {x n : Str} {i : Nat} {suite : List Stmt} {b₀ : Stmt} {np pos' : Pos} {t : TS} {Z : Ends} {E : Value → Shared → Prop}
theorem PsDown.asked (P : PsDown X pins σ H B a cls d s) (hc : Names X x c) {b : Bool} (hb : PySem.W.exmOne X.K cls c = some b) {Q : Bool → Shared → Prop} (q : Q b s) :
  wpAny (model X.prog X.w) (X.A.mark (some (.ref a))) (eval (.Name x np) X.env) (fun v s' => wpAny (model X.prog X.w) (X.A.mark (some (.ref a))) (excMatches (.ref a) v) Q E s') E s:=by
 obtain ⟨oe,vs,ha,hz,hv⟩:=P.fly.there
 have look : PySem.W.Looks (model X.prog X.w) s.heap (excMatches (.ref a) c) b:=
  PySem.W.exm_one P.inv.kIn (fun _ _ _ _ keep done => wpAny_typeOf_ref (keep _ _ ha) (hz.1 ▸ done)) hb
 have I:=P.inv.psIn (a:=a)
 rcases hc with ⟨g,db,m | ⟨m,bv,nn⟩⟩
 ·exact ld_glob I g m (look.here q) db
 ·exact ld_blt I g m bv (look.here q) nn db
theorem Qkg (ok : X.Ok) (hN : X.N.Nodup) (hi : X.N[i]? = some n) (hln : X.env.kindOf n = some .local) {f : Flow} (out : SP (X.suite a (X.pn ++ pins)) [] { nx:=fun σ' H' => Z.nx (σ'.set i none) H',rt:=Z.rt,bk:=fun σ' H' => Z.bk (σ'.set i none) H',ct:=fun σ' H' => Z.ct (σ'.set i none) H' } f s) :
  wpAny (model X.prog X.w) X.A (do bindName X.env n .none; unbindBehindTheSuite X.env n pos') (fun _ s7 => SP X pins Z f s7) X.xe s:=by
 have bye : ∀ {σ6 : St} {H6 : Hp} {R : Shared → Prop},Inv (X.suite a (X.pn ++ pins)) [] σ6 H6 s → (∀ s7,Inv X pins (σ6.set i none) H6 s7 → R s7) → wpAny (model X.prog X.w) X.A (do bindName X.env n .none; unbindBehindTheSuite X.env n pos') (fun _ s7 => R s7) X.xe s:=
  fun S6 k => gone_ok (S6.psOut ok) hN hi hln k
 cases f <;> first
  | (obtain ⟨σ6,H6,S6,w⟩:=out; exact bye S6 fun _ J7 => ⟨_,H6,J7,w⟩)
  | (obtain ⟨v6,σ6,H6,S6,r6,w⟩:=out; exact bye S6 fun _ J7 => ⟨v6,_,H6,J7,r6,w⟩)
end
section
variable {X : Cx} {x n : Str} {c : Value} {i : Nat} {body suite : List Stmt} {b₀ : Stmt} {np pos pos' : Pos} {tb : WX → TS} {ts : Addr → TS} {Wout : WX}
theorem QfQ (hex : X.ex = []) (hs : X.stack = X.env :: X.outer) (hf : X.env.frame = some X.env.locals) (hN : X.N.Nodup) (hi : X.N[i]? = some n) (hln : X.env.kindOf n = some .local) (hc : Names X x c) (tk : Takes X Wout)
  (hb : ∀ (W : WX) (pn : List (Addr × Obj)) (xe : Value → Shared → Prop),Takes (X.tr pn xe) W →
   PassesOwn (model X.prog X.w) X.A X.env xe → PSs (X.tr pn xe) body (tb W))
  (hsu : ∀ (a : Addr) (pn : List (Addr × Obj)),PSs (X.suite a pn) (b₀ :: suite) (ts a)) :
  PS X (.Try body [.ExceptHandler (some (.Name x np)) (some n) (b₀ :: suite) pos'] [] [] pos) (fun Z σ H => tb (Qkf X.K c i ts Wout Z) Z σ H):=by
 constructor
 intro pins s σ H Z I h
 have ok:=I.ok
 have hfr : X.A.frames = some (X.env :: X.outer):=ok.frames.trans (congrArg some hs)
 refine wpAny_Try_except (wpAny_mono ((hb (Qkf X.K c i ts Wout Z) (X.pn ++ pins) (fun e s₁ => wpAny (model X.prog X.w) X.A (noteFrame e X.env)
  (fun _ s₂ => wpAny (model X.prog X.w) X.A (setFlight e none) (fun _ s₃ => wpAny (model X.prog X.w) X.A (handleBy e X.env [.ExceptHandler (some (.Name x np)) (some n) (b₀ :: suite) pos']) (SP X pins Z) X.xe s₃) X.xe s₂) X.xe s₁)
  ?taken PassesOwn.looking).run [] s σ H Z (I.toTry _) h) ?through fun _ _ z => z)
 case through =>
  intro f s1 out
  cases f <;> first
   | (obtain ⟨σ1,H1,J,w⟩:=out; exact wpAny_execs_nil ⟨σ1,H1,J.ofTry ok,w⟩)
   | (obtain ⟨σ1,H1,J,w⟩:=out; exact ⟨σ1,H1,J.ofTry ok,w⟩)
   | (obtain ⟨v1,σ1,H1,J,r,w⟩:=out; exact ⟨v1,σ1,H1,J.ofTry ok,r,w⟩)
 case taken =>
  rintro _ s1 ⟨a,B,sI,p0,σ1,H1,cls,d,rfl,J0,nb,up,sky,na,os,ag,b,hb1,yes,no⟩
  have J:=J0.ofTry ok
  have sky1 : Sky B (X.env :: X.outer) a (Zc cls d) X.env.locals s1.heap:=hs ▸ sky
  show wpAny (model X.prog X.w) X.A (noteFrame (.ref a) X.env) _ X.xe s1
  refine Sky.land Zc.steady hfr hf sky1 fun h2 fl2 up2 => ?_
  have P : PsDown X pins σ1 H1 B a cls d { s1 with heap:=h2 }:=Qg5 hex hs hf J nb (up.trans up2) fl2 na os ag
  refine wpAny_handleBy_cons (codeAny_handlers_test (P.asked hc hb1 ?_)) fun z => nomatch z
  match b,hb1,yes,no with
  | true,_,yes,_ =>
   refine codeAny_handlers_suite_as (HandSPX.lands_againZ fl2 fun h3 fl3 up3 => ?_)
   have P3 : PsDown X pins σ1 H1 B a cls d { s1 with heap:=h3 }:=Qg5 hex hs hf J nb ((up.trans up2).trans up3) fl3 na os ag
   refine store_ok (X:=X.suite a (X.pn ++ pins)) (v:=.ref a) P3.tracked.psIn hN hi (.inl hln) rfl
    (fun s5 S5 => wpAny_mono ((hsu a _).run [] s5 _ _ _ S5 (yes rfl a na)) (fun f s6 out => ?_) fun _ _ z => z.elim) (.inr hln)
   exact Qkg ok hN hi hln out
  | false,_,_,no =>
   show wpAny _ X.A (handleBy (.ref a) X.env []) (SP X pins Z) X.xe _
   have on : wpAny (model X.prog X.w) X.A (setFlight (.ref a) X.env.frame) (fun _ s4 => wpAny (model X.prog X.w) X.A (throw (.ref a) : Sem Flow) (SP X pins Z) X.xe s4) X.xe { s1 with heap:=h2 }:=by
    rw [hf]
    exact HandSPX.setFlight_upZ fl2 fun h3 held up3 => wpAny_throw (tk _ _ ⟨a,B,sI,pins,σ1,H1,cls,d,rfl,J,nb,(up.trans up2).trans up3,.inr (.inr (hs ▸ held)),na,os,ag,no rfl⟩)
   obtain ⟨_,_,_,ob,vs,T,_,_,gb,_,gd,g1,_⟩:=fl2
   refine wpAny_handleBy_nil ?_
   unfold PySem.passOn
   refine wpAny_bind (wpAny_field gb gd g1 ?_)
   rw [if_neg (by simp)]
   first
    | exact wpAny_bind (wpAny_pure (wpAny_bind on))
    | exact wpAny_bind on
end
end L2
namespace Ps
open PySem PySem.Spec PyProof.Rows L2
def Qa6 (c : Nat) : SS:=fun env => .er c [] env
def Qg6 (i : Nat) : O → O
 | .nx e => (match Zf e i .no with | some e' => .nx e' | none => .st)
 | .bk e => (match Zf e i .no with | some e' => .bk e' | none => .st)
 | .ct e => (match Zf e i .no with | some e' => .ct e' | none => .st)
 | .rt d => .rt d
 | .rn d => .rn d
 | .er _ _ _ => .st
 | .st => .st
def QbI (cat : Nat → Option Bool) (i : Nat) (body gs : SS) : SS:=fun env => match body env with
 | .er c fs e => (match cat c with
  | some true => (match Zf e i (.sh (.exo c fs)) with
   | some e1 => Qg6 i (gs e1)
   | none => .st)
  | some false => .er c fs e
  | none => .st)
 | o => o
structure ErrC (K : PySem.W.Frag) (mg : Str → Option Value) (C : Addr) (x : Str) : Prop where
 g : mg x = some (.ref C)
 k : PySem.W.keepIn K (.ref C) = true
 q : PySem.W.excIn K C [.type "ValueError",.type "Exception",.type "BaseException",.type "object"] "ValueError.__new__" = true
 b : PySem.W.subIn K (.ref C) (.type "BaseException") = some true
 t : PySem.W.typeIn K (.ref C) = some (.type "type")
section
variable {X : Cx} {ct : Nat → Addr} {W : WX} {body suite : List Stmt} {b₀ : Stmt} {g gs : SS} {pos pos' p p2 np : Pos} {x m n : Str} {j : Nat}
theorem Qc5 (c : Nat) (T : ErrC X.K X.mg (ct c) x) (hg : Gl X x) (hc : X.calm = true) (tk : Takes X W) (hdb : (x == ("__debug__" : Str)) = false:=by decide) :
  PS X (.Raise (some (.Call (.Name x p) [.Constant (.str m) j p2] [] pos)) none pos') (sOf X.K ct W (Qa6 c)):=
 (ps_raise hc tk (pmk_own PySem.F.excBase_ValueError T.q T.g T.k (raises_own T.b T.t) hg hdb)).imp fun D σ H ⟨env,F,E,h⟩ => h none σ F H (Gr.refl E.ex).sx E (.inl ⟨rfl,rfl⟩)
theorem QfR {K : PySem.W.Frag} {F : Hp} {c : Nat} {fs : List (Str × D)} {dx : Option Addr} {a : Addr} (r : ExcOk K ct F dx fs) (e : Ex F (upd F a (ExV (.ref (ct c)) dx a))) : Rep K ct (upd F a (ExV (.ref (ct c)) dx a)) (.exo c fs) (.ref a):=
 ⟨a,dx,rfl,upd_same,ExcOk.mono e r⟩
theorem Qkh {C : Value} {cat : Nat → Option Bool} (i : Nat) (hex : X.ex = []) (hs : X.stack = X.env :: X.outer) (hf : X.env.frame = some X.env.locals) (hN : X.N.Nodup) (hi : X.N[i]? = some n) (hln : X.env.kindOf n = some .local) (hc : Names X x C) (tk : Takes X W)
  (hcat : ∀ c b,cat c = some b → PySem.W.exmOne X.K (.ref (ct c)) C = some b)
  (hb : ∀ (W : WX) (pn : List (Addr × Obj)) (xe : Value → Shared → Prop),Takes (X.tr pn xe) W → PassesOwn (model X.prog X.w) X.A X.env xe → PSs (X.tr pn xe) body (sOf X.K ct W g))
  (hsu : ∀ (a : Addr) (pn : List (Addr × Obj)),PSs (X.suite a pn) (b₀ :: suite) (sOf X.K ct W0 gs)) :
  PS X (.Try body [.ExceptHandler (some (.Name x np)) (some n) (b₀ :: suite) pos'] [] [] pos) (sOf X.K ct W (QbI cat i g gs)):=by
 refine (QfQ hex hs hf hN hi hln hc tk (tb:=fun W => sOf X.K ct W g) (ts:=fun _ => sOf X.K ct W0 gs) hb hsu).imp fun Z σ H ⟨env,F,E,h⟩ => ⟨env,F,E,?_⟩
 unfold QbI at h
 cases q : g env with
 | er c fs e =>
  rw [q] at h
  intro dx σ' F' H' x E' r
  cases hcc : cat c with
  | none =>
   simp only [hcc] at h
   exact h.elim
  | some b =>
   simp only [hcc] at h
   refine ⟨b,hcat _ _ hcc,fun hb a na => ?_,fun hb => ?_⟩
   ·subst hb
    simp only at h
    have g1:=Gr.new (o:=ExV (.ref (ct c)) dx a) E'.ex na
    have E1:=E'.gr g1
    cases q1 : Zf e i (.sh (.exo c fs)) with
    | none => simp only [q1] at h; exact h.elim
    | some e1 =>
     simp only [q1] at h
     obtain ⟨t,hi1,hc1,rfl⟩:=JP q1
     obtain ⟨E2,S2⟩:=Qa5 (s:=.sh (.exo c fs)) (x:=some (V.ref a)) E1 hi1 hc1 rfl (fun _ z => nomatch z) fun d z => by cases z; exact ⟨_,rfl,QfR r g1.f⟩
     refine ⟨_,_,E2,?_⟩
     have S:=x.trans (g1.sx.trans S2)
     have h':=Zv S h
     have wp : ∀ {e2 : En} {k : En → O} {N : L2.St → Hp → Prop},(∀ e3,QbZ X.K ct W _ _ _ _ (k e3) Z → ∀ σ4 F4 H4,Sx _ _ (e.set i (.sh (.exo c fs))) (σ'.set i (some (V.ref a))) F4 H4 e3 σ4 → EnvOk X.K ct F4 H4 e3 σ4 → N σ4 H4) →
       QbZ X.K ct W (upd F' a (ExV (.ref (ct c)) dx a)) (upd H' a (ExV (.ref (ct c)) dx a)) (e.set i (.sh (.exo c fs))) (σ'.set i (some (V.ref a))) (match Zf e2 i .no with | some e' => k e' | none => .st) Z →
       ∀ σ3 F3 H3,Sx (upd F' a (ExV (.ref (ct c)) dx a)) (upd H' a (ExV (.ref (ct c)) dx a)) (e.set i (.sh (.exo c fs))) (σ'.set i (some (V.ref a))) F3 H3 e2 σ3 → EnvOk X.K ct F3 H3 e2 σ3 → N (σ3.set i none) H3:=fun {e2 k N} hk hh σ3 F3 H3 S3 E3 => by
      cases q2 : Zf e2 i .no with
      | none => simp only [q2] at hh; exact hh.elim
      | some e3 =>
       simp only [q2] at hh
       obtain ⟨t2,hi2,hc2,rfl⟩:=JP q2
       obtain ⟨E4,S4⟩:=Qa5 (s:=.no) (x:=none) E3 hi2 hc2 rfl (fun _ z => nomatch z) fun d z => nomatch z
       exact hk _ hh _ F3 H3 (S3.trans S4) E4
     cases ho : gs (e.set i (.sh (.exo c fs))) with
     | nx e2 => rw [ho] at h'; exact wp (k:=O.nx) (fun e3 hh => hh) h'
     | bk e2 => rw [ho] at h'; exact wp (k:=O.bk) (fun e3 hh => hh) h'
     | ct e2 => rw [ho] at h'; exact wp (k:=O.ct) (fun e3 hh => hh) h'
     | rt d => rw [ho] at h'; exact h'
     | rn d => rw [ho] at h'; exact h'
     | er c2 fs2 e2 => rw [ho] at h'; exact h'.elim
     | st => rw [ho] at h'; exact h'.elim
   ·subst hb
    simp only at h
    exact h dx σ' F' H' x E' r
 | nx e => rw [q] at h; exact h
 | bk e => rw [q] at h; exact h
 | ct e => rw [q] at h; exact h
 | rt d => rw [q] at h; exact h
 | rn d => rw [q] at h; exact h
 | st => rw [q] at h; exact h
end
inductive Kd where
 | ty (n : String) | own (c : Nat) | err (c : Nat) | no
def kd : D → Kd
 | .non => .ty "NoneType" | .bl _ => .ty "bool" | .int _ => .ty "int" | .str _ => .ty "str"
 | .lst _ => .ty "list" | .scr _ => .ty "list" | .rd _ => .no | .tup _ => .ty "tuple" | .dk _ => .ty "dict" | .dt _ => .ty "dict"
 | .obj c _ => .own c | .exo c _ => .err c
def kdV (ct : Nat → Addr) : Kd → Value
 | .ty n => .type n
 | .own c => .ref (ct c)
 | .err c => .ref (ct c)
 | .no => .none
structure OwnC (K : PySem.W.Frag) (C : Addr) : Prop where
 cl : Cls K C
 ha : PySem.W.findIn K (.ref C) "__class__" = some (some (.builtin "object.__class__"))
 hn : PySem.W.specialIn K (.builtin "object.__class__") "__get__" = some (some (.builtin "getset_descriptor.__get__"))
 ht : PySem.W.takesIn K (.builtin "object.__class__") = some true
 hm : PySem.W.mroIn K C (.type "object") = some true
def QiR (K : PySem.W.Frag) (ct : Nat → Addr) : Kd → Prop
 | .ty _ => True
 | .own c => OwnC K (ct c)
 | .err c => ExcC K (ct c)
 | .no => False
def Qcw (K : PySem.W.Frag) (ct : Nat → Addr) (C : Value) (tb : Kd → Option Bool) : Prop:=∀ k b,tb k = some b → PySem.W.kitOne K (kdV ct k) C = some b ∧ QiR K ct k
section
variable {X : Cx} {ct : Nat → Addr} {W : WX} {a b e : Expr} {f : SE} {pos p p2 : Pos}
theorem QiS {pins : List (Addr × Obj)} {σ : L2.St} {F H : Hp} {s : Shared} {d : D} {x : V} {u : Value} (I : Inv X pins σ H s) (ex : Ex F H) (rx : RelV x u) (h : RepB X.K ct F H d x) (ok : QiR X.K ct (kd d)) :
  ∃ P : Heap → Prop,PySem.W.KitX X.K u (kdV ct (kd d)) P ∧ P s.heap ∧ u ≠ .builtin "__main__.__loader__#opaque":=by
 cases d with
 | non => cases (show x = .non from h); exact kit_of I rx (.base .non)
 | bl y => cases (show x = .bl y from h); exact kit_of I rx (.base (.bl y))
 | int y => cases (show x = .int y from h); exact kit_of I rx (.base (.int y))
 | str y => cases (show x = .str y from h); exact kit_of I rx (.base (.str y))
 | lst ds => obtain ⟨a,vs,rfl,h1,_⟩:=h; exact kit_of I rx (.base (.lst h1))
 | tup ds => obtain ⟨a,vs,rfl,h1,_⟩:=h; exact kit_of I rx (.base (.tup (ex _ _ h1)))
 | scr ns =>
  obtain ⟨a,rfl,h1⟩:=h
  cases (show u = Value.ref a from rx)
  obtain ⟨its,_,pl,_⟩:=I.list (show SqL X.K H a (ns.map V.int) from by
   rcases h1 with h1 | h1
   ·exact .inl (Ex.rd ex h1)
   ·exact .inr h1)
  obtain ⟨n,hget,hcl,_⟩:=pl.isList
  exact ⟨_,PySem.W.kitx_list,⟨n,hget,hcl⟩,fun z => nomatch z⟩
 | rd ds => exact (show False from ok).elim
 | dk kvs =>
  obtain ⟨a,vs,rfl,h1,_⟩:=h
  cases (show u = Value.ref a from rx)
  obtain ⟨_,_,ws,_,o,es,ep,q1,q2,_⟩:=h1.ok I.hok
  exact ⟨_,PySem.W.kitx_dict,⟨o,q1,q2.1⟩,fun z => nomatch z⟩
 | dt kvs =>
  obtain ⟨a,vs,rfl,h1,_⟩:=h
  cases (show u = Value.ref a from rx)
  obtain ⟨_,_,ws,_,o,es,ep,q1,q2,_⟩:=h1.ok I.hok
  exact ⟨_,PySem.W.kitx_dict,⟨o,q1,q2.1⟩,fun z => nomatch z⟩
 | obj c fs =>
  obtain ⟨a,dx,fvs,rfl,h1,_,_⟩:=h
  have ok : OwnC X.K (ct c):=ok
  exact kit_of I rx (.base (.ins h1 ok.cl ok.ha ok.hn ok.ht ok.hm))
 | exo c fs =>
  obtain ⟨a,dx,rfl,at_,kept⟩:=h
  have C : ExcC X.K (ct c):=ok
  cases (show u = Value.ref a from rx)
  have there : ObjOk X.prog X.w H s.heap a (ExV (.ref (ct c)) dx a):=I.hok a _ (ex _ _ at_)
  obtain ⟨⟨oe,vs,q1,⟨q2,q3⟩,q4⟩,_⟩:=there
  have known : (PySem.W.clsIn X.K (ct c)).isSome = true:=by
   have z:=C.hd
   unfold PySem.W.hasDictIn at z
   cases e : PySem.W.clsIn X.K (ct c) with
   | none => rw [e] at z; cases z
   | some _ => rfl
  have plain : PySem.W.notCls oe = true:=by unfold PySem.W.notCls; rw [q4]
  have od : ∃ od : Option Obj,PySem.W.InstAt s.heap a oe (ct c) od:=by
   rcases kept with ⟨_,rfl⟩ | ⟨_,dd,fvs,rfl,h3,_⟩
   ·exact ⟨none,q1,q2,plain,by rw [q3]; trivial⟩
   ·have own : ObjOk X.prog X.w H s.heap dd (.xd fvs):=I.hok dd _ (ex _ _ h3)
    obtain ⟨mA,names,_⟩:=own
    obtain ⟨o,ho,_⟩:=lookIn_ns names
    exact ⟨some o,q1,q2,plain,by rw [q3]; exact ho⟩
  obtain ⟨od,inst⟩:=od
  exact ⟨_,PySem.W.kitx_exc (ox:=oe) (od:=od) known C.hg C.hk C.hs C.ha C.hn C.ht C.hm,inst,fun z => nomatch z⟩
def Qki (K : PySem.W.Frag) (ct : Nat → Addr) : List V → Hp → VK → Prop:=fun xs H Q => ∃ (F : Hp) (d : D) (x c : V) (u : Value) (b : Bool),xs = [x,c] ∧ ClsV c u ∧ Ex F H ∧ RepB K ct F H d x ∧ QiR K ct (kd d) ∧ PySem.W.kitOne K (kdV ct (kd d)) u = some b ∧ Q (.bl b) H
theorem QfS : CallR X (.builtin "isinstance") (Qki X.K ct):=by
 intro pins s σ H xs us Q I r h
 obtain ⟨F,d,x,c,u,b,rfl,k,ex,rp,ok,e,q⟩:=h
 obtain ⟨u1,u2,rfl,r1,r2⟩:=vals2 r
 have e2:=k.eq r2
 subst e2
 obtain ⟨P,Z,p,hx⟩:=QiS I ex r1 rp ok
 exact PySem.W.kia_one Z I.kIn p e hx fun tk => ⟨.bl b,H,I.tok tk,rfl,q⟩
def QaN (tb : Kd → Option Bool) (f : SE) : SE:=fun env => bnd (f env) fun d => match tb (kd d) with
 | some b => .ok (.bl b)
 | none => .st
theorem Qad {C : Value} {c : V} {tb : Kd → Option Bool} (hg : Gl X "isinstance") (hm : X.mg "isinstance" = none) (he : PE X e (EB X.K ct W f)) (hc : PE X b (tC c)) (hk : ClsV c C) (hi : Qcw X.K ct C tb)
  (h1 : starEach [e,b] X.env = (false,eval e X.env) :: starEach [b] X.env:=by rfl) (h2 : starEach [b] X.env = (false,eval b X.env) :: starEach [] X.env:=by rfl) (hpl : (backTo pos (starEach [b] X.env)).any (·.1) = false:=by rfl) :
  PE X (.Call (.Name "isinstance" p) [e,b] [] pos) (ER X.K ct W (QaN tb f)):=by
 refine (pe_callB (QfS (ct:=ct)) hg hm (by decide +kernel) (pa_cons he (pa_cons hc pa_nil h2) h1) (he:=h1) (hpl:=hpl)).imp fun σ H Q ⟨env,F,E,h⟩ => ?_
 refine Z7 E h rfl fun d v F1 H1 e1 g1 r1 E1 h => ?_
 cases q : tb (kd d) with
 | none => simp only [q] at h; exact h.elim
 | some bb =>
  simp only [q] at h
  obtain ⟨k1,k2⟩:=hi _ _ q
  exact ⟨F1,d,v,c,C,bb,rfl,hk,E1.ex,r1,k2,k1,h _ F1 H1 g1 rfl⟩
theorem Qb2 {x : Str} {n : String} (hg : Gl X x) (hm : X.mg x = none) (hv : bootBuiltins x = some (.type n)) (hn : x ≠ "__name__":=by decide) (hd : (x == ("__debug__" : Str)) = false:=by decide) : PE X (.Name x p) (tC (.ty n)):=pe_bltn hg hm hv rfl hn hd
theorem Qb3 {x : Str} {C : Addr} (hg : Gl X x) (hm : X.mg x = some (.ref C)) (hd : (x == ("__debug__" : Str)) = false:=by decide) : PE X (.Name x p) (tC (.ref C)):=pe_glob hg hm rfl hd
def Qh6 (x : Str) (n : Nat) : Str:=⟨(List.replicate n x.cps).foldl (· ++ ·) #[]⟩
def Qer (x : Str) (n : Int) : Option Str:=if n < 1 then (if -(2 ^ 63 : Int) ≤ n then some Str.empty else none) else if n = 1 then some x else
 if n ≤ 1000 ∧ 0 < x.length ∧ x.length ≤ 1000 ∧ (Qh6 x n.toNat).length ≤ sizeLine then some (Qh6 x n.toNat) else none
def Qis : D → D → Option D
 | .str x,.int n => (Qer x n).map .str
 | _,_ => none
def Qit : R2:=fun x y H Q => ∃ a n z,x = .str a ∧ y = .int n ∧ Qer a n = some z ∧ Q (.str z) H
theorem Qh7 : OpR X (binaryOp .Mult) Qit:=by
 intro pins s σ H x y v u Q I rx ry h
 obtain ⟨a,n,z,rfl,rfl,hz,q⟩:=h
 obtain ⟨t,rfl⟩:=(show ∃ t,v = Value.str a t from rx)
 obtain ⟨t',rfl⟩:=(show ∃ t,u = Value.int n t from ry)
 have fin : ∀ tk,EP X pins σ Q (.str z tk) { s with toks:=s.toks + 1 }:=fun tk => ⟨.str z,H,I.tok _,⟨tk,rfl⟩,q⟩
 unfold Qer at hz
 split at hz
 ·rename_i h1
  split at hz
  ·rename_i h2
   cases hz
   exact PySem.P.mul_str_none h1 (by omega) (fin _)
  ·cases hz
 ·rename_i h1
  split at hz
  ·rename_i h2
   cases hz
   subst h2
   refine PySem.P.mul_str rfl (fun _ e => by simp at e) (fun _ e => by simp at e) ?_
   rw [if_neg h1,if_pos (by simp)]
   exact ⟨.str a,H,I,⟨t,rfl⟩,q⟩
  ·rename_i h2
   split at hz
   ·rename_i h3
    cases hz
    obtain ⟨a1,a2,a3,a4⟩:=h3
    have hd : (1 : Int) < n:=by omega
    refine PySem.P.mul_str (by rw [decide_eq_false (by omega),decide_eq_false (by omega)]; rfl) (fun _ _ => ?_) (fun _ _ => ?_) ?_
    ·have h5 : (2 ^ 63 - 1) / 1000 ≤ ((2 : Int) ^ 63 - 1) / n:=by
      rw [Int.le_ediv_iff_mul_le (by omega)]
      have : (((2 : Int) ^ 63 - 1) / 1000) * n ≤ (((2 : Int) ^ 63 - 1) / 1000) * 1000:=Int.mul_le_mul_of_nonneg_left a1 (by decide)
      omega
     have h6 : ((2 : Int) ^ 63 - 1) / 1000 > 1000:=by decide
     omega
    ·have h7 : a.length * n.toNat ≤ 1000 * 1000:=Nat.mul_le_mul a3 (by omega)
     exact PyProof.Rows.short24 (by omega)
    ·rw [if_neg h1,if_neg (by
      have : (n == 1) = false:=by simp [h2]
      have h8 : (a.length == 0) = false:=by simp; omega
      rw [this,h8]; decide)]
     exact ⟨a4,fin _⟩
   ·cases hz
theorem Qh8 {K : PySem.W.Frag} {m1 m2 : Bool} : Sp2 K ct m1 m2 (mR K ct) Qit Qis:=by
 intro F H x y d e z Q ex hx hy hz hQ
 cases d <;> first | (cases hz; done) | skip
 cases e <;> first | (cases hz; done) | skip
 rename_i a n
 obtain ⟨w,h1,rfl⟩:=Option.map_eq_some_iff.mp (show (Qer a n).map D.str = some z from hz)
 have ex1 : x = .str a:=by cases m1 <;> exact hx
 have ey1 : y = .int n:=by cases m2 <;> exact hy
 exact ⟨a,n,w,ex1,ey1,h1,hQ _ F H (Gr.refl ex) rfl⟩
end
section
variable {X : Cx} {ct : Nat → Addr} {W : WX} {e : Expr} {f : SE} {pos p pos' apos cpos p' apos' cpos' : Pos} {x y : Str}
end
end Ps
namespace Ps
open PySem PySem.Spec PyProof.Rows L2
section
variable {K : PySem.W.Frag} {ct : Nat → Addr}
def orD (a b : Option D) : Option D:=match a with
 | some z => some z
 | none => b
theorem Sp2.share {m1 m2 : Bool} {r : R2} {op : D → D → Option D} (h : Sp2 K ct m1 m2 (mN K ct) r op) : Sp2 K ct m1 m2 (mR K ct) r op:=fun F H x y d e z Q ex hx hy hz hQ =>
 h F H x y d e z Q ex hx hy hz fun v F' H' g ⟨p,e1,e2,e3⟩ => by
  obtain ⟨o,ho⟩:=e3.there
  subst e1
  exact hQ _ _ H' (g.share ex e2 ho) (e3.freeze ho)
theorem Sp2.or {m1 m2 : Bool} {M : Md} {r r' : R2} {op op' : D → D → Option D} (h : Sp2 K ct m1 m2 M r op) (h' : Sp2 K ct m1 m2 M r' op') : Sp2 K ct m1 m2 M (fun x y H Q => r x y H Q ∨ r' x y H Q) (fun d e => orD (op d e) (op' d e)):=fun F H x y d e z Q ex hx hy hz hQ => by
 cases q : op d e with
 | some w =>
  have hz : orD (op d e) (op' d e) = some z:=hz
  rw [q] at hz; cases hz
  exact .inl (h F H x y d e _ Q ex hx hy q hQ)
 | none =>
  have hz : orD (op d e) (op' d e) = some z:=hz
  rw [q] at hz
  exact .inr (h' F H x y d e z Q ex hx hy hz hQ)
theorem SpS.share {r : V → Option Int → Option Int → Hp → VK → Prop} {op : D → Option Int → Option Int → Option D} (h : SpS K ct (mN K ct) r op) : SpS K ct (mR K ct) r op:=fun F H x d lo hi z Q ex hx hz hQ =>
 h F H x d lo hi z Q ex hx hz fun v F' H' g ⟨p,e1,e2,e3⟩ => by
  obtain ⟨o,ho⟩:=e3.there
  subst e1
  exact hQ _ _ H' (g.share ex e2 ho) (e3.freeze ho)
theorem SpS.or {M : Md} {r r' : V → Option Int → Option Int → Hp → VK → Prop} {op op' : D → Option Int → Option Int → Option D} (h : SpS K ct M r op) (h' : SpS K ct M r' op') : SpS K ct M (fun x lo hi H Q => r x lo hi H Q ∨ r' x lo hi H Q) (fun d l u => orD (op d l u) (op' d l u)):=fun F H x d lo hi z Q ex hx hz hQ => by
 cases q : op d lo hi with
 | some w =>
  have hz : orD (op d lo hi) (op' d lo hi) = some z:=hz
  rw [q] at hz; cases hz
  exact .inl (h F H x d lo hi _ Q ex hx q hQ)
 | none =>
  have hz : orD (op d lo hi) (op' d lo hi) = some z:=hz
  rw [q] at hz
  exact .inr (h' F H x d lo hi z Q ex hx hz hQ)
end
def QC (d e : D) : Option D:=orD (QiA d e) (QiB d e)
def Zy (d e : D) : Option D:=orD (QiC d e) (Qis d e)
def QcW (d : D) (l u : Option Int) : Option D:=orD (QjV d l u) (QiL d l u)
section
variable {X : Cx} {ct : Nat → Addr} {W : WX} {a b c e : Expr} {f g h : SE} {pos p p2 : Pos} {k : Nat}
theorem QR (ha : PE X a (EB X.K ct W f)) (hb : PE X b (EB X.K ct W g)) : PE X (.BinOp a .Add b pos) (ER X.K ct W (s2 QC f g)):=QfG (op_add1.or op_cat) Js (Sp2.or (m1:=true) (m2:=true) QiD (Sp2.share QiE)) ha hb
theorem Qfu (ha : PE X a (ER X.K ct W f)) (hb : PE X b (ER X.K ct W g)) : PE X (.BinOp a .Sub b pos) (ER X.K ct W (s2 Qek f g)):=QfG op_sub Js (QiF (m1:=false) (m2:=false)) ha hb
theorem Qae (ha : PE X a (ER X.K ct W f)) (hb : PE X b (ER X.K ct W g)) : PE X (.BinOp a .Mult b pos) (ER X.K ct W (s2 Zy f g)):=QfG (op_mul.or Qh7) Js (Sp2.or (m1:=false) (m2:=false) QiG Qh8) ha hb
theorem Qb4 (ha : PE X a (ER X.K ct W f)) (hb : PE X b (ER X.K ct W g)) : PE X (.BinOp a .FloorDiv b pos) (ER X.K ct W (s2 JL f g)):=QfG op_fdiv Js (Qhp (m1:=false) (m2:=false)) ha hb
theorem QaX (ha : PE X a (ER X.K ct W f)) (hb : PE X b (ER X.K ct W g)) : PE X (.BinOp a .Mod b pos) (ER X.K ct W (s2 Qa2 f g)):=QfG op_mod Js (QiH (m1:=false) (m2:=false)) ha hb
theorem Qiu (ha : PE X a (ER X.K ct W f)) (hb : PE X b (ER X.K ct W g)) : PE X (.BinOp a .Pow b pos) (ER X.K ct W (s2 QfH f g)):=QfG op_pow Js (QiI (m1:=false) (m2:=false)) ha hb
theorem Qmj (ha : PE X a (ER X.K ct W f)) (hb : PE X b (ER X.K ct W g)) : PE X (.Compare a [.Lt] [b] pos) (ER X.K ct W (s2 dLt f g)):=Qei op_lt (Qij (m1:=false) (m2:=false)) ha hb
theorem QfT (ha : PE X a (ER X.K ct W f)) (hb : PE X b (ER X.K ct W g)) : PT X (.Compare a [.Lt] [b] pos) (TT1 X.K ct W (s2 dLt f g)):=QcD op_lt (Qij (m1:=false) (m2:=false)) ha hb
theorem Qkj (ha : PE X a (ER X.K ct W f)) (hb : PE X b (ER X.K ct W g)) : PE X (.Compare a [.Gt] [b] pos) (ER X.K ct W (s2 dGt f g)):=Qei op_gt (QjN (m1:=false) (m2:=false)) ha hb
theorem QiT (ha : PE X a (ER X.K ct W f)) (hb : PE X b (ER X.K ct W g)) : PE X (.Compare a [.GtE] [b] pos) (ER X.K ct W (s2 dGe f g)):=Qei op_ge (Qik (m1:=false) (m2:=false)) ha hb
theorem Qmk (ha : PE X a (ER X.K ct W f)) (hb : PE X b (ER X.K ct W g)) : PT X (.Compare a [.GtE] [b] pos) (TT1 X.K ct W (s2 dGe f g)):=QcD op_ge (Qik (m1:=false) (m2:=false)) ha hb
theorem Qml (hr : Room k X.A) (ha : PE X a (EB X.K ct W f)) (hb : PE X b (EB X.K ct W g)) (hm : behindInMarks .Eq b = false:=by first | exact nomark _ | rfl) : PE X (.Compare a [.Eq] [b] pos) (ER X.K ct W (s2 dEq f g)):=Qei (op_eqD hr.units) (Qil (m1:=true) (m2:=true)) ha hb hm
theorem Qcx (hr : Room k X.A) (ha : PE X a (EB X.K ct W f)) (hb : PE X b (EB X.K ct W g)) (hm : behindInMarks .Eq b = false:=by first | exact nomark _ | rfl) : PT X (.Compare a [.Eq] [b] pos) (TT1 X.K ct W (s2 dEq f g)):=QcD (op_eqD hr.units) (Qil (m1:=true) (m2:=true)) ha hb hm
theorem Qkk (hr : Room k X.A) (ha : PE X a (EB X.K ct W f)) (hb : PE X b (EB X.K ct W g)) (hm : behindInMarks .NotEq b = false:=by first | exact nomark _ | rfl) : PE X (.Compare a [.NotEq] [b] pos) (ER X.K ct W (s2 dNe f g)):=Qei (op_neD hr.units) (Qim (m1:=true) (m2:=true)) ha hb hm
theorem Qkl (hr : Room k X.A) (ha : PE X a (EB X.K ct W f)) (hb : PE X b (EB X.K ct W g)) (hm : behindInMarks .NotEq b = false:=by first | exact nomark _ | rfl) : PT X (.Compare a [.NotEq] [b] pos) (TT1 X.K ct W (s2 dNe f g)):=QcD (op_neD hr.units) (Qim (m1:=true) (m2:=true)) ha hb hm
theorem Qmm (ha : PE X a (EB X.K ct W f)) (hb : PE X b (ER X.K ct W g)) (hm : behindInMarks .Is b = false:=by first | exact nomark _ | rfl) : PT X (.Compare a [.Is] [b] pos) (TT1 X.K ct W (s2 dIs f g)):=QcD op_isN (QjO (m1:=true) (m2:=false)) ha hb hm
theorem Qkm (hr : Room k X.A) (ha : PE X a (ER X.K ct W f)) (hb : PE X b (EB X.K ct W g)) (hm : behindInMarks .In b = false:=by first | exact nomark _ | rfl) : PT X (.Compare a [.In] [b] pos) (TT1 X.K ct W (s2 dIn f g)):=QcD (QiK (hu_of hr)) (QjR (m1:=false) (m2:=true)) ha hb hm
theorem Qfv (hr : Room k X.A) (ha : PE X a (ER X.K ct W f)) (hb : PE X b (EB X.K ct W g)) (hm : behindInMarks .NotIn b = false:=by first | exact nomark _ | rfl) : PT X (.Compare a [.NotIn] [b] pos) (TT1 X.K ct W (s2 QcH f g)):=QcD (QfJ (hu_of hr)) (Qgm (m1:=false) (m2:=true)) ha hb hm
def Qmn (f : SE) : SE:=fun env => bnd (f env) fun d => match d with
 | .int i => .ok (.int (-i))
 | _ => .st
theorem Qaf {lo hi : Option Expr} {fl fh : SE} (he : PE X e (EB X.K ct W f)) (hl : PO X lo (tO X.K ct W fl)) (hh : PO X hi (tO X.K ct W fh)) : PE X (.Subscript e (.Slice lo hi none p2) pos) (ER X.K ct W (sSl QcW f fl fh)):=Qmg (sl_list.or sl_str) Js (SpS.or (SpS.share QjW) QjX) he hl hh
def ctL (l : List Addr) (n : Nat) : Addr:=l.getD n 0
theorem Qg7 {P : Program} {w : World} {H : Hp} {s s' : Shared} {e : Value} (h : L2.CX P w [] H s (fun _ _ _ => False) e s') : False:=by
 obtain ⟨_,_,_,_,_,_,_,_,_,_,_,_,z⟩:=h
 exact z.elim
end
end Ps
namespace Ps
open PySem PySem.Spec PyProof.Rows L2
section
variable {X : Cx} {ct : Nat → Addr} {W : WX} {a b c e o : Expr} {f g h : SE} {pos p apos : Pos}
theorem QaY (hm : X.mg "len" = none) (hg : Gl X "len") (ha : PE X a (EB X.K ct W f)) (na : starEach [a] X.env = (false,eval a X.env) :: starEach [] X.env:=by rfl) : PE X (.Call (.Name "len" p) [a] [] pos) (ER X.K ct W (QI Qbv (Qa f Qk))):=QbC QfM Js Qhq hg hm (by decide +kernel) (Qe (m:=true) ha Qo na) (he:=na) (hpl:=rfl)
theorem Qkn (hm : X.mg "abs" = none) (hg : Gl X "abs") (ha : PE X a (ER X.K ct W f)) (na : starEach [a] X.env = (false,eval a X.env) :: starEach [] X.env:=by rfl) : PE X (.Call (.Name "abs" p) [a] [] pos) (ER X.K ct W (QI Qgq (Qa f Qk))):=QbC call_abs Js Qhr hg hm (by decide +kernel) (Qe (m:=false) ha Qo na) (he:=na) (hpl:=rfl)
theorem Qg8 (hm : X.mg "int" = none) (hg : Gl X "int") (ha : PE X a (ER X.K ct W f)) (na : starEach [a] X.env = (false,eval a X.env) :: starEach [] X.env:=by rfl) : PE X (.Call (.Name "int" p) [a] [] pos) (ER X.K ct W (QI QeJ (Qa f Qk))):=Qem call_int1 Js Qhs hg hm (by decide +kernel) (Qe (m:=false) ha Qo na) (he:=na) (hpl:=rfl)
theorem Qiv (hm : X.mg "sum" = none) (hg : Gl X "sum") (hcalm : X.calm = true) (ha : PE X a (EB X.K ct W f)) (na : starEach [a] X.env = (false,eval a X.env) :: starEach [] X.env:=by rfl) : PE X (.Call (.Name "sum" p) [a] [] pos) (ER X.K ct W (QI Qgr (Qa f Qk))):=QbC (cr_sum hcalm) Js Qht hg hm (by decide +kernel) (Qe (m:=true) ha Qo na) (he:=na) (hpl:=rfl)
theorem Qko (hm : X.mg "any" = none) (hg : Gl X "any") (hcalm : X.calm = true) (ha : PE X a (EB X.K ct W f)) (na : starEach [a] X.env = (false,eval a X.env) :: starEach [] X.env:=by rfl) : PE X (.Call (.Name "any" p) [a] [] pos) (ER X.K ct W (QI Qhu (Qa f Qk))):=QbC (cr_any hcalm) Js Qhv hg hm (by decide +kernel) (Qe (m:=true) ha Qo na) (he:=na) (hpl:=rfl)
theorem Qiw (hm : X.mg "all" = none) (hg : Gl X "all") (hcalm : X.calm = true) (ha : PE X a (EB X.K ct W f)) (na : starEach [a] X.env = (false,eval a X.env) :: starEach [] X.env:=by rfl) : PE X (.Call (.Name "all" p) [a] [] pos) (ER X.K ct W (QI Qgs (Qa f Qk))):=QbC (cr_all hcalm) Js Qhw hg hm (by decide +kernel) (Qe (m:=true) ha Qo na) (he:=na) (hpl:=rfl)
theorem QaZ (hm : X.mg "list" = none) (hg : Gl X "list") (ha : PE X a (EB X.K ct W f)) (na : starEach [a] X.env = (false,eval a X.env) :: starEach [] X.env:=by rfl) : PE X (.Call (.Name "list" p) [a] [] pos) (EN X.K ct W (QI Qaq (Qa f Qk))):=Qem call_list_of Qif Qgt hg hm (by decide +kernel) (Qe (m:=true) ha Qo na) (he:=na) (hpl:=rfl)
theorem QiU (ho : PE X o (EB X.K ct W f)) (he : PE X e (EB X.K ct W g)) (h1 : starEach [e] X.env = [(false,eval e X.env)]:=by rfl) (hbase : attributeBase o "join" X.env (eval o X.env) = eval o X.env:=by rfl) (hline : (apos.endLine == pos.line) = true:=by rfl) : PE X (.Call (.Attribute o "join" apos) [e] [] pos) (ER X.K ct W (sM1 Qfp f g)):=Qmh PySem.F.slot_str_join PySem.F.type_str_join mt_join Qgv ho he h1 hbase hline
end
section
variable {X : Cx} {ct : Nat → Addr} {W : WX} {elt tg iter : Expr} {ifs : List Expr} {scope : Scope} {pos : Pos} {g : TG} {T : Tgt} {fi ft fe : SE}
theorem Qb5 (own : List (Str × Nat)) {js : List Nat} (hj : own.map (·.2) = js) (hc : X.calm = true) (hN : X.N.Nodup) (hi : PI X tg iter (tI X.K ct W O0 fi)) (ok : BlkOk X.N X.env.scope scope own)
  (hg : ∀ (s : Shared) (H : Hp) (C : Addr) (cl : List (Str × Addr)) (fp : List Addr),PG (X.blk s H scope (compEnvC scope cl C X.env) fp) tg g) (hT : Qcv X.K ct g T) (hsub : ∀ i ∈ QaV T,i ∈ js)
  (ht : ∀ (s : Shared) (H : Hp) (C : Addr) (cl : List (Str × Addr)) (fp : List Addr),PTs (X.blk s H scope (compEnvC scope cl C X.env) fp) ifs (TT1 X.K ct W0 ft))
  (he : ∀ (s : Shared) (H : Hp) (C : Addr) (cl : List (Str × Addr)) (fp : List Addr),PE (X.blk s H scope (compEnvC scope cl C X.env) fp) elt (ER X.K ct W0 fe)) (hs : ∀ x,foldedSetIterable iter X.env x = pure x:=by intro _; rfl) :
  PE X (.ListComp elt [⟨tg,iter,ifs,0⟩] scope pos) (EN X.K ct W (Zg T js fi ft fe)):=by
 subst hj
 exact Qmi hc hN hi ok hg hT hsub ht he hs
theorem Qa7 {i : Nat} {y : Str} {py spos : Pos} (own : List (Str × Nat)) {js : List Nat} (hj : own.map (·.2) = js) (hc : X.calm = true) (hN : X.N.Nodup) (hy : X.N[i]? = some y) (hyl : X.env.scope.names.lookup y = some .local)
  (hsw : swapsWith (.ListComp elt [⟨tg,iter,ifs,0⟩] scope pos) (some (.Name y py)) spos.line X.env = pure true) (hi : PI X tg iter (tI X.K ct W O0 fi)) (ok : BlkOk X.N X.env.scope scope own)
  (hg : ∀ (s : Shared) (H : Hp) (C : Addr) (cl : List (Str × Addr)) (fp : List Addr),PG (X.blk s H scope (compEnvC scope cl C X.env) fp) tg g) (hT : Qcv X.K ct g T) (hsub : ∀ i ∈ QaV T,i ∈ js)
  (ht : ∀ (s : Shared) (H : Hp) (C : Addr) (cl : List (Str × Addr)) (fp : List Addr),PTs (X.blk s H scope (compEnvC scope cl C X.env) fp) ifs (TT1 X.K ct W0 ft))
  (he : ∀ (s : Shared) (H : Hp) (C : Addr) (cl : List (Str × Addr)) (fp : List Addr),PE (X.blk s H scope (compEnvC scope cl C X.env) fp) elt (ER X.K ct W0 fe)) (hs : ∀ x,foldedSetIterable iter X.env x = pure x:=by intro _; rfl) :
  PS X (.Assign [.Name y py] (.ListComp elt [⟨tg,iter,ifs,0⟩] scope pos) spos) (sOf X.K ct W (ZF i (Zg T js fi ft fe))):=by
 subst hj
 exact Qh1 hc hN hy hyl hsw hi ok hg hT hsub ht he hs
end
end Ps
namespace Ps
open PySem (Str)
open PySem (sizeLine sizeLine_eq)
def QfU (o : O) (g : SS) : O:=match o with
 | .nx e => g e
 | o => o
@[simp] theorem Qkp {f g : SS} {env : En} : Qg f g env = QfU (f env) g:=rfl
@[simp] theorem Qlr {g : SS} {e : En} : QfU (.nx e) g = g e:=rfl
@[simp] theorem Qls {g : SS} {d : D} : QfU (.rt d) g = .rt d:=rfl
@[simp] theorem Qlt {g : SS} {c : Nat} {fs : List (Str × D)} {e : En} : QfU (.er c fs e) g = .er c fs e:=rfl
@[simp] theorem Qlu {g : SS} {e : En} : QfU (.bk e) g = .bk e:=rfl
@[simp] theorem Qlv {g : SS} {e : En} : QfU (.ct e) g = .ct e:=rfl
@[simp] theorem Qj0 {env : En} : Qr env = .nx env:=rfl
@[simp] theorem Qkq {env : En} : Qkc env = .bk env:=rfl
@[simp] theorem Qj1 {env : En} : QiM env = .ct env:=rfl
@[simp] theorem QiV {env : En} {c : Nat} : Qa6 c env = .er c [] env:=rfl
@[simp] theorem Qkr {e : En} {k : En → O} : Qar (.nx e) k = k e:=rfl
@[simp] theorem Qks {e : En} {k : En → O} : Qar (.ct e) k = k e:=rfl
@[simp] theorem Qkt {e : En} {k : En → O} : Qar (.bk e) k = .nx e:=rfl
@[simp] theorem Qku {d : D} {k : En → O} : Qar (.rt d) k = .rt d:=rfl
@[simp] theorem Qkv {c : Nat} {fs : List (Str × D)} {e : En} {k : En → O} : Qar (.er c fs e) k = .er c fs e:=rfl
def Qh9 (T : Tgt) (r : R) (env : En) : O:=ZP r env fun d => match QW T d env with
 | some e => .nx e
 | none => .st
@[simp] theorem Qkw {T : Tgt} {f : SE} {env : En} : Qv T f env = Qh9 T (f env) env:=rfl
def nxO : Option En → O
 | some e => .nx e
 | none => .st
@[simp] theorem Qkx {e : En} : nxO (some e) = .nx e:=rfl
theorem Qes {o : Option En} : (match o with | some e => O.nx e | none => .st) = nxO o:=by cases o <;> rfl
@[simp] theorem Qlw {T : Tgt} {d : D} {env : En} : Qh9 T (.ok d) env = nxO (QW T d env):=by unfold Qh9; exact Qes
@[simp] theorem Qlx {T : Tgt} {c : Nat} {fs : List (Str × D)} {env : En} : Qh9 T (.er c fs) env = .er c fs env:=rfl
@[simp] theorem Qky {i : Nat} {d : D} {env : En} : QW (.nm i) d env = Zf env i (.sh d):=rfl
@[simp] theorem Qkz {is : List Nat} {ds : List D} {env : En} : QW (.tp is) (.tup ds) env = QaW is ds env:=rfl
@[simp] theorem Qj2 {env : En} : QaW [] [] env = some env:=rfl
@[simp] theorem QiW {i : Nat} {is : List Nat} {d : D} {ds : List D} {env : En} : QaW (i :: is) (d :: ds) env = (Zf env i (.sh d)).bind fun e => QaW is ds e:=rfl
def QhA (t : Option Sl) (env : En) (i : Nat) (s : Sl) : Option En:=match t with
 | some t => if J3 t then some (env.set i s) else none
 | none => none
@[simp] theorem Qk0 {env : En} {i : Nat} {s : Sl} : Zf env i s = QhA env[i]? env i s:=rfl
@[simp] theorem Qly {env : En} {i : Nat} {s : Sl} {d : D} : QhA (some (.sh d)) env i s = some (env.set i s):=rfl
@[simp] theorem Qlz {env : En} {i : Nat} {s : Sl} {d : D} : QhA (some (.ow d)) env i s = some (env.set i s):=rfl
@[simp] theorem Ql0 {env : En} {i : Nat} {s : Sl} : QhA (some .no) env i s = some (env.set i s):=rfl
def QiX (i : Nat) (r : R) (env : En) : O:=ZP r env fun d => match Zf env i (.ow d) with
 | some e => .nx e
 | none => .st
@[simp] theorem Qk1 {i : Nat} {f : SE} {env : En} : ZF i f env = QiX i (f env) env:=rfl
@[simp] theorem Ql1 {i : Nat} {d : D} {env : En} : QiX i (.ok d) env = nxO (Zf env i (.ow d)):=by unfold QiX; exact Qes
def ifO (r : R) (f g : SS) (env : En) : O:=ZP r env fun d => match d with
 | .bl true => f env
 | .bl false => g env
 | _ => .st
@[simp] theorem Ql2 {c : SE} {f g : SS} {env : En} : Zx c f g env = ifO (c env) f g env:=rfl
@[simp] theorem QmO {f g : SS} {env : En} : ifO (.ok (.bl true)) f g env = f env:=rfl
@[simp] theorem QmP {f g : SS} {env : En} : ifO (.ok (.bl false)) f g env = g env:=rfl
@[simp] theorem Qmo {f g : SS} {env : En} {c : Nat} {fs : List (Str × D)} : ifO (.er c fs) f g env = .er c fs env:=rfl
def QiY (r : R) (env : En) : O:=ZP r env fun d => .rt d
@[simp] theorem Qk2 {f : SE} {env : En} : Zl f env = QiY (f env) env:=rfl
@[simp] theorem Ql3 {d : D} {env : En} : QiY (.ok d) env = .rt d:=rfl
@[simp] theorem Ql4 {c : Nat} {fs : List (Str × D)} {env : En} : QiY (.er c fs) env = .er c fs env:=rfl
def Qg9 (r : R) (env : En) : O:=ZP r env fun _ => .nx env
@[simp] theorem Qj3 {f : SE} {env : En} : QiN f env = Qg9 (f env) env:=rfl
@[simp] theorem Qk3 {d : D} {env : En} : Qg9 (.ok d) env = .nx env:=rfl
@[simp] theorem Qk4 {c : Nat} {fs : List (Str × D)} {env : En} : Qg9 (.er c fs) env = .er c fs env:=rfl
def Qk5 (t : Option Sl) (i : Nat) (env : En) : O:=match t with
 | some (.ow d) => .nx (env.set i (.sh d))
 | _ => .st
@[simp] theorem Qk6 {i : Nat} {env : En} : Jd i env = Qk5 env[i]? i env:=rfl
@[simp] theorem Ql5 {i : Nat} {env : En} {d : D} : Qk5 (some (.ow d)) i env = .nx (env.set i (.sh d)):=rfl
def Qk7 (t : Option Sl) (r : R) (i : Nat) (env : En) : O:=match t with
 | some (.ow (.lst ds)) => ZP r env fun d => if ds.length < sizeLine then .nx (env.set i (.ow (.lst (ds ++ [d])))) else .st
 | _ => .st
@[simp] theorem Qk8 {i : Nat} {f : SE} {env : En} : JA i f env = Qk7 env[i]? (f env) i env:=rfl
@[simp] theorem Ql6 {i : Nat} {env : En} {ds : List D} {d : D} : Qk7 (some (.ow (.lst ds))) (.ok d) i env = if ds.length < sizeLine then .nx (env.set i (.ow (.lst (ds ++ [d])))) else .st:=rfl
def Qk9 (t : Option Sl) (v k : R) (i : Nat) (env : En) : O:=ZP v env fun v => match t with
 | some (.ow x) => ZP k env fun k => (match QcT x k v with
  | some z => .nx (env.set i (.ow z))
  | none => .st)
 | _ => .st
@[simp] theorem QkA {i : Nat} {fk fv : SE} {env : En} : QbE i fk fv env = Qk9 env[i]? (fv env) (fk env) i env:=rfl
@[simp] theorem Ql7 {i : Nat} {env : En} {x k v : D} : Qk9 (some (.ow x)) (.ok v) (.ok k) i env = (match QcT x k v with | some z => .nx (env.set i (.ow z)) | none => .st):=rfl
def QiZ (T : Tgt) (r : R) (body : SS) (env : En) : O:=ZP r env fun d => match d with
 | .lst ds => JB T body ds env
 | _ => .st
@[simp] theorem QkB {T : Tgt} {it : SE} {body : SS} {env : En} : JC T it body env = QiZ T (it env) body env:=by
 unfold JC QiZ; cases it env <;> rfl
@[simp] theorem Ql8 {T : Tgt} {body : SS} {env : En} {ds : List D} : QiZ T (.ok (.lst ds)) body env = JB T body ds env:=rfl
@[simp] theorem Qj4 {T : Tgt} {body : SS} {env : En} : JB T body [] env = .nx env:=rfl
def QkC (s : Option Sl) : R:=match s with
 | some (.sh d) => .ok d
 | _ => .st
@[simp] theorem Ql9 {i : Nat} {env : En} : Qh i env = QkC env[i]?:=rfl
@[simp] theorem QlA {d : D} : QkC (some (.sh d)) = .ok d:=rfl
def Qfw (s : Option Sl) : R:=match s with
 | some (.sh d) => .ok d
 | some (.ow d) => .ok d
 | some (.bo d) => .ok d
 | some (.oo c fs _) => .ok (.obj c fs)
 | _ => .st
@[simp] theorem QkD {i : Nat} {env : En} : QA i env = Qfw env[i]?:=rfl
@[simp] theorem QkE {d : D} : Qfw (some (.sh d)) = .ok d:=rfl
@[simp] theorem QkF {d : D} : Qfw (some (.ow d)) = .ok d:=rfl
@[simp] theorem QkG {d : D} : Qfw (some (.bo d)) = .ok d:=rfl
@[simp] theorem QmQ {d : D} {env : En} : sC d env = .ok d:=rfl
@[simp] theorem QkH {d : D} : ofO (some d) = .ok d:=rfl
def s2R (op : D → D → Option D) (a b : R) : R:=bnd a fun d => bnd b fun e => ofO (op d e)
@[simp] theorem QmR {op : D → D → Option D} {f g : SE} {env : En} : s2 op f g env = s2R op (f env) (g env):=rfl
@[simp] theorem Qmp {op : D → D → Option D} {d e : D} : s2R op (.ok d) (.ok e) = ofO (op d e):=rfl
def Qja (r : R) : R:=bnd r fun d => match d with
 | .bl b => .ok (.bl (!b))
 | _ => .st
@[simp] theorem QlB {f : SE} {env : En} : JK f env = Qja (f env):=rfl
@[simp] theorem QlC {b : Bool} : Qja (.ok (.bl b)) = .ok (.bl (!b)):=rfl
@[simp] theorem QlD {c : Nat} {fs : List (Str × D)} : Qja (.er c fs) = .er c fs:=rfl
def Qjb (r : R) (g : SE) (env : En) : R:=bnd r fun d => match d with
 | .bl true => g env
 | .bl false => .ok (.bl false)
 | _ => .st
@[simp] theorem QlE {f g : SE} {env : En} : Qdn f g env = Qjb (f env) g env:=rfl
@[simp] theorem Qmq {g : SE} {env : En} : Qjb (.ok (.bl true)) g env = g env:=rfl
@[simp] theorem Qmr {g : SE} {env : En} : Qjb (.ok (.bl false)) g env = .ok (.bl false):=rfl
def orR (r : R) (g : SE) (env : En) : R:=bnd r fun d => match d with
 | .bl true => .ok (.bl true)
 | .bl false => g env
 | _ => .st
@[simp] theorem Qms {f g : SE} {env : En} : sOr f g env = orR (f env) g env:=rfl
@[simp] theorem QmS {g : SE} {env : En} : orR (.ok (.bl true)) g env = .ok (.bl true):=rfl
@[simp] theorem QmT {g : SE} {env : En} : orR (.ok (.bl false)) g env = g env:=rfl
def ifR (r : R) (f g : SE) (env : En) : R:=bnd r fun d => match d with
 | .bl true => f env
 | .bl false => g env
 | _ => .st
@[simp] theorem Qmt {c f g : SE} {env : En} : sIf c f g env = ifR (c env) f g env:=rfl
@[simp] theorem QmU {f g : SE} {env : En} : ifR (.ok (.bl true)) f g env = f env:=rfl
@[simp] theorem QmV {f g : SE} {env : En} : ifR (.ok (.bl false)) f g env = g env:=rfl
def QkI (r : R) : R:=bnd r fun d => match d with
 | .int i => .ok (.int (-i))
 | _ => .st
@[simp] theorem QlF {f : SE} {env : En} : Qmn f env = QkI (f env):=rfl
@[simp] theorem QlG {i : Int} : QkI (.ok (.int i)) = .ok (.int (-i)):=rfl
@[simp] theorem QlH {env : En} : Qk env = .ok []:=rfl
def Qfx (r : R) (a : RA) : RA:=match r with
 | .ok d => (match a with
  | .ok ds => .ok (d :: ds)
  | .er c fs => .er c fs
  | .st => .st)
 | .er c fs => .er c fs
 | .st => .st
@[simp] theorem QkJ {f : SE} {g : SA} {env : En} : Qa f g env = Qfx (f env) (g env):=by
 unfold Qa Qfx; cases f env <;> rfl
@[simp] theorem QkK {d : D} {ds : List D} : Qfx (.ok d) (.ok ds) = .ok (d :: ds):=rfl
@[simp] theorem QkL {c : Nat} {fs : List (Str × D)} {a : RA} : Qfx (.er c fs) a = .er c fs:=rfl
def Qix (op : List D → Option D) (a : RA) : R:=QG a fun ds => ofO (op ds)
@[simp] theorem QkM {op : List D → Option D} {fs : SA} {env : En} : QI op fs env = Qix op (fs env):=rfl
@[simp] theorem QkN {op : List D → Option D} {ds : List D} : Qix op (.ok ds) = ofO (op ds):=rfl
def fnR (m : List D → R) (a : RA) : R:=QG a m
@[simp] theorem Qmu {m : List D → R} {fs : SA} {env : En} : sFn m fs env = fnR m (fs env):=rfl
@[simp] theorem Qmv {m : List D → R} {ds : List D} : fnR m (.ok ds) = m ds:=rfl
def mkR (c : Nat) (m : List D → RI) (a : RA) : R:=QG a fun ds => if ds.all noScr then (match m ds with | .ok gs => .ok (.obj c gs) | .er _ _ => .st | .st => .st) else .st
@[simp] theorem Qmw {c : Nat} {m : List D → RI} {fs : SA} {env : En} : sMk c m fs env = mkR c m (fs env):=rfl
@[simp] theorem Qmx {c : Nat} {m : List D → RI} {ds : List D} : mkR c m (.ok ds) = if ds.all noScr then (match m ds with | .ok gs => .ok (.obj c gs) | .er _ _ => .st | .st => .st) else .st:=rfl
def QfV (a : RA) : R:=QG a fun ds => if ds.length ≤ sizeLine then .ok (.tup ds) else .st
@[simp] theorem QlI {fs : SA} {env : En} : Qa3 fs env = QfV (fs env):=rfl
theorem Jv {n : Nat} (h : n ≤ 16777216) : n ≤ sizeLine:=by rw [sizeLine_eq]; exact h
theorem Qc6 {ds : List D} (h : ds.length ≤ 16777216) : QfV (.ok ds) = .ok (.tup ds):=by
 show (if ds.length ≤ sizeLine then R.ok (.tup ds) else .st) = _
 rw [if_pos (Jv h)]
def QfW (a : RA) : R:=QG a fun ds => if ds.length ≤ sizeLine then .ok (.lst ds) else .st
@[simp] theorem QlJ {fs : SA} {env : En} : ZR fs env = QfW (fs env):=rfl
theorem Qc7 {ds : List D} (h : ds.length ≤ 16777216) : QfW (.ok ds) = .ok (.lst ds):=by
 show (if ds.length ≤ sizeLine then R.ok (.lst ds) else .st) = _
 rw [if_pos (Jv h)]
@[simp] theorem Qmy {a : D} : QfV (.ok [a]) = .ok (.tup [a]):=Qc6 (by simp)
@[simp] theorem Qmz {a b : D} : QfV (.ok [a,b]) = .ok (.tup [a,b]):=Qc6 (by simp)
@[simp] theorem Qm0 {a b c : D} : QfV (.ok [a,b,c]) = .ok (.tup [a,b,c]):=Qc6 (by simp)
@[simp] theorem Qm1 {a b c d : D} : QfV (.ok [a,b,c,d]) = .ok (.tup [a,b,c,d]):=Qc6 (by simp)
@[simp] theorem Qm2 : QfW (.ok []) = .ok (.lst []):=Qc7 (by simp)
@[simp] theorem Qm3 {a : D} : QfW (.ok [a]) = .ok (.lst [a]):=Qc7 (by simp)
@[simp] theorem Qm4 {a b : D} : QfW (.ok [a,b]) = .ok (.lst [a,b]):=Qc7 (by simp)
@[simp] theorem Qm5 {a b c : D} : QfW (.ok [a,b,c]) = .ok (.lst [a,b,c]):=Qc7 (by simp)
def QeQ (c : Nat) (n : Str) (r : R) : R:=bnd r fun d => match d with
 | .obj c' fs => if c' = c then ofO (fs.lookup n) else .st
 | _ => .st
@[simp] theorem QlK {c : Nat} {n : Str} {f : SE} {env : En} : Qab c n f env = QeQ c n (f env):=rfl
@[simp] theorem QhB {c : Nat} {n : Str} {fs : List (Str × D)} : QeQ c n (.ok (.obj c fs)) = ofO (fs.lookup n):=if_pos rfl
def Qm6 (tb : Kd → Option Bool) (r : R) : R:=bnd r fun d => match tb (kd d) with
 | some b => .ok (.bl b)
 | none => .st
@[simp] theorem QlL {tb : Kd → Option Bool} {f : SE} {env : En} : QaN tb f env = Qm6 tb (f env):=rfl
def Qiy (r : R) : R:=bnd r fun d => match d with
 | .int i => .ok (.int i)
 | _ => .st
@[simp] theorem QkO {f : SE} {env : En} : Ju f env = Qiy (f env):=rfl
@[simp] theorem QkP {i : Int} : Qiy (.ok (.int i)) = .ok (.int i):=rfl
def slR (op : D → Option Int → Option Int → Option D) (a b c : R) : R:=bnd a fun d => bnd b fun l => match oI l with
 | some l => bnd c fun u => (match oI u with
  | some u => ofO (op d l u)
  | none => .st)
 | none => .st
@[simp] theorem Qm7 {op : D → Option Int → Option Int → Option D} {f lo hi : SE} {env : En} : sSl op f lo hi env = slR op (f env) (lo env) (hi env):=rfl
@[simp] theorem Qm8 {op : D → Option Int → Option Int → Option D} {d : D} {i j : Int} : slR op (.ok d) (.ok (.int i)) (.ok (.int j)) = ofO (op d (some i) (some j)):=rfl
@[simp] theorem Qm9 {op : D → Option Int → Option Int → Option D} {d : D} {i : Int} : slR op (.ok d) (.ok (.int i)) (.ok .non) = ofO (op d (some i) none):=rfl
@[simp] theorem QmA {op : D → Option Int → Option Int → Option D} {d : D} {j : Int} : slR op (.ok d) (.ok .non) (.ok (.int j)) = ofO (op d none (some j)):=rfl
def QeR (r : R) : R:=bnd r fun d => match Qb0 d with
 | some xs => .ok (.lst xs)
 | none => .st
@[simp] theorem Qj5 {f : SE} {env : En} : QP f env = QeR (f env):=rfl
@[simp] theorem Qjc {ds : List D} : QeR (.ok (.lst ds)) = .ok (.lst ds):=rfl
@[simp] theorem Qjd {ds : List D} : QeR (.ok (.tup ds)) = .ok (.lst ds):=rfl
def QmB (r : List D → Option (List D)) (a : RA) : R:=QG a fun ds => match r ds with
 | some xs => .ok (.lst xs)
 | none => .st
@[simp] theorem QlM {r : List D → Option (List D)} {fs : SA} {env : En} : QbD r fs env = QmB r (fs env):=rfl
def QkQ (T : Tgt) (vs : List Nat) (r : R) (ft fe : SE) (env : En) : R:=bnd r fun d => match d with
 | .lst ds => if ds.length < sizeLine ∧ JQ env vs = true then (match ZS T (Qac env vs) ft fe ds with
  | some r => .ok (.lst r)
  | none => .st) else .st
 | _ => .st
@[simp] theorem QkR {T : Tgt} {vs : List Nat} {fi ft fe : SE} {env : En} : Zg T vs fi ft fe env = QkQ T vs (fi env) ft fe env:=rfl
def m1R (op : D → D → Option D) (a b : R) : R:=bnd a fun d => if Qgu d then bnd b fun e => ofO (op d e) else .st
@[simp] theorem QmC {op : D → D → Option D} {f g : SE} {env : En} : sM1 op f g env = m1R op (f env) (g env):=rfl
@[simp] theorem QmD {op : D → D → Option D} {x : Str} {e : D} : m1R op (.ok (.str x)) (.ok e) = ofO (op (.str x) e):=rfl
@[simp] theorem QlN {d : D} : Qg4 (.rt d) false = .ok d:=rfl
@[simp] theorem QlO {c : Nat} {fs : List (Str × D)} {e : En} : Qg4 (.er c fs e) false = .er c fs:=rfl
@[simp] theorem QlP {e : En} : Qg4 (.nx e) false = .ok .non:=rfl
@[simp] theorem Qj6 {i j : Int} : QC (.int i) (.int j) = some (.int (i + j)):=rfl
@[simp] theorem QkS {i j : Int} : Qek (.int i) (.int j) = some (.int (i - j)):=rfl
theorem Qcb {i j : Int} (h : (-(2 ^ 64) < i ∧ i < 2 ^ 64) ∨ (-(2 ^ 64) < j ∧ j < 2 ^ 64)) : Zy (.int i) (.int j) = some (.int (i * j)):=by
 show orD (if (-(2 ^ 64) < i ∧ i < 2 ^ 64) ∨ (-(2 ^ 64) < j ∧ j < 2 ^ 64) then some (D.int (i * j)) else none) _ = _
 rw [if_pos h]
 rfl
theorem Qd4 {i j : Int} (h0 : 0 < j) (h1 : j < 1073741824) : JL (.int i) (.int j) = some (.int (i / j)):=if_pos ⟨h0,h1⟩
theorem Qet {i j : Int} (h0 : 0 < j) : Qa2 (.int i) (.int j) = some (.int (i % j)):=if_pos h0
@[simp] theorem QlQ {i j : Int} : dLt (.int i) (.int j) = some (.bl (decide (i < j))):=rfl
@[simp] theorem QlR {i j : Int} : dLe (.int i) (.int j) = some (.bl (decide (i ≤ j))):=rfl
@[simp] theorem QlS {i j : Int} : dGt (.int i) (.int j) = some (.bl (decide (j < i))):=rfl
@[simp] theorem QlT {i j : Int} : dGe (.int i) (.int j) = some (.bl (decide (j ≤ i))):=rfl
@[simp] theorem QlU {i j : Int} : dEq (.int i) (.int j) = some (.bl (decide (i = j))):=by
 simp [dEq,toP,PySem.SeqAt.shaped,PySem.PyData.canLay0,PySem.PyData.depth,PySem.PyData.eqv]
 by_cases h : i = j <;> simp [h]
def Sh (n : Nat) (d : D) : Prop:=∃ p,toP d = some p ∧ p.canLay0 = true ∧ p.depth ≤ n
mutual
theorem QgA : ∀ (p : PySem.PyData),p.canLay0 = true → PySem.PyData.eqv p p = true
 | .none,_ => by simp [PySem.PyData.eqv]
 | .bool _,_ => by simp [PySem.PyData.eqv]
 | .int _,_ => by simp [PySem.PyData.eqv]
 | .str _,_ => by simp [PySem.PyData.eqv]
 | .list xs,h => by
  rw [PySem.PyData.eqv]
  exact eqvAll_refl xs (by simpa [PySem.PyData.canLay0] using h)
 | .tuple xs,h => by
  rw [PySem.PyData.eqv]
  exact eqvAll_refl xs (by simpa [PySem.PyData.canLay0] using h)
 | .dict _,h => by simp [PySem.PyData.canLay0] at h
theorem eqvAll_refl : ∀ (xs : List PySem.PyData),PySem.PyData.canLayAll0 xs = true → PySem.PyData.eqvAll xs xs = true
 | [],_ => by simp [PySem.PyData.eqvAll]
 | x :: xs,h => by
  have h' : x.canLay0 = true ∧ PySem.PyData.canLayAll0 xs = true:=by simpa [PySem.PyData.canLayAll0] using h
  simp [PySem.PyData.eqvAll,QgA x h'.1,eqvAll_refl xs h'.2]
end
theorem Sh.mono {n m : Nat} {d : D} (h : Sh n d) (l : n ≤ m) : Sh m d:=by
 obtain ⟨p,h1,h2,h3⟩:=h
 exact ⟨p,h1,h2,Nat.le_trans h3 l⟩
@[simp] theorem QkT {ds : List D} : Qbv [.lst ds] = some (.int ds.length):=rfl
@[simp] theorem QkU {i : Int} : Qgq [.int i] = some (.int (if i < 0 then -i else i)):=rfl
@[simp] theorem QkV {i : Int} : QeJ [.int i] = some (.int i):=rfl
@[simp] theorem QlV {b : Bool} : QeJ [.bl b] = some (.int (if b then 1 else 0)):=rfl
@[simp] theorem Qj7 {ds : List D} : Qaq [.lst ds] = some (.lst ds):=rfl
theorem Qbo {T : Tgt} {env : En} {fe : SE} (g : D → D) : ∀ (ds : List D),(∀ d ∈ ds,∃ e,QW T d env = some e ∧ fe e = .ok (g d)) → ZS T env (sC (.bl true)) fe ds = some (ds.map g)
 | [],_ => rfl
 | d :: ds,h => by
  obtain ⟨e,h1,h2⟩:=h d List.mem_cons_self
  show (match QW T d env with
   | none => none
   | some e => match (R.ok (.bl true)) with
    | .ok (.bl true) => (match fe e with
     | .ok x => (ZS T env (sC (.bl true)) fe ds).map fun r => x :: r
     | _ => none)
    | .ok (.bl false) => ZS T env (sC (.bl true)) fe ds
    | _ => none) = _
  rw [h1]
  simp only
  rw [h2,Qbo g ds fun d hd => h d (List.mem_cons_of_mem _ hd)]
  rfl
end Ps
namespace Ps
open PySem L2
open PySem.Spec PyProof.Rows
section
variable {X : Cx} {ct : Nat → Addr} {W : WX} {o e : Expr} {es : List Expr} {f : SE} {fs : SA} {pos apos : Pos} {pl : Sem Bool} {k j c : Nat} {x : Str} {fa : Addr} {fr : Bool} {m : List D → R} {ms : List Bool}
end
end Ps
namespace Ps
open PySem L2
open PySem.Spec PyProof.Rows
section
variable {X : Cx} {ct : Nat → Addr} {W : WX} {e : Expr} {f : SE} {O : OW} {p pos tpos : Pos} {elts : List Expr} {kk : Nat}
theorem Reps.rev {K : PySem.W.Frag} {F : Hp} : ∀ {ds : List D} {vs : List V},Reps K ct F ds vs → Reps K ct F ds.reverse vs.reverse
 | [],_,h => by rw [show _ = [] from h]; rfl
 | d :: ds,_,h => by
  obtain ⟨v,r,rfl,e2,e3⟩:=h
  rw [List.reverse_cons,List.reverse_cons]
  exact Reps.append (Reps.rev e3) (Reps.one e2)
def Qje (f : SE) : SE:=fun env => bnd (f env) fun d => match d with
 | .lst ds => .ok (.lst ds.reverse)
 | _ => .st
theorem QkW {k : Nat} {p1 p2 p3 : Pos} (he : PE X e (EB X.K ct W f)) : PE X (.Subscript e (.Slice none none (some (.UnaryOp .USub (.Constant (.int 1) k p1) p2)) p3) pos) (EN X.K ct W (Qje f)):=by
 refine (pe_revL he).imp fun σ H Q ⟨env,F,E,h⟩ => ?_
 refine Z7 E h rfl fun d v F1 H1 e1 g1 r1 E1 h => ?_
 cases d <;> first | exact h.elim | skip
 rename_i ds
 obtain ⟨a,vs,rfl,h1,h2⟩:=r1
 exact ⟨a,vs,rfl,SqL.of h1,fun p hp => h _ F1 _ (g1.trans (Gr.own E1.ex hp)) ⟨p,rfl,Ex.free g1.h hp,Ex.free E1.ex hp,_,upd_same,Reps.rev h2⟩⟩
end
section
variable {X : Cx} {ct : Nat → Addr} {W : WX} {o e x : Expr} {f g h : SE} {apos cpos : Pos}
end
section
variable {X : Cx} {ct : Nat → Addr} {W : WX} {a b c : Expr} {f g h : SE} {pos : Pos} {op op' : CmpOp} {r r' : R2} {o1 o2 : D → D → Option D}
end
end Ps
namespace Ps
open PySem L2
open PySem.Spec PyProof.Rows
section
variable {K : PySem.W.Frag} {ct : Nat → Addr} {F H : Hp}
end
section
variable {X : Cx} {ct : Nat → Addr} {W : WX} {a : Expr} {f : SE} {pos p : Pos}
end
end Ps
namespace Ps
open PySem PySem.Spec PyProof.Rows L2
def Q3 (i : Nat) : SS:=fun env => match Zf env i .no with
 | some e => .nx e
 | none => .st
section
variable {X : Cx} {ct : Nat → Addr} {W : WX} {rest : List Stmt} {g : SS}
theorem Qjf {K : PySem.W.Frag} {F H : Hp} {env e : En} {σ : L2.St} {i : Nat} (E : EnvOk K ct F H env σ) (h : Zf env i .no = some e) : EnvOk K ct F H e σ ∧ Sx F H env σ F H e σ:=by
 obtain ⟨t,h1,h2,rfl⟩:=JP h
 obtain ⟨hlt,_⟩:=List.getElem?_eq_some_iff.mp h1
 have hl : i < σ.length:=by rw [← E.len]; exact hlt
 have e1 : σ.set i σ[i] = σ:=List.set_getElem_self hl
 obtain ⟨E',S⟩:=Qa5 (s:=.no) (x:=σ[i]) E h1 h2 rfl (fun _ z => nomatch z) (fun _ z => nomatch z)
 rw [e1] at E' S
 exact ⟨E',S⟩
theorem Q7 (i : Nat) (h : PSs X rest (sOf X.K ct W g)) : PSs X rest (sOf X.K ct W (Qg (Q3 i) g)):=by
 refine PSs.imp h fun D σ H ⟨env,F,E,q⟩ => ?_
 unfold Qg Q3 at q
 cases e : Zf env i .no with
 | none => rw [e] at q; exact q.elim
 | some env' =>
  rw [e] at q
  obtain ⟨E',S⟩:=Qjf E e
  exact ⟨env',F,E',Zv S q⟩
end
end Ps
namespace Ps
open PySem PySem.Spec PyProof.Rows L2
def DkO (vs : List (Key × V)) (o : HO) : Prop:=o = .dK vs ∨ ∃ od,o = .frz od (.dK vs)
section
variable {K : PySem.W.Frag} {ct : Nat → Addr} {F H F' H' : Hp} {a : Addr} {vs : List (Key × V)} {o o' : HO} {env : En} {σ σ' : L2.St}
theorem DkO.ne {u : HO} (d : DkO vs o) (h : F a = some o) (h' : F a = some u) (n1 : u ≠ .dK vs) (n2 : ∀ od,u ≠ .frz od (.dK vs)) : False:=by
 rw [h] at h'; cases h'
 rcases d with d | ⟨od,d⟩
 ·exact n1 d
 ·exact n2 od d
theorem Zb (h : F a = some o) (d : DkO vs o) (d' : DkO vs o') : Le F (upd F a o'):=by
 have key : ∀ (b : Addr) (u : HO),F b = some u → (u ≠ .dK vs) → (∀ od,u ≠ .frz od (.dK vs)) → upd F a o' b = some u:=fun b u hb n1 n2 => by
  by_cases hba : b = a
  ·subst hba; exact (d.ne h hb n1 n2).elim
  ·rw [upd_ne hba]; exact hb
 have here : ∀ u,u = .dK vs → Rd (upd F a o') a u:=fun u e => by
  subst e
  rcases d' with d' | ⟨od,d'⟩
  ·subst d'; exact .inl upd_same
  ·subst d'; exact .inr ⟨od,upd_same⟩
 refine ⟨fun b u nf hr => ?_,fun b _ hb => key b _ hb (fun z => nomatch z) (fun _ z => nomatch z),fun b _ hb => key b _ hb (fun z => nomatch z) (fun _ z => nomatch z),fun b _ _ _ hb => key b _ hb (fun z => nomatch z) (fun _ z => nomatch z),fun b _ _ hb => key b _ hb (fun z => nomatch z) (fun _ z => nomatch z),fun b _ hb => key b _ hb (fun z => nomatch z) (fun _ z => nomatch z)⟩
 by_cases hba : b = a
 ·subst hba
  refine here u ?_
  rcases hr with hr | ⟨od,hr⟩
  ·rw [h] at hr; cases hr
   rcases d with d | ⟨od,d⟩
   ·exact d
   ·exact (nf _ _ d).elim
  ·rw [h] at hr; cases hr
   rcases d with d | ⟨od2,d⟩
   ·cases d
   ·cases d; rfl
 ·rcases hr with hr | ⟨od,hr⟩
  ·exact .inl (by rw [upd_ne hba]; exact hr)
  ·exact .inr ⟨od,by rw [upd_ne hba]; exact hr⟩
theorem QdM (e : Ex F H) : Ex (upd F a o') (upd H a o'):=fun b u hb => by
 by_cases hba : b = a
 ·subst hba; rw [upd_same] at hb ⊢; exact hb
 ·rw [upd_ne hba] at hb ⊢; exact e b u hb
theorem RepB.swap (hF : F a = some o) (hH : H a = some o) (d : DkO vs o) (d' : DkO vs o') : ∀ {x : D} {v : V},RepB K ct F H x v → RepB K ct (upd F a o') (upd H a o') x v
 | .lst ds,v,h => by
  obtain ⟨b,us,e1,e2,e3⟩:=h
  exact ⟨b,us,e1,(Zb hH d d').l _ _ e2,Reps.mono (Zb hF d d') _ _ e3⟩
 | .dk ds,v,h => by
  obtain ⟨b,us,e1,e2,e3⟩:=h
  exact ⟨b,us,e1,(Zb hH d d').rd _ _ (fun _ _ z => nomatch z) e2,RepK.mono (Zb hF d d') _ _ e3⟩
 | .dt ds,v,h => by
  obtain ⟨b,us,e1,e2,e3⟩:=h
  exact ⟨b,us,e1,(Zb hH d d').rd _ _ (fun _ _ z => nomatch z) e2,RepT.mono (Zb hF d d') _ _ e3⟩
 | .obj c fs,v,h => by
  obtain ⟨b,dx,fvs,e1,e2,en,e3⟩:=h
  exact ⟨b,dx,fvs,e1,(Zb hH d d').i _ _ _ _ e2,en,RepF.mono (Zb hF d d') _ _ e3⟩
 | .non,_,h => h
 | .bl _,_,h => h
 | .int _,_,h => h
 | .str _,_,h => h
 | .tup _,_,h => Rep.mono (Zb hF d d') _ _ h
 | .scr _,_,h => Rep.mono (Zb hF d d') _ _ h
 | .rd _,_,h => Rep.mono (Zb hF d d') _ _ h
 | .exo _ _,_,h => Rep.mono (Zb hF d d') _ _ h
theorem OwnAt.swap {p : Addr} (hF : F a = some o) (d : DkO vs o) (d' : DkO vs o') : ∀ {x : D},OwnAt K ct F H p x → OwnAt K ct (upd F a o') (upd H a o') p x:=fun {x} h => by
 have hp : p ≠ a:=fun z => by subst z; have:=h.free; rw [hF] at this; cases this
 have q1 : upd F a o' p = F p:=upd_ne hp
 have q2 : upd H a o' p = H p:=upd_ne hp
 cases x <;> first | exact h.elim | skip
 ·obtain ⟨h1,us,h2,h3⟩:=h
  exact ⟨q1.trans h1,us,q2.trans h2,Reps.mono (Zb hF d d') _ _ h3⟩
 ·obtain ⟨h1,us,h2,h3⟩:=h
  exact ⟨q1.trans h1,us,q2.trans h2,RepK.mono (Zb hF d d') _ _ h3⟩
 ·obtain ⟨h1,us,h2,h3⟩:=h
  exact ⟨q1.trans h1,us,q2.trans h2,RepT.mono (Zb hF d d') _ _ h3⟩
theorem EnvOk.swap (E : EnvOk K ct F H env σ) (hF : F a = some o) (d : DkO vs o) (d' : DkO vs o') : EnvOk K ct (upd F a o') (upd H a o') env σ where
 ex:=QdM E.ex
 len:=E.len
 sh:=fun i x h => let ⟨v,e1,e2⟩:=E.sh i x h; ⟨v,e1,Rep.mono (Zb hF d d') _ _ e2⟩
 ow:=fun i x h => let ⟨p,e1,e2⟩:=E.ow i x h; ⟨p,e1,e2.swap hF d d'⟩
 bo:=fun i x h => let ⟨v,e1,e2,e3⟩:=E.bo i x h; ⟨v,e1,RepB.swap hF (E.ex _ _ hF) d d' e2,e3⟩
 oo:=fun i c fs gs h => by
  obtain ⟨p,dx,fvs,e1,e2,e3,e4,e5,e6,e7⟩:=E.oo i c fs gs h
  have hp : p ≠ a:=fun z => by subst z; rw [hF] at e2; cases e2
  exact ⟨p,dx,fvs,e1,(upd_ne hp).trans e2,(upd_ne hp).trans e3,e4,e5,RepF.mono (Zb hF d d') _ _ e6,e7⟩
 gh:=fun i x h => let ⟨p,e1,e2⟩:=E.gh i x h; ⟨p,e1,e2.swap hF d d'⟩
 ln:=fun i n g h => by
  obtain ⟨p,b,d2,e1,e2,e3,e4,e5⟩:=E.ln i n g h
  have hp : p ≠ a:=fun z => by subst z; rw [hF] at e2; cases e2
  exact ⟨p,b,d2,e1,(upd_ne hp).trans e2,e3.le (Zb hF d d') (upd_ne hp),e4,e5⟩
 ap:=E.ap
theorem Sr.un {od : Obj} (hF : F a = some (.dK vs)) (hH : H a = some (.dK vs)) (S : Sr (upd F a (.frz od (.dK vs))) (upd H a (.frz od (.dK vs))) env σ F' H') : Sr F H env σ (upd F' a (.dK vs)) (upd H' a (.dK vs)) where
 f:=fun b u hb => by
  by_cases hba : b = a
  ·subst hba; rw [upd_same]; rw [hF] at hb; exact hb
  ·rw [upd_ne hba]; exact S.f b u (by rw [upd_ne hba]; exact hb)
 e:=QdM S.e
 k:=fun b u hb n => by
  by_cases hba : b = a
  ·subst hba; rw [upd_same]; rw [hH] at hb; exact hb
  ·rw [upd_ne hba]; exact S.k b u (by rw [upd_ne hba]; exact hb) n
 t:=fun b u hb => by
  by_cases hba : b = a
  ·subst hba; exact ⟨_,upd_same⟩
  ·rw [upd_ne hba]; exact S.t b u (by rw [upd_ne hba]; exact hb)
 n:=fun b u hb => by
  by_cases hba : b = a
  ·subst hba; rw [upd_same] at hb; cases hb; exact .inl hF
  ·rw [upd_ne hba] at hb
   rcases S.n b u hb with h | h | h
   ·rw [upd_ne hba] at h; exact .inl h
   ·rw [upd_ne hba] at h; exact .inr (.inl h)
   ·exact .inr (.inr h)
theorem Sx.un {od : Obj} {e : En} (hF : F a = some (.dK vs)) (hH : H a = some (.dK vs)) (S : Sx (upd F a (.frz od (.dK vs))) (upd H a (.frz od (.dK vs))) env σ F' H' e σ') : Sx F H env σ (upd F' a (.dK vs)) (upd H' a (.dK vs)) e σ' where
 toSr:=S.toSr.un hF hH
 o:=fun p hp => by
  rcases S.o p hp with h | h
  ·exact .inl h
  ·by_cases hpa : p = a
   ·subst hpa; rw [upd_same] at h; cases h
   ·rw [upd_ne hpa] at h; exact .inr h
 b:=S.b
 q:=S.q
theorem Gr.un {od : Obj} (hF : F a = some (.dK vs)) (hH : H a = some (.dK vs)) (S : Gr (upd F a (.frz od (.dK vs))) (upd H a (.frz od (.dK vs))) F' H') : Gr F H (upd F' a (.dK vs)) (upd H' a (.dK vs)) where
 f:=fun b u hb => by
  by_cases hba : b = a
  ·subst hba; rw [upd_same]; rw [hF] at hb; exact hb
  ·rw [upd_ne hba]; exact S.f b u (by rw [upd_ne hba]; exact hb)
 h:=fun b u hb => by
  by_cases hba : b = a
  ·subst hba; rw [upd_same]; rw [hH] at hb; exact hb
  ·rw [upd_ne hba]; exact S.h b u (by rw [upd_ne hba]; exact hb)
 e:=QdM S.e
 n:=fun b u hb => by
  by_cases hba : b = a
  ·subst hba; rw [upd_same] at hb; cases hb; exact .inl hF
  ·rw [upd_ne hba] at hb
   rcases S.n b u hb with h | h
   ·rw [upd_ne hba] at h; exact .inl h
   ·rw [upd_ne hba] at h; exact .inr h
end
def QgB (env : En) (i : Nat) : Bool:=match env[i]? with
 | some (.sh (.dk _)) => true
 | _ => false
section
variable {X : Cx} {ct : Nat → Addr} {W : WX}
def QmE : Key → D
 | .inl i => .int i
 | .inr x => .str x
end
section
variable {X : Cx} {ct : Nat → Addr} {W : WX} {elt tg : Expr} {ifs : List Expr} {scope : Scope} {pos p : Pos} {g : TG} {T : Tgt} {ft fe : SE} {x : Str}
end
end Ps
namespace Ps
open PySem PySem.Spec PyProof.Rows L2
section
variable {X : Cx}
end
section
variable {K : PySem.W.Frag} {ct : Nat → Addr}
end
section
variable {X : Cx} {ct : Nat → Addr} {W : WX} {a b e : Expr} {f g : SE} {pos p : Pos} {k : Nat}
end
section
variable {X : Cx}
end
section
variable {K : PySem.W.Frag} {ct : Nat → Addr} {F : Hp}
end
section
variable {X : Cx} {ct : Nat → Addr} {W : WX} {a b e : Expr} {f g : SE} {pos p : Pos} {k : Nat}
end
section
variable {K : PySem.W.Frag} {ct : Nat → Addr}
end
section
variable {X : Cx} {ct : Nat → Addr} {W : WX} {a : Expr} {f : SE} {pos p : Pos}
end
end Ps
namespace Ps
open PySem PySem.Spec PyProof.Rows L2
section
variable {X : Cx} {ct : Nat → Addr} {W : WX}
end
end Ps
namespace Ps
open PySem PySem.Spec PyProof.Rows L2
section
variable {X : Cx} {ct : Nat → Addr} {W : WX} {f g : SE}
end
end Ps
namespace Ps
open PySem PySem.Spec PyProof.Rows L2
section
variable {X : Cx} {ct : Nat → Addr} {W : WX} {fk fv : SE}
end
end Ps
namespace Ps
open PySem PySem.Spec PyProof.Rows L2
section
variable {K : PySem.W.Frag} {ct : Nat → Addr}
end
section
variable {X : Cx} {ct : Nat → Addr} {W : WX} {f : SE} {a : Expr} {p pos : Pos}
end
end Ps
namespace Ps
open PySem PySem.Spec PyProof.Rows L2
section
variable {K : PySem.W.Frag} {ct : Nat → Addr}
end
section
variable {X : Cx} {ct : Nat → Addr} {W : WX} {f g : SE} {a b : Expr} {pos : Pos}
end
end Ps
namespace Ps
open PySem PySem.Spec PyProof.Rows L2
section
variable {K : PySem.W.Frag} {ct : Nat → Addr}
end
section
variable {X : Cx} {ct : Nat → Addr} {W : WX} {f g : SE} {a b : Expr} {pos : Pos}
end
end Ps
namespace Ps
open PySem PySem.Spec PyProof.Rows L2
section
variable {X : Cx} {pins : List (Addr × Obj)} {σ : L2.St} {H : Hp} {s : Shared}
def Raw (X : Cx) (s : Shared) (x : Str) (u : Value) : Prop:=∀ m,s.heap.Ns X.env.locals m → m x = some u
theorem Raw.name {x : Str} {u : Value} {p : Pos} {Q E : Value → Shared → Prop} (R : Raw X s x u) (I : Inv X pins σ H s) (hk : X.env.scope.names.lookup x = some .local) (h : Q u s) (hd : (x == ("__debug__" : Str)) = false:=by decide) :
  wpAny (model X.prog X.w) X.A (eval (.Name x p) X.env) Q E s:=by
 obtain ⟨m,hn,_⟩:=id I.loc
 exact wpAny_Name (wpAny_loadName_local I.ok.kind hk hn (R m hn) h) hd
theorem Raw.tok {x : Str} {u : Value} {k : Nat} (R : Raw X s x u) : Raw X { s with toks:=k } x u:=R
end
section
variable {X : Cx} {ct : Nat → Addr} {W : WX} {st : Stmt} {rest body : List Stmt} {tg iter : Expr} {fi : SE} {g g2 : SS} {pos pos' : Pos} {T : Tgt}
theorem _root_.L2.PST.imp {t t' : TS} (p : PST X st t) (h : ∀ D σ H,t' D σ H → t D σ H) : PST X st t':=fun pins s σ H D h0 I q => p pins s σ H D h0 I (h D σ H q)
theorem _root_.L2.PSsT.imp {t t' : TS} (p : PSsT X rest t) (h : ∀ D σ H,t' D σ H → t D σ H) : PSsT X rest t':=fun pins s σ H D h0 I q => p pins s σ H D h0 I (h D σ H q)
end
end Ps
namespace Ps
open PySem PySem.Spec PyProof.Rows L2
structure BaseI (K : PySem.W.Frag) (mg : Str → Option Value) (B : Addr) (x : Str) : Prop where
 g : mg x = some (.ref B)
 r : PySem.W.readsIn K B (.type "type") = true
 f : PySem.W.findCls K (.ref B) (.type "type") "__init__" = some (.val (.builtin "ValueError.__init__"))
 s : PySem.W.specialIn K (.ref B) "__getattribute__" = some (some (.builtin "type.__getattribute__"))
structure OxC (K : PySem.W.Frag) (mg : Str → Option Value) (C fI : Addr) (x : Str) : Prop where
 g : mg x = some (.ref C)
 o : OexC K C
 i : PySem.W.findIn K (.ref C) "__init__" = some (some (.ref fI))
 t : PySem.W.typeIn K (.ref fI) = some (.type "function")
section
variable {X : Cx} {e : Expr} {es : List Expr} {ta : TA} {p1 p2 pos : Pos} {x : Str} {B : Addr}
end
section
variable {K : PySem.W.Frag} {C : Addr}
variable {P : Program} {w : World} {mg : Str → Option Value} {base : Heap}
end
section
variable {X : Cx} {ct : Nat → Addr} {W : WX} {f g : SE} {a b e : Expr} {pos pos' p : Pos} {x n m : Str}
end
section
variable {X : Cx} {ct : Nat → Addr} {W : WX} {f : SE} {e : Expr} {pos : Pos} {n : Str}
end
end Ps
namespace Ps
open PySem PySem.Spec PyProof.Rows L2
section
variable {K : PySem.W.Frag} {ct : Nat → Addr} {F H F' H' : Hp} {env e : En} {σ σ' : L2.St} {i : Nat} {ds : List D} {p : Addr}
end
section
variable {X : Cx} {ct : Nat → Addr} {W : WX} {st : Stmt} {g : SS} {tg : Expr} {pos : Pos} {O : OW}
end
end Ps
namespace Ps
open PySem L2
open PySem.Spec PyProof.Rows
section
variable {X : Cx} {ct : Nat → Addr} {W : WX} {e : Expr} {f : SE} {O : OW} {p pos tpos : Pos} {elts : List Expr} {kk : Nat}
end
end Ps
namespace Ps
open PySem PySem.Spec PyProof.Rows L2
section
variable {K : PySem.W.Frag} {ct : Nat → Addr}
end
section
variable {X : Cx} {ct : Nat → Addr} {W : WX} {a b : Expr} {f g : SE} {pos : Pos} {k : Nat}
end
end Ps
namespace Ps
open PySem PySem.Spec PyProof.Rows L2
section
variable {X : Cx} {ct : Nat → Addr} {W : WX} {pos p apos cpos : Pos} {x : Str}
end
section
variable {X : Cx} {ct : Nat → Addr} {W : WX} {pos p p' tp : Pos} {x : Str} {l : List Expr} {kk : Nat}
end
end Ps
namespace Ps
open PySem PySem.Spec PyProof.Rows L2
open Sem (wp)
open AutoSeq1 (wpAny_loadPart')
open PySem.SeqAt (EqAt rc_eq_decline_or in_listAt notIn_listAt)
section
variable {X : Cx}
end
section
variable {K : PySem.W.Frag} {ct : Nat → Addr} {F : Hp}
end
section
variable {X : Cx} {ct : Nat → Addr} {W : WX} {a b : Expr} {f g : SE} {pos : Pos} {k : Nat}
end
end Ps
namespace Ps
open PySem PySem.Spec PyProof.Rows L2
section
variable {X : Cx} {ct : Nat → Addr} {W : WX} {body suite : List Stmt} {b₀ : Stmt} {g gs : SS} {pos pos' np : Pos} {x : Str}
end
section
variable {X : Cx} {ct : Nat → Addr} {W : WX} {a b c e : Expr} {f : SE} {fs : SA} {pos pos' p p2 p3 apos cpos : Pos}
end
end Ps
namespace PySem.SeqAt
open AutoSeq1 (wpAny_loadPart')
open MeetsSeq MeetsSeq2 MeetsSeq3 SeqRoads2
section
variable {w : World} {prog : Program}
end
end PySem.SeqAt
namespace Ps
open PySem PySem.Spec PyProof.Rows L2
open PySem.W (EqTree)
def okK (kvs : List (Key × D)) : Bool:=decide (kvs.length ≤ 1) && kvs.all fun p => J8 p.2
mutual
def okZ : D → Bool
 | .lst ds => okZs ds
 | .tup ds => okZs ds
 | .dk kvs => okK kvs
 | .non => true
 | .bl _ => true
 | .int _ => true
 | .str _ => true
 | _ => false
def okZs : List D → Bool
 | [] => true
 | d :: ds => okZ d && okZs ds
end
mutual
def Qjg : D → Nat
 | .lst ds => depZs ds + 1
 | .tup ds => depZs ds + 1
 | .dk _ => 1
 | _ => 0
def depZs : List D → Nat
 | [] => 0
 | d :: ds => max (Qjg d) (depZs ds)
end
def QcX : D → D → Bool
 | .non,.non => true
 | .bl a,.bl b => a == b
 | .int a,.int b => a == b
 | .str a,.str b => a == b
 | _,_ => false
def QeS : List (Key × D) → List (Key × D) → Bool
 | [],[] => true
 | p :: ps,q :: qs => decide (p.1 = q.1) && QcX p.2 q.2 && QeS ps qs
 | _,_ => false
mutual
def Qeu : D → D → Bool
 | .lst a,.lst b => sameZs a b
 | .tup a,.tup b => sameZs a b
 | .dk a,.dk b => QeS a b
 | .non,.non => true
 | .bl a,.bl b => a == b
 | .int a,.int b => a == b
 | .str a,.str b => a == b
 | _,_ => false
def sameZs : List D → List D → Bool
 | [],[] => true
 | a :: as,b :: bs => Qeu a b && sameZs as bs
 | _,_ => false
end
theorem QfX {a b : D} (h : QcX a b = true) : a = b:=by
 cases a <;> cases b <;> first | (cases h; done) | rfl | (rw [eq_of_beq (show _ == _ from h)])
theorem Qev {a : D} (h : J8 a = true) : QcX a a = true:=by
 cases a <;> first | (cases h; done) | rfl | (show (_ == _) = true; simp)
theorem Qfy : ∀ {a b : List (Key × D)},QeS a b = true → a = b
 | [],[],_ => rfl
 | (k,d) :: a,(k',d') :: b,h => by
  have h : (decide (k = k') && QcX d d' && QeS a b) = true:=h
  simp only [decide_eq_true_eq,Bool.and_eq_true] at h
  rw [h.1.1,QfX h.1.2,Qfy h.2]
 | [],_ :: _,h => nomatch h
 | _ :: _,[],h => nomatch h
theorem Qd5 : ∀ {a : List (Key × D)},(a.all fun p => J8 p.2) = true → QeS a a = true
 | [],_ => rfl
 | (k,d) :: a,h => by
  rw [List.all_cons] at h; rw [Bool.and_eq_true] at h
  show (decide (k = k) && QcX d d && QeS a a) = true
  rw [decide_eq_true rfl,Qev h.1,Qd5 h.2]; rfl
mutual
theorem QgC : ∀ (a b : D),Qeu a b = true → a = b
 | .lst a,b,h => by
  cases b <;> first | (cases h; done) | skip
  rw [sameZs_eq a _ h]
 | .tup a,b,h => by
  cases b <;> first | (cases h; done) | skip
  rw [sameZs_eq a _ h]
 | .dk a,b,h => by
  cases b <;> first | (cases h; done) | skip
  rw [Qfy (show QeS a _ = true from h)]
 | .non,b,h => by cases b <;> first | (cases h; done) | rfl
 | .bl a,b,h => by cases b <;> first | (cases h; done) | (rw [eq_of_beq (show (a == _) = true from h)])
 | .int a,b,h => by cases b <;> first | (cases h; done) | (rw [eq_of_beq (show (a == _) = true from h)])
 | .str a,b,h => by cases b <;> first | (cases h; done) | (rw [eq_of_beq (show (a == _) = true from h)])
 | .scr _,b,h => by cases b <;> cases h
 | .rd _,b,h => by cases b <;> cases h
 | .dt _,b,h => by cases b <;> cases h
 | .obj _ _,b,h => by cases b <;> cases h
 | .exo _ _,b,h => by cases b <;> cases h
theorem sameZs_eq : ∀ (a b : List D),sameZs a b = true → a = b
 | [],[],_ => rfl
 | a :: as,b :: bs,h => by
  have h : (Qeu a b && sameZs as bs) = true:=h
  rw [Bool.and_eq_true] at h
  rw [QgC a b h.1,sameZs_eq as bs h.2]
 | [],_ :: _,h => nomatch h
 | _ :: _,[],h => nomatch h
end
mutual
theorem QeT : ∀ (a : D),okZ a = true → Qeu a a = true
 | .lst a,h => sameZs_refl a h
 | .tup a,h => sameZs_refl a h
 | .dk a,h => Qd5 (Bool.and_eq_true_iff.mp (show (decide (a.length ≤ 1) && _) = true from h)).2
 | .non,_ => rfl
 | .bl a,_ => by show (a == a) = true; simp
 | .int a,_ => by show (a == a) = true; simp
 | .str a,_ => by show (a == a) = true; simp
 | .scr _,h => nomatch h
 | .rd _,h => nomatch h
 | .dt _,h => nomatch h
 | .obj _ _,h => nomatch h
 | .exo _ _,h => nomatch h
theorem sameZs_refl : ∀ (a : List D),okZs a = true → sameZs a a = true
 | [],_ => rfl
 | a :: as,h => by
  have h : (okZ a && okZs as) = true:=h
  rw [Bool.and_eq_true] at h
  show (Qeu a a && sameZs as as) = true
  rw [QeT a h.1,sameZs_refl as h.2]; rfl
end
theorem Qba (n : Nat) : ((List.range n).all fun _ => true) = true:=List.all_eq_true.mpr fun _ _ => rfl
section
variable {X : Cx} {ct : Nat → Addr} {pins : List (Addr × Obj)} {σ : L2.St} {H : Hp} {s : Shared} {F : Hp}
theorem Qau {v u : V} {a b : Value} {d : D} {n : Nat} (fl : J8 d = true) (r1 : Rep X.K ct F d v) (r2 : Rep X.K ct F d u) (e1 : RelV v a) (e2 : RelV u b) : EqTree X.prog X.w s n a b true:=by
 obtain ⟨rfl,f1⟩:=QaR r1 fl
 obtain ⟨rfl,_⟩:=QaR r2 fl
 refine .leaf fun A _ => eqAt_same e1 e2 ?_
 cases d <;> first | (cases fl; done) | rfl
mutual
theorem Qjh (I : Inv X pins σ H s) (ex : Ex F H) : ∀ (d : D) (n : Nat) (v u : V) (a b : Value),okZ d = true → Qjg d ≤ n → Rep X.K ct F d v → Rep X.K ct F d u → RelV v a → RelV u b → EqTree X.prog X.w s n a b true
 | .lst ds,n,v,u,a,b,ok,hn,r1,r2,e1,e2 => by
  obtain ⟨l,vs,rfl,h1,h2⟩:=r1
  obtain ⟨l',us,rfl,h3,h4⟩:=r2
  obtain rfl : a = Value.ref l:=e1
  obtain rfl : b = Value.ref l':=e2
  by_cases hl : l = l'
  ·subst hl; exact .same
  ·have hn : depZs ds + 1 ≤ n:=hn
   obtain ⟨m,rfl⟩ : ∃ m,n = m + 1:=⟨n - 1,by omega⟩
   obtain ⟨as,va,pa,_⟩:=I.list (SqL.of (ex _ _ h1))
   obtain ⟨bs,vb,pb,_⟩:=I.list (SqL.of (ex _ _ h3))
   have hz : as.toArray.size = bs.toArray.size:=by
    rw [List.size_toArray,List.size_toArray,← va.length,← vb.length,h2.length,h4.length]
   have t:=EqTree.lists (prog:=X.prog) (w:=X.w) (e:=fun _ => true) (n:=m) hl pa.isList pb.isList hz (fun j j1 j2 => by
    have:=trees_Z I ex ds m vs us as bs ok (by omega) h2 h4 va vb j (by simpa using j1) (by simpa using j2)
    simpa using this)
   rw [Qba] at t
   exact t
 | .tup ds,n,v,u,a,b,ok,hn,r1,r2,e1,e2 => by
  obtain ⟨l,vs,rfl,h1,h2⟩:=r1
  obtain ⟨l',us,rfl,h3,h4⟩:=r2
  obtain rfl : a = Value.ref l:=e1
  obtain rfl : b = Value.ref l':=e2
  by_cases hl : l = l'
  ·subst hl; exact .same
  ·have hn : depZs ds + 1 ≤ n:=hn
   obtain ⟨m,rfl⟩ : ∃ m,n = m + 1:=⟨n - 1,by omega⟩
   obtain ⟨as,va,⟨oa,qa,ca,na,da⟩,_⟩:=I.tuple (SqT.of (ex _ _ h1))
   obtain ⟨bs,vb,⟨ob,qb,cb,nb,db⟩,_⟩:=I.tuple (SqT.of (ex _ _ h3))
   have hz : as.toArray.size = bs.toArray.size:=by
    rw [List.size_toArray,List.size_toArray,← va.length,← vb.length,h2.length,h4.length]
   have t:=EqTree.tuples (prog:=X.prog) (w:=X.w) (e:=fun _ => true) (n:=m) (vs:=as.toArray) (vs':=bs.toArray) hl ⟨oa,qa,ca,na,da⟩ ⟨ob,qb,cb,nb,db⟩ (fun j j1 j2 => by
    have:=trees_Z I ex ds m vs us as bs ok (by omega) h2 h4 va vb j (by simpa using j1) (by simpa using j2)
    simpa using this)
   rw [Qba,hz,beq_self_eq_true] at t
   exact t
 | .dk kvs,n,v,u,a,b,ok,hn,r1,r2,e1,e2 => by
  obtain ⟨l,vs,rfl,h1,h2⟩:=r1
  obtain ⟨l',us,rfl,h3,h4⟩:=r2
  obtain rfl : a = Value.ref l:=e1
  obtain rfl : b = Value.ref l':=e2
  by_cases hl : l = l'
  ·subst hl; exact .same
  ·have hn : 1 ≤ n:=hn
   obtain ⟨m,rfl⟩ : ∃ m,n = m + 1:=⟨n - 1,by omega⟩
   obtain ⟨_,ya,as,va,da⟩:=dk_rd I.hok (ex.rd h1)
   obtain ⟨_,yb,bs,vb,db⟩:=dk_rd I.hok (ex.rd h3)
   have ok : (decide (kvs.length ≤ 1) && kvs.all fun p => J8 p.2) = true:=ok
   rw [Bool.and_eq_true,decide_eq_true_eq] at ok
   cases kvs with
   | nil =>
    cases (show vs = [] from h2)
    cases (show us = [] from h4)
    cases va
    cases vb
    have t:=EqTree.dicts (prog:=X.prog) (w:=X.w) (s:=s) (n:=m) (e:=fun _ => true) hl ya yb da db (fun _ _ _ h => nomatch h)
    exact t
   | cons p r =>
    obtain ⟨k,d⟩:=p
    cases r with
    | cons _ _ => exact absurd ok.1 (by simp)
    | nil =>
     obtain ⟨v1,r1,rfl,g1,g2⟩:=h2
     obtain ⟨u1,r2,rfl,g3,g4⟩:=h4
     cases (show r1 = [] from g2)
     cases (show r2 = [] from g4)
     have fl : J8 d = true:=by simpa using ok.2
     unfold KV at va vb
     cases va with
     | cons ha1 ha2 =>
      cases ha2
      cases vb with
      | cons hb1 hb2 =>
       cases hb2
       rename_i q q'
       obtain ⟨k1,w1⟩:=q
       obtain ⟨k2,w2⟩:=q'
       obtain ⟨rfl,i1⟩ : k = k1 ∧ RelV v1 w1:=ha1
       obtain ⟨rfl,i2⟩ : k = k2 ∧ RelV u1 w2:=hb1
       have hv : valueAt [(k,w2)] k = some w2:=by simp [valueAt]
       have t:=EqTree.dicts (prog:=X.prog) (w:=X.w) (s:=s) (n:=m) (e:=fun _ => true) hl ya yb da db (fun k' v' y' hm hy => by
        cases List.mem_singleton.mp hm
        rw [hv] at hy
        cases hy
        exact Qau fl g1 g3 i1 i2)
       have e : (([(k,w1)].length == [(k,w2)].length) && [(k,w1)].all fun p => (valueAt [(k,w2)] p.1).isSome && true) = true:=by
        simp [hv]
       rw [e] at t
       exact t
 | .non,n,v,u,a,b,_,_,r1,r2,e1,e2 => Qau (d:=.non) rfl r1 r2 e1 e2
 | .bl x,n,v,u,a,b,_,_,r1,r2,e1,e2 => Qau (d:=.bl x) rfl r1 r2 e1 e2
 | .int x,n,v,u,a,b,_,_,r1,r2,e1,e2 => Qau (d:=.int x) rfl r1 r2 e1 e2
 | .str x,n,v,u,a,b,_,_,r1,r2,e1,e2 => Qau (d:=.str x) rfl r1 r2 e1 e2
 | .scr _,_,_,_,_,_,ok,_,_,_,_,_ => nomatch ok
 | .rd _,_,_,_,_,_,ok,_,_,_,_,_ => nomatch ok
 | .dt _,_,_,_,_,_,ok,_,_,_,_,_ => nomatch ok
 | .obj _ _,_,_,_,_,_,ok,_,_,_,_,_ => nomatch ok
 | .exo _ _,_,_,_,_,_,ok,_,_,_,_,_ => nomatch ok
theorem trees_Z (I : Inv X pins σ H s) (ex : Ex F H) : ∀ (ds : List D) (n : Nat) (vs us : List V) (as bs : List Value),okZs ds = true → depZs ds ≤ n → Reps X.K ct F ds vs → Reps X.K ct F ds us → Vals vs as → Vals us bs →
  ∀ j (h1 : j < as.length) (h2 : j < bs.length),EqTree X.prog X.w s n as[j] bs[j] true
 | [],n,vs,us,as,bs,_,_,r1,_,e1,_,j,h1,_ => by
  cases (show vs = [] from r1)
  cases e1
  exact absurd h1 (Nat.not_lt_zero j)
 | d :: ds,n,vs,us,as,bs,ok,hn,r1,r2,e1,e2,j,h1,h2 => by
  obtain ⟨v,vr,rfl,q1,q2⟩:=r1
  obtain ⟨u,ur,rfl,q3,q4⟩:=r2
  have ok : (okZ d && okZs ds) = true:=ok
  rw [Bool.and_eq_true] at ok
  have hn : max (Qjg d) (depZs ds) ≤ n:=hn
  cases e1 with
  | cons a1 a2 =>
   cases e2 with
   | cons b1 b2 =>
    cases j with
    | zero => exact Qjh I ex d n v u _ _ ok.1 (by omega) q1 q3 a1 b1
    | succ j => exact trees_Z I ex ds n vr ur _ _ ok.2 (by omega) q2 q4 a2 b2 j (Nat.lt_of_succ_lt_succ h1) (Nat.lt_of_succ_lt_succ h2)
end
end
section
variable {X : Cx} {ct : Nat → Addr}
end
section
variable {X : Cx} {ct : Nat → Addr} {W : WX} {a b : Expr} {f g : SE} {pos : Pos} {k : Nat}
end
end Ps
namespace Ps
open PySem PySem.Spec PyProof.Rows L2 PySem.W
section
variable {X : Cx} {ct : Nat → Addr} {W : WX} {pos p apos cpos : Pos} {x : Str}
end
section
variable {X : Cx} {ct : Nat → Addr} {W : WX} {f : SE} {a : Expr} {p pos kpos p2 : Pos} {j : Nat}
end
end Ps
namespace Ps
open PySem PySem.Spec PyProof.Rows L2
section
variable {X : Cx} {CX : CXT} {k : Nat} {f C : Addr} {fd : FuncData} {ps : List Str} {sp : Sp} {E : XK} {x : Str} {p pos : Pos} {e : Expr} {es : List Expr} {t : TA} {σ : L2.St}
end
section
variable {X : Cx} {ct : Nat → Addr} {W : WX} {e : Expr} {es : List Expr} {fs : SA} {p pos : Pos}
end
end Ps
namespace Ps
open PySem PySem.Spec PyProof.Rows L2
section
variable {X : Cx} {o : Expr} {p pos apos mpos : Pos} {td : TE}
end
section
variable {X : Cx} {ct : Nat → Addr} {W : WX} {o : Expr} {f : SE} {p pos apos mpos : Pos}
end
section
variable {X : Cx} {ct : Nat → Addr} {W : WX} {a b : Expr} {f g : SE} {pos : Pos}
end
end Ps
namespace Ps
open PySem PySem.Spec PyProof.Rows L2
section
variable {X : Cx} {ct : Nat → Addr} {W : WX} {K : PySem.W.Frag} {a : Expr} {f : SE} {pos p : Pos}
end
end Ps
namespace Ps
open PySem PySem.Spec PyProof.Rows L2
section
variable {P : Program} {w : World} {A : Around} {E : Value → Shared → Prop} {s : Shared}
end
section
variable {X : Cx} {a : Expr} {ta : TE} {p p2 q pos : Pos}
end
section
variable {X : Cx} {ct : Nat → Addr} {W : WX} {a : Expr} {f : SE} {p p2 q pos : Pos}
end
end Ps
namespace Ps
open PySem PySem.Spec PyProof.Rows L2
section
variable {X : Cx} {ct : Nat → Addr} {W : WX} {body su1 su2 : List Stmt} {b1 b2 : Stmt} {g gs1 gs2 : SS} {pos pos1 pos2 np1 np2 : Pos} {x1 x2 : Str}
end
end Ps
namespace Ps
open PySem PySem.Spec PyProof.Rows L2
section
variable {K : PySem.W.Frag} {ct : Nat → Addr} {F H : Hp} {env : En} {σ : L2.St}
end
end Ps
namespace Ps
open PySem PySem.Spec PyProof.Rows L2
section
variable {K : PySem.W.Frag} {ct : Nat → Addr}
end
section
variable {P : Program} {w : World} {K : PySem.W.Frag} {mg : Str → Option Value} {base : Heap} {ct : Nat → Addr}
end
end Ps
namespace Ps
open PySem PySem.Spec PyProof.Rows L2
section
variable {K : PySem.W.Frag} {ct : Nat → Addr}
end
section
variable {X : Cx} {ct : Nat → Addr} {W : WX} {e : Expr} {es : List Expr} {fs : SA} {pos pos' apos p : Pos} {pl : Sem Bool} {k j : Nat} {x nm : Str} {fa : Addr} {ms : List Bool} {m : List (Str × D) → D → D → List D → RI}
end
end Ps
namespace Ps
open PySem PySem.Spec PyProof.Rows L2
section
variable {X : Cx} {ct : Nat → Addr} {W : WX} {e : Expr} {f : SE} {pos p pa apos cpos : Pos}
end
end Ps
namespace Ps
open PySem PySem.Spec PyProof.Rows L2
section
variable {K : PySem.W.Frag} {ct : Nat → Addr} {F : Hp}
end
section
variable {X : Cx} {ct : Nat → Addr} {W : WX} {e : Expr} {f : SE} {pos pos' p : Pos}
end
end Ps
namespace Ps
open PySem PySem.Spec PyProof.Rows L2
section
variable {X : Cx} {ct : Nat → Addr} {W : WX} {o e : Expr} {f : SE} {pos pt py px pa : Pos}
end
end Ps
namespace Ps
open PySem PySem.Spec PyProof.Rows L2
section
variable {X : Cx} {ct : Nat → Addr} {W : WX} {e : Expr} {f : SE} {pos apos cpos : Pos}
end
end Ps
namespace Ps
open PySem PySem.Spec PyProof.Rows L2
section
variable {X : Cx} {ct : Nat → Addr} {W : WX} {K : PySem.W.Frag} {a : Expr} {f : SE} {pos p : Pos}
end
section
variable {K : PySem.W.Frag} {ct : Nat → Addr} {F H : Hp}
end
section
variable {X : Cx} {ct : Nat → Addr} {W : WX} {e e2 : Expr} {fs : SA} {O : OW} {p pos tpos : Pos} {elts : List Expr} {kk : Nat}
end
end Ps
namespace Ps
open PySem L2
open PySem.Spec PyProof.Rows
section
variable {X : Cx} {ct : Nat → Addr} {W : WX} {a b c : Expr} {f g h : SE} {pos : Pos} {op op' : CmpOp} {r r' : R2} {o1 o2 : D → D → Option D}
end
end Ps
namespace Ps
open PySem PySem.Spec PyProof.Rows L2
section
variable {X : Cx} {ct : Nat → Addr} {W : WX} {f g : SE} {k : Nat}
end
section
variable {X : Cx} {ct : Nat → Addr} {W : WX} {f g : SE} {o e : Expr} {pos apos : Pos}
end
end Ps
namespace Ps
open PySem PySem.Spec PyProof.Rows L2
section
variable {X : Cx} {ct : Nat → Addr} {W : WX} {e : Expr} {te : TE} {pos p2 p1 : Pos} {kk : Nat}
end
end Ps
namespace Ps
open PySem PySem.Spec PyProof.Rows L2
section
variable {K : PySem.W.Frag} {ct : Nat → Addr}
end
section
variable {X : Cx} {ct : Nat → Addr} {W : WX} {a b : Expr} {f g : SE} {pos : Pos} {k : Nat}
end
end Ps
namespace Ps
open PySem PySem.Spec PyProof.Rows L2
section
variable {X : Cx} {ct : Nat → Addr} {W : WX}
end
end Ps
namespace Ps
open PySem PySem.Spec PyProof.Rows L2
section
variable {X : Cx} {ct : Nat → Addr} {W : WX}
end
end Ps
namespace Ps
open PySem PySem.Spec PyProof.Rows L2
section
open PySem.W PySem.SeqAt
variable {prog : Program} {w : World} {K : Type} [DecidableEq K] {knd : HeapKind prog w K} {A : Around} {E : Value → Shared → Prop} {s : Shared}
end
section
variable {X : Cx}
end
section
variable {K : PySem.W.Frag} {ct : Nat → Addr} {F : Hp}
end
section
variable {X : Cx} {ct : Nat → Addr} {W : WX} {a b e : Expr} {f g : SE} {pos p : Pos} {k : Nat}
end
end Ps
namespace Ps
open PySem PySem.Spec PyProof.Rows L2
inductive RX where
 | ok (d : D) (e : En) | er (c : Nat) (fs : List (Str × D)) (e : En) | st
abbrev SX:=En → RX
section
variable (K : PySem.W.Frag) (ct : Nat → Addr) (W : WX)
def QmF (m : Bool) (F H : Hp) (d : D) (v : V) : Prop:=if m then RepB K ct F H d v else Rep K ct F d v
def QmG (m : Bool) (F H : Hp) (env : En) (σ : L2.St) (r : RX) (Q : VK) : Prop:=match r with
 | .ok d e => ∀ v F' H',Sx F H env σ F' H' e σ → EnvOk K ct F' H' e σ → QmF K ct m F' H' d v → Q v H'
 | .er c fs e => ∀ dx F' H',Sx F H env σ F' H' e σ → EnvOk K ct F' H' e σ → ExcOk K ct F' dx fs → W (.ref (ct c)) dx σ H'
 | .st => False
def tX (m : Bool) (f : SX) : TE:=fun σ H Q => ∃ env F,EnvOk K ct F H env σ ∧ QmG K ct W m F H env σ (f env) Q
end
section
variable {K : PySem.W.Frag} {ct : Nat → Addr} {W : WX} {F H F1 H1 : Hp} {env e1 : En} {σ : L2.St} {Q : VK} {m m1 : Bool}
end
section
variable {X : Cx} {ct : Nat → Addr} {W : WX} {a b e : Expr} {es : List Expr} {f g : SX} {pos p : Pos}
end
end Ps
namespace Ps
open PySem PySem.Spec PyProof.Rows L2
def dkR (d : D) (fs : List (Str × D)) : D:=.obj 77 [("v",d),("k",.obj 5 fs)]
section
variable (K : PySem.W.Frag) (ct : Nat → Addr) (W : WX)
end
section
variable {K : PySem.W.Frag} {ct : Nat → Addr} {W : WX} {F H F1 H1 : Hp} {env e1 : En} {σ σ1 : L2.St} {o : O} {Z : Ends}
end
section
variable {X : Cx} {ct : Nat → Addr} {W : WX} {st : Stmt} {rest body orelse : List Stmt} {a b e c iter tg : Expr} {f fi : SE} {x : SX} {g g2 : SS} {pos pos' p : Pos} {T : Tgt}
end
end Ps
namespace Ps
open PySem PySem.Spec PyProof.Rows L2
section
variable {X : Cx} {ct : Nat → Addr} {W : WX} {st : Stmt} {rest body orelse : List Stmt} {a b e c iter tg : Expr} {f fi : SE} {x : SX} {g g2 : SS} {pos pos' p : Pos} {T : Tgt}
end
inductive RK where
 | ok (d : D) (fs : List (Str × D)) | er (c : Nat) (fs : List (Str × D)) | st
section
variable (K : PySem.W.Frag) (ct : Nat → Addr)
end
section
variable {K : PySem.W.Frag} {ct : Nat → Addr} {F H : Hp} {env : En} {σ : L2.St}
end
section
variable {P : Program} {w : World} {K : PySem.W.Frag} {mg : Str → Option Value} {base : Heap} {ct : Nat → Addr}
end
end Ps
namespace Ps
open PySem PySem.Spec PyProof.Rows L2
def QmH (s : Option Sl) : Bool:=match s with
 | some (Sl.oo 5 _ []) => true
 | _ => false
section
variable {K : PySem.W.Frag} {ct : Nat → Addr} {W : WX} {F H : Hp} {env : En} {σ : L2.St} {i : Nat}
end
section
variable {X : Cx} {ct : Nat → Addr} {W : WX} {e : Expr} {es : List Expr} {f : SX} {fs : SA} {pos apos p : Pos} {pl : Sem Bool} {k j n : Nat} {x nm : Str} {fa : Addr} {m : List (Str × D) → List D → RK}
end
section
variable {K : PySem.W.Frag} {ct : Nat → Addr} {F H : Hp} {env : En} {σ : L2.St} {i : Nat}
end
section
variable {X : Cx} {ct : Nat → Addr} {W : WX} {e : Expr} {f : SE} {pos pos' p p' : Pos}
end
section
variable {X : Cx} {ct : Nat → Addr} {W : WX} {pos pos' pos2 p : Pos}
end
end Ps
namespace Ps
open PySem PySem.Spec PyProof.Rows L2
section
variable {X : Cx} {K : PySem.W.Frag} {ct : Nat → Addr} {W : WX} {a e o : Expr} {f g : SE} {pos p apos : Pos}
end
section
variable {X : Cx} {ct : Nat → Addr} {W : WX} {body orelse : List Stmt} {e c : Expr} {x : SX} {g g2 : SS} {pos : Pos}
end
section
variable {X : Cx} {ct : Nat → Addr} {W : WX} {body : List Stmt} {iter tg : Expr} {x : SX} {g : SS} {pos : Pos} {T : Tgt}
def tIX (K : PySem.W.Frag) (ct : Nat → Addr) (W : WX) (f : SX) : TI:=fun σ H R => ∃ env F,EnvOk K ct F H env σ ∧ match f env with
 | .ok (.lst ds) e => ∀ J F' H',Sx F H env σ F' H' e σ → EnvOk K ct F' H' e σ → ItOk K ct J ds (ZH e σ) F' H' → R J H'
 | .ok _ _ => False
 | .er c fs e => ∀ dx F' H',Sx F H env σ F' H' e σ → EnvOk K ct F' H' e σ → ExcOk K ct F' dx fs → W (.ref (ct c)) dx σ H'
 | .st => False
theorem ix_list (he : PE X iter (tX X.K ct W false x)) : PI X tg iter (tIX X.K ct W x):=by
 refine (pi_list he).imp fun σ H R ⟨env,F,E,h⟩ => ?_
 refine ⟨env,F,E,?_⟩
 cases q : x env with
 | er c fs e => rw [q] at h; exact h
 | st => rw [q] at h; exact h
 | ok d e =>
  rw [q] at h
  cases d <;> first | exact h.elim | skip
  rename_i ds
  intro v F1 H1 g1 E1 r1
  obtain ⟨a,vs,rfl,h1,h2⟩:=(show Rep X.K ct F1 (.lst ds) v from r1)
  refine ⟨a,rfl,⟨vs,SqL.of (E1.ex _ _ h1)⟩,h _ F1 H1 g1 E1 (Qc3 (fun H2 k => SqL.of (k a _ (E1.ex _ _ h1) fun z => ?_)) h2)⟩
  have:=(JN E1 z).1
  rw [h1] at this; cases this
end
end Ps
namespace L2
open PySem PySem.Spec
open PyProof.Rows
section
variable {X : Cx} {x x2 n : Str} {c c2 : Value} {i : Nat} {body suite suite2 : List Stmt} {b₀ b2 : Stmt} {np np2 pos pos' pos2 : Pos} {tb : WX → TS} {ts ts2 : Addr → TS} {Wout : WX}
end
end L2
namespace Ps
open PySem PySem.Spec PyProof.Rows L2
section
variable {X : Cx} {ct : Nat → Addr} {W : WX} {a b e : Expr} {f g : SX} {pos p : Pos} {k : Nat}
end
section
variable {X : Cx} {ct : Nat → Addr} {W : WX} {body su1 su2 : List Stmt} {b1 b2 : Stmt} {g gs1 gs2 : SS} {pos pos1 pos2 np1 np2 : Pos} {x1 x2 n : Str}
end
end Ps
namespace Ps
open PySem PySem.Spec PyProof.Rows L2
section
variable {X : Cx} {ct : Nat → Addr} {W : WX} {e b1 b2 b3 : Expr} {f : SE} {pos p p2 : Pos}
end
end Ps
namespace Ps
open PySem PySem.Spec PyProof.Rows L2
section
variable {X : Cx} {ct : Nat → Addr} {W : WX} {pos p1 p2 p3 q1 q2 q3 : Pos} {j1 j2 j3 l1 l2 l3 : Nat}
end
end Ps
namespace Ps
open PySem PySem.Spec PyProof.Rows L2
section
variable {K : PySem.W.Frag} {ct : Nat → Addr} {F H : Hp} {env : En} {σ : L2.St} {i g : Nat}
end
section
variable {X : Cx} {ct : Nat → Addr} {W : WX} {f fk fv : SE}
end
end Ps
namespace Ps
open PySem PySem.Spec PyProof.Rows L2
theorem DGet.le {H H' : Hp} (e : Le H H') {a : Addr} {y : V} {r : Option V} (h : DGet H a y r) : DGet H' a y r:=by
 rcases h with ⟨kvs,k,h1,h2,h3⟩ | ⟨kvs,k,b,h1,h2,h3,h4⟩
 ·exact .inl ⟨kvs,k,e.rd _ _ (fun _ _ z => nomatch z) h1,h2,h3⟩
 ·exact .inr ⟨kvs,k,b,e.rd _ _ (fun _ _ z => nomatch z) h1,h2,e.t _ _ h3,h4⟩
section
variable {K : PySem.W.Frag} {ct : Nat → Addr} {F H : Hp} {env : En} {σ : L2.St}
end
section
variable {X : Cx} {ct : Nat → Addr} {W : WX}
variable {elt : Expr} {ifs : List Expr} {scope : Scope} {pos p p' p1 apos cpos tpos : Pos} {g : TG} {T : Tgt} {ft fe : SE} {x y : Str} {elts : List Expr} {kk : Nat}
end
section
variable {K : PySem.W.Frag} {ct : Nat → Addr}
end
section
variable {X : Cx} {ct : Nat → Addr} {W : WX} {a b : Expr} {f g : SE} {pos : Pos}
end
end Ps
namespace Ps
open PySem PySem.Spec PyProof.Rows L2
def mNI (K : PySem.W.Frag) (ct : Nat → Addr) : Md:=fun H F' H' d v => mN K ct H F' H' d v ∧ ∀ p vs,v = .ref p → H' p = some (.lst vs) → ∀ u ∈ vs,∃ c,u = V.ref c ∧ H c = none
section
variable {X : Cx} {ct : Nat → Addr} {W : WX} {elt tg iter : Expr} {ifs : List Expr} {scope : Scope} {own : List (Str × Nat)} {pos : Pos} {g : TG} {T : Tgt} {fi ft fe : SE}
theorem QmI (hT : Qcv X.K ct g T) (hsub : ∀ i ∈ QaV T,i ∈ own.map (·.2)) {σ : L2.St} {H : Hp} {Q : VK} (h : tM X.K ct W (mNI X.K ct) (Zg T (own.map (·.2)) fi ft fe) σ H Q) :
  tLc (tI X.K ct W O0 fi) g (TT1 X.K ct W0 ft) (EN X.K ct W0 fe) (own.map (·.2)) σ H Q:=by
 obtain ⟨env,F,E,h⟩:=h
 refine ⟨env,F,E,?_⟩
 unfold Zg at h
 cases q : fi env with
 | er c fs => rw [q] at h; exact h
 | st => rw [q] at h; exact h.elim
 | ok d =>
  rw [q] at h
  cases d <;> first | exact h.elim | skip
  rename_i ds
  intro J F1 H1 g1 hJ D0 hD
  have h : Fin X.K ct W (mNI X.K ct) F H σ (if ds.length < sizeLine ∧ JQ env (own.map (·.2)) = true then (match ZS T (Qac env (own.map (·.2))) ft fe ds with | some r => .ok (.lst r) | none => .st) else .st) Q:=h
  split at h
  ·rename_i hc
   cases q2 : ZS T (Qac env (own.map (·.2))) ft fe ds with
   | none => rw [q2] at h; exact h.elim
   | some r =>
    rw [q2] at h
    obtain ⟨G,Y,w,hG,hY⟩:=hJ
    have E1:=E.gr g1
    have hDH : H D0 = none:=Ex.free g1.h hD
    refine lc_it w (fun i H' => ∃ F' acc vs rest,Gr F1 H1 F' H' ∧ F' D0 = none ∧ H' D0 = some (.lst vs) ∧ Reps X.K ct F' acc vs ∧ acc.length ≤ i ∧ ZS T (Qac env (own.map (·.2))) ft fe (ds.drop i) = some rest ∧ r = acc ++ rest ∧ ∀ u ∈ vs,∃ c,u = V.ref c ∧ H c = none)
     ⟨F1,[],[],r,Gr.own E1.ex hD,Ex.free E1.ex hD,upd_same,rfl,Nat.le_refl _,q2,rfl,fun _ z => nomatch z⟩ (fun i H' hi p => ?_) (fun i x H2 H2' hi p y => ?_) fun H' p => ?_
    ·obtain ⟨F',acc,vs,rest,g2,_⟩:=p
     exact hG H' fun b o q _ => g2.h b o q
    ·obtain ⟨F',acc,vs,rest,g2,hF0,hl,hr,hal,hcl,hre,hnw⟩:=p
     have hd : ds[i]? = some ds[i]:=by simp [hi]
     obtain ⟨F3,g3,r3⟩:=hY i ds[i] F' H2 x H2' hd g2.f g2.e y
     rw [List.drop_eq_getElem_cons hi] at hcl
     obtain ⟨e,hb,hcase⟩:=QcR hcl
     have g23:=g2.trans g3
     have Ew:=QdH (own.map (·.2)) (E1.gr g23) hc.2
     have hD3 : F3 D0 = none:=g3.none hF0 hl
     refine hT x _ F3 H2' _ e ds[i] _ Ew r3 hb fun σ2 E2 _ k2 l2 => ⟨Qd0 l2 fun k hk => k2 k fun z => hk (hsub k z),?_⟩
     refine QbB (C:=True) E2 (fun b hb F4 H4 g4 E4 => ?_) (fun c fs z => ?_) (fun n1 n2 => ?_)
     ·have g24:=g23.trans g4
      have hl4 : H4 D0 = some (.lst vs):=g4.h _ _ (g3.h _ _ hl)
      have hD4 : F4 D0 = none:=g4.none hD3 (g3.h _ _ hl)
      rcases hcase with ⟨hft,xx,r',hfe,hcl',rfl⟩ | ⟨hft,hcl'⟩
      ·rw [hft] at hb; cases hb
       refine ⟨e,F4,E4,?_⟩
       rw [hfe]
       intro v F5 H5 g5 r5
       obtain ⟨p,rfl,hp,ho⟩:=r5
       obtain ⟨o,oo⟩:=ho.there
       have g5' : Gr F4 H4 (upd F5 p o) H5:=g5.share E4.ex hp oo
       have hl5 : H5 D0 = some (.lst vs):=g5.h _ _ hl4
       have hD5 : upd F5 p o D0 = none:=g5'.none hD4 hl4
       have g25:=g24.trans g5'
       have hrep : Reps X.K ct (upd F5 p o) acc vs:=Reps.mono (Ex.le ((g3.f.trans g4.f).trans g5'.f)) _ _ hr
       have hpH : H p = none:=Ex.free (g1.h.trans g24.h) hp
       refine ⟨vs,hl5,by rw [hr.length]; omega,upd F5 p o,acc ++ [xx],vs ++ [.ref p],r',⟨g25.f,fun a o z => by rw [upd_ne (ne_of_none z hD)]; exact g25.h a o z,fun a o z => by rw [upd_ne (ne_of_none z hD5)]; exact g25.e a o z,g25.n⟩,hD5,upd_same,hrep.append (Reps.one (ho.freeze oo)),by simp; omega,hcl',by rw [hre]; simp,fun u hu => ?_⟩
       rcases List.mem_append.mp hu with hu | hu
       ·exact hnw u hu
       ·exact ⟨p,List.mem_singleton.mp hu,hpH⟩
      ·rw [hft] at hb; cases hb
       exact ⟨F4,acc,vs,rest,g24,hD4,hl4,Reps.mono (Ex.le (g3.f.trans g4.f)) _ _ hr,by omega,hcl',hre,hnw⟩
     ·rcases hcase with ⟨hft,_⟩ | ⟨hft,_⟩ <;> (rw [hft] at z; cases z)
     ·rcases hcase with ⟨hft,_⟩ | ⟨hft,_⟩ <;> exact n1 _ hft
    ·obtain ⟨F',acc,vs,rest,g2,hF0,hl,hr,hal,hcl,hre,hnw⟩:=p
     rw [List.drop_length] at hcl
     cases hcl
     rw [List.append_nil] at hre
     subst hre
     exact h _ F' H' (g1.trans g2) ⟨⟨D0,rfl,hDH,hF0,vs,hl,hr⟩,fun p vs' e1 e2 => by cases e1; rw [hl] at e2; cases e2; exact hnw⟩
  ·exact h.elim
theorem QhC (own : List (Str × Nat)) {js : List Nat} (hj : own.map (·.2) = js) (hc : X.calm = true) (hN : X.N.Nodup) (hi : PI X tg iter (tI X.K ct W O0 fi)) (ok : BlkOk X.N X.env.scope scope own)
  (hg : ∀ (s : Shared) (H : Hp) (C : Addr) (cl : List (Str × Addr)) (fp : List Addr),PG (X.blk s H scope (compEnvC scope cl C X.env) fp) tg g) (hT : Qcv X.K ct g T) (hsub : ∀ i ∈ QaV T,i ∈ js)
  (ht : ∀ (s : Shared) (H : Hp) (C : Addr) (cl : List (Str × Addr)) (fp : List Addr),PTs (X.blk s H scope (compEnvC scope cl C X.env) fp) ifs (TT1 X.K ct W0 ft))
  (he : ∀ (s : Shared) (H : Hp) (C : Addr) (cl : List (Str × Addr)) (fp : List Addr),PE (X.blk s H scope (compEnvC scope cl C X.env) fp) elt (EN X.K ct W0 fe)) (hs : ∀ x,foldedSetIterable iter X.env x = pure x:=by intro _; rfl) :
  PE X (.ListComp elt [⟨tg,iter,ifs,0⟩] scope pos) (tM X.K ct W (mNI X.K ct) (Zg T js fi ft fe)):=by
 subst hj
 exact (pe_lc hc hN hi ok hg ht he hs).imp fun _ _ _ h => QmI hT hsub h
end
mutual
def Qz : D → Bool
 | .lst ds => plainL ds
 | .tup ds => plainL ds
 | .obj _ fs => plainF fs
 | .scr _ => false
 | .rd _ => false
 | .dk _ => false
 | .dt _ => false
 | .exo _ _ => false
 | .non => true
 | .bl _ => true
 | .int _ => true
 | .str _ => true
def plainL : List D → Bool
 | [] => true
 | d :: ds => Qz d && plainL ds
def plainF : List (Str × D) → Bool
 | [] => true
 | (_,d) :: ds => Qz d && plainF ds
end
structure Er (F F' : Hp) : Prop where
 l : ∀ a vs,F a = some (.lst vs) → F' a = some (.lst vs)
 t : ∀ a vs,F a = some (.tup vs) → F' a = some (.tup vs)
 i : ∀ a C dx fs,F a = some (.ins C dx fs) → F' a = some (.ins C dx fs)
section
variable {K : PySem.W.Frag} {ct : Nat → Addr} {F F' : Hp}
mutual
theorem Rep.er (e : Er F F') : ∀ (d : D) (v : V),Qz d = true → Rep K ct F d v → Rep K ct F' d v
 | .non,_,_,h => h
 | .bl _,_,_,h => h
 | .int _,_,_,h => h
 | .str _,_,_,h => h
 | .lst ds,v,p,h => by
  obtain ⟨a,vs,e1,e2,e3⟩:=h
  exact ⟨a,vs,e1,e.l _ _ e2,Reps.er e ds vs (by simpa [Qz] using p) e3⟩
 | .tup ds,v,p,h => by
  obtain ⟨a,vs,e1,e2,e3⟩:=h
  exact ⟨a,vs,e1,e.t _ _ e2,Reps.er e ds vs (by simpa [Qz] using p) e3⟩
 | .obj c fs,v,p,h => by
  obtain ⟨a,dx,fvs,e1,e2,en,e3⟩:=h
  exact ⟨a,dx,fvs,e1,e.i _ _ _ _ e2,en,RepF.er e fs fvs (by simpa [Qz] using p) e3⟩
 | .scr _,_,p,_ => by simp [Qz] at p
 | .rd _,_,p,_ => by simp [Qz] at p
 | .dk _,_,p,_ => by simp [Qz] at p
 | .dt _,_,p,_ => by simp [Qz] at p
 | .exo _ _,_,p,_ => by simp [Qz] at p
theorem Reps.er (e : Er F F') : ∀ (ds : List D) (vs : List V),plainL ds = true → Reps K ct F ds vs → Reps K ct F' ds vs
 | [],_,_,h => h
 | d :: ds,vs,p,h => by
  obtain ⟨v,r,e1,e2,e3⟩:=h
  have p : Qz d = true ∧ plainL ds = true:=by simpa [plainL] using p
  exact ⟨v,r,e1,Rep.er e d v p.1 e2,Reps.er e ds r p.2 e3⟩
theorem RepF.er (e : Er F F') : ∀ (fs : List (Str × D)) (fvs : List (Str × V)),plainF fs = true → RepF K ct F fs fvs → RepF K ct F' fs fvs
 | [],_,_,_ => True.intro
 | (f,d) :: fs,fvs,p,h => by
  obtain ⟨⟨v,e1,e2⟩,e3⟩:=h
  have p : Qz d = true ∧ plainF fs = true:=by simpa [plainF] using p
  exact ⟨⟨v,e1,Rep.er e d v p.1 e2⟩,RepF.er e fs fvs p.2 e3⟩
end
end
end Ps
namespace Ps
open PySem PySem.Spec PyProof.Rows L2
mutual
def QS : D → Bool
 | .tup ds => plainTs ds
 | .non => true
 | .bl _ => true
 | .int _ => true
 | .str _ => true
 | .lst _ => false
 | .obj _ _ => false
 | .scr _ => false
 | .rd _ => false
 | .dk _ => false
 | .dt _ => false
 | .exo _ _ => false
def plainTs : List D → Bool
 | [] => true
 | d :: ds => QS d && plainTs ds
end
section
variable {K : PySem.W.Frag} {ct : Nat → Addr} {F F' : Hp}
mutual
theorem Rep.tu (e : ∀ a vs,F a = some (.tup vs) → F' a = some (.tup vs)) : ∀ (d : D) (v : V),QS d = true → Rep K ct F d v → Rep K ct F' d v
 | .non,_,_,h => h
 | .bl _,_,_,h => h
 | .int _,_,_,h => h
 | .str _,_,_,h => h
 | .tup ds,v,p,h => by
  obtain ⟨a,vs,e1,e2,e3⟩:=h
  exact ⟨a,vs,e1,e _ _ e2,Reps.tu e ds vs (by simpa [QS] using p) e3⟩
 | .lst _,_,p,_ => by simp [QS] at p
 | .obj _ _,_,p,_ => by simp [QS] at p
 | .scr _,_,p,_ => by simp [QS] at p
 | .rd _,_,p,_ => by simp [QS] at p
 | .dk _,_,p,_ => by simp [QS] at p
 | .dt _,_,p,_ => by simp [QS] at p
 | .exo _ _,_,p,_ => by simp [QS] at p
theorem Reps.tu (e : ∀ a vs,F a = some (.tup vs) → F' a = some (.tup vs)) : ∀ (ds : List D) (vs : List V),plainTs ds = true → Reps K ct F ds vs → Reps K ct F' ds vs
 | [],_,_,h => h
 | d :: ds,vs,p,h => by
  obtain ⟨v,r,e1,e2,e3⟩:=h
  have p : QS d = true ∧ plainTs ds = true:=by simpa [plainTs] using p
  exact ⟨v,r,e1,Rep.tu e d v p.1 e2,Reps.tu e ds r p.2 e3⟩
end
end
structure Gv (K : PySem.W.Frag) (ct : Nat → Addr) (F H F3 H4 : Hp) (a b c0 : List D) (cs : List (List D)) (G p1 p2 p3 q : Addr) (va vb vs vq : List V) : Prop where
 gr : Gr F H F3 H4
 g0 : H G = none
 gF : F3 G = none
 gH : H4 G = some (.lst [.ref p1,.ref p2,.ref p3])
 h1 : H p1 = none
 f1 : F3 p1 = none
 k1 : H4 p1 = some (.lst va)
 r1 : Reps K ct F3 a va
 h2 : H p2 = none
 f2 : F3 p2 = none
 k2 : H4 p2 = some (.lst vb)
 r2 : Reps K ct F3 b vb
 h3 : H p3 = none
 f3 : F3 p3 = none
 k3 : H4 p3 = some (.lst (.ref q :: vs))
 r3 : Reps K ct F3 (cs.map D.lst) vs
 hq : H q = none
 fq : F3 q = some (.lst vq)
 rq : Reps K ct F3 c0 vq
 n12 : p1 ≠ p2
 n13 : p1 ≠ p3
 n23 : p2 ≠ p3
 nG1 : G ≠ p1
 nG2 : G ≠ p2
 nG3 : G ≠ p3
 nGq : G ≠ q
 nq1 : q ≠ p1
 nq2 : q ≠ p2
 nq3 : q ≠ p3
section
variable {X : Cx} {ct : Nat → Addr} {W : WX} {e1 e2 e3 : Expr} {f1 f2 f3 : SE} {pl : Pos}
def tGv (K : PySem.W.Frag) (ct : Nat → Addr) (f1 f2 f3 : SE) : TE:=fun σ H Q => ∃ env F,EnvOk K ct F H env σ ∧ ∃ a b c0 cs,f1 env = .ok (.lst a) ∧ f2 env = .ok (.lst b) ∧ f3 env = .ok (.lst (.lst c0 :: cs.map D.lst)) ∧
 ∀ F3 H4 G p1 p2 p3 q va vb vs vq,Gv K ct F H F3 H4 a b c0 cs G p1 p2 p3 q va vb vs vq → Q (.ref G) H4
theorem QkX (he1 : PE X e1 (EN X.K ct W f1)) (he2 : PE X e2 (EN X.K ct W f2)) (he3 : PE X e3 (tM X.K ct W (mNI X.K ct) f3)) (s1 : starEach (e1 :: [e2,e3]) X.env = (false,eval e1 X.env) :: starEach [e2,e3] X.env:=by rfl) (s2 : starEach (e2 :: [e3]) X.env = (false,eval e2 X.env) :: starEach [e3] X.env:=by rfl)
  (s3 : starEach (e3 :: []) X.env = (false,eval e3 X.env) :: starEach [] X.env:=by rfl) : PE X (.List [e1,e2,e3] pl) (tGv X.K ct f1 f2 f3):=by
 refine (pe_lst (pa_cons he1 (pa_cons he2 (pa_cons he3 pa_nil s3) s2) s1)).imp fun σ H Q ⟨env,F,E,a,b,c0,cs,q1,q2,q3,h⟩ => ?_
 refine ⟨env,F,E,?_⟩
 rw [q1]
 rintro v1 F1 H1 g1 ⟨p1,rfl,hp1,fp1,va,kp1,ra⟩
 refine ⟨env,F1,E.gr g1,?_⟩
 rw [q2]
 rintro v2 F2 H2 g2 ⟨p2,rfl,hp2,fp2,vb,kp2,rb⟩
 refine ⟨env,F2,(E.gr g1).gr g2,?_⟩
 rw [q3]
 rintro v3 F3 H3 g3 ⟨⟨p3,rfl,hp3,fp3,vs3,kp3,r3⟩,hnew⟩
 obtain ⟨v,vs,rfl,rv,rs⟩:=r3
 obtain ⟨q,vq,rfl,fq,rq⟩:=rv
 obtain ⟨c,ec,hc⟩:=hnew p3 _ rfl kp3 (.ref q) List.mem_cons_self
 cases ec
 refine ⟨by show 3 ≤ sizeLine; rw [sizeLine_eq]; decide,fun G hG => ?_⟩
 have g23:=g2.trans g3
 have g123:=g1.trans g23
 have k1 : H3 p1 = some (.lst va):=g23.h _ _ kp1
 have k2 : H3 p2 = some (.lst vb):=g3.h _ _ kp2
 have kq : H3 q = some (.lst vq):=g3.e _ _ fq
 have ne : ∀ {x : Addr} {o : HO},H3 x = some o → G ≠ x:=fun {x o} hx z => by subst z; rw [hG] at hx; cases hx
 have un : ∀ {x : Addr} {o : HO},H3 x = some o → upd H3 G (.lst [.ref p1,.ref p2,.ref p3]) x = some o:=fun {x o} hx => by rw [upd_ne (Ne.symm (ne hx))]; exact hx
 have f1' : F3 p1 = none:=g23.none fp1 kp1
 have f2' : F3 p2 = none:=g3.none fp2 kp2
 have nf : ∀ {x : Addr},F3 x = none → q ≠ x:=fun {x} hx z => by subst z; rw [fq] at hx; cases hx
 exact h F3 _ G p1 p2 p3 q va vb vs vq {
  gr:=g123.trans (Gr.own g3.e hG)
  g0:=Ex.free g123.h hG
  gF:=Ex.free g3.e hG
  gH:=upd_same
  h1:=hp1
  f1:=f1'
  k1:=un k1
  r1:=Reps.mono (Ex.le g23.f) _ _ ra
  h2:=Ex.free g1.h hp2
  f2:=f2'
  k2:=un k2
  r2:=Reps.mono (Ex.le g3.f) _ _ rb
  h3:=Ex.free (g1.trans g2).h hp3
  f3:=fp3
  k3:=un kp3
  r3:=rs
  hq:=Ex.free (g1.trans g2).h hc
  fq:=fq
  rq:=rq
  n12:=fun z => by subst z; rw [kp1] at hp2; cases hp2
  n13:=fun z => by subst z; rw [g2.h _ _ kp1] at hp3; cases hp3
  n23:=fun z => by subst z; rw [kp2] at hp3; cases hp3
  nG1:=ne k1
  nG2:=ne k2
  nG3:=ne kp3
  nGq:=ne kq
  nq1:=nf f1'
  nq2:=nf f2'
  nq3:=nf fp3 }
end
section
variable {K : PySem.W.Frag} {ct : Nat → Addr} {F H F3 H4 : Hp} {a b c0 : List D} {cs : List (List D)} {G p1 p2 p3 q : Addr} {va vb vs vq : List V}
def lk4 (B : Hp) (q p1 p2 p3 : Addr) (oq o1 o2 o3 : HO) : Hp:=upd (upd (upd (upd B q oq) p1 o1) p2 o2) p3 o3
theorem QgD {B : Hp} {q p1 p2 p3 : Addr} {oq o1 o2 o3 : HO} (n1 : q ≠ p1) (n2 : q ≠ p2) (n3 : q ≠ p3) : lk4 B q p1 p2 p3 oq o1 o2 o3 q = some oq:=by
 unfold lk4; rw [upd_ne n3,upd_ne n2,upd_ne n1,upd_same]
theorem QgE {B : Hp} {oq o1 o2 o3 : HO} (n12 : p1 ≠ p2) (n13 : p1 ≠ p3) : lk4 B q p1 p2 p3 oq o1 o2 o3 p1 = some o1:=by
 unfold lk4; rw [upd_ne n13,upd_ne n12,upd_same]
theorem QgF {B : Hp} {oq o1 o2 o3 : HO} (n23 : p2 ≠ p3) : lk4 B q p1 p2 p3 oq o1 o2 o3 p2 = some o2:=by
 unfold lk4; rw [upd_ne n23,upd_same]
theorem QgG {B : Hp} {oq o1 o2 o3 : HO} : lk4 B q p1 p2 p3 oq o1 o2 o3 p3 = some o3:=by
 unfold lk4; rw [upd_same]
theorem Qcc {B : Hp} {oq o1 o2 o3 : HO} {x : Addr} (nq : x ≠ q) (n1 : x ≠ p1) (n2 : x ≠ p2) (n3 : x ≠ p3) : lk4 B q p1 p2 p3 oq o1 o2 o3 x = B x:=by
 unfold lk4; rw [upd_ne n3,upd_ne n2,upd_ne n1,upd_ne nq]
theorem QkY {P : Addr → Prop} (x q p1 p2 p3 : Addr) (hq : P q) (h1 : P p1) (h2 : P p2) (h3 : P p3) (h : x ≠ q → x ≠ p1 → x ≠ p2 → x ≠ p3 → P x) : P x:=by
 by_cases z0 : x = q
 ·rw [z0]; exact hq
 by_cases z1 : x = p1
 ·rw [z1]; exact h1
 by_cases z2 : x = p2
 ·rw [z2]; exact h2
 by_cases z3 : x = p3
 ·rw [z3]; exact h3
 exact h z0 z1 z2 z3
def rdG (a b c0 : List D) (cs : List (List D)) : D:=.lst [.rd a,.rd b,.rd (.rd c0 :: cs.map D.rd)]
theorem Qfz {F' : Hp} (eT : ∀ a vs,F3 a = some (.tup vs) → F' a = some (.tup vs)) (eL : ∀ a vs,F3 a = some (.lst vs) → Rd F' a (.lst vs)) : ∀ {cs : List (List D)} {vs : List V},cs.all plainTs = true → Reps K ct F3 (cs.map D.lst) vs → Reps K ct F' (cs.map D.rd) vs
 | [],_,_,h => h
 | c :: cs,vs,p,h => by
  obtain ⟨v,r,e1,⟨x,us,e2,e3,e4⟩,e5⟩:=h
  rw [List.all_cons,Bool.and_eq_true] at p
  exact ⟨v,r,e1,⟨x,us,e2,eL _ _ e3,Reps.tu eT _ _ p.1 e4⟩,Qfz eT eL p.2 e5⟩
theorem Gv.lk (ex : Ex F H) (g : Gv K ct F H F3 H4 a b c0 cs G p1 p2 p3 q va vb vs vq) (pa : plainTs a = true) (pb : plainTs b = true) (pc : plainTs c0 = true) (pcs : cs.all plainTs = true) (oq o1 o2 o3 : Obj) :
  Gr F H (upd (lk4 F3 q p1 p2 p3 (.frz oq (.lst vq)) (.frz o1 (.lst va)) (.frz o2 (.lst vb)) (.frz o3 (.lst (.ref q :: vs)))) G (.lst [.ref p1,.ref p2,.ref p3])) (lk4 H4 q p1 p2 p3 (.frz oq (.lst vq)) (.frz o1 (.lst va)) (.frz o2 (.lst vb)) (.frz o3 (.lst (.ref q :: vs)))) ∧
  Rep K ct (upd (lk4 F3 q p1 p2 p3 (.frz oq (.lst vq)) (.frz o1 (.lst va)) (.frz o2 (.lst vb)) (.frz o3 (.lst (.ref q :: vs)))) G (.lst [.ref p1,.ref p2,.ref p3])) (rdG a b c0 cs) (.ref G):=by
 have eF : ∀ x,x ≠ q → x ≠ p1 → x ≠ p2 → x ≠ p3 → x ≠ G → upd (lk4 F3 q p1 p2 p3 (.frz oq (.lst vq)) (.frz o1 (.lst va)) (.frz o2 (.lst vb)) (.frz o3 (.lst (.ref q :: vs)))) G (.lst [.ref p1,.ref p2,.ref p3]) x = F3 x:=fun x z0 z1 z2 z3 z4 => by rw [upd_ne z4,Qcc z0 z1 z2 z3]
 have fr : ∀ {x : Addr} {o : HO},H x = some o → x ≠ q ∧ x ≠ p1 ∧ x ≠ p2 ∧ x ≠ p3 ∧ x ≠ G:=fun {x o} hx =>
  ⟨(fun z => by subst z; rw [g.hq] at hx; cases hx),(fun z => by subst z; rw [g.h1] at hx; cases hx),(fun z => by subst z; rw [g.h2] at hx; cases hx),(fun z => by subst z; rw [g.h3] at hx; cases hx),(fun z => by subst z; rw [g.g0] at hx; cases hx)⟩
 have cq:=QgD (B:=F3) (oq:=.frz oq (.lst vq)) (o1:=.frz o1 (.lst va)) (o2:=.frz o2 (.lst vb)) (o3:=.frz o3 (.lst (.ref q :: vs))) g.nq1 g.nq2 g.nq3
 have c1:=QgE (B:=F3) (q:=q) (oq:=.frz oq (.lst vq)) (o1:=.frz o1 (.lst va)) (o2:=.frz o2 (.lst vb)) (o3:=.frz o3 (.lst (.ref q :: vs))) g.n12 g.n13
 have c2:=QgF (B:=F3) (q:=q) (p1:=p1) (oq:=.frz oq (.lst vq)) (o1:=.frz o1 (.lst va)) (o2:=.frz o2 (.lst vb)) (o3:=.frz o3 (.lst (.ref q :: vs))) g.n23
 have c3:=QgG (B:=F3) (q:=q) (p1:=p1) (p2:=p2) (p3:=p3) (oq:=.frz oq (.lst vq)) (o1:=.frz o1 (.lst va)) (o2:=.frz o2 (.lst vb)) (o3:=.frz o3 (.lst (.ref q :: vs)))
 have eT : ∀ x us,F3 x = some (.tup us) → upd (lk4 F3 q p1 p2 p3 (.frz oq (.lst vq)) (.frz o1 (.lst va)) (.frz o2 (.lst vb)) (.frz o3 (.lst (.ref q :: vs)))) G (.lst [.ref p1,.ref p2,.ref p3]) x = some (.tup us):=fun x us hx => by
  rw [eF x (fun z => by subst z; rw [g.fq] at hx; cases hx) (fun z => by subst z; rw [g.f1] at hx; cases hx) (fun z => by subst z; rw [g.f2] at hx; cases hx) (fun z => by subst z; rw [g.f3] at hx; cases hx) (fun z => by subst z; rw [g.gF] at hx; cases hx)]
  exact hx
 have eL : ∀ x us,F3 x = some (.lst us) → Rd (upd (lk4 F3 q p1 p2 p3 (.frz oq (.lst vq)) (.frz o1 (.lst va)) (.frz o2 (.lst vb)) (.frz o3 (.lst (.ref q :: vs)))) G (.lst [.ref p1,.ref p2,.ref p3])) x (.lst us):=fun x us hx => by
  by_cases z : x = q
  ·subst z
   rw [g.fq] at hx; cases hx
   exact .inr ⟨oq,by rw [upd_ne (Ne.symm g.nGq)]; exact cq⟩
  ·exact .inl (by rw [eF x z (fun z => by subst z; rw [g.f1] at hx; cases hx) (fun z => by subst z; rw [g.f2] at hx; cases hx) (fun z => by subst z; rw [g.f3] at hx; cases hx) (fun z => by subst z; rw [g.gF] at hx; cases hx)]; exact hx)
 refine ⟨⟨fun x o hx => ?_,fun x o hx => ?_,fun x o hx => ?_,fun x o hx => ?_⟩,?_⟩
 ·obtain ⟨z0,z1,z2,z3,z4⟩:=fr (ex x o hx)
  rw [eF x z0 z1 z2 z3 z4]; exact g.gr.f x o hx
 ·obtain ⟨z0,z1,z2,z3,_⟩:=fr hx
  rw [Qcc z0 z1 z2 z3]; exact g.gr.h x o hx
 ·by_cases zG : x = G
  ·subst zG
   rw [upd_same] at hx
   rw [Qcc g.nGq g.nG1 g.nG2 g.nG3,g.gH]; exact hx
  ·rw [upd_ne zG] at hx
   revert hx
   refine QkY (P:=fun x => lk4 F3 q p1 p2 p3 (.frz oq (.lst vq)) (.frz o1 (.lst va)) (.frz o2 (.lst vb)) (.frz o3 (.lst (.ref q :: vs))) x = some o → lk4 H4 q p1 p2 p3 (.frz oq (.lst vq)) (.frz o1 (.lst va)) (.frz o2 (.lst vb)) (.frz o3 (.lst (.ref q :: vs))) x = some o) x q p1 p2 p3 ?_ ?_ ?_ ?_ ?_
   ·rw [cq,QgD g.nq1 g.nq2 g.nq3]; exact id
   ·rw [c1,QgE g.n12 g.n13]; exact id
   ·rw [c2,QgF g.n23]; exact id
   ·rw [c3,QgG]; exact id
   ·intro z0 z1 z2 z3
    rw [Qcc z0 z1 z2 z3,Qcc z0 z1 z2 z3]; exact g.gr.e x o
 ·by_cases zG : x = G
  ·subst zG; exact .inr g.g0
  ·rw [upd_ne zG] at hx
   revert hx
   refine QkY (P:=fun x => lk4 F3 q p1 p2 p3 (.frz oq (.lst vq)) (.frz o1 (.lst va)) (.frz o2 (.lst vb)) (.frz o3 (.lst (.ref q :: vs))) x = some o → F x = some o ∨ H x = none) x q p1 p2 p3 (fun _ => .inr g.hq) (fun _ => .inr g.h1) (fun _ => .inr g.h2) (fun _ => .inr g.h3) fun z0 z1 z2 z3 => ?_
   rw [Qcc z0 z1 z2 z3]; exact g.gr.n x o
 ·have lkr : ∀ {x : Addr} {o : HO},x ≠ G → lk4 F3 q p1 p2 p3 (.frz oq (.lst vq)) (.frz o1 (.lst va)) (.frz o2 (.lst vb)) (.frz o3 (.lst (.ref q :: vs))) x = some o → upd (lk4 F3 q p1 p2 p3 (.frz oq (.lst vq)) (.frz o1 (.lst va)) (.frz o2 (.lst vb)) (.frz o3 (.lst (.ref q :: vs)))) G (.lst [.ref p1,.ref p2,.ref p3]) x = some o:=fun {x o} z h => by rw [upd_ne z]; exact h
  have rc0 : Rep K ct (upd (lk4 F3 q p1 p2 p3 (.frz oq (.lst vq)) (.frz o1 (.lst va)) (.frz o2 (.lst vb)) (.frz o3 (.lst (.ref q :: vs)))) G (.lst [.ref p1,.ref p2,.ref p3])) (.rd c0) (.ref q):=⟨q,vq,rfl,.inr ⟨oq,lkr (Ne.symm g.nGq) cq⟩,Reps.tu eT _ _ pc g.rq⟩
  exact ⟨G,_,rfl,upd_same,.ref p1,_,rfl,⟨p1,va,rfl,.inr ⟨o1,lkr (Ne.symm g.nG1) c1⟩,Reps.tu eT _ _ pa g.r1⟩,
   .ref p2,_,rfl,⟨p2,vb,rfl,.inr ⟨o2,lkr (Ne.symm g.nG2) c2⟩,Reps.tu eT _ _ pb g.r2⟩,
   .ref p3,_,rfl,⟨p3,_,rfl,.inr ⟨o3,lkr (Ne.symm g.nG3) c3⟩,.ref q,vs,rfl,rc0,Qfz eT eL pcs g.r3⟩,rfl⟩
end
end Ps
namespace Ps
open PySem PySem.Spec PyProof.Rows L2
section
variable {K : PySem.W.Frag} {ct : Nat → Addr} {F H F3 H4 F' H' : Hp} {a b c0 : List D} {cs : List (List D)} {G p1 p2 p3 q : Addr} {va vb vs vq : List V} {s : D} {v : V}
structure Gw (K : PySem.W.Frag) (ct : Nat → Addr) (F H F5 H5 : Hp) (G p1 p2 p3 q : Addr) (vs vq : List V) (s : D) (v : V) : Prop where
 gr : Gr F H F5 H5
 rep : Rep K ct F5 s v
 gH : H5 G = some (.lst [.ref p1,.ref p2,.ref p3])
 k1 : ∃ u,H5 p1 = some (.lst u)
 k2 : ∃ u,H5 p2 = some (.lst u)
 k3 : H5 p3 = some (.lst (.ref q :: vs))
 kq : H5 q = some (.lst vq)
 f1 : F5 p1 = none
 f2 : F5 p2 = none
 f3 : F5 p3 = none
 fq : F5 q = none
def er4 (B : Hp) (q p1 p2 p3 : Addr) : Hp:=fun x => if x = q ∨ x = p1 ∨ x = p2 ∨ x = p3 then none else B x
theorem QgH {B : Hp} {x : Addr} (nq : x ≠ q) (n1 : x ≠ p1) (n2 : x ≠ p2) (n3 : x ≠ p3) : er4 B q p1 p2 p3 x = B x:=by
 unfold er4; rw [if_neg (by rintro (z | z | z | z) <;> contradiction)]
theorem Qew {B : Hp} {x : Addr} {o : HO} (h : er4 B q p1 p2 p3 x = some o) : x ≠ q ∧ x ≠ p1 ∧ x ≠ p2 ∧ x ≠ p3 ∧ B x = some o:=by
 unfold er4 at h
 split at h
 ·cases h
 ·rename_i n
  exact ⟨fun z => n (.inl z),fun z => n (.inr (.inl z)),fun z => n (.inr (.inr (.inl z))),fun z => n (.inr (.inr (.inr z))),h⟩
theorem Gv.un (ex : Ex F H) (g : Gv K ct F H F3 H4 a b c0 cs G p1 p2 p3 q va vb vs vq) {oq o1 o2 o3 : Obj} (L : Gr F H F' H') (hq : F' q = some (.frz oq (.lst vq))) (h1 : F' p1 = some (.frz o1 (.lst va))) (h2 : F' p2 = some (.frz o2 (.lst vb))) (h3 : F' p3 = some (.frz o3 (.lst (.ref q :: vs))))
  (hG : H' G = some (.lst [.ref p1,.ref p2,.ref p3])) (r : Rep K ct F' s v) (pl : Qz s = true) :
  Gw K ct F H (er4 F' q p1 p2 p3) (upd (upd (upd (upd H' p3 (.lst (.ref q :: vs))) p2 (.lst vb)) p1 (.lst va)) q (.lst vq)) G p1 p2 p3 q vs vq s v:=by
 have fr : ∀ {x : Addr} {o : HO},H x = some o → x ≠ q ∧ x ≠ p1 ∧ x ≠ p2 ∧ x ≠ p3:=fun {x o} hx =>
  ⟨(fun z => by subst z; rw [g.hq] at hx; cases hx),(fun z => by subst z; rw [g.h1] at hx; cases hx),(fun z => by subst z; rw [g.h2] at hx; cases hx),(fun z => by subst z; rw [g.h3] at hx; cases hx)⟩
 have eH : ∀ x,x ≠ q → x ≠ p1 → x ≠ p2 → x ≠ p3 → upd (upd (upd (upd H' p3 (.lst (.ref q :: vs))) p2 (.lst vb)) p1 (.lst va)) q (.lst vq) x = H' x:=fun x z0 z1 z2 z3 => by rw [upd_ne z0,upd_ne z1,upd_ne z2,upd_ne z3]
 have er : Er F' (er4 F' q p1 p2 p3):=by
  have key : ∀ {x : Addr} {u : HO},F' x = some u → (∀ o w,u ≠ .frz o w) → er4 F' q p1 p2 p3 x = some u:=fun {x u} hx n => by
   rw [QgH (fun z => by subst z; rw [hq] at hx; cases hx; exact n _ _ rfl) (fun z => by subst z; rw [h1] at hx; cases hx; exact n _ _ rfl) (fun z => by subst z; rw [h2] at hx; cases hx; exact n _ _ rfl) (fun z => by subst z; rw [h3] at hx; cases hx; exact n _ _ rfl)]
   exact hx
  exact ⟨fun x us hx => key hx (fun _ _ z => nomatch z),fun x us hx => key hx (fun _ _ z => nomatch z),fun x C dx fs hx => key hx (fun _ _ z => nomatch z)⟩
 exact {
  gr:=⟨fun x o hx => by
    obtain ⟨z0,z1,z2,z3⟩:=fr (ex x o hx)
    rw [QgH z0 z1 z2 z3]; exact L.f x o hx,fun x o hx => by
    obtain ⟨z0,z1,z2,z3⟩:=fr hx
    rw [eH x z0 z1 z2 z3]; exact L.h x o hx,fun x o hx => by
    obtain ⟨z0,z1,z2,z3,hx⟩:=Qew hx
    rw [eH x z0 z1 z2 z3]; exact L.e x o hx,fun x o hx => by
    obtain ⟨_,_,_,_,hx⟩:=Qew hx
    exact L.n x o hx⟩
  rep:=Rep.er er _ _ pl r
  gH:=by rw [eH G g.nGq g.nG1 g.nG2 g.nG3]; exact hG
  k1:=⟨va,by rw [upd_ne (Ne.symm g.nq1),upd_same]⟩
  k2:=⟨vb,by rw [upd_ne (Ne.symm g.nq2),upd_ne (Ne.symm g.n12),upd_same]⟩
  k3:=by rw [upd_ne (Ne.symm g.nq3),upd_ne (Ne.symm g.n13),upd_ne (Ne.symm g.n23),upd_same]
  kq:=upd_same
  f1:=by unfold er4; rw [if_pos (.inr (.inl rfl))]
  f2:=by unfold er4; rw [if_pos (.inr (.inr (.inl rfl)))]
  f3:=by unfold er4; rw [if_pos (.inr (.inr (.inr rfl)))]
  fq:=by unfold er4; rw [if_pos (.inl rfl)] }
theorem QgI {F H F1 H1 : Hp} (g : Gr F H F1 H1) {p : Addr} {o : HO} (h : H p = none) (f : F1 p = none) : Gr F H F1 (upd H1 p o):=
 ⟨g.f,fun x u hx => by rw [upd_ne (ne_of_none hx h)]; exact g.h x u hx,fun x u hx => by rw [upd_ne (ne_of_none hx f)]; exact g.e x u hx,g.n⟩
end
end Ps
namespace Ps
open PySem PySem.Spec PyProof.Rows L2
def unL : List D → Option (List (List D))
 | [] => some []
 | .lst c :: r => (unL r).map fun cs => c :: cs
 | _ => none
theorem QgJ : ∀ {r : List D} {cs : List (List D)},unL r = some cs → r = cs.map D.lst
 | [],cs,h => by cases h; rfl
 | d :: r,cs,h => by
  cases d <;> first | (cases h; done) | skip
  obtain ⟨cs',h1,rfl⟩:=Option.map_eq_some_iff.mp h
  rw [QgJ h1]; rfl
def QF (env : En) (i : Nat) : Bool:=match env[i]? with
 | some s => J3 s
 | none => false
theorem ZC {env : En} {i : Nat} (h : QF env i = true) : ∃ t,env[i]? = some t ∧ J3 t = true:=by
 unfold QF at h
 split at h
 ·rename_i s q; exact ⟨s,q,h⟩
 ·cases h
def Qag (i h t : Nat) (f1 f2 f3 f4 f5 : SE) : SS:=fun env => match f1 env,f2 env,f3 env with
 | .ok (.lst a),.ok (.lst b),.ok (.lst (.lst c0 :: r)) => (match unL r with
  | some cs => if plainTs a = true ∧ plainTs b = true ∧ plainTs c0 = true ∧ cs.all plainTs = true ∧ c0.length < sizeLine ∧ QF env i = true ∧ QF env h = true ∧ QF env t = true then (match f4 (env.set i (.sh (rdG a b c0 cs))) with
    | .ok s => if Qz s = true then (match f5 ((env.set i .no).set h (.sh s)) with
     | .ok _ => .nx (((env.set i .no).set h (.sh s)).set t .no)
     | _ => .st) else .st
    | _ => .st) else .st
  | none => .st)
 | _,_,_ => .st
theorem QgK {i h t : Nat} {f1 f2 f3 f4 f5 : SE} {env : En} {o : O} (q : Qag i h t f1 f2 f3 f4 f5 env = o) (n : o ≠ .st) : ∃ a b c0 cs s d,f1 env = .ok (.lst a) ∧ f2 env = .ok (.lst b) ∧ f3 env = .ok (.lst (.lst c0 :: cs.map D.lst)) ∧
  (plainTs a = true ∧ plainTs b = true ∧ plainTs c0 = true ∧ cs.all plainTs = true ∧ c0.length < sizeLine ∧ QF env i = true ∧ QF env h = true ∧ QF env t = true) ∧ f4 (env.set i (.sh (rdG a b c0 cs))) = .ok s ∧ Qz s = true ∧ f5 ((env.set i .no).set h (.sh s)) = .ok d ∧ o = .nx (((env.set i .no).set h (.sh s)).set t .no):=by
 unfold Qag at q
 split at q
 ·rename_i a b c0 r q1 q2 q3
  split at q
  ·rename_i cs q4
   split at q
   ·rename_i hc
    split at q
    ·rename_i s q5
     split at q
     ·rename_i hp
      split at q
      ·rename_i d q6
       exact ⟨a,b,c0,cs,s,d,q1,q2,by rw [q3,QgJ q4],hc,q5,hp,q6,q.symm⟩
      ·exact absurd q.symm n
     ·exact absurd q.symm n
    ·exact absurd q.symm n
   ·exact absurd q.symm n
  ·exact absurd q.symm n
 ·exact absurd q.symm n
section
variable {X : Cx} {ct : Nat → Addr} {W : WX} {f1 f2 f3 f4 f5 : SE} {g : SS}
theorem Qd6 {K : PySem.W.Frag} {F H F6 H6 : Hp} {env : En} {σ : L2.St} {i h t : Nat} {s : D} {v : V} {G : Addr} {u : Option V} (E : EnvOk K ct F H env σ) (gr : Gr F H F6 H6) (hih : i ≠ h) (hit : i ≠ t) (hht : h ≠ t) (ci : QF env i = true) (ch : QF env h = true) (c_t : QF env t = true) (r : Rep K ct F6 s v) :
  (EnvOk K ct F6 H6 ((env.set i .no).set h (.sh s)) ((σ.set i (some (.ref G))).set h (some v))) ∧
  EnvOk K ct F6 H6 (((env.set i .no).set h (.sh s)).set t .no) (((σ.set i (some (.ref G))).set h (some v)).set t u) ∧ Sx F H env σ F6 H6 (((env.set i .no).set h (.sh s)).set t .no) (((σ.set i (some (.ref G))).set h (some v)).set t u):=by
 obtain ⟨ti,i1,i2⟩:=ZC ci
 obtain ⟨th,h1,h2⟩:=ZC ch
 obtain ⟨tt,t1,t2⟩:=ZC c_t
 obtain ⟨Ea,Sa⟩:=Qa5 (E.gr gr) (s:=.no) (x:=some (.ref G)) i1 i2 rfl (fun _ z => nomatch z) (fun _ z => nomatch z)
 obtain ⟨Eb,Sb⟩:=Qa5 Ea (i:=h) (s:=.sh s) (x:=some v) (by rw [Qf (Ne.symm hih)]; exact h1) h2 rfl (fun _ z => nomatch z) (fun d z => by cases z; exact ⟨v,rfl,r⟩)
 obtain ⟨Ec,Sc⟩:=Qa5 Eb (i:=t) (s:=.no) (x:=u) (by rw [Qf (Ne.symm hht),Qf (Ne.symm hit)]; exact t1) t2 rfl (fun _ z => nomatch z) (fun _ z => nomatch z)
 exact ⟨Eb,Ec,(gr.sx.trans (Sa.trans (Sb.trans Sc)))⟩
theorem QhD (i h t : Nat) {x y z : Str} {e1 e2 e3 e4 e5 : Expr} {rest : List Stmt} {pl q1 s1 q2 s2 p0 c0 p1 c1 p2 apos cpos s3 pz px pz2 apos2 cpos2 ep fp : Pos} {j0 j1 : Nat} (hih : i ≠ h) (hit : i ≠ t) (hht : h ≠ t) (hN : X.N.Nodup) (hi : X.N[i]? = some x) (hh : X.N[h]? = some y) (ht : X.N[t]? = some z) (lx : Loc X.env.scope x) (ly : Loc X.env.scope y) (lz : Loc X.env.scope z)
  (hp : PassesOwn (model X.prog X.w) X.A X.env X.xe) (hc : X.calm = true)
  (he1 : PE X e1 (EN X.K ct W f1)) (he2 : PE X e2 (EN X.K ct W f2)) (he3 : PE X e3 (tM X.K ct W (mNI X.K ct) f3)) (he4 : PE X e4 (ER X.K ct W f4)) (he5 : PE X e5 (ER X.K ct W f5)) (hr : PSs X rest (sOf X.K ct W g))
  (a1 : starEach (e1 :: [e2,e3]) X.env = (false,eval e1 X.env) :: starEach [e2,e3] X.env:=by rfl) (a2 : starEach (e2 :: [e3]) X.env = (false,eval e2 X.env) :: starEach [e3] X.env:=by rfl) (a3 : starEach (e3 :: []) X.env = (false,eval e3 X.env) :: starEach [] X.env:=by rfl)
  (hs1 : swapsWith (.List [e1,e2,e3] pl) (some (.Name x q1)) s1.line X.env = pure false:=by rfl) (hf1 : X.fn x = true ∨ X.env.scope.names.lookup x = some .local:=by first | exact .inl rfl | exact .inr rfl | assumption)
  (hs2 : swapsWith e4 (some (.Name y q2)) s2.line X.env = pure false:=by rfl) (hf2 : X.fn y = true ∨ X.env.scope.names.lookup y = some .local:=by first | exact .inl rfl | exact .inr rfl | assumption)
  (vx : Vis X.env.scope x:=by first | exact Or.inl rfl | exact Or.inr (Or.inl rfl) | exact Or.inr (Or.inr rfl)) (dx : (x == ("__debug__" : Str)) = false:=by decide) (cx : (x == ("__classdict__" : Str)) = false:=by decide)
  (hpl0 : PlainIx (.Constant (.int 2) j0 c0):=by intro _ _; rfl) (hpl1 : PlainIx (.Constant (.int 0) j1 c1):=by intro _ _; rfl)
  (hs3 : swapsWith (.Call (.Attribute (.Subscript (.Subscript (.Name x p0) (.Constant (.int 2) j0 c0) p1) (.Constant (.int 0) j1 c1) p2) "append" apos) [e5] [] cpos) none s3.line X.env = pure false:=by rfl)
  (hbase : attributeBase (.Subscript (.Subscript (.Name x p0) (.Constant (.int 2) j0 c0) p1) (.Constant (.int 0) j1 c1) p2) "append" X.env (eval (.Subscript (.Subscript (.Name x p0) (.Constant (.int 2) j0 c0) p1) (.Constant (.int 0) j1 c1) p2) X.env) = eval (.Subscript (.Subscript (.Name x p0) (.Constant (.int 2) j0 c0) p1) (.Constant (.int 0) j1 c1) p2) X.env:=by rfl)
  (hfew : ((backTo cpos (starEach [e5] X.env)).all (fun x => !x.1) && (backToKw cpos (keywordEach [] X.env)).all (fun x => x.1.isSome)
   && decide ([e5].length + ([] : List Keyword).length + (if ([] : List Keyword).isEmpty then 0 else 1) < 30)) = true:=by rfl)
  (hline : (apos.endLine == cpos.line) = true:=by rfl) (a5 : starEach [e5] X.env = (false,eval e5 X.env) :: starEach [] X.env:=by rfl) (hplain : (backTo cpos (starEach [] X.env)).any (·.1) = false:=by rfl)
  (hs4 : ∀ w,foldedSetIterable (.Name x px) X.env w = pure w:=by intro _; rfl) (hf4 : X.fn z = true ∨ X.env.scope.names.lookup z = some .local:=by first | exact .inl rfl | exact .inr rfl | assumption)
  (vz : Vis X.env.scope z:=by first | exact Or.inl rfl | exact Or.inr (Or.inl rfl) | exact Or.inr (Or.inr rfl)) (dz : (z == ("__debug__" : Str)) = false:=by decide) (cz : (z == ("__classdict__" : Str)) = false:=by decide)
  (hs5 : swapsWith (.Call (.Attribute (.Name z pz2) "clear" apos2) [] [] cpos2) none ep.line X.env = pure false:=by rfl)
  (hb5 : attributeBase (.Name z pz2) "clear" X.env (eval (.Name z pz2) X.env) = eval (.Name z pz2) X.env:=by rfl) (hl5 : (apos2.endLine == cpos2.line) = true:=by rfl) :
  PSs X (.Assign [.Name x q1] (.List [e1,e2,e3] pl) s1 :: .Assign [.Name y q2] e4 s2 :: .Expr (.Call (.Attribute (.Subscript (.Subscript (.Name x p0) (.Constant (.int 2) j0 c0) p1) (.Constant (.int 0) j1 c1) p2) "append" apos) [e5] [] cpos) s3 ::
   .For (.Name z pz) (.Name x px) [.Expr (.Call (.Attribute (.Name z pz2) "clear" apos2) [] [] cpos2) ep] [] fp :: rest) (sOf X.K ct W (Qg (Qag i h t f1 f2 f3 f4 f5) g)):=by
 refine (pss_cons (ps_set hN hi lx (QkX he1 he2 he3 a1 a2 a3) hs1 hf1) (pss_cons (ps_set hN hh ly (pe_lock (pe_lock (pe_lock (pe_lock he4)))) hs2 hf2)
  (pss_cons (ps_expr (pe_bm PySem.F.plainAttrs_list PySem.F.slot_list_append PySem.F.type_list_append mt_append (pe_ix L2.ix_list (pe_ix L2.ix_list (pe_var hi vx dx cx) pe_int hpl0) pe_int hpl1) (pa_cons he5 pa_nil a5) hbase hfew hline a5 hplain) hs3)
  (pss_cons (ps_for hp hc (pi_list (pe_var hi vx dx cx)) (pg_name hN ht lz hf4) (pss_one (ps_expr (pe_bm0 PySem.F.plainAttrs_list PySem.F.slot_list_clear PySem.F.type_list_clear mt_clear (pe_var ht vz dz cz) hb5 hl5) hs5)) hs4) hr)))).imp fun D σ H ⟨env,F,E,hw⟩ => ?_
 have hn : Qag i h t f1 f2 f3 f4 f5 env ≠ .st:=fun z => by unfold Qg at hw; rw [z] at hw; exact hw
 obtain ⟨a,b,c0',cs,s,d5,r1,r2,r3,⟨pa,pb,pc,pcs,hlen,si,sh,st⟩,r4,hpl,r5,rn⟩:=QgK rfl hn
 unfold Qg at hw
 rw [rn] at hw
 replace hw : QbZ X.K ct W F H env σ (g (((env.set i .no).set h (.sh s)).set t .no)) D:=hw
 obtain ⟨ti,i1,i2⟩:=ZC si
 obtain ⟨th,h1,h2⟩:=ZC sh
 obtain ⟨tt,t1,t2⟩:=ZC st
 have lσ : ∀ {k : Nat} {w : Sl},env[k]? = some w → k < σ.length:=fun {k w} e => by
  obtain ⟨h1,_⟩:=List.getElem?_eq_some_iff.mp e
  rw [← E.len]; exact h1
 refine ⟨env,F,E,a,b,c0',cs,r1,r2,r3,fun F3 H4 G a1 a2 a3 q va vb vs vq gv => ?_⟩
 refine ⟨q,.lst vq,gv.gr.e _ _ gv.fq,trivial,fun oq => ⟨a1,.lst va,by rw [upd_ne (Ne.symm gv.nq1)]; exact gv.k1,trivial,fun o1 => ⟨a2,.lst vb,by rw [upd_ne (Ne.symm gv.n12),upd_ne (Ne.symm gv.nq2)]; exact gv.k2,trivial,fun o2 => ⟨a3,.lst (.ref q :: vs),by rw [upd_ne (Ne.symm gv.n23),upd_ne (Ne.symm gv.n13),upd_ne (Ne.symm gv.nq3)]; exact gv.k3,trivial,fun o3 => ?_⟩⟩⟩⟩
 obtain ⟨L,R⟩:=gv.lk E.ex pa pb pc pcs oq o1 o2 o3
 obtain ⟨E1,_⟩:=Qa5 (E.gr L) (s:=.sh (rdG a b c0' cs)) (x:=some (.ref G)) i1 i2 rfl (fun _ z => nomatch z) (fun d z => by cases z; exact ⟨.ref G,rfl,R⟩)
 refine ⟨env.set i (.sh (rdG a b c0' cs)),_,E1,?_⟩
 rw [r4]
 intro v F' H' g2 rv
 have LL:=L.trans g2
 have fq : F' q = some (.frz oq (.lst vq)):=g2.f _ _ (by rw [upd_ne (Ne.symm gv.nGq)]; exact QgD gv.nq1 gv.nq2 gv.nq3)
 have fa1 : F' a1 = some (.frz o1 (.lst va)):=g2.f _ _ (by rw [upd_ne (Ne.symm gv.nG1)]; exact QgE gv.n12 gv.n13)
 have fa2 : F' a2 = some (.frz o2 (.lst vb)):=g2.f _ _ (by rw [upd_ne (Ne.symm gv.nG2)]; exact QgF gv.n23)
 have fa3 : F' a3 = some (.frz o3 (.lst (.ref q :: vs))):=g2.f _ _ (by rw [upd_ne (Ne.symm gv.nG3)]; exact QgG)
 have hG : H' G = some (.lst [.ref a1,.ref a2,.ref a3]):=g2.e _ _ (g2.f _ _ upd_same)
 refine ⟨g2.e _ _ fa3,by rw [upd_ne gv.n23]; exact g2.e _ _ fa2,by rw [upd_ne gv.n12,upd_ne gv.n13]; exact g2.e _ _ fa1,by rw [upd_ne gv.nq1,upd_ne gv.nq2,upd_ne gv.nq3]; exact g2.e _ _ fq,?_⟩
 have w:=gv.un E.ex LL fq fa1 fa2 fa3 hG rv hpl
 have e5:=(Qd6 (G:=G) (u:=none) E w.gr hih hit hht si sh st w.rep).1
 have li:=lσ i1
 have σi : ((σ.set i (some (V.ref G))).set h (some v))[i]? = some (some (.ref G)):=by
  rw [Qf hih]; simp [li]
 refine ⟨.ref G,σi,G,_,2,.ref a3,rfl,rfl,SqL.of w.gH,rfl,a3,_,0,.ref q,rfl,rfl,SqL.of w.k3,by unfold atI ixN; simp,.inl ⟨rfl,vq,SqL.of w.kq⟩,_,_,e5,?_⟩
 rw [r5]
 intro v5 F6 H6 g6 _
 refine ⟨q,vq,v5,rfl,rfl,g6.h _ _ w.kq,by rw [gv.rq.length]; exact hlen,?_⟩
 have G7:=QgI (o:=.lst (vq ++ [v5])) (w.gr.trans g6) gv.hq (g6.none w.fq w.kq)
 obtain ⟨u1,k1⟩:=w.k1
 obtain ⟨u2,k2⟩:=w.k2
 have r6 : Rep X.K ct F6 s v:=Rep.mono (Ex.le g6.f) _ _ w.rep
 have ltσ : t < ((σ.set i (some (V.ref G))).set h (some v)).length:=by rw [List.length_set,List.length_set]; exact lσ t1
 refine ⟨.ref G,σi,G,rfl,⟨_,SqL.of (by rw [upd_ne gv.nGq]; exact g6.h _ _ w.gH)⟩,?_⟩
 refine for_it (walk_list (K:=X.K) (a:=G) (xs:=[.ref a1,.ref a2,.ref a3])) (fun _ σ' H' => (∃ u,σ' = ((σ.set i (some (V.ref G))).set h (some v)).set t u) ∧ Gr F H F6 H' ∧ H' G = some (.lst [.ref a1,.ref a2,.ref a3]) ∧ (∃ u,H' a1 = some (.lst u)) ∧ (∃ u,H' a2 = some (.lst u)) ∧ ∃ u,H' a3 = some (.lst u))
  ⟨⟨_,(List.set_getElem_self ltσ).symm⟩,G7,by rw [upd_ne gv.nGq]; exact g6.h _ _ w.gH,⟨u1,by rw [upd_ne (Ne.symm gv.nq1)]; exact g6.h _ _ k1⟩,⟨u2,by rw [upd_ne (Ne.symm gv.nq2)]; exact g6.h _ _ k2⟩,⟨_,by rw [upd_ne (Ne.symm gv.nq3)]; exact g6.h _ _ w.k3⟩⟩
  (fun k σ' H' _ P => SqL.of P.2.2.1) (fun k x σ' H1 H1' hk P y => ?_) (fun σ' H' P => ?_)
 ·obtain ⟨rfl,hx⟩:=y
  obtain ⟨⟨u,rfl⟩,P1,P2,⟨w1,P3⟩,⟨w2,P4⟩,w3,P5⟩:=P
  obtain ⟨p,w0,rfl,hp,hH,hF,hGp⟩ : ∃ p w0,x = V.ref p ∧ H1' p = some (.lst w0) ∧ H p = none ∧ F6 p = none ∧ G ≠ p:=by
   have hk : k < 3:=hk
   rcases k with _ | _ | _ | k
   ·cases hx; exact ⟨a1,w1,rfl,P3,gv.h1,g6.none w.f1 k1,gv.nG1⟩
   ·cases hx; exact ⟨a2,w2,rfl,P4,gv.h2,g6.none w.f2 k2,gv.nG2⟩
   ·cases hx; exact ⟨a3,w3,rfl,P5,gv.h3,g6.none w.f3 w.k3,gv.nG3⟩
   ·omega
  have up : ∀ (p' : Addr) (w' : List V),H1' p' = some (.lst w') → ∃ w'',upd H1' p (.lst []) p' = some (.lst w''):=fun p' w' e => by
   by_cases z : p' = p
   ·subst z; exact ⟨_,upd_same⟩
   ·exact ⟨w',by rw [upd_ne z]; exact e⟩
  exact ⟨.ref p,by simp [ltσ,lσ t1],.inl ⟨rfl,w0,SqL.of hp⟩,p,w0,rfl,rfl,hp,⟨_,by rw [List.set_set]⟩,QgI P1 hH hF,by rw [upd_ne hGp]; exact P2,up _ _ P3,up _ _ P4,up _ _ P5⟩
 ·obtain ⟨⟨u,rfl⟩,P1,_⟩:=P
  obtain ⟨_,Ef,Sf⟩:=Qd6 (G:=G) (u:=u) E P1 hih hit hht si sh st r6
  exact ⟨_,F6,Ef,Zv Sf hw⟩
end
end Ps
namespace Tm
open Ps
inductive M (α : Type) where
 | ok (a : α) | er (c : Nat) (fs : List (PySem.Str × D)) | st
def M.bind {α β : Type} (x : M α) (k : α → M β) : M β:=match x with
 | .ok a => k a
 | .er c fs => .er c fs
 | .st => .st
@[simp] theorem Qd {α β : Type} (a : α) (k : α → M β) : (M.ok a).bind k = k a:=rfl
@[simp] theorem QlW {α β : Type} (c : Nat) (fs : List (PySem.Str × D)) (k : α → M β) : (M.er c fs : M α).bind k = .er c fs:=rfl
@[simp] theorem QlX {α β : Type} (k : α → M β) : (M.st : M α).bind k = .st:=rfl
theorem Zr {α β : Type} (a : α) (k : α → M β) : (M.ok a).bind k = k a:=(Eq.refl _).trans rfl
@[irreducible] def gd {α : Type} (c : Prop) [Decidable c] (x : M α) : M α:=if c then x else .st
theorem QaL {α : Type} {c : Prop} [Decidable c] {x : M α} (h : c) : gd c x = x:=by unfold gd; exact if_pos h
abbrev Tx:=List Char
def str (x : Tx) : PySem.Str:=⟨(x.map Char.toNat).toArray⟩
theorem Qbp (x : Tx) : (str x).length = x.length:=by simp [str,PySem.Str.length]
theorem Qah (x : Tx) : (str x).cps.toList = x.map Char.toNat:=by simp [str]
theorem toNat_inj {a b : Char} (h : a.toNat = b.toNat) : a = b:=by
 apply Char.ext; apply UInt32.toNat_inj.mp; exact h
theorem QhE {x y : Tx} (h : x.map Char.toNat = y.map Char.toNat) : x = y:=List.map_inj_right (fun a b h => toNat_inj h) |>.mp h
theorem Qf0 {x y : Tx} (h : str x = str y) : x = y:=by
 have : (str x).cps.toList = (str y).cps.toList:=by rw [h]
 rw [Qah,Qah] at this
 exact QhE this
theorem Qji (x y : Tx) : (str x = str y) = (x = y):=propext ⟨Qf0,fun h => by rw [h]⟩
theorem QdN (s : String) : PySem.Str.ofString s = str s.toList:=PySem.Str.ofString_eq_toList s
theorem QgL (c : Char) : c.toNat < 0x110000:=by
 have:=c.valid
 simp only [UInt32.isValidChar,Nat.isValidChar] at this
 show c.val.toNat < _
 omega
theorem Qjj (x : Tx) : PySem.PyData.strOk (str x) = true:=by
 unfold PySem.PyData.strOk
 rw [← Array.all_toList,Qah,List.all_map,List.all_eq_true]
 intro c _
 simpa using QgL c
def sg (c : Char) : Tx:=[c]
class Emb (α : Type) where
 d : α → D
open Emb (d)
structure Scr where
 ns : List Int
structure P3 (α β γ : Type) where
 a : α
 b : β
 c : γ
structure P4 (α β γ δ : Type) where
 a : α
 b : β
 c : γ
 e : δ
structure Exc where
 c : Nat
 fs : List (PySem.Str × D)
structure Dct (κ α : Type) where
 l : List (κ × α)
instance : Emb D:=⟨id⟩
instance : Emb Int:=⟨D.int⟩
instance : Emb Bool:=⟨D.bl⟩
instance : Emb Unit:=⟨fun _ => .non⟩
instance : Emb Tx:=⟨fun x => .str (str x)⟩
instance {α : Type} [Emb α] : Emb (List α):=⟨fun xs => .lst (xs.map d)⟩
instance {α β : Type} [Emb α] [Emb β] : Emb (α × β):=⟨fun x => .tup [d x.1,d x.2]⟩
instance {α β γ : Type} [Emb α] [Emb β] [Emb γ] : Emb (P3 α β γ):=⟨fun x => .tup [d x.a,d x.b,d x.c]⟩
instance {α β γ δ : Type} [Emb α] [Emb β] [Emb γ] [Emb δ] : Emb (P4 α β γ δ):=⟨fun x => .tup [d x.a,d x.b,d x.c,d x.e]⟩
instance {α : Type} [Emb α] : Emb (Option α):=⟨fun x => match x with | none => .non | some a => d a⟩
instance : Emb Scr:=⟨fun x => .scr x.ns⟩
instance : Emb Exc:=⟨fun x => .exo x.c x.fs⟩
theorem QkZ {α : Type} [Emb α] (x : List α) : d x = D.lst (x.map d):=rfl
class Ke (κ : Type) extends Emb κ where
 dec : DecidableEq κ
 k : κ → L2.Key
 kd : ∀ a,QcG (d a) = some (k a)
 inj : ∀ a b,k a = k b → a = b
 dk : ∀ a,QmE (k a) = d a
instance {κ : Type} [Ke κ] : DecidableEq κ:=Ke.dec
instance : Ke Int:=⟨inferInstance,Sum.inl,fun _ => rfl,fun _ _ h => Sum.inl.inj h,fun _ => rfl⟩
instance : Ke Tx:=⟨inferInstance,fun x => Sum.inr (str x),fun _ => rfl,fun _ _ h => Qf0 (Sum.inr.inj h),fun _ => rfl⟩
class Kt (κ : Type) extends Emb κ where
 dec : DecidableEq κ
 k : κ → List L2.Key
 ds : κ → List D
 dt : ∀ a,d a = .tup (ds a)
 kd : ∀ a,Qao (ds a) = some (k a)
 inj : ∀ a b,k a = k b → a = b
instance {κ ι : Type} [Ke κ] [Ke ι] : Kt (κ × ι) where
 dec:=inferInstance
 k x:=[Ke.k x.1,Ke.k x.2]
 ds x:=[d x.1,d x.2]
 dt _:=rfl
 kd x:=by simp [Qao,Ke.kd]
 inj a b h:=by
  simp only [List.cons.injEq,and_true] at h
  exact Prod.ext (Ke.inj _ _ h.1) (Ke.inj _ _ h.2)
class Dc (κ : Type) extends Emb κ where
 dec : DecidableEq κ
 K : Type
 kdec : DecidableEq K
 k : κ → K
 inj : ∀ a b,k a = k b → a = b
 mkD : List (K × D) → D
 val : ∀ l a,dIx (mkD l) (d a) = JD l (k a)
 put : ∀ l a v,QcT (mkD l) (d a) v = if l.length < PySem.sizeLine then some (mkD (QdI l (k a) v)) else none
 has : ∀ l a,inD (d a) (mkD l) = some (JD l (k a)).isSome
 own : ∀ l,QfO (mkD l) = true
 noScr : ∀ l,Ps.noScr (mkD l) = true
instance {κ : Type} [Dc κ] : DecidableEq (Dc.K κ):=Dc.kdec
instance {κ : Type} [Ke κ] : Dc κ where
 dec:=Ke.dec
 K:=L2.Key
 kdec:=inferInstance
 k:=Ke.k
 inj:=Ke.inj
 mkD:=.dk
 val l a:=by simp [dIx,Ke.kd]
 put l a v:=by simp [QcT,Ke.kd]
 has l a:=by simp [inD,Ke.kd]
 own _:=rfl
 noScr _:=rfl
instance {κ : Type} [Kt κ] : Dc κ where
 dec:=Kt.dec
 K:=List L2.Key
 kdec:=inferInstance
 k:=Kt.k
 inj:=Kt.inj
 mkD:=.dt
 val l a:=by simp [dIx,Kt.dt,Kt.kd]
 put l a v:=by simp [QcT,Kt.dt,Kt.kd]
 has l a:=by simp [inD,Kt.dt,Kt.kd]
 own _:=rfl
 noScr _:=rfl
instance dctEmb {κ α : Type} [Dc κ] [Emb α] : Emb (Dct κ α):=⟨fun m => Dc.mkD (κ:=κ) (m.l.map fun p => (Dc.k p.1,d p.2))⟩
section
variable {κ α : Type} [Dc κ]
instance dcDec : DecidableEq κ:=Dc.dec
def Dct.get? (m : Dct κ α) (a : κ) : Option α:=(m.l.find? fun p => decide (p.1 = a)).map (·.2)
def Dct.put (m : Dct κ α) (a : κ) (v : α) : Dct κ α:=⟨if m.l.any (fun p => decide (p.1 = a)) then m.l.map (fun p => if p.1 = a then (p.1,v) else p) else m.l ++ [(a,v)]⟩
def Dct.keys (m : Dct κ α) : List κ:=m.l.map (·.1)
end
class Cm (α : Type) extends Emb α where
 dec : DecidableEq α
 p : α → PySem.PyData
 n : Nat
 toP : ∀ a,Ps.toP (d a) = some (p a)
 lay : ∀ a,(p a).canLay0 = true
 dep : ∀ a,(p a).depth ≤ n
 eqv : ∀ a b,PySem.PyData.eqv (p a) (p b) = decide (a = b)
class Nn (α : Type) extends Cm α where
 n1 : ∀ a,PySem.PyData.eqv .none (p a) = false
 n2 : ∀ a,PySem.PyData.eqv (p a) .none = false
instance : Nn Int where
 dec:=inferInstance
 p:=.int
 n:=0
 toP _:=rfl
 lay _:=by simp [PySem.PyData.canLay0]
 dep _:=by simp [PySem.PyData.depth]
 eqv a b:=by simp only [PySem.PyData.eqv]; rw [Bool.eq_iff_iff]; simp
 n1 _:=rfl
 n2 _:=rfl
instance : Nn Bool where
 dec:=inferInstance
 p:=.bool
 n:=0
 toP _:=rfl
 lay _:=by simp [PySem.PyData.canLay0]
 dep _:=by simp [PySem.PyData.depth]
 eqv a b:=by simp only [PySem.PyData.eqv]; rw [Bool.eq_iff_iff]; simp
 n1 _:=rfl
 n2 _:=rfl
instance : Cm Unit where
 dec:=inferInstance
 p _:=.none
 n:=0
 toP _:=rfl
 lay _:=by simp [PySem.PyData.canLay0]
 dep _:=by simp [PySem.PyData.depth]
 eqv a b:=by simp [PySem.PyData.eqv]
instance : Nn Tx where
 dec:=inferInstance
 p x:=.str (str x)
 n:=0
 toP _:=rfl
 lay x:=by simp [PySem.PyData.canLay0,Qjj]
 dep _:=by simp [PySem.PyData.depth]
 eqv a b:=by simp only [PySem.PyData.eqv]; rw [Bool.eq_iff_iff]; simp [Qji]
 n1 _:=rfl
 n2 _:=rfl
theorem Qex {α : Type} [Cm α] : ∀ l : List α,toPs (l.map d) = some (l.map Cm.p)
 | [] => rfl
 | a :: l => by
  show ((Ps.toP (d a)).bind fun p => (toPs (l.map d)).map fun ps => p :: ps) = _
  rw [Cm.toP,Qex l]; rfl
theorem QgM {α : Type} [Cm α] : ∀ l : List α,PySem.PyData.canLayAll0 (l.map Cm.p) = true
 | [] => by simp [PySem.PyData.canLayAll0]
 | a :: l => by simp [PySem.PyData.canLayAll0,Cm.lay,QgM l]
theorem QgN {α : Type} [Cm α] : ∀ l : List α,PySem.PyData.depthAll (l.map Cm.p) ≤ Cm.n α
 | [] => by simp [PySem.PyData.depthAll]
 | a :: l => by
  simp only [List.map_cons,PySem.PyData.depthAll]
  exact Nat.max_le.mpr ⟨Cm.dep a,QgN l⟩
theorem eqvAll {α : Type} [Cm α] [DecidableEq α] : ∀ l m : List α,PySem.PyData.eqvAll (l.map Cm.p) (m.map Cm.p) = decide (l = m)
 | [],[] => by simp [PySem.PyData.eqvAll]
 | a :: l,[] => by simp [PySem.PyData.eqvAll]
 | [],a :: l => by simp [PySem.PyData.eqvAll]
 | a :: l,b :: m => by
  have h:=eqvAll l m
  have h2:=Cm.eqv a b
  simp only [List.map_cons,PySem.PyData.eqvAll,h,h2]
  rw [Bool.eq_iff_iff]
  simp
instance {α : Type} [Cm α] : Nn (List α) where
 dec:=@instDecidableEqList α Cm.dec
 p l:=.list (l.map Cm.p)
 n:=Cm.n α + 1
 toP l:=by
  show (toPs (l.map d)).map PySem.PyData.list = _
  rw [Qex]; rfl
 lay l:=by simp [PySem.PyData.canLay0,QgM]
 dep l:=by simp only [PySem.PyData.depth]; have:=QgN l; omega
 eqv a b:=by
  simp only [PySem.PyData.eqv]
  letI:=(Cm.dec : DecidableEq α)
  rw [eqvAll]
 n1 _:=rfl
 n2 _:=rfl
instance {α β : Type} [Cm α] [Cm β] : Nn (α × β) where
 dec:=@instDecidableEqProd α β Cm.dec Cm.dec
 p x:=.tuple [Cm.p x.1,Cm.p x.2]
 n:=max (Cm.n α) (Cm.n β) + 1
 toP x:=by
  show ((Ps.toP (d x.1)).bind fun p => ((Ps.toP (d x.2)).bind fun q => ((some []).map fun ps => q :: ps)).map fun ps => p :: ps).map PySem.PyData.tuple = _
  rw [Cm.toP,Cm.toP]; rfl
 lay x:=by simp [PySem.PyData.canLay0,PySem.PyData.canLayAll0,Cm.lay]
 dep x:=by
  simp only [PySem.PyData.depth,PySem.PyData.depthAll]
  have:=Cm.dep x.1
  have:=Cm.dep x.2
  omega
 eqv a b:=by
  simp only [PySem.PyData.eqv,PySem.PyData.eqvAll,Cm.eqv]
  rw [Bool.eq_iff_iff]; simp [Prod.ext_iff]
 n1 _:=rfl
 n2 _:=rfl
instance {α β γ : Type} [Cm α] [Cm β] [Cm γ] : Nn (P3 α β γ) where
 dec:=fun x y => letI:=(Cm.dec : DecidableEq α); letI:=(Cm.dec : DecidableEq β); letI:=(Cm.dec : DecidableEq γ); decidable_of_iff (x.a = y.a ∧ x.b = y.b ∧ x.c = y.c) (by cases x; cases y; simp)
 p x:=.tuple [Cm.p x.a,Cm.p x.b,Cm.p x.c]
 n:=max (Cm.n α) (max (Cm.n β) (Cm.n γ)) + 1
 toP x:=by
  show ((Ps.toP (d x.a)).bind fun p => ((Ps.toP (d x.b)).bind fun q => ((Ps.toP (d x.c)).bind fun r => ((some []).map fun ps => r :: ps)).map fun ps => q :: ps).map fun ps => p :: ps).map PySem.PyData.tuple = _
  rw [Cm.toP,Cm.toP,Cm.toP]; rfl
 lay x:=by simp [PySem.PyData.canLay0,PySem.PyData.canLayAll0,Cm.lay]
 dep x:=by
  simp only [PySem.PyData.depth,PySem.PyData.depthAll]
  have:=Cm.dep x.a
  have:=Cm.dep x.b
  have:=Cm.dep x.c
  omega
 eqv a b:=by
  cases a; cases b
  simp only [PySem.PyData.eqv,PySem.PyData.eqvAll,Cm.eqv]
  rw [Bool.eq_iff_iff]; simp
 n1 _:=rfl
 n2 _:=rfl
instance {α : Type} [Nn α] : Cm (Option α) where
 dec:=letI:=(Cm.dec : DecidableEq α); inferInstance
 p x:=match x with | none => .none | some a => Cm.p a
 n:=Cm.n α
 toP x:=by
  cases x with
  | none => rfl
  | some a => exact Cm.toP a
 lay x:=by
  cases x with
  | none => simp [PySem.PyData.canLay0]
  | some a => exact Cm.lay a
 dep x:=by
  cases x with
  | none => simp [PySem.PyData.depth]
  | some a => exact Cm.dep a
 eqv a b:=by
  cases a with
  | none =>
   cases b with
   | none => simp [PySem.PyData.eqv]
   | some b => simp [Nn.n1]
  | some a =>
   cases b with
   | none => simp [Nn.n2]
   | some b => simp [Cm.eqv]
end Tm
namespace Tm
open Ps
open Emb (d)
def Ref {α : Type} [Emb α] (r : R) (t : M α) : Prop:=match t with
 | .ok a => r = .ok (d a)
 | .er c fs => r = .er c fs
 | .st => True
def QgO {α : Type} [Emb α] (c : Nat) (r : RI) (t : M α) : Prop:=match t with
 | .ok a => ∃ fs,r = .ok fs ∧ d a = .obj c fs
 | _ => True
def QmJ (c : Nat) (r : RI) : R:=match r with
 | .ok gs => .ok (.obj c gs)
 | .er _ _ => .st
 | .st => .st
def mkM {α : Type} (t : M α) : M α:=match t with
 | .ok a => .ok a
 | _ => .st
theorem Qla {α : Type} [Emb α] {c : Nat} {r : RI} {t : M α} (h : QgO c r t) : Ref (QmJ c r) (mkM t):=by
 cases t with
 | ok a => obtain ⟨fs,h1,h2⟩:=h; subst h1; exact congrArg R.ok h2.symm
 | er c fs => trivial
 | st => trivial
section
variable {α β γ δ : Type} [Emb α] [Emb β] [Emb γ] [Emb δ]
theorem QM {r : R} {k : D → R} {t : M α} {u : α → M β} (h : Ref r t) (hk : ∀ a,Ref (k (d a)) (u a)) : Ref (bnd r k) (t.bind u):=by
 cases t with
 | ok a => rw [show r = .ok (d a) from h]; exact hk a
 | er c fs => rw [show r = .er c fs from h]; exact rfl
 | st => trivial
theorem JT {c : Prop} [Decidable c] {r : R} {t : M α} (h : c → Ref r t) : Ref r (gd c t):=by
 unfold gd; split
 ·rename_i hc; exact h hc
 ·trivial
theorem Qap {A0 : Type} [Emb A0] {β : Type} [Emb β] {f0 : SE} {env : En} {t0 : M A0} {k : List D → R} {u : A0 → M β} (h0 : Ref (f0 env) t0) (hm : ∀ (x0 : A0),Ref (k [d x0]) (u x0)) : Ref (QG ((Qa f0 Qk) env) k) (t0.bind fun x0 => u x0):=by
 cases t0 with
 | er c fs => exact (show QG ((Qa f0 Qk) env) k = .er c fs by simp only [Qa,Qk,show f0 env = .er c fs from h0,QG])
 | st => trivial
 | ok x0 =>
 have e : (Qa f0 Qk) env = .ok [d x0]:=by simp only [Qa,Qk,show f0 env = .ok (d x0) from h0]
 rw [e]
 exact hm x0
theorem Qgo {A0 : Type} [Emb A0] {A1 : Type} [Emb A1] {β : Type} [Emb β] {f0 f1 : SE} {env : En} {t0 : M A0} {t1 : M A1} {k : List D → R} {u : A0 → A1 → M β} (h0 : Ref (f0 env) t0) (h1 : Ref (f1 env) t1) (hm : ∀ (x0 : A0) (x1 : A1),Ref (k [d x0,d x1]) (u x0 x1)) : Ref (QG ((Qa f0 (Qa f1 Qk)) env) k) (t0.bind fun x0 => t1.bind fun x1 => u x0 x1):=by
 cases t0 with
 | er c fs => exact (show QG ((Qa f0 (Qa f1 Qk)) env) k = .er c fs by simp only [Qa,Qk,show f0 env = .er c fs from h0,QG])
 | st => trivial
 | ok x0 =>
 cases t1 with
 | er c fs => exact (show QG ((Qa f0 (Qa f1 Qk)) env) k = .er c fs by simp only [Qa,Qk,show f0 env = .ok (d x0) from h0,show f1 env = .er c fs from h1,QG])
 | st => trivial
 | ok x1 =>
 have e : (Qa f0 (Qa f1 Qk)) env = .ok [d x0,d x1]:=by simp only [Qa,Qk,show f0 env = .ok (d x0) from h0,show f1 env = .ok (d x1) from h1]
 rw [e]
 exact hm x0 x1
theorem JU {A0 : Type} [Emb A0] {A1 : Type} [Emb A1] {β : Type} [Emb β] {f0 f1 : SE} {env : En} {t0 : M A0} {t1 : M A1} {m : List D → R} {u : A0 → A1 → M β} (h0 : Ref (f0 env) t0) (h1 : Ref (f1 env) t1) (hm : ∀ (x0 : A0) (x1 : A1),Ref (m [d x0,d x1]) (u x0 x1)) : Ref (sFn m (Qa f0 (Qa f1 Qk)) env) (t0.bind fun x0 => t1.bind fun x1 => u x0 x1):=Qgo h0 h1 hm
theorem QgP {A0 : Type} [Emb A0] {A1 : Type} [Emb A1] {A2 : Type} [Emb A2] {β : Type} [Emb β] {f0 f1 f2 : SE} {env : En} {t0 : M A0} {t1 : M A1} {t2 : M A2} {k : List D → R} {u : A0 → A1 → A2 → M β} (h0 : Ref (f0 env) t0) (h1 : Ref (f1 env) t1) (h2 : Ref (f2 env) t2) (hm : ∀ (x0 : A0) (x1 : A1) (x2 : A2),Ref (k [d x0,d x1,d x2]) (u x0 x1 x2)) : Ref (QG ((Qa f0 (Qa f1 (Qa f2 Qk))) env) k) (t0.bind fun x0 => t1.bind fun x1 => t2.bind fun x2 => u x0 x1 x2):=by
 cases t0 with
 | er c fs => exact (show QG ((Qa f0 (Qa f1 (Qa f2 Qk))) env) k = .er c fs by simp only [Qa,Qk,show f0 env = .er c fs from h0,QG])
 | st => trivial
 | ok x0 =>
 cases t1 with
 | er c fs => exact (show QG ((Qa f0 (Qa f1 (Qa f2 Qk))) env) k = .er c fs by simp only [Qa,Qk,show f0 env = .ok (d x0) from h0,show f1 env = .er c fs from h1,QG])
 | st => trivial
 | ok x1 =>
 cases t2 with
 | er c fs => exact (show QG ((Qa f0 (Qa f1 (Qa f2 Qk))) env) k = .er c fs by simp only [Qa,Qk,show f0 env = .ok (d x0) from h0,show f1 env = .ok (d x1) from h1,show f2 env = .er c fs from h2,QG])
 | st => trivial
 | ok x2 =>
 have e : (Qa f0 (Qa f1 (Qa f2 Qk))) env = .ok [d x0,d x1,d x2]:=by simp only [Qa,Qk,show f0 env = .ok (d x0) from h0,show f1 env = .ok (d x1) from h1,show f2 env = .ok (d x2) from h2]
 rw [e]
 exact hm x0 x1 x2
theorem ZT {A0 : Type} [Emb A0] {A1 : Type} [Emb A1] {A2 : Type} [Emb A2] {β : Type} [Emb β] {f0 f1 f2 : SE} {env : En} {t0 : M A0} {t1 : M A1} {t2 : M A2} {m : List D → R} {u : A0 → A1 → A2 → M β} (h0 : Ref (f0 env) t0) (h1 : Ref (f1 env) t1) (h2 : Ref (f2 env) t2) (hm : ∀ (x0 : A0) (x1 : A1) (x2 : A2),Ref (m [d x0,d x1,d x2]) (u x0 x1 x2)) : Ref (sFn m (Qa f0 (Qa f1 (Qa f2 Qk))) env) (t0.bind fun x0 => t1.bind fun x1 => t2.bind fun x2 => u x0 x1 x2):=QgP h0 h1 h2 hm
theorem QgQ {A0 : Type} [Emb A0] {A1 : Type} [Emb A1] {A2 : Type} [Emb A2] {β : Type} [Emb β] {f0 f1 f2 : SE} {env : En} {t0 : M A0} {t1 : M A1} {t2 : M A2} {cc : Nat} {m : List D → RI} {u : A0 → A1 → A2 → M β} (h0 : Ref (f0 env) t0) (h1 : Ref (f1 env) t1) (h2 : Ref (f2 env) t2) (hn : ∀ (x0 : A0) (x1 : A1) (x2 : A2),([d x0,d x1,d x2] : List D).all noScr = true) (hm : ∀ (x0 : A0) (x1 : A1) (x2 : A2),QgO cc (m [d x0,d x1,d x2]) (u x0 x1 x2)) : Ref (sMk cc m (Qa f0 (Qa f1 (Qa f2 Qk))) env) (t0.bind fun x0 => t1.bind fun x1 => t2.bind fun x2 => mkM (u x0 x1 x2)):=QgP h0 h1 h2 fun x0 x1 x2 => by
 rw [hn x0 x1 x2,if_pos rfl]
 exact Qla (hm x0 x1 x2)
theorem Qlb {A0 : Type} [Emb A0] {A1 : Type} [Emb A1] {A2 : Type} [Emb A2] {A3 : Type} [Emb A3] {β : Type} [Emb β] {f0 f1 f2 f3 : SE} {env : En} {t0 : M A0} {t1 : M A1} {t2 : M A2} {t3 : M A3} {k : List D → R} {u : A0 → A1 → A2 → A3 → M β} (h0 : Ref (f0 env) t0) (h1 : Ref (f1 env) t1) (h2 : Ref (f2 env) t2) (h3 : Ref (f3 env) t3) (hm : ∀ (x0 : A0) (x1 : A1) (x2 : A2) (x3 : A3),Ref (k [d x0,d x1,d x2,d x3]) (u x0 x1 x2 x3)) : Ref (QG ((Qa f0 (Qa f1 (Qa f2 (Qa f3 Qk)))) env) k) (t0.bind fun x0 => t1.bind fun x1 => t2.bind fun x2 => t3.bind fun x3 => u x0 x1 x2 x3):=by
 cases t0 with
 | er c fs => exact (show QG ((Qa f0 (Qa f1 (Qa f2 (Qa f3 Qk)))) env) k = .er c fs by simp only [Qa,Qk,show f0 env = .er c fs from h0,QG])
 | st => trivial
 | ok x0 =>
 cases t1 with
 | er c fs => exact (show QG ((Qa f0 (Qa f1 (Qa f2 (Qa f3 Qk)))) env) k = .er c fs by simp only [Qa,Qk,show f0 env = .ok (d x0) from h0,show f1 env = .er c fs from h1,QG])
 | st => trivial
 | ok x1 =>
 cases t2 with
 | er c fs => exact (show QG ((Qa f0 (Qa f1 (Qa f2 (Qa f3 Qk)))) env) k = .er c fs by simp only [Qa,Qk,show f0 env = .ok (d x0) from h0,show f1 env = .ok (d x1) from h1,show f2 env = .er c fs from h2,QG])
 | st => trivial
 | ok x2 =>
 cases t3 with
 | er c fs => exact (show QG ((Qa f0 (Qa f1 (Qa f2 (Qa f3 Qk)))) env) k = .er c fs by simp only [Qa,Qk,show f0 env = .ok (d x0) from h0,show f1 env = .ok (d x1) from h1,show f2 env = .ok (d x2) from h2,show f3 env = .er c fs from h3,QG])
 | st => trivial
 | ok x3 =>
 have e : (Qa f0 (Qa f1 (Qa f2 (Qa f3 Qk)))) env = .ok [d x0,d x1,d x2,d x3]:=by simp only [Qa,Qk,show f0 env = .ok (d x0) from h0,show f1 env = .ok (d x1) from h1,show f2 env = .ok (d x2) from h2,show f3 env = .ok (d x3) from h3]
 rw [e]
 exact hm x0 x1 x2 x3
theorem QdO {A0 : Type} [Emb A0] {A1 : Type} [Emb A1] {A2 : Type} [Emb A2] {A3 : Type} [Emb A3] {β : Type} [Emb β] {f0 f1 f2 f3 : SE} {env : En} {t0 : M A0} {t1 : M A1} {t2 : M A2} {t3 : M A3} {m : List D → R} {u : A0 → A1 → A2 → A3 → M β} (h0 : Ref (f0 env) t0) (h1 : Ref (f1 env) t1) (h2 : Ref (f2 env) t2) (h3 : Ref (f3 env) t3) (hm : ∀ (x0 : A0) (x1 : A1) (x2 : A2) (x3 : A3),Ref (m [d x0,d x1,d x2,d x3]) (u x0 x1 x2 x3)) : Ref (sFn m (Qa f0 (Qa f1 (Qa f2 (Qa f3 Qk)))) env) (t0.bind fun x0 => t1.bind fun x1 => t2.bind fun x2 => t3.bind fun x3 => u x0 x1 x2 x3):=Qlb h0 h1 h2 h3 hm
theorem Qlc {A0 : Type} [Emb A0] {A1 : Type} [Emb A1] {A2 : Type} [Emb A2] {A3 : Type} [Emb A3] {A4 : Type} [Emb A4] {β : Type} [Emb β] {f0 f1 f2 f3 f4 : SE} {env : En} {t0 : M A0} {t1 : M A1} {t2 : M A2} {t3 : M A3} {t4 : M A4} {k : List D → R} {u : A0 → A1 → A2 → A3 → A4 → M β} (h0 : Ref (f0 env) t0) (h1 : Ref (f1 env) t1) (h2 : Ref (f2 env) t2) (h3 : Ref (f3 env) t3) (h4 : Ref (f4 env) t4) (hm : ∀ (x0 : A0) (x1 : A1) (x2 : A2) (x3 : A3) (x4 : A4),Ref (k [d x0,d x1,d x2,d x3,d x4]) (u x0 x1 x2 x3 x4)) : Ref (QG ((Qa f0 (Qa f1 (Qa f2 (Qa f3 (Qa f4 Qk))))) env) k) (t0.bind fun x0 => t1.bind fun x1 => t2.bind fun x2 => t3.bind fun x3 => t4.bind fun x4 => u x0 x1 x2 x3 x4):=by
 cases t0 with
 | er c fs => exact (show QG ((Qa f0 (Qa f1 (Qa f2 (Qa f3 (Qa f4 Qk))))) env) k = .er c fs by simp only [Qa,Qk,show f0 env = .er c fs from h0,QG])
 | st => trivial
 | ok x0 =>
 cases t1 with
 | er c fs => exact (show QG ((Qa f0 (Qa f1 (Qa f2 (Qa f3 (Qa f4 Qk))))) env) k = .er c fs by simp only [Qa,Qk,show f0 env = .ok (d x0) from h0,show f1 env = .er c fs from h1,QG])
 | st => trivial
 | ok x1 =>
 cases t2 with
 | er c fs => exact (show QG ((Qa f0 (Qa f1 (Qa f2 (Qa f3 (Qa f4 Qk))))) env) k = .er c fs by simp only [Qa,Qk,show f0 env = .ok (d x0) from h0,show f1 env = .ok (d x1) from h1,show f2 env = .er c fs from h2,QG])
 | st => trivial
 | ok x2 =>
 cases t3 with
 | er c fs => exact (show QG ((Qa f0 (Qa f1 (Qa f2 (Qa f3 (Qa f4 Qk))))) env) k = .er c fs by simp only [Qa,Qk,show f0 env = .ok (d x0) from h0,show f1 env = .ok (d x1) from h1,show f2 env = .ok (d x2) from h2,show f3 env = .er c fs from h3,QG])
 | st => trivial
 | ok x3 =>
 cases t4 with
 | er c fs => exact (show QG ((Qa f0 (Qa f1 (Qa f2 (Qa f3 (Qa f4 Qk))))) env) k = .er c fs by simp only [Qa,Qk,show f0 env = .ok (d x0) from h0,show f1 env = .ok (d x1) from h1,show f2 env = .ok (d x2) from h2,show f3 env = .ok (d x3) from h3,show f4 env = .er c fs from h4,QG])
 | st => trivial
 | ok x4 =>
 have e : (Qa f0 (Qa f1 (Qa f2 (Qa f3 (Qa f4 Qk))))) env = .ok [d x0,d x1,d x2,d x3,d x4]:=by simp only [Qa,Qk,show f0 env = .ok (d x0) from h0,show f1 env = .ok (d x1) from h1,show f2 env = .ok (d x2) from h2,show f3 env = .ok (d x3) from h3,show f4 env = .ok (d x4) from h4]
 rw [e]
 exact hm x0 x1 x2 x3 x4
theorem QeU {A0 : Type} [Emb A0] {A1 : Type} [Emb A1] {A2 : Type} [Emb A2] {A3 : Type} [Emb A3] {A4 : Type} [Emb A4] {β : Type} [Emb β] {f0 f1 f2 f3 f4 : SE} {env : En} {t0 : M A0} {t1 : M A1} {t2 : M A2} {t3 : M A3} {t4 : M A4} {m : List D → R} {u : A0 → A1 → A2 → A3 → A4 → M β} (h0 : Ref (f0 env) t0) (h1 : Ref (f1 env) t1) (h2 : Ref (f2 env) t2) (h3 : Ref (f3 env) t3) (h4 : Ref (f4 env) t4) (hm : ∀ (x0 : A0) (x1 : A1) (x2 : A2) (x3 : A3) (x4 : A4),Ref (m [d x0,d x1,d x2,d x3,d x4]) (u x0 x1 x2 x3 x4)) : Ref (sFn m (Qa f0 (Qa f1 (Qa f2 (Qa f3 (Qa f4 Qk))))) env) (t0.bind fun x0 => t1.bind fun x1 => t2.bind fun x2 => t3.bind fun x3 => t4.bind fun x4 => u x0 x1 x2 x3 x4):=Qlc h0 h1 h2 h3 h4 hm
theorem Qld {A0 : Type} [Emb A0] {A1 : Type} [Emb A1] {A2 : Type} [Emb A2] {A3 : Type} [Emb A3] {A4 : Type} [Emb A4] {A5 : Type} [Emb A5] {β : Type} [Emb β] {f0 f1 f2 f3 f4 f5 : SE} {env : En} {t0 : M A0} {t1 : M A1} {t2 : M A2} {t3 : M A3} {t4 : M A4} {t5 : M A5} {k : List D → R} {u : A0 → A1 → A2 → A3 → A4 → A5 → M β} (h0 : Ref (f0 env) t0) (h1 : Ref (f1 env) t1) (h2 : Ref (f2 env) t2) (h3 : Ref (f3 env) t3) (h4 : Ref (f4 env) t4) (h5 : Ref (f5 env) t5) (hm : ∀ (x0 : A0) (x1 : A1) (x2 : A2) (x3 : A3) (x4 : A4) (x5 : A5),Ref (k [d x0,d x1,d x2,d x3,d x4,d x5]) (u x0 x1 x2 x3 x4 x5)) : Ref (QG ((Qa f0 (Qa f1 (Qa f2 (Qa f3 (Qa f4 (Qa f5 Qk)))))) env) k) (t0.bind fun x0 => t1.bind fun x1 => t2.bind fun x2 => t3.bind fun x3 => t4.bind fun x4 => t5.bind fun x5 => u x0 x1 x2 x3 x4 x5):=by
 cases t0 with
 | er c fs => exact (show QG ((Qa f0 (Qa f1 (Qa f2 (Qa f3 (Qa f4 (Qa f5 Qk)))))) env) k = .er c fs by simp only [Qa,Qk,show f0 env = .er c fs from h0,QG])
 | st => trivial
 | ok x0 =>
 cases t1 with
 | er c fs => exact (show QG ((Qa f0 (Qa f1 (Qa f2 (Qa f3 (Qa f4 (Qa f5 Qk)))))) env) k = .er c fs by simp only [Qa,Qk,show f0 env = .ok (d x0) from h0,show f1 env = .er c fs from h1,QG])
 | st => trivial
 | ok x1 =>
 cases t2 with
 | er c fs => exact (show QG ((Qa f0 (Qa f1 (Qa f2 (Qa f3 (Qa f4 (Qa f5 Qk)))))) env) k = .er c fs by simp only [Qa,Qk,show f0 env = .ok (d x0) from h0,show f1 env = .ok (d x1) from h1,show f2 env = .er c fs from h2,QG])
 | st => trivial
 | ok x2 =>
 cases t3 with
 | er c fs => exact (show QG ((Qa f0 (Qa f1 (Qa f2 (Qa f3 (Qa f4 (Qa f5 Qk)))))) env) k = .er c fs by simp only [Qa,Qk,show f0 env = .ok (d x0) from h0,show f1 env = .ok (d x1) from h1,show f2 env = .ok (d x2) from h2,show f3 env = .er c fs from h3,QG])
 | st => trivial
 | ok x3 =>
 cases t4 with
 | er c fs => exact (show QG ((Qa f0 (Qa f1 (Qa f2 (Qa f3 (Qa f4 (Qa f5 Qk)))))) env) k = .er c fs by simp only [Qa,Qk,show f0 env = .ok (d x0) from h0,show f1 env = .ok (d x1) from h1,show f2 env = .ok (d x2) from h2,show f3 env = .ok (d x3) from h3,show f4 env = .er c fs from h4,QG])
 | st => trivial
 | ok x4 =>
 cases t5 with
 | er c fs => exact (show QG ((Qa f0 (Qa f1 (Qa f2 (Qa f3 (Qa f4 (Qa f5 Qk)))))) env) k = .er c fs by simp only [Qa,Qk,show f0 env = .ok (d x0) from h0,show f1 env = .ok (d x1) from h1,show f2 env = .ok (d x2) from h2,show f3 env = .ok (d x3) from h3,show f4 env = .ok (d x4) from h4,show f5 env = .er c fs from h5,QG])
 | st => trivial
 | ok x5 =>
 have e : (Qa f0 (Qa f1 (Qa f2 (Qa f3 (Qa f4 (Qa f5 Qk)))))) env = .ok [d x0,d x1,d x2,d x3,d x4,d x5]:=by simp only [Qa,Qk,show f0 env = .ok (d x0) from h0,show f1 env = .ok (d x1) from h1,show f2 env = .ok (d x2) from h2,show f3 env = .ok (d x3) from h3,show f4 env = .ok (d x4) from h4,show f5 env = .ok (d x5) from h5]
 rw [e]
 exact hm x0 x1 x2 x3 x4 x5
theorem Qjk {A0 : Type} [Emb A0] {A1 : Type} [Emb A1] {A2 : Type} [Emb A2] {A3 : Type} [Emb A3] {A4 : Type} [Emb A4] {A5 : Type} [Emb A5] {β : Type} [Emb β] {f0 f1 f2 f3 f4 f5 : SE} {env : En} {t0 : M A0} {t1 : M A1} {t2 : M A2} {t3 : M A3} {t4 : M A4} {t5 : M A5} {m : List D → R} {u : A0 → A1 → A2 → A3 → A4 → A5 → M β} (h0 : Ref (f0 env) t0) (h1 : Ref (f1 env) t1) (h2 : Ref (f2 env) t2) (h3 : Ref (f3 env) t3) (h4 : Ref (f4 env) t4) (h5 : Ref (f5 env) t5) (hm : ∀ (x0 : A0) (x1 : A1) (x2 : A2) (x3 : A3) (x4 : A4) (x5 : A5),Ref (m [d x0,d x1,d x2,d x3,d x4,d x5]) (u x0 x1 x2 x3 x4 x5)) : Ref (sFn m (Qa f0 (Qa f1 (Qa f2 (Qa f3 (Qa f4 (Qa f5 Qk)))))) env) (t0.bind fun x0 => t1.bind fun x1 => t2.bind fun x2 => t3.bind fun x3 => t4.bind fun x4 => t5.bind fun x5 => u x0 x1 x2 x3 x4 x5):=Qld h0 h1 h2 h3 h4 h5 hm
variable {f g h : SE} {env : En} {t : M α} {u : M β} {v : M γ}
theorem Qb (i : Nat) {a : α} (h : env[i]? = some (.sh (d a))) : Ref (Qh i env) (.ok a):=by unfold Qh; rw [h]; rfl
theorem QdP (i : Nat) {a : α} (h : env[i]? = some (.ow (d a))) : Ref (QA i env) (.ok a):=by unfold QA; rw [h]; rfl
theorem QN (i : Nat) {a : α} (h : env[i]? = some (.bo (d a))) : Ref (QA i env) (.ok a):=by unfold QA; rw [h]; rfl
theorem Qu {x : D} {a : α} (h : x = d a) : Ref (sC x env) (.ok a):=congrArg R.ok h
theorem QdQ {s : PySem.Str} {x : Tx} (h : s = str x) : Ref (sC (.str s) env) (.ok x):=by rw [h]; rfl
theorem Qb6 (k : α → β) (hk : ∀ a,d (k a) = d a) {r : R} (h : Ref r t) : Ref r (t.bind fun a => .ok (k a)):=by
 cases t with
 | ok a => exact (show r = .ok (d a) from h).trans (congrArg R.ok (hk a).symm)
 | er c fs => exact h
 | st => trivial
def P2 (op : D → D → Option D) (p : α → β → M γ) : Prop:=∀ a b,Ref (ofO (op (d a) (d b))) (p a b)
theorem Ql {op : D → D → Option D} {p : α → β → M γ} (hp : P2 op p) (h1 : Ref (f env) t) (h2 : Ref (g env) u) : Ref (s2 op f g env) (t.bind fun a => u.bind fun b => p a b):=
 QM h1 fun a => QM h2 fun b => hp a b
theorem ZU {t : M Bool} (h : Ref (f env) t) : Ref (JK f env) (t.bind fun b => .ok (!b)):=QM h fun _ => rfl
theorem QeV {t u : M Bool} (h1 : Ref (f env) t) (h2 : Ref (g env) u) : Ref (Qdn f g env) (t.bind fun b => if b then u else .ok false):=QM h1 fun b => by cases b <;> first | exact h2 | rfl
theorem Qby {t u : M Bool} (h1 : Ref (f env) t) (h2 : Ref (g env) u) : Ref (sOr f g env) (t.bind fun b => if b then .ok true else u):=QM h1 fun b => by cases b <;> first | exact h2 | rfl
theorem Zw {c : Nat} {n : PySem.Str} {p : α → M β} (hf : ∀ a,Ref (QeQ c n (.ok (d a))) (p a)) (h1 : Ref (f env) t) : Ref (Qab c n f env) (t.bind p):=QM h1 hf
def P1 (op : List D → Option D) (p : α → M β) : Prop:=∀ a,Ref (ofO (op [d a])) (p a)
theorem Qs {op : List D → Option D} {p : α → M β} (hp : P1 op p) (h1 : Ref (f env) t) : Ref (QI op (Qa f Qk) env) (t.bind p):=Qap h1 hp
theorem Qle {op : D → D → Option D} {t : M Tx} {p : Tx → β → M γ} (hp : P2 op p) (h1 : Ref (f env) t) (h2 : Ref (g env) u) : Ref (sM1 op f g env) (t.bind fun a => u.bind fun b => p a b):=
 QM h1 fun a => QM h2 fun b => hp a b
theorem Qb7 {tb : Kd → Option Bool} {b : Bool} (hb : ∀ a : α,tb (kd (d a)) = some b) (h1 : Ref (f env) t) : Ref (QaN tb f env) (t.bind fun _ => .ok b):=QM h1 fun a => by rw [hb a]; rfl
def Qbb (tb : Kd → Option Bool) (a : α) : M Bool:=match tb (kd (d a)) with
 | some b => .ok b
 | none => .st
theorem Qa8 {tb : Kd → Option Bool} (h1 : Ref (f env) t) : Ref (QaN tb f env) (t.bind fun a => Qbb tb a):=QM h1 fun a => by
 unfold Qbb; cases tb (kd (d a)) with
 | some b => rfl
 | none => trivial
def QhF (r : R) (t : M (Option Int)) : Prop:=match t with
 | .ok o => ∃ x,r = .ok x ∧ oI x = some o
 | .er c fs => r = .er c fs
 | .st => True
theorem Qbq : QhF (sC .non env) (.ok none):=⟨_,rfl,rfl⟩
theorem Jk {t : M Int} (h1 : Ref (f env) t) : QhF (Ju f env) (t.bind fun i => .ok (some i)):=by
 cases t with
 | ok a => exact ⟨.int a,by unfold Ju; rw [show f env = .ok (d a) from h1]; rfl,rfl⟩
 | er c fs => show Ju f env = _; unfold Ju; rw [show f env = .er c fs from h1]; rfl
 | st => trivial
theorem Qcq {op : D → Option Int → Option Int → Option D} {lo hi : SE} {tl th : M (Option Int)} {p : α → Option Int → Option Int → M β} (hp : ∀ a l u,Ref (ofO (op (d a) l u)) (p a l u)) (h1 : Ref (f env) t) (h2 : QhF (lo env) tl) (h3 : QhF (hi env) th) :
  Ref (sSl op f lo hi env) (t.bind fun a => tl.bind fun l => th.bind fun u => p a l u):=by
 refine QM h1 fun a => ?_
 cases tl with
 | er c fs => rw [show lo env = .er c fs from h2]; rfl
 | st => trivial
 | ok l =>
  obtain ⟨x,e1,e2⟩:=h2
  rw [e1]
  show Ref (match oI x with | some l => _ | none => R.st) _
  rw [e2]
  cases th with
  | er c fs => rw [show hi env = .er c fs from h3]; rfl
  | st => trivial
  | ok u =>
   obtain ⟨y,e3,e4⟩:=h3
   rw [e3]
   show Ref (match oI y with | some u => _ | none => R.st) _
   rw [e4]
   exact hp a l u
def QhG (n : Nat) (r : RA) (t : M (List α)) : Prop:=match t with
 | .ok l => r = .ok (l.map d) ∧ l.length = n
 | .er c fs => r = .er c fs
 | .st => True
theorem Z1 : QhG 0 (Qk env) (.ok ([] : List α)):=⟨rfl,rfl⟩
theorem ZV {n : Nat} {fs : SA} {t : M α} {u : M (List α)} (h1 : Ref (f env) t) (h2 : QhG n (fs env) u) : QhG (n + 1) (Qa f fs env) (t.bind fun a => u.bind fun l => .ok (a :: l)):=by
 cases t with
 | er c fs => show Qa f _ env = _; unfold Qa; rw [show f env = .er c fs from h1]
 | st => trivial
 | ok a =>
  cases u with
  | er c fs => show Qa f _ env = _; unfold Qa; rw [show f env = .ok (d a) from h1,show _ = RA.er c fs from h2]
  | st => trivial
  | ok l => exact ⟨by unfold Qa; rw [show f env = .ok (d a) from h1,h2.1]; rfl,by simp [h2.2]⟩
theorem Z2 {n : Nat} {fs : SA} {t : M (List α)} (hn : n ≤ 1000) (h : QhG n (fs env) t) : Ref (ZR fs env) t:=by
 cases t with
 | er c fs => show ZR _ env = _; unfold ZR; rw [show _ = RA.er c fs from h]; rfl
 | st => trivial
 | ok l =>
  show ZR fs env = _
  unfold ZR
  rw [h.1]
  show (if (l.map d).length ≤ PySem.sizeLine then R.ok (.lst (l.map d)) else .st) = _
  rw [if_pos (Jv (by rw [List.length_map,h.2]; omega))]
  rfl
theorem Jl (h1 : Ref (f env) t) (h2 : Ref (g env) u) : Ref (Qa3 (Qa f (Qa g Qk)) env) (t.bind fun a => u.bind fun b => .ok (a,b)):=Qgo h1 h2 fun a b => by
 rw [if_pos (Jv (by simp))]; rfl
theorem QbJ (h1 : Ref (f env) t) (h2 : Ref (g env) u) (h3 : Ref (h env) v) : Ref (Qa3 (Qa f (Qa g (Qa h Qk))) env) (t.bind fun a => u.bind fun b => v.bind fun c => .ok (⟨a,b,c⟩ : P3 α β γ)):=QgP h1 h2 h3 fun a b c => by
 rw [if_pos (Jv (by simp))]; rfl
def Qbw (k : α → M β) : List α → M (List β)
 | [] => .ok []
 | a :: l => match k a with
  | .ok b => (Qbw k l).bind fun r => .ok (b :: r)
  | _ => .st
def Qav (p : α → M Bool) (k : α → M β) : List α → M (List β)
 | [] => .ok []
 | a :: l => match p a with
  | .ok true => (match k a with
   | .ok b => (Qav p k l).bind fun r => .ok (b :: r)
   | _ => .st)
  | .ok false => Qav p k l
  | _ => .st
theorem QhH (k : α → M β) (l : List α) : (∃ r,Qbw k l = .ok r) ∨ Qbw k l = .st:=by
 induction l with
 | nil => exact .inl ⟨[],rfl⟩
 | cons a l ih =>
  unfold Qbw
  cases k a with
  | ok b =>
   rcases ih with ⟨r,h⟩ | h
   ·exact .inl ⟨b :: r,by simp [h]⟩
   ·exact .inr (by simp [h])
  | er c fs => exact .inr rfl
  | st => exact .inr rfl
theorem QgR (p : α → M Bool) (k : α → M β) (l : List α) : (∃ r,Qav p k l = .ok r) ∨ Qav p k l = .st:=by
 induction l with
 | nil => exact .inl ⟨[],rfl⟩
 | cons a l ih =>
  unfold Qav
  cases p a with
  | ok b =>
   cases b with
   | true =>
    cases k a with
    | ok b =>
     rcases ih with ⟨r,h⟩ | h
     ·exact .inl ⟨b :: r,by simp [h]⟩
     ·exact .inr (by simp [h])
    | er c fs => exact .inr rfl
    | st => exact .inr rfl
   | false => exact ih
  | er c fs => exact .inr rfl
  | st => exact .inr rfl
theorem Qbo {T : Tgt} {env : En} {E : α → En} {fe : SE} {k : α → M β} (hb : ∀ a,QW T (d a) env = some (E a)) (he : ∀ a,Ref (fe (E a)) (k a)) : ∀ l r,Qbw k l = .ok r → ZS T env (sC (.bl true)) fe (l.map d) = some (r.map d)
 | [],r,h => by cases h; rfl
 | a :: l,r,h => by
  unfold Qbw at h
  have h1:=he a
  cases e : k a with
  | er c fs => rw [e] at h; cases h
  | st => rw [e] at h; cases h
  | ok b =>
   rw [e] at h h1
   cases e2 : Qbw k l with
   | er c fs => rw [e2] at h; cases h
   | st => rw [e2] at h; cases h
   | ok r' =>
    rw [e2] at h
    cases h
    show (match QW T (d a) env with | none => none | some e => _) = _
    rw [hb a]
    simp only [sC,show fe (E a) = .ok (d b) from h1,Qbo hb he l r' e2]
    rfl
theorem Qb8 {T : Tgt} {env : En} {E : α → En} {ft fe : SE} {p : α → M Bool} {k : α → M β} (hb : ∀ a,QW T (d a) env = some (E a)) (ht : ∀ a,Ref (ft (E a)) (p a)) (he : ∀ a,Ref (fe (E a)) (k a)) : ∀ l r,Qav p k l = .ok r → ZS T env ft fe (l.map d) = some (r.map d)
 | [],r,h => by cases h; rfl
 | a :: l,r,h => by
  unfold Qav at h
  have h1:=he a
  have h0:=ht a
  cases q : p a with
  | er c fs => rw [q] at h; cases h
  | st => rw [q] at h; cases h
  | ok x =>
   rw [q] at h h0
   show (match QW T (d a) env with | none => none | some e => _) = _
   rw [hb a]
   cases x with
   | false =>
    simp only [show ft (E a) = .ok (.bl false) from h0]
    exact Qb8 hb ht he l r h
   | true =>
    cases e : k a with
    | er c fs => rw [e] at h; cases h
    | st => rw [e] at h; cases h
    | ok b =>
     rw [e] at h h1
     cases e2 : Qav p k l with
     | er c fs => rw [e2] at h; cases h
     | st => rw [e2] at h; cases h
     | ok r' =>
      rw [e2] at h
      cases h
      simp only [show ft (E a) = .ok (.bl true) from h0,show fe (E a) = .ok (d b) from h1,Qb8 hb ht he l r' e2]
      rfl
theorem ZD {T : Tgt} {vs : List Nat} {fi fe : SE} {E : α → En} {ti : M (List α)} {k : α → M β} (hi : Ref (fi env) ti) (hw : JQ env vs = true) (hb : ∀ a,QW T (d a) (Qac env vs) = some (E a)) (he : ∀ a,Ref (fe (E a)) (k a)) :
  Ref (Zg T vs fi (sC (.bl true)) fe env) (ti.bind fun l => gd (l.length < 16777216) (Qbw k l)):=by
 refine QM hi fun l => JT fun hl => ?_
 show Ref (if (l.map d).length < PySem.sizeLine ∧ JQ env vs = true then _ else _) _
 rw [if_pos ⟨by rw [PySem.sizeLine_eq,List.length_map]; exact hl,hw⟩]
 rcases QhH k l with ⟨r,h⟩ | h
 ·rw [h,Qbo hb he l r h]; rfl
 ·rw [h]; trivial
theorem Qbc {T : Tgt} {vs : List Nat} {fi ft fe : SE} {E : α → En} {ti : M (List α)} {p : α → M Bool} {k : α → M β} (hi : Ref (fi env) ti) (hw : JQ env vs = true) (hb : ∀ a,QW T (d a) (Qac env vs) = some (E a)) (ht : ∀ a,Ref (ft (E a)) (p a)) (he : ∀ a,Ref (fe (E a)) (k a)) :
  Ref (Zg T vs fi ft fe env) (ti.bind fun l => gd (l.length < 16777216) (Qav p k l)):=by
 refine QM hi fun l => JT fun hl => ?_
 show Ref (if (l.map d).length < PySem.sizeLine ∧ JQ env vs = true then _ else _) _
 rw [if_pos ⟨by rw [PySem.sizeLine_eq,List.length_map]; exact hl,hw⟩]
 rcases QgR p k l with ⟨r,h⟩ | h
 ·rw [h,Qb8 hb ht he l r h]; rfl
 ·rw [h]; trivial
theorem ZG {t : M (List α)} (h1 : Ref (f env) t) : Ref (QP f env) t:=by
 have:=QM (k:=fun x => match Qb0 x with | some ds => .ok (.lst ds) | none => .st) (u:=fun l => M.ok l) h1 fun l => rfl
 cases t <;> exact this
def Qd7 (i : Int) : Prop:=-(2 ^ 62) ≤ i ∧ i < 2 ^ 62
instance : DecidablePred Qd7:=fun i => inferInstanceAs (Decidable (_ ∧ _))
theorem QfY {i : Int} (h : Qd7 i) : inR i = true:=by unfold inR; obtain ⟨h1,h2⟩:=h; simp only [Bool.and_eq_true,decide_eq_true_eq]; exact ⟨h1,h2⟩
def rgT (n : Int) : List Int:=(List.range n.toNat).map fun (i : Nat) => (i : Int)
def QmK (lo hi : Int) : List Int:=(List.range (hi - lo).toNat).map fun (i : Nat) => lo + (i : Int)
theorem JE {t : M Int} (h1 : Ref (f env) t) : Ref (QbD Qcu (Qa f Qk) env) (t.bind fun n => gd (Qd7 n) (.ok (rgT n))):=Qap h1 fun n => JT fun hn => by
 show (match (if inR n then _ else _) with | some xs => R.ok (.lst xs) | none => .st) = _
 rw [if_pos (QfY hn)]
 show R.ok (.lst _) = .ok (.lst ((rgT n).map d))
 unfold rgT
 rw [List.map_map]
 congr 2
 refine List.map_congr_left fun i _ => ?_
 show D.int (0 + (i : Int)) = D.int (i : Int)
 rw [Int.zero_add]
theorem Qjl {t : M (List α)} (h1 : Ref (f env) t) : Ref (Qje f env) (t.bind fun l => .ok l.reverse):=QM h1 fun l => by
 show R.ok (.lst ((l.map d).reverse)) = .ok (.lst (l.reverse.map d))
 rw [List.map_reverse]
end
end Tm
namespace Tm
open Ps
open Emb (d)
class Nnd (α : Type) [Emb α] : Prop where
 nn : ∀ a : α,QcE (d a) = false
instance : Nnd Int:=⟨fun _ => rfl⟩
instance : Nnd Bool:=⟨fun _ => rfl⟩
instance : Nnd Tx:=⟨fun _ => rfl⟩
instance {α : Type} [Emb α] : Nnd (List α):=⟨fun _ => rfl⟩
instance {α β : Type} [Emb α] [Emb β] : Nnd (α × β):=⟨fun _ => rfl⟩
instance {α β γ : Type} [Emb α] [Emb β] [Emb γ] : Nnd (P3 α β γ):=⟨fun _ => rfl⟩
instance : Nnd Exc:=⟨fun _ => rfl⟩
instance : Nnd Scr:=⟨fun _ => rfl⟩
section
theorem QT : P2 QC fun (a b : Int) => .ok (a + b):=fun a b => rfl
theorem J5 {α : Type} [Emb α] : P2 QC fun (a b : List α) => gd (a.length + b.length ≤ 16777216) (.ok (a ++ b)):=fun a b => JT fun h => by
 show ofO (QC (.lst (a.map d)) (.lst (b.map d))) = _
 have e : QC (.lst (a.map d)) (.lst (b.map d)) = some (.lst (a.map d ++ b.map d)):=by
  show orD none (if (a.map d).length + (b.map d).length ≤ PySem.sizeLine then _ else _) = _
  rw [List.length_map,List.length_map,if_pos (Jv h)]; rfl
 rw [e,← List.map_append]; rfl
theorem Qf1 : P2 Qek fun (a b : Int) => .ok (a - b):=fun a b => rfl
theorem QbK : P2 Zy fun (a b : Int) => gd ((-(2 ^ 64) < a ∧ a < 2 ^ 64) ∨ (-(2 ^ 64) < b ∧ b < 2 ^ 64)) (.ok (a * b)):=fun a b => JT fun h => by
 show ofO (Zy (.int a) (.int b)) = _
 rw [Qcb h]; rfl
def QeW (x : Tx) (n : Int) : M Tx:=if n < 1 then gd (-(2 ^ 63 : Int) ≤ n) (.ok []) else if n = 1 then .ok x else gd (n ≤ 1000 ∧ 0 < x.length ∧ x.length ≤ 1000) (.ok (List.replicate n.toNat x).flatten)
theorem Qd8 (a : Array Nat) : ∀ (n : Nat) (acc : Array Nat),((List.replicate n a).foldl (· ++ ·) acc).toList = acc.toList ++ (List.replicate n a.toList).flatten
 | 0,acc => by simp
 | n + 1,acc => by
  rw [List.replicate_succ,List.foldl_cons,Qd8 a n,List.replicate_succ,List.flatten_cons]; simp
theorem Qf2 {x y : PySem.Str} (h : x.cps.toList = y.cps.toList) : x = y:=by
 cases x; cases y; congr; exact Array.toList_inj.mp h
theorem Qey (x : Tx) (n : Nat) : Qh6 (str x) n = str (List.replicate n x).flatten:=Qf2 (by
 rw [Qah]
 unfold Qh6
 show ((List.replicate n (str x).cps).foldl (· ++ ·) #[]).toList = _
 rw [Qd8,Qah]
 simp [List.map_flatten])
theorem Qjm : P2 Zy QeW:=fun x n => by
 have e : Zy (d x) (d n) = (Qer (str x) n).map .str:=by
  show orD none ((Qer (str x) n).map D.str) = _
  cases Qer (str x) n <;> rfl
 rw [e]
 unfold QeW Qer
 split
 ·refine JT fun h => ?_
  rw [if_pos h]; rfl
 ·split
  ·rfl
  ·refine JT fun ⟨h1,h2,h3⟩ => ?_
   rw [if_pos ⟨h1,by rw [Qbp]; exact h2,by rw [Qbp]; exact h3,by
    rw [Qey,Qbp,PySem.sizeLine_eq]
    simp only [List.length_flatten,List.map_replicate,List.sum_replicate_nat]
    have : n.toNat ≤ 1000:=by omega
    exact Nat.le_trans (Nat.mul_le_mul this h3) (by decide)⟩,Qey]
   rfl
theorem QdR : P2 JL fun (a b : Int) => gd (0 < b ∧ b < 1073741824) (.ok (a / b)):=fun a b => JT fun h => by
 show ofO (JL (.int a) (.int b)) = _
 rw [Qd4 h.1 h.2]; rfl
theorem Qiz : P2 Qa2 fun (a b : Int) => gd (0 < b) (.ok (a % b)):=fun a b => JT fun h => by
 show ofO (Qa2 (.int a) (.int b)) = _
 rw [Qet h]; rfl
theorem QeX : P2 dLt fun (a b : Int) => .ok (decide (a < b)):=fun a b => rfl
theorem Qlf : P2 dGt fun (a b : Int) => .ok (decide (b < a)):=fun a b => rfl
theorem QhI : P2 dGe fun (a b : Int) => .ok (decide (b ≤ a)):=fun a b => rfl
def eqT {α : Type} [Cm α] (a b : α) : Bool:=@decide (a = b) (Cm.dec a b)
theorem QcY {α : Type} [Cm α] [i : DecidableEq α] (a b : α) : eqT a b = decide (a = b):=by unfold eqT; congr
theorem Qbr {α : Type} [Cm α] (hn : Cm.n α ≤ 64) (a : α) : PySem.SeqAt.shaped (Cm.p a) = true:=by
 unfold PySem.SeqAt.shaped
 rw [Cm.lay a,decide_eq_true (Nat.le_trans (Cm.dep a) hn)]; rfl
theorem Qcd {α : Type} [Cm α] (hn : Cm.n α ≤ 64:=by decide) : P2 dEq fun (a b : α) => .ok (eqT a b):=fun a b => by
 show ofO ((toP (d a)).bind fun p => (toP (d b)).bind fun q => _) = _
 rw [Cm.toP a,Cm.toP b]
 show ofO (if PySem.SeqAt.shaped (Cm.p a) && PySem.SeqAt.shaped (Cm.p b) then _ else _) = _
 rw [Qbr hn a,Qbr hn b]
 show R.ok (.bl (PySem.PyData.eqv _ _)) = R.ok (.bl (eqT a b))
 rw [Cm.eqv]; unfold eqT; congr
theorem QhJ {α : Type} [Cm α] (hn : Cm.n α ≤ 64:=by decide) : P2 dNe fun (a b : α) => .ok (!eqT a b):=fun a b => by
 show ofO ((toP (d a)).bind fun p => (toP (d b)).bind fun q => _) = _
 rw [Cm.toP a,Cm.toP b]
 show ofO (if PySem.SeqAt.shaped (Cm.p a) && PySem.SeqAt.shaped (Cm.p b) then _ else _) = _
 rw [Qbr hn a,Qbr hn b]
 show R.ok (.bl (!PySem.PyData.eqv _ _)) = R.ok (.bl (!eqT a b))
 rw [Cm.eqv]; unfold eqT; congr
theorem QmL {α : Type} [Emb α] [Nnd α] : P2 dIs fun (a : Option α) (_ : Unit) => .ok a.isNone:=fun a _ => by
 cases a with
 | none => rfl
 | some a =>
  show R.ok (.bl (QcE (d a))) = R.ok (.bl false)
  rw [Nnd.nn]
class Fl (α : Type) extends Cm α where
 fl : ∀ a,J8 (d a) = true
 fv : ∀ a b,L2.eqV (toV (d a)) (toV (d b)) = PySem.PyData.eqv (p a) (p b)
class Fn (α : Type) extends Nn α,Fl α where
 f1 : ∀ a,L2.eqV .non (toV (d a)) = false
 f2 : ∀ a,L2.eqV (toV (d a)) .non = false
instance : Fn Int:={ fl:=fun _ => rfl,fv:=fun _ _ => rfl,f1:=fun _ => rfl,f2:=fun _ => rfl }
instance : Fn Bool:={ fl:=fun _ => rfl,fv:=fun _ _ => rfl,f1:=fun _ => rfl,f2:=fun _ => rfl }
instance : Fn Tx:={ fl:=fun _ => rfl,fv:=fun _ _ => rfl,f1:=fun _ => rfl,f2:=fun _ => rfl }
instance {α : Type} [Fn α] : Fl (Option α) where
 fl x:=by
  cases x with
  | none => rfl
  | some a => exact Fl.fl a
 fv a b:=by
  cases a with
  | none =>
   cases b with
   | none => rfl
   | some b => exact (Fn.f1 b).trans (Nn.n1 b).symm
  | some a =>
   cases b with
   | none => exact (Fn.f2 a).trans (Nn.n2 a).symm
   | some b => exact Fl.fv a b
def inT {α : Type} [Cm α] (a : α) (l : List α) : Bool:=l.any fun b => eqT b a
theorem QhK {α : Type} [Fl α] (a : α) (l : List α) : L2.inV (toV (d a)) ((l.map d).map toV) = inT a l:=by
 unfold L2.inV inT
 rw [List.map_map,List.any_map]
 congr 1; funext b
 show L2.eqV (toV (d b)) (toV (d a)) = _
 rw [Fl.fv,Cm.eqv]; rfl
theorem Qi0 {α : Type} [Fl α] (a : α) (l : List α) : inD (d a) (d l) = some (inT a l):=by
 show (if J8 (d a) && (l.map d).all J8 then some (L2.inV (toV (d a)) ((l.map d).map toV)) else none) = _
 have h1 : (l.map d).all J8 = true:=by
  rw [List.all_map,List.all_eq_true]; exact fun b _ => Fl.fl b
 rw [Fl.fl a,h1,QhK]; rfl
theorem Qi1 {α : Type} [Fl α] : P2 dIn fun (a : α) (l : List α) => .ok (inT a l):=fun a l => by
 show ofO ((inD (d a) (d l)).map .bl) = _
 rw [Qi0]; rfl
theorem Qez {α : Type} [Fl α] : P2 QcH fun (a : α) (l : List α) => .ok (!inT a l):=fun a l => by
 show ofO ((inD (d a) (d l)).map fun b => .bl (!b)) = _
 rw [Qi0]; rfl
def oM {α : Type} (o : Option α) : M α:=match o with
 | some a => .ok a
 | none => .st
@[simp] theorem QhL {α : Type} (a : α) : oM (some a) = .ok a:=rfl
@[simp] theorem QlY {α : Type} : oM (none : Option α) = .st:=rfl
theorem Qlg {α : Type} [Emb α] (o : Option α) : Ref (ofO (o.map d)) (oM o):=by
 cases o with
 | none => trivial
 | some a => rfl
theorem Qc2 {α β : Type} (k : α → β) (l : List α) (i : Int) : L2.atI (l.map k) i = (L2.atI l i).map k:=by
 unfold L2.atI
 rw [List.length_map]
 cases L2.ixN l.length i with
 | none => rfl
 | some j => exact List.getElem?_map
theorem Z4 {α : Type} [Emb α] : P2 dIx fun (l : List α) (i : Int) => oM (L2.atI l i):=fun l i => by
 show Ref (ofO (L2.atI (l.map d) i)) _
 rw [Qc2]
 exact Qlg _
theorem Qi2 : P2 dIx fun (x : Tx) (i : Int) => gd (x.length ≤ 16777216) (oM ((L2.atI x i).map sg)):=fun x i => JT fun h => by
 show Ref (ofO (if (str x).length ≤ PySem.sizeLine then (L2.atI (str x).cps.toList i).map _ else none)) _
 rw [Qbp,if_pos (Jv h),Qah,Qc2]
 cases L2.atI x i with
 | none => trivial
 | some a => rfl
def cut {α : Type} (l : List α) (lo hi : Option Int) : List α:=(l.drop (HT.sIx l.length 0 lo)).take (HT.sIx l.length l.length hi - HT.sIx l.length 0 lo)
theorem QhM {α β : Type} (k : α → β) (l : List α) (lo hi : Option Int) : cut (l.map k) lo hi = (cut l lo hi).map k:=by
 unfold cut; rw [List.length_map,List.map_take,List.map_drop]
theorem Qd9 {α : Type} [Emb α] (l : List α) (lo hi : Option Int) : Ref (ofO (QcW (d l) lo hi)) (M.ok (cut l lo hi)):=by
 show R.ok (.lst (cut (l.map d) lo hi)) = _
 rw [QhM]; rfl
theorem Qf3 (l : Scr) (lo hi : Option Int) : Ref (ofO (QcW (d l) lo hi)) (M.ok (cut l.ns lo hi)):=rfl
theorem JV {α : Type} [Emb α] : P1 Qbv fun (l : List α) => .ok (l.length : Int):=fun l => by
 show R.ok (.int ((l.map d).length : Nat)) = _
 rw [List.length_map]; rfl
theorem QcZ : ∀ l : List Int,QaS (l.map d) = some l
 | [] => rfl
 | a :: l => by
  show (QaS (l.map d)).map _ = _
  rw [QcZ l]; rfl
theorem Qce : ∀ l : List Bool,QaT (l.map d) = some l
 | [] => rfl
 | a :: l => by
  show (QaT (l.map d)).map _ = _
  rw [Qce l]; rfl
theorem Qda : ∀ l : List Tx,QaU (l.map d) = some (l.map str)
 | [] => rfl
 | a :: l => by
  show (QaU (l.map d)).map _ = _
  rw [Qda l]; rfl
theorem Qi3 : P1 Qgr fun (l : List Int) => .ok l.sum:=fun l => by
 show ofO ((QaS (l.map d)).map _) = _
 rw [QcZ]; rfl
theorem Qlh : P1 Qhu fun (l : List Bool) => .ok (l.any id):=fun l => by
 show ofO ((QaT (l.map d)).map _) = _
 rw [Qce]; rfl
theorem Qi4 : P1 Qgs fun (l : List Bool) => .ok (l.all id):=fun l => by
 show ofO ((QaT (l.map d)).map _) = _
 rw [Qce]; rfl
theorem Qbd {α : Type} [Emb α] : P1 Qaq fun (l : List α) => .ok l:=fun l => rfl
theorem Qli : P1 Qgq fun (a : Int) => .ok (a.natAbs : Int):=fun a => by
 show R.ok (.int _) = R.ok (.int _)
 congr 2; split <;> omega
theorem QgS : P1 QeJ fun (a : Bool) => .ok (if a then (1 : Int) else 0):=fun a => rfl
def leT (x y : Tx) : Bool:=decide (x.map Char.toNat ≤ y.map Char.toNat)
def Qlj (l : List Tx) : List Tx:=l.mergeSort leT
def Qcr (s : Tx) : List Tx → Tx
 | [] => []
 | [x] => x
 | x :: l => x ++ s ++ Qcr s l
theorem QdA (s : Tx) : ∀ (l : List Tx) (acc : Array Nat),((l.map str).foldl (fun acc p => acc ++ (str s).cps ++ p.cps) acc).toList = acc.toList ++ (l.map fun x => s.map Char.toNat ++ x.map Char.toNat).flatten
 | [],acc => by simp
 | x :: l,acc => by
  rw [List.map_cons,List.foldl_cons,QdA s l]
  simp [str]
theorem Qdb (s x : Tx) : ∀ l : List Tx,Qcr s (x :: l) = x ++ (l.map fun y => s ++ y).flatten
 | [] => by simp [Qcr]
 | y :: l => by
  show x ++ s ++ Qcr s (y :: l) = _
  rw [Qdb s y l]; simp
theorem QgT (s : Tx) (l : List Tx) : PySem.Txt.join (str s) (l.map str) = str (Qcr s l):=by
 refine Qf2 ?_
 unfold PySem.Txt.join PySem.Builtin.Str.glued
 cases l with
 | nil => rfl
 | cons x l =>
  rw [Qdb,Qah]
  show ((l.map str).foldl _ (str x).cps).toList = _
  rw [QdA,Qah]
  simp only [List.map_append,List.map_flatten,List.map_map,Function.comp_def]
theorem Qjn : P2 Qfp fun (s : Tx) (l : List Tx) => gd ((l.map List.length).sum + l.length * s.length ≤ 16777216) (.ok (Qcr s l)):=fun s l => JT fun h => by
 show ofO ((QaU (l.map d)).bind _) = _
 rw [Qda]
 show ofO (if ((l.map str).map (·.length)).sum + (l.map str).length * (str s).length ≤ 16777216 then _ else _) = _
 have e : (l.map str).map (·.length) = l.map List.length:=by
  rw [List.map_map]; exact List.map_congr_left fun x _ => Qbp x
 rw [e,List.length_map,Qbp,if_pos h,QgT]; rfl
section
variable {κ α : Type} {f g h : SE} {env : En}
end
end
end Tm
namespace Tm
open Ps
open Emb (d)
inductive Ot (σ ρ : Type) where
 | nx (s : σ) | bk (s : σ) | ct (s : σ) | rt (r : ρ)
inductive Lt (σ ρ : Type) where
 | nx (s : σ) | rt (r : ρ)
def QD {β : Type} (em : β → O → Prop) (o : O) (t : M β) : Prop:=match t with
 | .ok b => em b o
 | .er c fs => ∃ e,o = .er c fs e
 | .st => True
def rtO (fr : Bool) (x : D) : O:=if fr then .rn x else .rt x
def emN {σ : Type} (E : σ → En) : σ → O → Prop:=fun s o => o = .nx (E s)
def emF {ρ : Type} [Emb ρ] (fr : Bool) : ρ → O → Prop:=fun r o => o = rtO fr (d r)
def emG {σ ρ : Type} [Emb ρ] (fr : Bool) (E : σ → En) : Ot σ ρ → O → Prop
 | .nx s,o => o = .nx (E s)
 | .bk s,o => o = .bk (E s)
 | .ct s,o => o = .ct (E s)
 | .rt r,o => o = rtO fr (d r)
def emL {σ ρ : Type} [Emb ρ] (fr : Bool) (E : σ → En) : Lt σ ρ → O → Prop
 | .nx s,o => o = .nx (E s)
 | .rt r,o => o = rtO fr (d r)
def emX {β : Type} (em : β → O → Prop) : β → O → Prop:=fun b o => em b o ∧ ∀ e,o ≠ .nx e
theorem QgU {fr : Bool} {x : D} {e : En} : rtO fr x ≠ .nx e:=by cases fr <;> exact fun h => nomatch h
def Lt.f {σ ρ : Type} (k : σ → M ρ) : Lt σ ρ → M ρ
 | .nx s => k s
 | .rt r => .ok r
def Lt.g {σ τ ρ : Type} (k : σ → M (Ot τ ρ)) : Lt σ ρ → M (Ot τ ρ)
 | .nx s => k s
 | .rt r => .ok (.rt r)
section
variable {α β σ τ ρ : Type} [Emb α] [Emb ρ] {em : β → O → Prop} {o : O} {a b : SS} {env env' : En} {f : SE} {t : M α} {fr : Bool} {i : Nat}
theorem xF {t : M ρ} (h : QD (emF fr) o t) : QD (emX (emF fr)) o t:=by
 cases t with
 | ok b => exact ⟨h,fun e z => QgU ((show o = rtO fr (d b) from h).symm.trans z)⟩
 | er c fs => exact h
 | st => trivial
theorem Qm {E : σ → En} {t1 : M σ} {k : σ → M β} (h1 : QD (emN E) (a env) t1) (h2 : ∀ s,QD em (b (E s)) (k s)) : QD em (Qg a b env) (t1.bind k):=by
 cases t1 with
 | ok s =>
  show QD em (match a env with | .nx e => b e | o => o) (k s)
  rw [show a env = .nx (E s) from h1]
  exact h2 s
 | er c fs =>
  obtain ⟨e,h⟩:=h1
  exact ⟨e,by unfold Qg; rw [h]⟩
 | st => trivial
theorem Qq {t : M β} (h : a env = .nx env') (h2 : QD em (b env') t) : QD em (Qg a b env) t:=by
 show QD em (match a env with | .nx e => b e | o => o) t
 rw [h]
 exact h2
theorem QB {E : σ → En} {s : σ} (h : env = E s:=by rfl) : QD (emN E) (Qr env) (.ok s):=congrArg O.nx h
theorem Qf4 {E : σ → En} {s : σ} (h : env = E s:=by rfl) : QD (emG (ρ:=ρ) fr E) (Qr env) (.ok (.nx s)):=congrArg O.nx h
theorem QmM {t : M β} (h : QD (emX em) o t) : QD em o t:=by
 cases t with
 | ok b => exact h.1
 | er c fs => exact h
 | st => trivial
theorem QX {t : M ρ} (h : Ref (f env) t) : QD (emF false) (Zl f env) t:=by
 cases t with
 | ok r => show ZP (f env) env _ = _; rw [show f env = .ok (d r) from h]; rfl
 | er c fs => exact ⟨env,by unfold Zl; rw [show f env = .er c fs from h]; rfl⟩
 | st => trivial
theorem QdS {E : σ → En} {t : M ρ} {g : SS} (h : QD (emF fr) (g env) t) : QD (emX (emG fr E)) (g env) (t.bind fun r => .ok (.rt r)):=by
 cases t with
 | ok r => exact ⟨h,fun e z => QgU ((show _ = rtO fr (d r) from h).symm.trans z)⟩
 | er c fs => exact h
 | st => trivial
theorem QbL {c : Nat} : QD em (Qa6 c env) (.er c []):=⟨env,rfl⟩
theorem Qt {T : Tgt} {E : α → En} (h : Ref (f env) t) (hE : ∀ x,QW T (d x) env = some (E x)) : QD (emN E) (Qv T f env) t:=by
 cases t with
 | ok r =>
  show ZP (f env) env _ = _
  rw [show f env = .ok (d r) from h]
  show (match QW T (d r) env with | some e => O.nx e | none => .st) = _
  rw [hE r]
 | er c fs => exact ⟨env,by unfold Qv; rw [show f env = .er c fs from h]; rfl⟩
 | st => trivial
theorem ZM {E : α → En} (h : Ref (f env) t) (hE : ∀ x,Zf env i (.ow (d x)) = some (E x)) : QD (emN E) (ZF i f env) t:=by
 cases t with
 | ok r =>
  show ZP (f env) env _ = _
  rw [show f env = .ok (d r) from h]
  show (match Zf env i (.ow (d r)) with | some e => O.nx e | none => .st) = _
  rw [hE r]
 | er c fs => exact ⟨env,by unfold ZF; rw [show f env = .er c fs from h]; rfl⟩
 | st => trivial
theorem Qa9 {E : List α → En} {l : List α} (hx : env[i]? = some (.ow (d l))) (h : Ref (f env) t) (hE : ∀ l',env.set i (.ow (d l')) = E l') : QD (emN E) (JA i f env) (t.bind fun x => gd (l.length < 16777216) (.ok (l ++ [x]))):=by
 have e : JA i f env = ZP (f env) env fun x => if (l.map d).length < PySem.sizeLine then .nx (env.set i (.ow (.lst (l.map d ++ [x])))) else .st:=by unfold JA; rw [hx]; rfl
 cases t with
 | ok r =>
  show QD _ _ (gd _ _)
  unfold gd
  split
  ·rename_i hl
   show JA i f env = _
   rw [e,show f env = .ok (d r) from h]
   show (if _ then _ else _) = _
   rw [if_pos (by rw [PySem.sizeLine_eq,List.length_map]; exact hl),← hE]
   show O.nx _ = O.nx _
   rw [QkZ,List.map_append]; rfl
  ·trivial
 | er c fs => exact ⟨env,by rw [e,show f env = .er c fs from h]; rfl⟩
 | st => trivial
theorem QhN {fk fv : SE} {E : List α → En} {l : List α} {tk : M Int} (hx : env[i]? = some (.ow (d l))) (hv : Ref (fv env) t) (hk : Ref (fk env) tk) (hE : ∀ m',env.set i (.ow (d m')) = E m') :
  QD (emN E) (QbE i fk fv env) (t.bind fun v => tk.bind fun k => oM ((L2.ixN l.length k).map fun j => l.set j v)):=by
 cases t with
 | er c fs => exact ⟨env,by unfold QbE; rw [show fv env = .er c fs from hv]; rfl⟩
 | st => trivial
 | ok v =>
  have e : QbE i fk fv env = ZP (fk env) env fun k => (match QcT (d l) k (d v) with | some z => .nx (env.set i (.ow z)) | none => .st):=by
   unfold QbE; rw [show fv env = .ok (d v) from hv,hx]; rfl
  cases tk with
  | er c fs => exact ⟨env,by rw [e,show fk env = .er c fs from hk]; rfl⟩
  | st => trivial
  | ok k =>
   have e2 : QcT (d l) (d k) (d v) = (L2.ixN l.length k).map fun j => d (l.set j v):=by
    show ((L2.ixN (l.map d).length k).map fun j => D.lst ((l.map d).set j (d v))) = _
    rw [List.length_map]
    congr 1; funext j
    rw [← List.map_set]; rfl
   show QD _ _ (oM _)
   cases q : L2.ixN l.length k with
   | none => trivial
   | some j =>
    show QbE i fk fv env = _
    rw [e,show fk env = .ok (d k) from hk]
    show (match QcT (d l) (d k) (d v) with | some z => O.nx (env.set i (.ow z)) | none => .st) = _
    rw [e2,q]
    exact congrArg O.nx (hE (l.set j v))
theorem QbM {tc : M Bool} {ta tb : M β} (hc : Ref (f env) tc) (ha : QD em (a env) ta) (hb : QD em (b env) tb) : QD em (Zx f a b env) (tc.bind fun c => if c then ta else tb):=by
 cases tc with
 | ok c =>
  show QD em (ZP (f env) env _) _
  rw [show f env = .ok (.bl c) from hc]
  cases c with
  | true => exact ha
  | false => exact hb
 | er c fs => exact ⟨env,by unfold Zx; rw [show f env = .er c fs from hc]; rfl⟩
 | st => trivial
theorem ZW {tc : M Bool} {ta tb : M β} {g : SS} (hc : Ref (f env) tc) (ha : QD (emX em) (a env) ta) (hb : QD em (Qg b g env) tb) : QD em (Qg (Zx f a b) g env) (tc.bind fun c => if c then ta else tb):=by
 cases tc with
 | ok c =>
  have e : Zx f a b env = if c then a env else b env:=by
   unfold Zx; rw [show f env = .ok (.bl c) from hc]; cases c <;> rfl
  cases c with
  | true =>
   show QD em (Qg (Zx f a b) g env) ta
   have e2 : Zx f a b env = a env:=e
   cases ta with
   | ok x =>
    show em x (Qg (Zx f a b) g env)
    have : Qg (Zx f a b) g env = a env:=by
     unfold Qg
     rw [e2]
     have:=ha.2
     cases q : a env <;> first | rfl | exact absurd q (this _)
    rw [this]; exact ha.1
   | er c fs => obtain ⟨x,hx⟩:=ha; exact ⟨x,by unfold Qg; rw [e2,hx]⟩
   | st => trivial
  | false =>
   show QD em (Qg (Zx f a b) g env) tb
   have : Qg (Zx f a b) g env = Qg b g env:=by unfold Qg; rw [show Zx f a b env = b env from e]
   rw [this]; exact hb
 | er c fs => exact ⟨env,by unfold Qg Zx; rw [show f env = .er c fs from hc]; rfl⟩
 | st => trivial
theorem Z5 {t : M β} (h : QD em (b env) t) : QD em (Qg Qr b env) t:=h
def ZX (tb : σ → α → M σ) : List α → σ → M σ
 | [],s => .ok s
 | a :: l,s => (tb s a).bind fun s => ZX tb l s
def Qcf (tb : σ → α → M (Ot σ ρ)) : List α → σ → M (Lt σ ρ)
 | [],s => .ok (.nx s)
 | a :: l,s => (tb s a).bind fun x => match x with
  | .nx s => Qcf tb l s
  | .ct s => Qcf tb l s
  | .bk s => .ok (.nx s)
  | .rt r => .ok (.rt r)
theorem QdB {T : Tgt} {body : SS} {E : σ → En} {E' : σ → α → En} {tb : σ → α → M σ} (hb : ∀ s x,QW T (d x) (E s) = some (E' s x)) (hbody : ∀ s x,QD (emN E) (body (E' s x)) (tb s x)) : ∀ (l : List α) (s : σ),QD (emN E) (JB T body (l.map d) (E s)) (ZX tb l s)
 | [],s => rfl
 | x :: l,s => by
  show QD _ (match QW T (d x) (E s) with | none => O.st | some e => Qar (body e) (JB T body (l.map d))) _
  rw [hb s x]
  have h:=hbody s x
  show QD _ (Qar (body (E' s x)) _) ((tb s x).bind _)
  cases q : tb s x with
  | ok s' =>
   rw [q] at h
   rw [show body (E' s x) = .nx (E s') from h]
   exact QdB hb hbody l s'
  | er c fs =>
   rw [q] at h
   obtain ⟨e,h⟩:=h
   exact ⟨e,by rw [h]; rfl⟩
  | st => trivial
theorem Qdc {T : Tgt} {body : SS} {E : σ → En} {E' : σ → α → En} {tb : σ → α → M (Ot σ ρ)} (hb : ∀ s x,QW T (d x) (E s) = some (E' s x)) (hbody : ∀ s x,QD (emG fr E) (body (E' s x)) (tb s x)) : ∀ (l : List α) (s : σ),QD (emL fr E) (JB T body (l.map d) (E s)) (Qcf tb l s)
 | [],s => rfl
 | x :: l,s => by
  show QD _ (match QW T (d x) (E s) with | none => O.st | some e => Qar (body e) (JB T body (l.map d))) _
  rw [hb s x]
  have h:=hbody s x
  show QD _ (Qar (body (E' s x)) _) ((tb s x).bind _)
  cases q : tb s x with
  | ok y =>
   rw [q] at h
   cases y with
   | nx s' => rw [show body (E' s x) = .nx (E s') from h]; exact Qdc hb hbody l s'
   | ct s' => rw [show body (E' s x) = .ct (E s') from h]; exact Qdc hb hbody l s'
   | bk s' => rw [show body (E' s x) = .bk (E s') from h]; rfl
   | rt r =>
    rw [show body (E' s x) = rtO fr (d r) from h]
    show Qar (rtO fr (d r)) _ = rtO fr (d r)
    cases fr <;> rfl
  | er c fs =>
   rw [q] at h
   obtain ⟨e,h⟩:=h
   exact ⟨e,by rw [h]; rfl⟩
  | st => trivial
theorem Qcg {T : Tgt} {it : SE} {body : SS} {E : σ → En} {E' : σ → α → En} {tx : M (List α)} {tb : σ → α → M σ} (s0 : σ) (h0 : env = E s0) (hi : Ref (it env) tx) (hb : ∀ s x,QW T (d x) (E s) = some (E' s x)) (hbody : ∀ s x,QD (emN E) (body (E' s x)) (tb s x)) :
  QD (emN E) (JC T it body env) (tx.bind fun l => ZX tb l s0):=by
 cases tx with
 | ok l =>
  show QD _ (ZP (it env) env _) _
  rw [show it env = .ok (d l) from hi,h0]
  exact QdB hb hbody l s0
 | er c fs => exact ⟨env,by unfold JC; rw [show it env = .er c fs from hi]; rfl⟩
 | st => trivial
theorem QgV {T : Tgt} {it : SE} {body : SS} {E : σ → En} {E' : σ → α → En} {tx : M (List α)} {tb : σ → α → M (Ot σ ρ)} (s0 : σ) (h0 : env = E s0) (hi : Ref (it env) tx) (hb : ∀ s x,QW T (d x) (E s) = some (E' s x)) (hbody : ∀ s x,QD (emG fr E) (body (E' s x)) (tb s x)) :
  QD (emL fr E) (JC T it body env) (tx.bind fun l => Qcf tb l s0):=by
 cases tx with
 | ok l =>
  show QD _ (ZP (it env) env _) _
  rw [show it env = .ok (d l) from hi,h0]
  exact Qdc hb hbody l s0
 | er c fs => exact ⟨env,by unfold JC; rw [show it env = .er c fs from hi]; rfl⟩
 | st => trivial
theorem Qf5 {E : σ → En} {t1 : M (Lt σ ρ)} {k : σ → M ρ} (h1 : QD (emL fr E) (a env) t1) (h2 : ∀ s,QD (emF fr) (b (E s)) (k s)) : QD (emF fr) (Qg a b env) (t1.bind fun x => x.f k):=by
 cases t1 with
 | ok x =>
  cases x with
  | nx s =>
   show QD _ (match a env with | .nx e => b e | o => o) (k s)
   rw [show a env = .nx (E s) from h1]
   exact h2 s
  | rt r =>
   show (match a env with | .nx e => b e | o => o) = rtO fr (d r)
   rw [show a env = rtO fr (d r) from h1]
   cases fr <;> rfl
 | er c fs =>
  obtain ⟨e,h⟩:=h1
  exact ⟨e,by unfold Qg; rw [h]⟩
 | st => trivial
theorem J6 {n : Nat} {ms : List Bool} {body : SS} {ds : List D} {t : M ρ} (h : QD (emF fr) (body (env0 n ms ds)) t) : Ref (Qb1 n ms fr body ds) t:=by
 show Ref (Qg4 (body (env0 n ms ds)) fr) t
 cases t with
 | ok r => rw [show body _ = rtO fr (d r) from h]; cases fr <;> rfl
 | er c fs => obtain ⟨e,h⟩:=h; rw [h]; rfl
 | st => trivial
theorem QgW {n c : Nat} {ms : List Bool} {body : SS} {ds : List D} {E : σ → En} {t : M σ} {k : σ → ρ} {fs : σ → List (PySem.Str × D)} (h : QD (emN E) (body (QbH n c ms ds)) t) (hE : ∀ s,Qh4 c (.nx (E s)) = .ok (fs s)) (hd : ∀ s,d (k s) = .obj c (fs s)) : QgO c (Qc4 n c ms body ds) (t.bind fun s => .ok (k s)):=by
 cases t with
 | ok s => exact ⟨fs s,by show Qh4 c (body _) = _; rw [show body _ = .nx (E s) from h]; exact hE s,hd s⟩
 | er c fs => trivial
 | st => trivial
theorem Qch {c : Nat} {n : PySem.Str} {fs : List (PySem.Str × D)} {gs : List (PySem.Str × Nat)} {E : α → En} (h0 : env[i]? = some (.oo c fs gs)) (hn : n ∈ Qho c) (hg : noG n gs = true) (hf : Qh2 n fs = false) (hl : fs.length + gs.length < 800) (h : Ref (f env) t) (hE : ∀ x,env.set i (.oo c (fs ++ [(n,d x)]) gs) = E x) : QD (emN E) (QbG c i n f env) t:=by
 have e : QbG c i n f env = ZP (f env) env fun x => .nx (env.set i (.oo c (fs ++ [(n,x)]) gs)):=by
  unfold QbG; rw [h0]; exact if_pos ⟨rfl,hn,hg,hf,hl⟩
 cases t with
 | ok r =>
  show QbG c i n f env = _
  rw [e,show f env = .ok (d r) from h]
  exact congrArg O.nx (hE r)
 | er x fs => exact ⟨env,by rw [e,show f env = .er x fs from h]; rfl⟩
 | st => trivial
def Qjo (env : En) (em : β → O → Prop) (o : O) (t : M β) : Prop:=match t with
 | .ok b => em b o ∧ ∀ c fs e,o ≠ .er c fs e
 | .er c fs => o = .er c fs env
 | .st => True
def Qlk (cat : Nat → Option Bool) (tb : M β) (tg : Exc → M β) : M β:=match tb with
 | .er c fs => (match cat c with
  | some true => mkM (tg ⟨c,fs⟩)
  | some false => .er c fs
  | none => .st)
 | .ok b => .ok b
 | .st => .st
theorem Qjp {T : Tgt} {E : α → En} (h : Ref (f env) t) (hE : ∀ x,QW T (d x) env = some (E x)) : Qjo env (emN E) (Qg (Qv T f) Qr env) t:=by
 cases t with
 | ok r =>
  have e : Qg (Qv T f) Qr env = .nx (E r):=by
   unfold Qg Qv
   rw [show f env = .ok (d r) from h]
   show (match (match QW T (d r) env with | some e => O.nx e | none => .st) with | .nx e => Qr e | o => o) = _
   rw [hE r]; rfl
  exact ⟨e,fun _ _ _ z => by rw [e] at z; cases z⟩
 | er c fs => show _ = _; unfold Qg Qv; rw [show f env = .er c fs from h]; rfl
 | st => trivial
end
end Tm
namespace Tm
open Ps
open Emb (d)
def Jw (a b : Tx) : M Tx:=gd (a.length + b.length ≤ 16777216) (.ok (a ++ b))
def Zq {α : Type} (a b : List α) : M (List α):=gd (a.length + b.length ≤ 16777216) (.ok (a ++ b))
def Zd (a b : Int) : M Int:=gd ((-(2 ^ 64) < a ∧ a < 2 ^ 64) ∨ (-(2 ^ 64) < b ∧ b < 2 ^ 64)) (.ok (a * b))
def ZA (a b : Int) : M Int:=gd (0 < b ∧ b < 1073741824) (.ok (a / b))
def ZY (a b : Int) : M Int:=gd (0 < b) (.ok (a % b))
def Jx (a b : Int) : M Int:=gd (0 ≤ b ∧ b ≤ 1000000 ∧ a.natAbs < 2 ^ 64) (.ok (a ^ b.toNat))
def ixL {α : Type} (l : List α) (i : Int) : M α:=oM (L2.atI l i)
def ixS (x : Tx) (i : Int) : M Tx:=gd (x.length ≤ 16777216) (oM ((L2.atI x i).map sg))
def ixD {κ α : Type} [Dc κ] (m : Dct κ α) (k : κ) : M α:=oM (m.get? k)
def slS (x : Tx) (lo hi : Option Int) : M Tx:=gd (x.length ≤ 16777216) (.ok (cut x lo hi))
def Jy (x : Tx) : M Int:=gd (x.length ≤ 16777216) (.ok (x.length : Int))
def Zh (s : Tx) (l : List Tx) : M Tx:=gd ((l.map List.length).sum + l.length * s.length ≤ 16777216) (.ok (Qcr s l))
def Zs (l : List Tx) : M (List Tx):=gd (l.length < 64) (.ok (Qlj l))
def Zt {α : Type} (m : Dct Tx α) : M (List Tx):=gd (m.l.length < 64) (.ok (Qlj m.keys))
def rgM (n : Int) : M (List Int):=gd (Qd7 n) (.ok (rgT n))
def Jz (n m : Int) : M (List Int):=gd (Qd7 n ∧ Qd7 m) (.ok (QmK n m))
def rgL (n : Int) : M (List Int):=gd (0 ≤ n ∧ n ≤ 16777216) (.ok (rgT n))
def Q4 {α β : Type} (k : α → M β) (l : List α) : M (List β):=gd (l.length < 16777216) (Qbw k l)
def Q2 {α β : Type} (p : α → M Bool) (k : α → M β) (l : List α) : M (List β):=gd (l.length < 16777216) (Qav p k l)
def Z6 {α : Type} (l : List α) (x : α) : M (List α):=gd (l.length < 16777216) (.ok (l ++ [x]))
def J1 {κ α : Type} [Dc κ] (m : Dct κ α) (k : κ) (v : α) : M (Dct κ α):=gd (m.l.length < 16777216) (.ok (m.put k v))
def ZZ {α : Type} (l : List α) (k : Int) (v : α) : M (List α):=oM ((L2.ixN l.length k).map fun j => l.set j v)
theorem ZK {α : Type} {a b : List α} (h : a.length + b.length ≤ 16777216) : Zq a b = .ok (a ++ b):=QaL h
theorem Qai {a b : Int} (h : (-(2 ^ 64) < a ∧ a < 2 ^ 64) ∨ (-(2 ^ 64) < b ∧ b < 2 ^ 64)) : Zd a b = .ok (a * b):=QaL h
theorem Qf6 {a b : Int} (h : 0 < b ∧ b < 1073741824) : ZA a b = .ok (a / b):=QaL h
theorem Qf7 {a b : Int} (h : 0 < b) : ZY a b = .ok (a % b):=QaL h
theorem QgX {s : Tx} {l : List Tx} (h : (l.map List.length).sum + l.length * s.length ≤ 16777216) : Zh s l = .ok (Qcr s l):=QaL h
theorem Qci {n : Int} (h : -1000000 ≤ n ∧ n ≤ 100000000) : rgM n = .ok (rgT n):=QaL ⟨by omega,by omega⟩
theorem QaA {α : Type} {l : List α} {x : α} (h : l.length < 16777216) : Z6 l x = .ok (l ++ [x]):=QaL h
theorem Zm {α β : Type} {k : α → M β} {l : List α} (h : l.length < 16777216) : Q4 k l = Qbw k l:=QaL h
theorem Qcj {α β : Type} {p : α → M Bool} {k : α → M β} {l : List α} (h : l.length < 16777216) : Q2 p k l = Qav p k l:=QaL h
theorem QgY {α : Type} {l : List α} {i : Int} (h0 : 0 ≤ i) (h1 : i < l.length) : ixL l i = .ok (l[i.toNat]'(by omega)):=by
 unfold ixL L2.atI L2.ixN
 rw [if_pos h0,if_pos h1]
 have : i.toNat < l.length:=by omega
 simp [this]
theorem Qjq {x : Tx} {i : Int} (h0 : 0 ≤ i) (h1 : i < x.length) (h2 : x.length ≤ 16777216) : ixS x i = .ok [x[i.toNat]'(by omega)]:=by
 unfold ixS gd L2.atI L2.ixN
 rw [if_pos h2,if_pos h0,if_pos h1]
 have : i.toNat < x.length:=by omega
 simp [this,sg]
@[simp] theorem Qck {α β : Type} (k : α → β) : ∀ l : List α,Qbw (fun a => M.ok (k a)) l = .ok (l.map k)
 | [] => rfl
 | a :: l => by unfold Qbw; rw [Qck k l]; rfl
theorem Jm {α β : Type} {k : α → M β} {g : α → β} : ∀ {l : List α},(∀ a ∈ l,k a = .ok (g a)) → Qbw k l = .ok (l.map g)
 | [],_ => rfl
 | a :: l,h => by
  unfold Qbw
  rw [h a List.mem_cons_self,Jm fun b hb => h b (List.mem_cons_of_mem _ hb)]; rfl
theorem QbN {α β : Type} {p : α → M Bool} {k : α → M β} {q : α → Bool} {g : α → β} : ∀ {l : List α},(∀ a ∈ l,p a = .ok (q a)) → (∀ a ∈ l,q a = true → k a = .ok (g a)) → Qav p k l = .ok ((l.filter q).map g)
 | [],_,_ => rfl
 | a :: l,hp,h => by
  unfold Qav
  rw [hp a List.mem_cons_self]
  have ih:=QbN (fun b hb => hp b (List.mem_cons_of_mem _ hb)) (fun b hb => h b (List.mem_cons_of_mem _ hb))
  cases q' : q a with
  | true => simp only [h a List.mem_cons_self q',ih,List.filter_cons,q']; rfl
  | false => simp only [ih,List.filter_cons,q']; rfl
@[simp] theorem Qj8 {α σ : Type} (tb : σ → α → M σ) (s : σ) : ZX tb [] s = .ok s:=rfl
@[simp] theorem QaB {α σ : Type} (tb : σ → α → M σ) (a : α) (l : List α) (s : σ) : ZX tb (a :: l) s = (tb s a).bind fun s => ZX tb l s:=rfl
theorem Qe0 {α σ : Type} {tb : σ → α → M σ} {g : σ → α → σ} (P : σ → Prop) : ∀ {l : List α} {s : σ},P s → (∀ s,∀ a ∈ l,P s → tb s a = .ok (g s a) ∧ P (g s a)) → ZX tb l s = .ok (l.foldl g s) ∧ P (l.foldl g s)
 | [],s,h,_ => ⟨rfl,h⟩
 | a :: l,s,h,k => by
  obtain ⟨h1,h2⟩:=k s a List.mem_cons_self h
  rw [QaB,h1]
  exact Qe0 P h2 fun s b hb => k s b (List.mem_cons_of_mem _ hb)
theorem QdC {α σ : Type} {tb : σ → α → M σ} (P : List α → σ → Prop) {l : List α} {s : σ} (h0 : P [] s) (h : ∀ pre a post s,l = pre ++ a :: post → P pre s → ∃ s',tb s a = .ok s' ∧ P (pre ++ [a]) s') : ∃ s',ZX tb l s = .ok s' ∧ P l s':=by
 have key : ∀ (post pre : List α) (s : σ),l = pre ++ post → P pre s → ∃ s',ZX tb post s = .ok s' ∧ P l s':=by
  intro post
  induction post with
  | nil => intro pre s e hp; exact ⟨s,rfl,by rw [e,List.append_nil]; exact hp⟩
  | cons a post ih =>
   intro pre s e hp
   obtain ⟨s',h1,h2⟩:=h pre a post s e hp
   obtain ⟨s2,h3,h4⟩:=ih (pre ++ [a]) s' (by rw [e]; simp) h2
   exact ⟨s2,by rw [QaB,h1]; exact h3,h4⟩
 exact key l [] s rfl h0
@[simp] theorem Qll {α σ ρ : Type} (tb : σ → α → M (Ot σ ρ)) (s : σ) : Qcf tb [] s = .ok (.nx s):=rfl
@[simp] theorem QfZ {α σ ρ : Type} (tb : σ → α → M (Ot σ ρ)) (a : α) (l : List α) (s : σ) : Qcf tb (a :: l) s = (tb s a).bind fun x => match x with
  | .nx s => Qcf tb l s
  | .ct s => Qcf tb l s
  | .bk s => .ok (.nx s)
  | .rt r => .ok (.rt r):=rfl
theorem QgZ {α σ ρ : Type} {tb : σ → α → M (Ot σ ρ)} (P : List α → σ → Prop) {l : List α} {s : σ} (h0 : P [] s) (h : ∀ pre a post s,l = pre ++ a :: post → P pre s → ∃ s',(tb s a = .ok (.nx s') ∨ tb s a = .ok (.ct s')) ∧ P (pre ++ [a]) s') : ∃ s',Qcf tb l s = .ok (.nx s') ∧ P l s':=by
 have key : ∀ (post pre : List α) (s : σ),l = pre ++ post → P pre s → ∃ s',Qcf tb post s = .ok (.nx s') ∧ P l s':=by
  intro post
  induction post with
  | nil => intro pre s e hp; exact ⟨s,rfl,by rw [e,List.append_nil]; exact hp⟩
  | cons a post ih =>
   intro pre s e hp
   obtain ⟨s',h1,h2⟩:=h pre a post s e hp
   obtain ⟨s2,h3,h4⟩:=ih (pre ++ [a]) s' (by rw [e]; simp) h2
   refine ⟨s2,?_,h4⟩
   rcases h1 with h1 | h1 <;> (rw [QfZ,h1]; exact h3)
 exact key l [] s rfl h0
@[simp] theorem QlZ {σ ρ : Type} (k : σ → M ρ) (s : σ) : (Lt.nx s).f k = k s:=rfl
@[simp] theorem Qma {σ ρ : Type} (k : σ → M ρ) (r : ρ) : (Lt.rt r : Lt σ ρ).f k = .ok r:=rfl
@[simp] theorem Qmb {σ τ ρ : Type} (k : σ → M (Ot τ ρ)) (s : σ) : (Lt.nx s).g k = k s:=rfl
@[simp] theorem Qmc {σ τ ρ : Type} (k : σ → M (Ot τ ρ)) (r : ρ) : (Lt.rt r : Lt σ ρ).g k = .ok (.rt r):=rfl
theorem rgT_mem {n i : Int} : i ∈ rgT n ↔ 0 ≤ i ∧ i < n:=by
 unfold rgT
 rw [List.mem_map]
 constructor
 ·rintro ⟨k,h,rfl⟩
  have:=List.mem_range.mp h
  omega
 ·rintro ⟨h1,h2⟩
  exact ⟨i.toNat,List.mem_range.mpr (by omega),by omega⟩
theorem Ja (n : Int) : (rgT n).length = n.toNat:=by simp [rgT]
section
variable {α β : Type} [Emb α] [Emb β] {f g h : SE} {env : En}
theorem cv {r : R} {t t' : M α} (h : Ref r t') (e : t' = t:=by rfl) : Ref r t:=e ▸ h
theorem JF {k : Int} {t : M Int} (h : Ref (f env) t) (hk : 0 < k:=by decide) : Ref (s2 Qa2 f (sC (.int k)) env) (t.bind fun a => .ok (a % k)):=QM h fun a => by
 show Ref (ofO (Qa2 (.int a) (.int k))) _
 rw [Qet hk]; rfl
theorem QdT {k : Int} {t : M Int} (h : Ref (f env) t) (hk : 0 < k:=by decide) (hk2 : k < 1073741824:=by decide) : Ref (s2 JL f (sC (.int k)) env) (t.bind fun a => .ok (a / k)):=QM h fun a => by
 show Ref (ofO (JL (.int a) (.int k))) _
 rw [Qd4 hk hk2]; rfl
theorem Qf8 {k : Int} {t : M Int} (h : Ref (f env) t) (hk : -(2 ^ 64) < k ∧ k < 2 ^ 64:=by decide) : Ref (s2 Zy f (sC (.int k)) env) (t.bind fun a => .ok (a * k)):=QM h fun a => by
 show Ref (ofO (Zy (.int a) (.int k))) _
 rw [Qcb (.inr hk)]; rfl
theorem Qf9 {k : Int} {t : M Int} (h : Ref (f env) t) (hk : -(2 ^ 64) < k ∧ k < 2 ^ 64:=by decide) : Ref (s2 Zy (sC (.int k)) f env) (t.bind fun a => .ok (k * a)):=by
 have h0 : Ref (sC (.int k) env) (.ok k):=rfl
 have:=Ql (op:=Zy) (p:=fun (a b : Int) => if a = k then M.ok (k * b) else .st) (fun a b => by
  show Ref _ (if _ then _ else _)
  split
  ·rename_i e; subst e
   show ofO (Zy (.int a) (.int b)) = _
   rw [Qcb (.inl hk)]; rfl
  ·trivial) h0 h
 cases t with
 | ok a =>
  have e : (if k = k then M.ok (k * a) else .st) = M.ok (k * a):=if_pos rfl
  show Ref _ (M.ok (k * a))
  rw [← e]; exact this
 | er c fs => exact this
 | st => trivial
theorem QfA {k : Int} {n : Nat} (hk : k.natAbs < 2 ^ 64:=by decide) (hn : n ≤ 1000000:=by decide) : Ref (s2 QfH (sC (.int k)) (sC (.int n)) env) (.ok (k ^ n : Int)):=by
 show Ref (ofO (if _ then _ else _)) _
 rw [if_pos ⟨by omega,by omega,hk⟩]; rfl
theorem Qc8 {a b : Bool} (h1 : Ref (f env) (.ok a)) (h2 : Ref (g env) (.ok b)) : Ref (Qdn f g env) (.ok (a && b)):=by
 have:=QeV h1 h2
 cases a <;> exact this
theorem Qbe {a b : Bool} (h1 : Ref (f env) (.ok a)) (h2 : Ref (g env) (.ok b)) : Ref (sOr f g env) (.ok (a || b)):=by
 have:=Qby h1 h2
 cases a <;> exact this
theorem Qjr {t : M (α × β)} (h : Ref (f env) t) : Ref (s2 dIx f (sC (.int 0)) env) (t.bind fun a => .ok a.1):=QM h fun _ => rfl
theorem Qjs {t : M (α × β)} (h : Ref (f env) t) : Ref (s2 dIx f (sC (.int 1)) env) (t.bind fun a => .ok a.2):=QM h fun _ => rfl
theorem Qjt {γ : Type} [Emb γ] {t : M (P3 α β γ)} (h : Ref (f env) t) : Ref (s2 dIx f (sC (.int 2)) env) (t.bind fun a => .ok a.c):=QM h fun _ => rfl
end
end Tm
namespace Tm
open Ps
open Emb (d)
section
variable {α β γ δ : Type} [Emb α] [Emb β] [Emb γ] [Emb δ]
theorem Qha {r : R} {t : M (Option α)} (h : Ref r t) : Ref r (t.bind fun o => oM o):=by
 cases t with
 | ok o =>
  cases o with
  | none => trivial
  | some a => exact h
 | er c fs => exact h
 | st => trivial
end
def Qcs {α : Type} (t : M α) : M α:=match t with
 | .ok a => .ok a
 | _ => .st
@[simp] theorem Qlm {α : Type} (a : α) : Qcs (.ok a) = .ok a:=rfl
section
variable {κ α β : Type} [Ke κ] [Emb α] [Emb β] {f : SE} {env : En}
theorem QmH {i : Nat} {m : Dct κ α} (h : env[i]? = some (.sh (d m))) : QgB env i = true:=by
 unfold QgB; rw [h]; rfl
variable {σ ρ : Type} [Emb ρ] {fr : Bool}
end
def Zu (x : Tx) : M (List Tx):=gd (x.length ≤ 16777216) (.ok (x.map sg))
section
variable {κ α : Type} [Ke κ] [Fl α]
end
section
variable {α β : Type} [Emb α] [Emb β]
theorem QdU {f0 : SE} {env : En} {t0 : M α} (h0 : Ref (f0 env) t0) : Ref (ZR (Qa f0 Qk) env) (t0.bind fun x0 => .ok [x0]):=Qap h0 fun x0 => by
 rw [if_pos (Jv (by simp))]; rfl
theorem Qhb {x : α} {c : Nat} {n : PySem.Str} {fs : List (PySem.Str × D)} {t : M β} (h : d x = D.obj c fs) (hl : Ref (ofO (fs.lookup n)) t) : Ref (QeQ c n (.ok (d x))) t:=by
 rw [h,QhB]; exact hl
end
end Tm
namespace Tm
open Ps
open Emb (d)
section
variable {α β γ : Type} [Emb β] [Emb γ] {f g : SE} {env : En}
end
end Tm
namespace Tm
open Ps
open Emb (d)
section
variable {α : Type} [Emb α] {env : En} {t : M α}
end
end Tm
namespace Tm
open Ps
open Emb (d)
end Tm
namespace Tm
open Ps
open Emb (d)
section
variable {σ ρ : Type} [Emb ρ] {fr : Bool} {a b : SS} {env : En}
def Ot.f (k : σ → M ρ) : Ot σ ρ → M ρ
 | .nx s => k s
 | .rt r => .ok r
 | _ => .st
end
end Tm
namespace Tm
open Ps
open Emb (d)
end Tm
namespace Tm
open Ps
open Emb (d)
end Tm
namespace Tm
open Ps
open Emb (d)
instance {κ ι ρ : Type} [Ke κ] [Ke ι] [Ke ρ] : Kt (P3 κ ι ρ) where
 dec:=fun ⟨a,b,c⟩ ⟨a',b',c'⟩ => if h : a = a' ∧ b = b' ∧ c = c' then isTrue (by obtain ⟨rfl,rfl,rfl⟩:=h; rfl) else isFalse fun z => h (by cases z; exact ⟨rfl,rfl,rfl⟩)
 k x:=[Ke.k x.a,Ke.k x.b,Ke.k x.c]
 ds x:=[d x.a,d x.b,d x.c]
 dt _:=rfl
 kd x:=by simp [Qao,Ke.kd]
 inj a b h:=by
  simp only [List.cons.injEq,and_true] at h
  obtain ⟨a1,a2,a3⟩:=a
  obtain ⟨b1,b2,b3⟩:=b
  obtain ⟨h1,h2,h3⟩:=h
  have e1:=Ke.inj _ _ h1
  have e2:=Ke.inj _ _ h2
  have e3:=Ke.inj _ _ h3
  simp only at e1 e2 e3
  rw [e1,e2,e3]
end Tm
namespace Tm
open Ps
open Emb (d)
end Tm
namespace Tm
open Ps
open Emb (d)
section
variable {α β γ : Type} [Emb α] [Emb β] {f g : SE} {env : En} {em : γ → O → Prop} {t : M α} {u : M β}
def Lt.n {σ ρ β : Type} (k : σ → M β) : Lt σ ρ → M β
 | .nx s => k s
 | .rt _ => .st
end
section
variable {σ ρ β : Type} [Emb ρ] {fr : Bool} {a b : SS} {env : En} {em : β → O → Prop}
@[simp] theorem Qmd (k : σ → M β) (s : σ) : (Lt.nx s : Lt σ ρ).n k = k s:=rfl
end
end Tm
namespace Tm
open Ps
open Emb (d)
section
variable {α σ ρ : Type} [Emb α] [Emb ρ] {fr : Bool} {g : SS} {env : En} {i : Nat} {l : List α}
@[simp] theorem Qme {β : Type} (b : β) : Qcs (M.ok b) = M.ok b:=rfl
end
end Tm
namespace Tm
open Ps
open Emb (d)
section
variable {σ : Type} {a b : SS} {env : En} {i : Nat}
theorem QhO {cat : Nat → Option Bool} {E : σ → En} {Eg : Exc → σ → En} {Eh : Exc → En} {tb : M σ} {tg : Exc → M σ} (hb : Qjo env (emN E) (a env) tb) (hset : ∀ x : Exc,Zf env i (.sh (d x)) = some (Eh x)) (hg : ∀ x,QD (emN (Eg x)) (b (Eh x)) (tg x)) (hw : ∀ x s,Zf (Eg x s) i .no = some (E s)) : QD (emN E) (QbI cat i a b env) (Qlk cat tb tg):=by
 cases tb with
 | ok s =>
  show QbI cat i a b env = _
  unfold QbI
  rw [show a env = .nx (E s) from hb.1]
 | st => trivial
 | er c fs =>
  have e : QbI cat i a b env = (match cat c with | some true => Qg6 i (b (Eh ⟨c,fs⟩)) | some false => .er c fs env | none => .st):=by
   unfold QbI
   rw [show a env = .er c fs env from hb]
   have hs:=hset ⟨c,fs⟩
   show (match cat c with | some true => (match Zf env i (.sh (d (⟨c,fs⟩ : Exc))) with | some e1 => Qg6 i (b e1) | none => .st) | some false => .er c fs env | none => .st) = _
   rw [hs]
  show QD _ _ (match cat c with | some true => mkM (tg ⟨c,fs⟩) | some false => .er c fs | none => .st)
  cases q : cat c with
  | none => trivial
  | some x =>
   rw [q] at e
   cases x with
   | false => exact ⟨env,e⟩
   | true =>
    have h:=hg ⟨c,fs⟩
    cases q2 : tg ⟨c,fs⟩ with
    | st => trivial
    | er _ _ => trivial
    | ok s =>
     rw [q2] at h
     show QbI cat i a b env = _
     rw [e,show b (Eh ⟨c,fs⟩) = .nx (Eg ⟨c,fs⟩ s) from h]
     show (match Zf (Eg ⟨c,fs⟩ s) i .no with | some e' => O.nx e' | none => .st) = _
     rw [hw ⟨c,fs⟩ s]
end
end Tm
namespace Tm
open Ps
open Emb (d)
section
variable {f : SE} {env : En}
end
end Tm
namespace Tm
open Ps
open Emb (d)
section
variable {f g h : SE} {env : En}
end
section
variable {α β : Type} [Emb α] {f : SE} {env : En} {t : M α}
theorem QhP {T : Tgt} {E : β → En} {k : α → β} (h : Ref (f env) t) (hE : ∀ x,QW T (d x) env = some (E (k x))) : Qjo env (emN E) (Qg (Qv T f) Qr env) (t.bind fun x => .ok (k x)):=by
 have h':=Qjp (E:=fun x => E (k x)) h hE
 cases t with
 | ok r => exact h'
 | er c fs => exact h'
 | st => trivial
end
end Tm
namespace Tm
open Ps
open Emb (d)
section
variable {α σ : Type} [Emb α] {env : En} {i : Nat} {l : List α}
end
end Tm
namespace Tm
open Ps
open Emb (d)
end Tm
namespace Tm
open Ps
open Emb (d)
section
variable {σ : Type} {a b : SS} {env : En} {i : Nat}
end
section
variable {α : Type} [Emb α] {i : Nat} {env : En} {f : SE} {t : M (List α)}
end
end Tm
namespace Tm
open Ps
open Emb (d)
section
variable {α : Type} [Emb α] {i : Nat} {env : En} {l : List α}
end
end Tm
namespace Tm
open Ps
open Emb (d)
end Tm
namespace Tm
open Ps
open Emb (d)
section
variable {σ ρ : Type} [Emb ρ]
end
section
variable {α β γ δ : Type} [Emb α] [Emb β] [Emb γ] [Emb δ] {f g h : SE} {env : En} {m : List D → RI} {c : Nat}
end
end Tm
namespace Tm
open Ps
open Emb (d)
section
variable {κ α : Type} [Ke κ] [Emb α] {f : SE} {env : En}
end
end Tm
namespace Tm
open Ps
open Emb (d)
instance {κ α : Type} [Ke κ] [Emb α] : Nnd (Dct κ α):=⟨fun _ => rfl⟩
end Tm
namespace Tm
open Ps
open Emb (d)
section
variable {f : SE} {env : En}
end
end Tm
namespace Tm
open Ps
open Emb (d)
section
variable {σ : Type} {a b : SS} {env : En}
end
end Tm
namespace Tm
open Ps
open Emb (d)
section
variable {α : Type} [Emb α] {i : Nat} {env : En} {f : SE}
end
section
variable {σ A0 A1 : Type} [Emb A0] [Emb A1] {env : En} {f0 f1 : SE}
end
end Tm
namespace Tm
open Ps
open Emb (d)
section
variable {α β : Type} [Emb α] [Emb β] {env : En} {f : SE}
end
end Tm
namespace Tm
open Ps
open Emb (d)
section
variable {α σ : Type} [Emb α] {env : En} {f : SE}
end
end Tm
namespace Tm
open Ps
open Emb (d)
section
variable {σ τ ρ : Type} [Emb ρ] {fr : Bool} {a b : SS} {env : En}
def Ot.g {σ τ ρ : Type} (k : σ → M (Ot τ ρ)) : Ot σ ρ → M (Ot τ ρ)
 | .nx s => k s
 | .rt r => .ok (.rt r)
 | _ => .st
@[simp] theorem Qmf {σ τ ρ : Type} (k : σ → M (Ot τ ρ)) (s : σ) : (Ot.nx s).g k = k s:=rfl
end
section
variable {α β : Type} [Emb α] [Emb β] {f g : SE} {env : En}
end
end Tm
namespace Tm
open Ps
open Emb (d)
section
variable {α β γ ε δ : Type} [Emb α] [Emb β] [Emb γ] [Emb ε] [Emb δ] {f g h k : SE} {env : En} {m : List D → RI} {c : Nat}
end
end Tm
namespace Tm
open Ps
open Emb (d)
section
variable {α : Type} [Emb α] {f g : SE} {env : En}
end
end Tm
namespace Tm
open Ps
open Emb (d)
end Tm
namespace Tm
open Ps
open Emb (d)
end Tm
namespace Tm
open Ps
open Emb (d)
end Tm
namespace Tm
open Ps
open Emb (d)
section
variable {κ α β : Type} [Ke κ] [Emb α] [Emb β] {f : SE} {env : En}
variable {σ ρ : Type} [Emb ρ] {fr : Bool}
end
end Tm
namespace Tm
open Ps
open Emb (d)
section
variable {β σ : Type} {em : β → O → Prop} {env : En} {f : SE} {a g : SS}
end
end Tm
namespace Tm
open Ps
open Emb (d)
section
variable {κ α : Type} [Kt κ] [Fl α]
end
end Tm
namespace Tm
open Ps
open Emb (d)
class DkF (κ : Type) extends Emb κ where
 f : κ → List (PySem.Str × D)
 df : ∀ k,d k = .obj 5 (f k)
structure Dk (α κ : Type) where
 r : α
 k : κ
instance dkEmb {α κ : Type} [Emb α] [DkF κ] : Emb (Dk α κ):=⟨fun x => dkR (d x.r) (DkF.f x.k)⟩
section
variable {α β γ κ : Type} [Emb α] [Emb β] [Emb γ] {E : κ → En} {env : En} {f g : SX} {i : Nat}
end
section
variable {α β γ κ : Type} [Emb α] [Emb β] [Emb γ] [DkF κ] {E : κ → En} {env : En} {f g : SX} {i : Nat}
end
section
variable {α β κ : Type} [Emb α] {E : κ → En} {env : En} {c : SX} {kk : D → SS} {G : SS} {em : β → O → Prop}
end
section
variable {α β κ ρ σ : Type} [Emb α] [Emb β] [Emb ρ] [DkF κ] {E : κ → En} {env : En} {c : SX} {kk : D → SS} {G : SS} {i : Nat} {em : β → O → Prop}
end
end Tm
namespace Tm
open Ps
open Emb (d)
end Tm
namespace Tm
open Ps
open Emb (d)
section
variable {σ ρ κ : Type} [Emb ρ] [DkF κ] {a b g1 g2 : SS} {env : En} {i : Nat}
end
section
def Ne (g : SS) : Prop:=∀ env c es e,g env ≠ .er c es e
variable {s : Sl} {a b f g : SS} {c h : SE} {i : Nat} {T : Tgt}
end
end Tm
namespace Tm
open Ps
open Emb (d)
section
variable {α β γ κ τ : Type} [Emb α] [Emb β] [Emb γ] [DkF κ] {E : τ → En} {env : En} {f g : SX} {i : Nat}
end
section
variable {s : Sl} {g gs1 gs2 : SS} {c : SE} {i : Nat} {cat1 cat2 : Nat → Option Bool}
end
end Tm
namespace Tm
open Ps
open Emb (d)
section
variable {σ κ : Type} {c : SX} {body : SS}
end
end Tm
namespace Tm
open Ps
open Emb (d)
end Tm
namespace Tm
open Ps
open Emb (d)
section
variable {κ α β : Type} [Ke κ] [Emb α] [Emb β] {env : En} {i g j : Nat} {fk fv f : SE} {m : Dct κ β} {k : κ}
end
end Tm
namespace Tm
open Ps
open Emb (d)
section
variable {κ κ' α β : Type} [Ke κ] [Ke κ'] [Emb α] [Emb β] {env : En} {i j : Nat}
end
end Tm
namespace Tm
open Ps
open Emb (d)
structure Rdl (α : Type) where
 l : List α
section
variable {α β γ ρ δ : Type} [Emb α] [Emb β] [Emb γ] [Emb ρ] [Emb δ] {f : SE} {env : En}
instance : Emb (Rdl α):=⟨fun x => .rd (x.l.map d)⟩
theorem Qdd : P1 Qaq fun (l : Rdl α) => .ok l.l:=fun l => rfl
theorem Qln {t : M (Rdl α)} (h1 : Ref (f env) t) : Ref (QP f env) (t.bind fun s => .ok s.l):=QM h1 fun l => rfl
def QmN (a : List α) (b : List β) (ls : List (List γ)) (u : Rdl α → Rdl β → Rdl (Rdl γ) → M ρ) (t5 : ρ → M δ) : M ρ:=match ls with
 | [] => .st
 | c0 :: cs => gd (c0.length < 16777216) ((u ⟨a⟩ ⟨b⟩ ⟨(c0 :: cs).map Rdl.mk⟩).bind fun s => (t5 s).bind fun _ => .ok s)
def Qhc (t1 : M (List α)) (t2 : M (List β)) (t3 : M (List (List γ))) (u : Rdl α → Rdl β → Rdl (Rdl γ) → M ρ) (t5 : ρ → M δ) : M ρ:=Qcs (t1.bind fun a => t2.bind fun b => t3.bind fun ls => QmN a b ls u t5)
theorem Qi5 : ∀ cs : List (List γ),unL (cs.map d) = some (cs.map fun c => c.map d)
 | [] => rfl
 | c :: cs => by
  show (unL (cs.map d)).map (fun r => c.map d :: r) = _
  rw [Qi5 cs]; rfl
theorem Qlo (a : List α) (b : List β) (c0 : List γ) (cs : List (List γ)) : rdG (a.map d) (b.map d) (c0.map d) (cs.map fun c => c.map d) = .lst [d (Rdl.mk a),d (Rdl.mk b),d (Rdl.mk ((c0 :: cs).map Rdl.mk))]:=by
 show D.lst [.rd (a.map d),.rd (b.map d),.rd (.rd (c0.map d) :: (cs.map fun c => c.map d).map D.rd)] = .lst [.rd (a.map d),.rd (b.map d),.rd (.rd (c0.map d) :: (cs.map Rdl.mk).map d)]
 rw [List.map_map,List.map_map]; rfl
theorem Qaw (h : ∀ x : α,QS (d x) = true) : ∀ l : List α,plainTs (l.map d) = true
 | [] => by simp [plainTs]
 | x :: l => by simp [plainTs,h x,Qaw h l]
theorem Qhd {i h t : Nat} {f1 f2 f3 f4 f5 : SE} {t1 : M (List α)} {t2 : M (List β)} {t3 : M (List (List γ))} {u : Rdl α → Rdl β → Rdl (Rdl γ) → M ρ} {t5 : ρ → M δ} {E : ρ → En} (h1 : Ref (f1 env) t1) (h2 : Ref (f2 env) t2) (h3 : Ref (f3 env) t3) (pa : ∀ x : α,QS (d x) = true) (pb : ∀ x : β,QS (d x) = true) (pg : ∀ x : γ,QS (d x) = true) (ps : ∀ s : ρ,Qz (d s) = true)
  (h4 : ∀ a b c,Ref (f4 (env.set i (.sh (.lst [d a,d b,d c])))) (u a b c)) (h5 : ∀ s : ρ,Ref (f5 ((env.set i .no).set h (.sh (d s)))) (t5 s)) (si : QF env i = true) (sh : QF env h = true) (st : QF env t = true) (hE : ∀ s,((env.set i .no).set h (.sh (d s))).set t .no = E s) :
  QD (emN E) (Qag i h t f1 f2 f3 f4 f5 env) (Qhc t1 t2 t3 u t5):=by
 unfold Qhc
 cases t1 with
 | er c fs => trivial
 | st => trivial
 | ok a =>
 cases t2 with
 | er c fs => trivial
 | st => trivial
 | ok b =>
 cases t3 with
 | er c fs => trivial
 | st => trivial
 | ok ls =>
 cases ls with
 | nil => trivial
 | cons c0 cs =>
  show QD _ _ (Qcs (gd (c0.length < 16777216) ((u ⟨a⟩ ⟨b⟩ ⟨(c0 :: cs).map Rdl.mk⟩).bind fun s => (t5 s).bind fun _ => .ok s)))
  unfold gd
  split
  ·rename_i hl
   cases q : u ⟨a⟩ ⟨b⟩ ⟨(c0 :: cs).map Rdl.mk⟩ with
   | er c fs => trivial
   | st => trivial
   | ok s =>
    have r4:=h4 ⟨a⟩ ⟨b⟩ ⟨(c0 :: cs).map Rdl.mk⟩
    rw [q,← Qlo] at r4
    have r5:=h5 s
    cases q5 : t5 s with
    | er c fs => show QD _ _ (Qcs ((t5 s).bind fun _ => .ok s)); rw [q5]; trivial
    | st => show QD _ _ (Qcs ((t5 s).bind fun _ => .ok s)); rw [q5]; trivial
    | ok y =>
     show QD _ _ (Qcs ((t5 s).bind fun _ => .ok s))
     rw [q5]
     show Qag i h t f1 f2 f3 f4 f5 env = .nx (E s)
     rw [q5] at r5
     unfold Qag
     rw [show f1 env = .ok (.lst (a.map d)) from h1,show f2 env = .ok (.lst (b.map d)) from h2,show f3 env = .ok (.lst (.lst (c0.map d) :: cs.map d)) from h3]
     show (match unL (cs.map d) with
      | some cs => if plainTs (a.map d) = true ∧ plainTs (b.map d) = true ∧ plainTs (c0.map d) = true ∧ cs.all plainTs = true ∧ (c0.map d).length < PySem.sizeLine ∧ QF env i = true ∧ QF env h = true ∧ QF env t = true then (match f4 (env.set i (.sh (rdG (a.map d) (b.map d) (c0.map d) cs))) with
        | .ok s => if Qz s = true then (match f5 ((env.set i .no).set h (.sh s)) with
         | .ok _ => O.nx (((env.set i .no).set h (.sh s)).set t .no)
         | _ => .st) else .st
        | _ => .st) else .st
      | none => .st) = _
     rw [Qi5]
     show (if plainTs (a.map d) = true ∧ plainTs (b.map d) = true ∧ plainTs (c0.map d) = true ∧ (cs.map fun c => c.map d).all plainTs = true ∧ (c0.map d).length < PySem.sizeLine ∧ QF env i = true ∧ QF env h = true ∧ QF env t = true then (match f4 (env.set i (.sh (rdG (a.map d) (b.map d) (c0.map d) (cs.map fun c => c.map d)))) with
        | .ok s => if Qz s = true then (match f5 ((env.set i .no).set h (.sh s)) with
         | .ok _ => O.nx (((env.set i .no).set h (.sh s)).set t .no)
         | _ => .st) else .st
        | _ => .st) else .st) = _
     rw [if_pos ⟨Qaw pa a,Qaw pb b,Qaw pg c0,by rw [List.all_map]; exact List.all_eq_true.mpr fun c _ => Qaw pg c,by rw [List.length_map,PySem.sizeLine_eq]; exact hl,si,sh,st⟩]
     rw [show f4 (env.set i (.sh (rdG (a.map d) (b.map d) (c0.map d) (cs.map fun c => c.map d)))) = .ok (d s) from r4]
     show (if Qz (d s) = true then (match f5 ((env.set i .no).set h (.sh (d s))) with
         | .ok _ => O.nx (((env.set i .no).set h (.sh (d s))).set t .no)
         | _ => .st) else .st) = _
     rw [if_pos (ps s),show f5 ((env.set i .no).set h (.sh (d s))) = .ok (d y) from r5]
     exact congrArg O.nx (hE s)
  ·trivial
theorem Qju (x : Tx) : QS (d x) = true:=by show QS (.str _) = true; simp [QS]
theorem QhQ (x : Int) : QS (d x) = true:=by show QS (.int _) = true; simp [QS]
theorem QhR (x : Tx × Int) : QS (d x) = true:=by show QS (.tup [.str _,.int _]) = true; simp [QS,plainTs]
theorem Qe1 (h : ∀ x : α,Qz (d x) = true) : ∀ l : List α,plainL (l.map d) = true
 | [] => by simp [plainL]
 | x :: l => by simp [plainL,h x,Qe1 h l]
theorem Qjv (x : Tx) : Qz (d x) = true:=by show Qz (.str _) = true; simp [Qz]
theorem QhS (x : Int) : Qz (d x) = true:=by show Qz (.int _) = true; simp [Qz]
theorem QhT (x : Tx × Int) : Qz (d x) = true:=by show Qz (.tup [.str _,.int _]) = true; simp [Qz,plainL]
theorem Qc9 (h : ∀ x : α,Qz (d x) = true) (l : List α) : Qz (d l) = true:=by
 show Qz (.lst (l.map d)) = true
 simp only [Qz]; exact Qe1 h l
theorem Qhe {env1 : En} {i : Nat} {a b c : D} (h : env1[i]? = some (.sh (.lst [a,b,c]))) : s2 dIx (QA i) (sC (.int 0)) env1 = .ok a ∧ s2 dIx (QA i) (sC (.int 1)) env1 = .ok b ∧ s2 dIx (QA i) (sC (.int 2)) env1 = .ok c:=by
 have e : QA i env1 = .ok (.lst [a,b,c]):=by unfold QA; rw [h]
 refine ⟨?_,?_,?_⟩
 ·unfold s2; rw [e]; rfl
 ·unfold s2; rw [e]; rfl
 ·unfold s2; rw [e]; rfl
end
end Tm
namespace Tm
open Ps
theorem QdV (a b : Int) : eqT a b = decide (a = b):=QcY a b
theorem QcA (n dd : Nat) (i : Int) (h : 0 ≤ i) : HT.sIx n dd (some i) = min i.toNat n:=by
 have:=HT.sIx_nat n dd i.toNat
 rw [show ((i.toNat : Nat) : Int) = i by omega] at this
 exact this
theorem QbO {α : Type} (l : List α) (j : Int) (h : 0 ≤ j) : cut l none (some j) = l.take j.toNat:=by
 unfold cut
 rw [QcA _ _ _ h,HT.sIx_none,List.drop_zero,Nat.sub_zero]
 rcases Nat.le_total j.toNat l.length with h1 | h1
 ·rw [Nat.min_eq_left h1]
 ·rw [Nat.min_eq_right h1,List.take_of_length_le (Nat.le_refl _),List.take_of_length_le h1]
theorem QbP {α : Type} (l : List α) (i : Int) (h : 0 ≤ i) : cut l (some i) none = l.drop i.toNat:=by
 unfold cut
 rw [QcA _ _ _ h,HT.sIx_none]
 rcases Nat.le_total i.toNat l.length with h1 | h1
 ·rw [Nat.min_eq_left h1,List.take_of_length_le (by simp)]
 ·rw [Nat.min_eq_right h1,List.drop_of_length_le h1,List.drop_of_length_le (Nat.le_refl _)]; simp
theorem QfB {α : Type} (l : List α) (i j : Int) (h : 0 ≤ i) (hj : i ≤ j) : cut l (some i) (some j) = (l.take j.toNat).drop i.toNat:=by
 unfold cut
 rw [QcA _ _ _ h,QcA _ _ _ (by omega),List.drop_take]
 rcases Nat.le_total i.toNat l.length with h1 | h1
 ·rw [Nat.min_eq_left h1]
  rcases Nat.le_total j.toNat l.length with h2 | h2
  ·rw [Nat.min_eq_left h2]
  ·rw [Nat.min_eq_right h2,List.take_of_length_le (by simp),List.take_of_length_le (by simp; omega)]
 ·rw [Nat.min_eq_right h1,Nat.min_eq_right (by omega),List.drop_of_length_le h1]; simp
section
variable {κ α : Type} [Dc κ]
def mkD {β : Type} (key : β → κ) (g : β → α) (l : List β) : Dct κ α:=⟨l.map fun b => (key b,g b)⟩
end
end Tm
namespace Tm
open Ps
section
variable {κ α : Type} [Dc κ]
end
section
variable {κ α : Type} [Ke κ]
variable [Fl α]
end
end Tm
namespace Lw
open PySem PySem.Spec PyProof.Rows L2 Ps
def Qaj (k : Kd) : Option Bool:=match k with
 | .ty n => if n = "NoneType" then some false else none
 | .err n => if n = 15 then some false else none
 | _ => none
def QaC (k : Kd) : Option Bool:=match k with
 | .ty n => if n = "NoneType" then some false else none
 | .err n => if n = 15 then some false else none
 | _ => none
def Qbs (k : Kd) : Option Bool:=match k with
 | .ty n => if n = "NoneType" then some false else none
 | .err n => if n = 15 then some false else none
 | _ => none
def QaD (k : Kd) : Option Bool:=match k with
 | .ty n => if n = "NoneType" then some false else none
 | .err n => if n = 15 then some true else none
 | _ => none
def QcB (k : Kd) : Option Bool:=match k with
 | .ty n => if n = "NoneType" then some false else none
 | .err n => if n = 15 then some false else none
 | _ => none
def Qde (k : Kd) : Option Bool:=match k with
 | .own n => if n = 1 then some true else none
 | _ => none
def QaE (k : Kd) : Option Bool:=match k with
 | .ty n => if n = "NoneType" then some false else none
 | .err n => if n = 15 then some false else none
 | _ => none
def Jn (k : Kd) : Option Bool:=match k with
 | .ty n => if n = "NoneType" then some false else if n = "bool" then some false else if n = "int" then some false else if n = "str" then some false else if n = "list" then some false else if n = "tuple" then some false else if n = "dict" then some false else none
 | .err n => if n = 15 then some true else none
 | _ => none
def QdW (k : Kd) : Option Bool:=match k with
 | .ty n => if n = "NoneType" then some false else if n = "bool" then some true else if n = "int" then some false else if n = "str" then some false else if n = "list" then some false else if n = "tuple" then some false else if n = "dict" then some false else none
 | .err n => if n = 15 then some false else none
 | _ => none
def QeY (k : Kd) : Option Bool:=match k with
 | .ty n => if n = "NoneType" then some false else if n = "bool" then some true else if n = "int" then some true else if n = "str" then some false else if n = "list" then some false else if n = "tuple" then some false else if n = "dict" then some false else none
 | .err n => if n = 15 then some false else none
 | _ => none
def Qbt (k : Kd) : Option Bool:=match k with
 | .ty n => if n = "NoneType" then some false else if n = "bool" then some false else if n = "int" then some false else if n = "str" then some false else if n = "list" then some true else if n = "tuple" then some false else if n = "dict" then some false else none
 | .err n => if n = 15 then some false else none
 | _ => none
def Jo (n : Nat) : Option Bool:=if n = 15 then some true else none
def Qdf : SS:=(Qg (QbG 1 0 "homes" (QI Qaq (Qa (Qh 1) Qk))) (Qg (QbG 1 0 "weights" (QI Qaq (Qa (Qh 2) Qk))) (Qg (QbG 1 0 "lines" (Zg (.nm 4) [4] (QP (Qh 3)) (sC (.bl true)) (QI Qaq (Qa (Qh 4) Qk)))) Qr)))
def QY : List D → RI:=Qc4 5 1 [false,false,false] Qdf
def QeZ : SS:=(Zl (QI Qgr (Qa (Zg (.tp [2,3]) [2,3] (QP (Qh 1)) (sC (.bl true)) (s2 dIx (Qab 1 "weights" (QA 0)) (Qh 3))) Qk)))
def JW : List D → R:=Qb1 4 [true,false] false QeZ
def Qga : SS:=(Qg (ZF 3 (ZR Qk)) (Qg (JC (.tp [4,5]) (QP (Qh 0)) (Qg (JA 3 (Qa3 (Qa (Qh 4) (Qa (Qh 5) Qk)))) (Qg (Zx (s2 dEq (Qh 5) (Qh 1)) (Qg (JA 3 (Qa3 (Qa (Qh 4) (Qa (Qh 2) Qk)))) Qr) Qr) (Qg (Q3 4) (Qg (Q3 5) Qr))))) (Qg (Jd 3) (Zl (Qh 3)))))
def Qbu : List D → R:=Qb1 6 [false,false,false] false Qga
def Qgb : SS:=(Qg (JC (.nm 2) (QP (sSl QcW (Qh 0) (Ju (Qh 1)) (Ju (s2 QC (Qh 1) (sC (.int 1)))))) (Zl (Qh 2))) (Zl (sC (.int 0))))
def Jf : List D → R:=Qb1 3 [false,false] false Qgb
def Qe2 : SS:=(Qg (Zx (s2 dEq (s2 Qa2 (Qh 0) (sC (.int 2))) (sC (.int 1))) (Qg (Qv (.nm 3) (s2 JL (QI Qgq (Qa (Qh 0) Qk)) (sC (.int 2)))) (Qg (JC (.nm 4) (QbD Qcu (Qa (Qh 1) Qk)) (Qg (Qv (.nm 3) (s2 JL (Qh 3) (sC (.int 1000003)))) (Qg (Q3 4) Qr))) (Zl (s2 Qa2 (s2 Qa2 (Qh 3) (sC (.int 1000003))) (Qh 2))))) Qr) (Qg (Qv (.nm 5) (s2 Qa2 (Qh 0) (sC (.int 998244353)))) (Qg (Qv (.nm 6) (s2 Qa2 (s2 JL (Qh 0) (sC (.int 998244353))) (sC (.int 1000000007)))) (Qg (Qv (.nm 7) (s2 QC (s2 Zy (Qh 5) (s2 QC (sC (.int 4099)) (s2 Zy (Qh 1) (sC (.int 30))))) (s2 Zy (Qh 6) (s2 QC (Qh 1) (sC (.int 2)))))) (Qg (Qv (.nm 7) (s2 Qa2 (s2 QC (s2 QC (Qh 7) (s2 Zy (s2 Zy (Qh 1) (Qh 1)) (sC (.int 104729)))) (sC (.int 31))) (sC (.int 1000000007)))) (Zl (s2 Qa2 (s2 Qa2 (s2 Zy (Qh 7) (Qh 7)) (sC (.int 1000000007))) (Qh 2))))))))
def Qy : List D → R:=Qb1 8 [false,false,false] false Qe2
def Qfa : SS:=(Qg (ZF 4 (Zg (.nm 5) [5] (QbD Qcu (Qa (QI Qbv (Qa (s2 dIx (Qh 0) (Qh 2)) Qk)) Qk)) (s2 dIn (Qh 5) (Qh 3)) (s2 dIx (s2 dIx (Qh 0) (Qh 2)) (Qh 5)))) (Qg (ZF 6 (Zg (.nm 5) [5] (QbD Qcu (Qa (QI Qbv (Qa (s2 dIx (Qh 0) (Qh 2)) Qk)) Qk)) (s2 QcH (Qh 5) (Qh 3)) (s2 dIx (s2 dIx (Qh 0) (Qh 2)) (Qh 5)))) (Qg (Jd 6) (Qg (Jd 4) (Qg (ZF 7 (Zg (.nm 10) [10] (QP (ZR (Qa (Qh 4) (Qa (Qh 6) Qk)))) (sC (.bl true)) (QI Qgr (Qa (Zg (.tp [8,9]) [8,9] (QP (Qh 10)) (sC (.bl true)) (s2 dIx (Qh 1) (Qh 9))) Qk)))) (Qg (Jd 7) (Zl (Qa3 (Qa (Qh 4) (Qa (Qh 6) (Qa (Qh 7) Qk)))))))))))
def Jg : List D → R:=Qb1 11 [false,false,false,false] false Qfa
def Qdg : SS:=(Qg (Zx (sOr (JK (QaN Qde (QA 0))) (sOr (JK (QaN Qbt (Qab 1 "homes" (QA 0)))) (JK (QaN Qbt (Qab 1 "weights" (QA 0)))))) (Zl (sC (.bl false))) Qr) (Qg (Zx (sOr (JK (QaN Qbt (Qab 1 "lines" (QA 0)))) (JK (QI Qgs (Qa (Zg (.nm 2) [2] (QP (Qab 1 "lines" (QA 0))) (sC (.bl true)) (QaN Qbt (Qh 2))) Qk)))) (Zl (sC (.bl false))) Qr) (Qg (Zx (JK (QI Qgs (Qa (Zg (.nm 3) [3] (QP (Qab 1 "weights" (QA 0))) (sC (.bl true)) (Qdn (QaN QeY (Qh 3)) (JK (QaN QdW (Qh 3))))) Qk))) (Zl (sC (.bl false))) Qr) (Zl (s2 dEq (Qa3 (Qa (Qab 1 "homes" (QA 0)) (Qa (Qab 1 "weights" (QA 0)) (Qa (Qab 1 "lines" (QA 0)) Qk)))) (Qh 1))))))
def QZ : List D → R:=Qb1 4 [true,false] false Qdg
def Qe3 : SS:=(Qg (Qv (.nm 2) (s2 QC (sC (.int 1)) (sFn Qy (Qa (Qh 0) (Qa (sC (.int 1)) (Qa (sC (.int 6)) Qk)))))) (Qg (ZF 3 (Zg (.nm 4) [4] (QbD Qcu (Qa (Qh 2) Qk)) (sC (.bl true)) (s2 Zy (s2 dIx (sC (.str "ab")) (sFn Qy (Qa (Qh 0) (Qa (s2 QC (sC (.int 2)) (Qh 4)) (Qa (sC (.int 2)) Qk))))) (s2 Qa2 (Qh 4) (sC (.int 3)))))) (Qg (ZF 5 (ZR Qk)) (Qg (ZF 6 (ZR Qk)) (Qg (JC (.nm 4) (QbD Qcu (Qa (Qh 2) Qk)) (Qg (Qv (.nm 7) (s2 QC (sC (.int 1)) (sFn Qy (Qa (Qh 0) (Qa (s2 QC (sC (.int 10)) (Qh 4)) (Qa (sC (.int 9)) Qk)))))) (Qg (Zx (s2 dEq (sFn Qy (Qa (Qh 0) (Qa (sC (.int 9)) (Qa (sC (.int 4)) Qk)))) (sC (.int 1))) (Qg (Qv (.nm 7) (s2 QC (s2 Zy (Qh 7) (s2 QfH (sC (.int 10)) (sC (.int 20)))) (sFn Qy (Qa (Qh 0) (Qa (s2 QC (sC (.int 20)) (Qh 4)) (Qa (s2 QfH (sC (.int 10)) (sC (.int 9))) Qk)))))) Qr) Qr) (Qg (JA 5 (Qh 7)) (Qg (ZF 8 (ZR Qk)) (Qg (JC (.nm 9) (QbD Qcu (Qa (sFn Qy (Qa (Qh 1) (Qa (s2 QC (sC (.int 1)) (Qh 4)) (Qa (sC (.int 9)) Qk)))) Qk)) (Qg (Qv (.nm 10) (sFn Qy (Qa (Qh 1) (Qa (s2 QC (s2 QC (sC (.int 10)) (s2 Zy (sC (.int 9)) (Qh 4))) (Qh 9)) (Qa (sC (.int 8)) Qk))))) (Qg (Qv (.nm 11) (sM1 Qfp (sC (.str "")) (Zg (.nm 12) [12] (QP (ZR (Qa (sC (.int 1)) (Qa (sC (.int 2)) (Qa (sC (.int 4)) Qk))))) (sC (.bl true)) (s2 dIx (sC (.str "ab")) (s2 Qa2 (s2 JL (Qh 10) (Qh 12)) (sC (.int 2))))))) (Qg (JA 8 (Qa3 (Qa (Qh 11) (Qa (sFn Qy (Qa (Qh 1) (Qa (s2 QC (s2 QC (sC (.int 70)) (s2 Zy (sC (.int 9)) (Qh 4))) (Qh 9)) (Qa (Qh 2) Qk)))) Qk)))) (Qg (Q3 9) (Qg (Q3 10) (Qg (Q3 11) Qr))))))) (Qg (Jd 8) (Qg (JA 6 (Qh 8)) (Qg (Q3 4) (Qg (Q3 7) (Qg (Q3 8) Qr))))))))))) (Qg (Jd 3) (Qg (Jd 6) (Qg (Jd 5) (Zl (Qa3 (Qa (Qh 3) (Qa (Qh 5) (Qa (Qh 6) Qk)))))))))))))
def Qak : List D → R:=Qb1 13 [false,false] false Qe3
def Qdo : SS:=(Qg (Qv (.tp [6,7,8]) (sFn Jg (Qa (Qh 2) (Qa (Qh 1) (Qa (Qh 3) (Qa (Qh 4) Qk)))))) (Qg (ZF 9 (Zg (.nm 10) [10] (QP (Qh 2)) (sC (.bl true)) (QI Qaq (Qa (Qh 10) Qk)))) (Qg (QbE 9 (Qh 3) (Qh 6)) (Qg (JA 9 (Qh 7)) (Qg (ZF 11 (ZR Qk)) (Qg (Jd 9) (Qg (JC (.nm 10) (QP (Qh 9)) (Qg (ZF 12 (ZR Qk)) (Qg (JC (.tp [13,14]) (QP (Qh 10)) (Qg (JA 12 (Qa3 (Qa (Qh 13) (Qa (Qh 14) Qk)))) (Qg (Zx (s2 dEq (Qh 14) (Qh 3)) (Qg (JA 12 (Qa3 (Qa (Qh 13) (Qa (QI Qbv (Qa (Qh 2) Qk)) Qk)))) Qr) Qr) (Qg (Q3 13) (Qg (Q3 14) Qr))))) (Qg (Jd 12) (Qg (JA 11 (Qh 12)) (Qg (Q3 10) (Qg (Q3 12) Qr))))))) (Qg (Qv (.nm 15) (s2 Qek (s2 dIx (Qh 1) (Qh 3)) (Qh 5))) (Qg (Qv (.nm 16) (s2 QC (s2 QC (sSl QcW (Qh 1) (sC .non) (Ju (Qh 3))) (ZR (Qa (Qh 5) Qk))) (sSl QcW (Qh 1) (Ju (s2 QC (Qh 3) (sC (.int 1)))) (sC .non)))) (Qg (Jd 11) (Zl (Qa3 (Qa (s2 QC (Qh 0) (ZR (Qa (s2 dIx (Qh 0) (Qh 3)) Qk))) (Qa (s2 QC (Qh 16) (ZR (Qa (Qh 15) Qk))) (Qa (Qh 11) Qk)))))))))))))))
def Jp : List D → R:=Qb1 17 [false,false,false,false,false,false] false Qdo
def QdX : SS:=(Qg (Qv (.nm 4) (sFn Qy (Qa (Qh 0) (Qa (sC (.int 1)) (Qa (QI Qbv (Qa (Qh 1) Qk)) Qk))))) (Qg (ZF 5 (Zg (.nm 6) [6] (QbD Qcu (Qa (QI Qbv (Qa (s2 dIx (Qh 2) (Qh 4)) Qk)) Qk)) (s2 dEq (sFn Qy (Qa (Qh 0) (Qa (s2 QC (sC (.int 20)) (Qh 6)) (Qa (sC (.int 2)) Qk)))) (sC (.int 1))) (Qh 6))) (Qg (Zx (s2 dEq (sFn Qy (Qa (Qh 0) (Qa (sC (.int 2)) (Qa (sC (.int 2)) Qk)))) (sC (.int 1))) (Qg (Qv (.nm 5) (Qje (QA 5))) Qr) (Qg (Jd 5) Qr)) (Qg (Qv (.nm 7) (s2 dIx (sFn Jg (Qa (Qh 2) (Qa (Qh 1) (Qa (Qh 4) (Qa (Qh 5) Qk))))) (sC (.int 2)))) (Qg (Qv (.nm 8) (sFn Qy (Qa (Qh 0) (Qa (sC (.int 3)) (Qa (s2 dIx (Qh 1) (Qh 4)) Qk))))) (Qg (Qv (.nm 9) (sFn Qy (Qa (Qh 0) (Qa (sC (.int 4)) (Qa (sC (.int 5)) Qk))))) (Qg (Zx (sOr (s2 dEq (Qh 9) (sC (.int 1))) (s2 dEq (Qh 9) (sC (.int 2)))) (Qg (Qv (.nm 8) (s2 JL (s2 dIx (Qh 7) (sC (.int 0))) (Qh 3))) Qr) Qr) (Qg (Zx (s2 dEq (Qh 9) (sC (.int 3))) (Qg (Qv (.nm 8) (s2 QC (s2 JL (s2 dIx (Qh 7) (sC (.int 0))) (Qh 3)) (sC (.int 1)))) Qr) Qr) (Qg (Zx (s2 dEq (Qh 9) (sC (.int 4))) (Qg (Qv (.nm 8) (s2 Qek (s2 dIx (Qh 1) (Qh 4)) (s2 JL (s2 dIx (Qh 7) (sC (.int 1))) (Qh 3)))) Qr) Qr) (Zl (Qa3 (Qa (Qh 4) (Qa (Qh 5) (Qa (Qh 8) Qk))))))))))))))
def JG : List D → R:=Qb1 10 [false,false,false,false] false QdX
def QhU : SS:=(Qg (Zx (sOr (s2 dLt (Qh 2) (sC (.int 0))) (s2 dGe (Qh 2) (QI Qbv (Qa (Qab 1 "homes" (QA 0)) Qk)))) (Qa6 15) Qr) (Qg (Qv (.nm 5) (s2 dIx (Qab 1 "lines" (QA 0)) (Qh 2))) (Qg (Zx (QI Qhu (Qa (Zg (.nm 6) [6] (QP (Qh 3)) (sC (.bl true)) (sOr (s2 dLt (Qh 6) (sC (.int 0))) (s2 dGe (Qh 6) (QI Qbv (Qa (Qh 5) Qk))))) Qk)) (Qa6 15) Qr) (Qg (ZF 7 (Zg (.nm 8) [8] (QbD Qcu (Qa (QI Qbv (Qa (Qh 5) Qk)) Qk)) (s2 dIn (Qh 8) (Qh 3)) (s2 dIx (Qh 5) (Qh 8)))) (Qg (ZF 9 (Zg (.nm 8) [8] (QbD Qcu (Qa (QI Qbv (Qa (Qh 5) Qk)) Qk)) (s2 QcH (Qh 8) (Qh 3)) (s2 dIx (Qh 5) (Qh 8)))) (Qg (Qv (.nm 10) (s2 Qek (s2 dIx (Qab 1 "weights" (QA 0)) (Qh 2)) (Qh 4))) (Qg (Zx (sOr (s2 dEq (QA 7) (ZR Qk)) (sOr (s2 dEq (QA 9) (ZR Qk)) (sOr (s2 dLt (Qh 4) (sC (.int 1))) (s2 dLt (Qh 10) (sC (.int 1)))))) (Qa6 15) Qr) (Qg (Jd 9) (Qg (Jd 7) (Qg (Zx (sOr (s2 dLt (sFn JW (Qa (QA 0) (Qa (Qh 7) Qk))) (s2 Zy (Qh 1) (Qh 4))) (s2 dLt (sFn JW (Qa (QA 0) (Qa (Qh 9) Qk))) (s2 Zy (Qh 1) (Qh 10)))) (Qa6 15) Qr) (Qg (Qv (.nm 11) (s2 QC (s2 QC (s2 QC (sSl QcW (Qab 1 "weights" (QA 0)) (sC .non) (Ju (Qh 2))) (ZR (Qa (Qh 4) Qk))) (sSl QcW (Qab 1 "weights" (QA 0)) (Ju (s2 QC (Qh 2) (sC (.int 1)))) (sC .non))) (ZR (Qa (Qh 10) Qk)))) (Qg (Qv (.nm 12) (s2 QC (s2 QC (s2 QC (sSl QcW (Qab 1 "lines" (QA 0)) (sC .non) (Ju (Qh 2))) (ZR (Qa (Qh 7) Qk))) (sSl QcW (Qab 1 "lines" (QA 0)) (Ju (s2 QC (Qh 2) (sC (.int 1)))) (sC .non))) (ZR (Qa (Qh 9) Qk)))) (Qg (ZF 12 (Zg (.nm 5) [5] (QP (Qh 12)) (sC (.bl true)) (sFn Qbu (Qa (Qh 5) (Qa (Qh 2) (Qa (QI Qbv (Qa (Qab 1 "homes" (QA 0)) Qk)) Qk)))))) (Qg (Jd 12) (Zl (sMk 1 QY (Qa (s2 QC (Qab 1 "homes" (QA 0)) (ZR (Qa (s2 dIx (Qab 1 "homes" (QA 0)) (Qh 2)) Qk))) (Qa (Qh 11) (Qa (Qh 12) Qk)))))))))))))))))))
def QbQ : List D → R:=Qb1 13 [true,false,false,false,false] false QhU
def Qfb : SS:=(Qg (Qv (.nm 5) (sC .non)) (Qg (Qv (.nm 6) (sC .non)) (Qg (QbI Jo 7 (Qg (Qv (.nm 6) (sFn QbQ (Qa (Qh 0) (Qa (Qh 1) (Qa (Qh 2) (Qa (Qh 3) (Qa (Qh 4) Qk))))))) Qr) (Qg (Qv (.nm 5) (Qh 7)) Qr)) (Qg (Zx (s2 dIs (Qh 5) (sC .non)) (Zl (Qa3 (Qa (sC (.int 0)) (Qa (Qh 6) Qk)))) Qr) (Qg (Zx (sOr (JK (QaN QaD (Qh 5))) (JK (QaN Jn (Qh 5)))) (Zl (Qa3 (Qa (sC (.int 2)) (Qa (sC .non) Qk)))) Qr) (Qg (Zx (sOr (QaN Qaj (Qh 5)) (sOr (QaN QaC (Qh 5)) (QaN Qbs (Qh 5)))) (Zl (Qa3 (Qa (sC (.int 2)) (Qa (sC .non) Qk)))) Qr) (Zl (Qa3 (Qa (s2 QC (sC (.int 1)) (QI QeJ (Qa (sOr (QaN QcB (Qh 5)) (QaN QaE (Qh 5))) Qk))) (Qa (sC .non) Qk))))))))))
def QaF : List D → R:=Qb1 8 [false,false,false,false,false] false Qfb
def Qlp : SS:=(Qg (Qv (.nm 1) (sFn Qak (Qa (sFn Jf (Qa (Qh 0) (Qa (sC (.int 0)) Qk))) (Qa (sFn Jf (Qa (Qh 0) (Qa (sC (.int 1)) Qk))) Qk)))) (Qg (Qv (.nm 2) (s2 QC (sC (.int 2)) (s2 Qa2 (sFn Jf (Qa (Qh 0) (Qa (sC (.int 2)) Qk))) (sC (.int 7))))) (Qg (JC (.nm 3) (QP (s2 QC (ZR (Qa (sFn Jf (Qa (Qh 0) (Qa (sC (.int 3)) Qk))) Qk)) (sSl QcW (Qh 0) (Ju (sC (.int 4))) (Ju (sC (.int 14)))))) (Qg (Qv (.tp [4,5,6]) (Qh 1)) (Qg (Qv (.tp [7,8,9]) (sFn JG (Qa (Qh 3) (Qa (Qh 5) (Qa (Qh 6) (Qa (Qh 2) Qk)))))) (Qg (Qv (.tp [10,11,12]) (sFn Jg (Qa (Qh 6) (Qa (Qh 5) (Qa (Qh 7) (Qa (Qh 8) Qk)))))) (Qg (Qv (.nm 13) (s2 Qek (s2 dIx (Qh 5) (Qh 7)) (Qh 9))) (Qg (Qv (.nm 14) (Qdn (s2 dNe (Qh 10) (ZR Qk)) (Qdn (s2 dNe (Qh 11) (ZR Qk)) (Qdn (s2 dGt (Qh 9) (sC (.int 0))) (s2 dGt (Qh 13) (sC (.int 0))))))) (Qg (Qv (.nm 14) (Qdn (Qh 14) (Qdn (s2 dGe (s2 dIx (Qh 12) (sC (.int 0))) (s2 Zy (Qh 2) (Qh 9))) (s2 dGe (s2 dIx (Qh 12) (sC (.int 1))) (s2 Zy (Qh 2) (Qh 13)))))) (Qg (Qag 15 17 18 (QI Qaq (Qa (Qh 4) Qk)) (QI Qaq (Qa (Qh 5) Qk)) (Zg (.nm 16) [16] (QP (Qh 6)) (sC (.bl true)) (QI Qaq (Qa (Qh 16) Qk))) (sMk 1 QY (Qa (s2 dIx (QA 15) (sC (.int 0))) (Qa (s2 dIx (QA 15) (sC (.int 1))) (Qa (s2 dIx (QA 15) (sC (.int 2))) Qk)))) (Qa3 (Qa (sC (.str "aaa")) (Qa (sC (.int 0)) Qk)))) (Qg (Qv (.nm 19) (QI Qaq (Qa (Qh 8) Qk))) (Qg (Qv (.nm 20) (sFn QaF (Qa (Qh 17) (Qa (Qh 2) (Qa (Qh 7) (Qa (Qh 19) (Qa (Qh 9) Qk))))))) (Qg (Zx (sOr (s2 dNe (s2 dIx (Qh 20) (sC (.int 0))) (QI QeJ (Qa (JK (Qh 14)) Qk))) (sOr (JK (sFn QZ (Qa (Qh 17) (Qa (Qh 1) Qk)))) (s2 dNe (Qh 19) (Qh 8)))) (Zl (sC (.bl false))) Qr) (Zx (Qh 14) (Qg (Qv (.nm 21) (sFn Jp (Qa (Qh 4) (Qa (Qh 5) (Qa (Qh 6) (Qa (Qh 7) (Qa (Qh 8) (Qa (Qh 9) Qk)))))))) (Qg (Zx (JK (sFn QZ (Qa (s2 dIx (Qh 20) (sC (.int 1))) (Qa (Qh 21) Qk)))) (Zl (sC (.bl false))) Qr) (Qg (Zx (sOr (JK (sFn QZ (Qa (Qh 17) (Qa (Qh 1) Qk)))) (JK (sFn QZ (Qa (sFn QbQ (Qa (Qh 17) (Qa (Qh 2) (Qa (Qh 7) (Qa (Qh 19) (Qa (Qh 9) Qk)))))) (Qa (Qh 21) Qk))))) (Zl (sC (.bl false))) Qr) (Qg (Zx (s2 dLt (QI Qbv (Qa (Qh 4) Qk)) (sC (.int 9))) (Qg (Qv (.nm 1) (Qh 21)) Qr) Qr) (Qg (Q3 3) (Qg (Q3 4) (Qg (Q3 5) (Qg (Q3 6) (Qg (Q3 7) (Qg (Q3 8) (Qg (Q3 9) (Qg (Q3 10) (Qg (Q3 11) (Qg (Q3 12) (Qg (Q3 13) (Qg (Q3 14) (Qg (Q3 17) (Qg (Q3 19) (Qg (Q3 20) (Qg (Q3 21) Qr)))))))))))))))))))) (Qg (Q3 3) (Qg (Q3 4) (Qg (Q3 5) (Qg (Q3 6) (Qg (Q3 7) (Qg (Q3 8) (Qg (Q3 9) (Qg (Q3 10) (Qg (Q3 11) (Qg (Q3 12) (Qg (Q3 13) (Qg (Q3 14) (Qg (Q3 17) (Qg (Q3 19) (Qg (Q3 20) Qr))))))))))))))))))))))))))) (Zl (sC (.bl true))))))
def Qhf : List D → R:=Qb1 22 [false] false Qlp
end Lw
namespace Lw
open Ps Tm
open Emb (d)
noncomputable section
theorem Qgc : Qde (.own 1) = some true:=by decide +kernel
theorem QdY : QdW (.ty "int") = some false:=by decide +kernel
theorem Qe4 : QeY (.ty "int") = some true:=by decide +kernel
theorem Jq : Qbt (.ty "list") = some true:=by decide +kernel
structure TSheet where
 homes : (List Tx)
 weights : (List Int)
 lines : (List (List (Tx × Int)))
instance : Emb TSheet:=⟨fun x => .obj 1 (("homes",d x.homes) :: ("weights",d x.weights) :: ("lines",d x.lines) :: [] : List (PySem.Str × D))⟩
instance : Nnd TSheet:=⟨fun _ => rfl⟩
theorem Zn (x : TSheet) : Ref (QeQ 1 "homes" (.ok (d x))) (.ok x.homes):=by
 refine Qhb rfl ?_
 rw [List.lookup_cons,show (("homes" : PySem.Str) == "homes") = true from by decide +kernel]; rfl
theorem QQ (x : TSheet) : Ref (QeQ 1 "weights" (.ok (d x))) (.ok x.weights):=by
 refine Qhb rfl ?_
 rw [List.lookup_cons,show (("weights" : PySem.Str) == "homes") = false from by decide +kernel,List.lookup_cons,show (("weights" : PySem.Str) == "weights") = true from by decide +kernel]; rfl
theorem Zo (x : TSheet) : Ref (QeQ 1 "lines" (.ok (d x))) (.ok x.lines):=by
 refine Qhb rfl ?_
 rw [List.lookup_cons,show (("lines" : PySem.Str) == "homes") = false from by decide +kernel,List.lookup_cons,show (("lines" : PySem.Str) == "weights") = false from by decide +kernel,List.lookup_cons,show (("lines" : PySem.Str) == "lines") = true from by decide +kernel]; rfl
def JX (v_homes : (List Tx)) (v_weights : (List Int)) (v_lines : (List (List (Tx × Int)))) : M TSheet:=
  (M.bind (M.bind (M.ok v_homes) fun Qns =>
  (M.bind (M.ok v_weights) fun Qnq =>
  (M.bind (Q4 (fun (a4 : (List (Tx × Int))) => (M.ok a4)) v_lines) fun Qn4 =>
  (M.ok (Qns,Qnq,Qn4))))) fun (q : ((List Tx) × (List Int) × (List (List (Tx × Int))))) => M.ok ({ homes:=q.1,weights:=q.2.1,lines:=q.2.2 } : TSheet))
theorem Qcy (v_homes : (List Tx)) (v_weights : (List Int)) (v_lines : (List (List (Tx × Int)))) : QgO 1 (QY [d v_homes,d v_weights,d v_lines]) (JX v_homes v_weights v_lines):=
  QgW (E:=(fun (q : ((List Tx) × (List Int) × (List (List (Tx × Int))))) => [.oo 1 [("homes",d (q.1 : (List Tx))),("weights",d (q.2.1 : (List Int))),("lines",d (q.2.2 : (List (List (Tx × Int)))))] [],.sh (d (v_homes : (List Tx))),.sh (d (v_weights : (List Int))),.sh (d (v_lines : (List (List (Tx × Int))))),.no])) (k:=fun (q : ((List Tx) × (List Int) × (List (List (Tx × Int))))) => ({ homes:=q.1,weights:=q.2.1,lines:=q.2.2 } : TSheet)) (fs:=fun (q : ((List Tx) × (List Int) × (List (List (Tx × Int))))) => [("homes",d (q.1 : (List Tx))),("weights",d (q.2.1 : (List Int))),("lines",d (q.2.2 : (List (List (Tx × Int)))))])
  (Qm (E:=(fun (Qns : (List Tx)) => [.oo 1 [("homes",d (Qns : (List Tx)))] [],.sh (d (v_homes : (List Tx))),.sh (d (v_weights : (List Int))),.sh (d (v_lines : (List (List (Tx × Int))))),.no])) (Qch rfl (by decide +kernel) (by decide +kernel) (by show false = false; decide +kernel) (by simp) (cv (Qs Qbd (Qb 1 rfl))) (fun _ => rfl)) fun Qns =>
  (Qm (E:=(fun (Qnq : (List Int)) => [.oo 1 [("homes",d (Qns : (List Tx))),("weights",d (Qnq : (List Int)))] [],.sh (d (v_homes : (List Tx))),.sh (d (v_weights : (List Int))),.sh (d (v_lines : (List (List (Tx × Int))))),.no])) (Qch rfl (by decide +kernel) (by decide +kernel) (by show (decide (("homes" : PySem.Str) = "weights") || false) = false; decide +kernel) (by simp) (cv (Qs Qbd (Qb 2 rfl))) (fun _ => rfl)) fun Qnq =>
  (Qm (E:=(fun (Qn4 : (List (List (Tx × Int)))) => [.oo 1 [("homes",d (Qns : (List Tx))),("weights",d (Qnq : (List Int))),("lines",d (Qn4 : (List (List (Tx × Int)))))] [],.sh (d (v_homes : (List Tx))),.sh (d (v_weights : (List Int))),.sh (d (v_lines : (List (List (Tx × Int))))),.no])) (Qch rfl (by decide +kernel) (by decide +kernel) (by show (decide (("homes" : PySem.Str) = "lines") || (decide (("weights" : PySem.Str) = "lines") || false)) = false; decide +kernel) (by simp) (cv (ZD (E:=(fun (a4 : (List (Tx × Int))) => [.oo 1 [("homes",d (Qns : (List Tx))),("weights",d (Qnq : (List Int)))] [],.sh (d (v_homes : (List Tx))),.sh (d (v_weights : (List Int))),.sh (d (v_lines : (List (List (Tx × Int))))),.sh (d (a4 : (List (Tx × Int))))])) (k:=(fun (a4 : (List (Tx × Int))) => (M.ok a4))) (ZG (Qb 3 rfl)) rfl (fun _ => rfl) (fun a4 => cv (Qs Qbd (Qb 4 rfl))))) (fun _ => rfl)) fun Qn4 =>
  (QB (E:=(fun (q : ((List Tx) × (List Int) × (List (List (Tx × Int))))) => [.oo 1 [("homes",d (q.1 : (List Tx))),("weights",d (q.2.1 : (List Int))),("lines",d (q.2.2 : (List (List (Tx × Int)))))] [],.sh (d (v_homes : (List Tx))),.sh (d (v_weights : (List Int))),.sh (d (v_lines : (List (List (Tx × Int))))),.no])) (s:=(Qns,Qnq,Qn4)) rfl)))) (fun _ => rfl) (fun _ => rfl)
def ZN (v_homes : (Rdl Tx)) (v_weights : (Rdl Int)) (v_lines : (Rdl (Rdl (Tx × Int)))) : M TSheet:=
  (M.bind (M.bind (M.ok v_homes.l) fun Qns =>
  (M.bind (M.ok v_weights.l) fun Qnq =>
  (M.bind (Q4 (fun (a4 : (Rdl (Tx × Int))) => (M.ok a4.l)) v_lines.l) fun Qn4 =>
  (M.ok (Qns,Qnq,Qn4))))) fun (q : ((List Tx) × (List Int) × (List (List (Tx × Int))))) => M.ok ({ homes:=q.1,weights:=q.2.1,lines:=q.2.2 } : TSheet))
theorem Qe5 (v_homes : (Rdl Tx)) (v_weights : (Rdl Int)) (v_lines : (Rdl (Rdl (Tx × Int)))) : QgO 1 (QY [d v_homes,d v_weights,d v_lines]) (ZN v_homes v_weights v_lines):=
  QgW (E:=(fun (q : ((List Tx) × (List Int) × (List (List (Tx × Int))))) => [.oo 1 [("homes",d (q.1 : (List Tx))),("weights",d (q.2.1 : (List Int))),("lines",d (q.2.2 : (List (List (Tx × Int)))))] [],.sh (d (v_homes : (Rdl Tx))),.sh (d (v_weights : (Rdl Int))),.sh (d (v_lines : (Rdl (Rdl (Tx × Int))))),.no])) (k:=fun (q : ((List Tx) × (List Int) × (List (List (Tx × Int))))) => ({ homes:=q.1,weights:=q.2.1,lines:=q.2.2 } : TSheet)) (fs:=fun (q : ((List Tx) × (List Int) × (List (List (Tx × Int))))) => [("homes",d (q.1 : (List Tx))),("weights",d (q.2.1 : (List Int))),("lines",d (q.2.2 : (List (List (Tx × Int)))))])
  (Qm (E:=(fun (Qns : (List Tx)) => [.oo 1 [("homes",d (Qns : (List Tx)))] [],.sh (d (v_homes : (Rdl Tx))),.sh (d (v_weights : (Rdl Int))),.sh (d (v_lines : (Rdl (Rdl (Tx × Int))))),.no])) (Qch rfl (by decide +kernel) (by decide +kernel) (by show false = false; decide +kernel) (by simp) (cv (Qs Qdd (Qb 1 rfl))) (fun _ => rfl)) fun Qns =>
  (Qm (E:=(fun (Qnq : (List Int)) => [.oo 1 [("homes",d (Qns : (List Tx))),("weights",d (Qnq : (List Int)))] [],.sh (d (v_homes : (Rdl Tx))),.sh (d (v_weights : (Rdl Int))),.sh (d (v_lines : (Rdl (Rdl (Tx × Int))))),.no])) (Qch rfl (by decide +kernel) (by decide +kernel) (by show (decide (("homes" : PySem.Str) = "weights") || false) = false; decide +kernel) (by simp) (cv (Qs Qdd (Qb 2 rfl))) (fun _ => rfl)) fun Qnq =>
  (Qm (E:=(fun (Qn4 : (List (List (Tx × Int)))) => [.oo 1 [("homes",d (Qns : (List Tx))),("weights",d (Qnq : (List Int))),("lines",d (Qn4 : (List (List (Tx × Int)))))] [],.sh (d (v_homes : (Rdl Tx))),.sh (d (v_weights : (Rdl Int))),.sh (d (v_lines : (Rdl (Rdl (Tx × Int))))),.no])) (Qch rfl (by decide +kernel) (by decide +kernel) (by show (decide (("homes" : PySem.Str) = "lines") || (decide (("weights" : PySem.Str) = "lines") || false)) = false; decide +kernel) (by simp) (cv (ZD (E:=(fun (a4 : (Rdl (Tx × Int))) => [.oo 1 [("homes",d (Qns : (List Tx))),("weights",d (Qnq : (List Int)))] [],.sh (d (v_homes : (Rdl Tx))),.sh (d (v_weights : (Rdl Int))),.sh (d (v_lines : (Rdl (Rdl (Tx × Int))))),.sh (d (a4 : (Rdl (Tx × Int))))])) (k:=(fun (a4 : (Rdl (Tx × Int))) => (M.ok a4.l))) (Qln (Qb 3 rfl)) rfl (fun _ => rfl) (fun a4 => cv (Qs Qdd (Qb 4 rfl))))) (fun _ => rfl)) fun Qn4 =>
  (QB (E:=(fun (q : ((List Tx) × (List Int) × (List (List (Tx × Int))))) => [.oo 1 [("homes",d (q.1 : (List Tx))),("weights",d (q.2.1 : (List Int))),("lines",d (q.2.2 : (List (List (Tx × Int)))))] [],.sh (d (v_homes : (Rdl Tx))),.sh (d (v_weights : (Rdl Int))),.sh (d (v_lines : (Rdl (Rdl (Tx × Int))))),.no])) (s:=(Qns,Qnq,Qn4)) rfl)))) (fun _ => rfl) (fun _ => rfl)
theorem Qgd (x : TSheet) : Qz (d x) = true:=by
 show Qz (.obj 1 [("homes",d x.homes),("weights",d x.weights),("lines",d x.lines)]) = true
 simp only [Qz,plainF,Qc9 Qjv,Qc9 QhS,Qc9 (Qc9 QhT),Bool.and_self]
theorem Qhg (a : Rdl Tx) (b : Rdl Int) (c : Rdl (Rdl (Tx × Int))) {env1 : En} {i : Nat} (h : env1[i]? = some (.sh (.lst [d a,d b,d c]))) :
  Ref (sMk 1 QY (Qa (s2 dIx (QA i) (sC (.int 0))) (Qa (s2 dIx (QA i) (sC (.int 1))) (Qa (s2 dIx (QA i) (sC (.int 2))) Qk))) env1) (mkM (ZN a b c)):=by
 obtain ⟨h0,h1,h2⟩:=Qhe h
 exact QgQ (t0:=.ok a) (t1:=.ok b) (t2:=.ok c) h0 h1 h2 (fun _ _ _ => rfl) Qe5
def ZO (v_sheet : TSheet) (Qnv : (List (Tx × Int))) : M Int:=
  (M.bind (Q4 (fun (a1 : (Tx × Int)) => (ixL v_sheet.weights a1.2)) Qnv) fun x2 => M.ok (List.sum x2))
theorem Qct (v_sheet : TSheet) (Qnv : (List (Tx × Int))) : Ref (JW [d v_sheet,d Qnv]) (ZO v_sheet Qnv):=
  J6
  (QX (cv (Qs Qi3 (ZD (E:=(fun (a1 : (Tx × Int)) => [.bo (d (v_sheet : TSheet)),.sh (d (Qnv : (List (Tx × Int)))),.sh (d (a1.1 : Tx)),.sh (d (a1.2 : Int))])) (k:=(fun (a1 : (Tx × Int)) => (ixL v_sheet.weights a1.2))) (ZG (Qb 1 rfl)) rfl (fun _ => rfl) (fun a1 => cv (Ql Z4 (Zw QQ (QN 0 rfl)) (Qb 3 rfl)))))))
def Jb (QmX : Int) (Qnx : Int) (q2 : ((List (Tx × Int)))) (a3 : (Tx × Int)) : M ((List (Tx × Int))):=
  (M.bind (M.bind (M.ok (a3.1,a3.2)) fun x5 => Z6 q2 x5) fun Qn6 =>
  (M.bind (M.bind (M.ok (eqT a3.2 QmX)) fun c6 => if c6 then
  (M.bind (M.bind (M.ok (a3.1,Qnx)) fun x8 => Z6 Qn6 x8) fun Qoc =>
  (M.ok Qoc)) else
  (M.ok Qn6)) fun s9 =>
  (M.ok s9)))
def Qax (Qnv : (List (Tx × Int))) (QmX : Int) (Qnx : Int) : M (List (Tx × Int)):=
  (M.bind (M.ok ([] : List (Tx × Int))) fun Qod =>
  (M.bind (M.bind (M.ok Qnv) fun l11 => ZX (Jb QmX Qnx) l11 Qod) fun s10 =>
  (M.ok s10)))
theorem Qfc (Qnv : (List (Tx × Int))) (QmX : Int) (Qnx : Int) : Ref (Qbu [d Qnv,d QmX,d Qnx]) (Qax Qnv QmX Qnx):=
  J6
  (Qm (E:=(fun (Qod : (List (Tx × Int))) => [.sh (d (Qnv : (List (Tx × Int)))),.sh (d (QmX : Int)),.sh (d (Qnx : Int)),.ow (d (Qod : (List (Tx × Int)))),.no,.no])) (ZM (cv (Z2 (by decide) (Z1 (α:=(Tx × Int))))) (fun _ => rfl)) fun Qod =>
  (Qm (E:=(fun (q : ((List (Tx × Int)))) => [.sh (d (Qnv : (List (Tx × Int)))),.sh (d (QmX : Int)),.sh (d (Qnx : Int)),.ow (d (q : (List (Tx × Int)))),.no,.no])) (Qcg (E:=(fun (q : ((List (Tx × Int)))) => [.sh (d (Qnv : (List (Tx × Int)))),.sh (d (QmX : Int)),.sh (d (Qnx : Int)),.ow (d (q : (List (Tx × Int)))),.no,.no])) (E':=(fun (q2 : ((List (Tx × Int)))) (a3 : (Tx × Int)) => [.sh (d (Qnv : (List (Tx × Int)))),.sh (d (QmX : Int)),.sh (d (Qnx : Int)),.ow (d (q2 : (List (Tx × Int)))),.sh (d (a3.1 : Tx)),.sh (d (a3.2 : Int))])) Qod rfl (cv (ZG (Qb 0 rfl))) (fun _ _ => rfl) fun q2 a3 =>
  (Qm (E:=(fun (Qn6 : (List (Tx × Int))) => [.sh (d (Qnv : (List (Tx × Int)))),.sh (d (QmX : Int)),.sh (d (Qnx : Int)),.ow (d (Qn6 : (List (Tx × Int)))),.sh (d (a3.1 : Tx)),.sh (d (a3.2 : Int))])) (Qa9 rfl (cv (Jl (Qb 4 rfl) (Qb 5 rfl))) (fun _ => rfl)) fun Qn6 =>
  (Qm (E:=(fun (q : ((List (Tx × Int)))) => [.sh (d (Qnv : (List (Tx × Int)))),.sh (d (QmX : Int)),.sh (d (Qnx : Int)),.ow (d (q : (List (Tx × Int)))),.sh (d (a3.1 : Tx)),.sh (d (a3.2 : Int))])) (QbM (cv (Ql Qcd (Qb 5 rfl) (Qb 1 rfl)))
  (Qm (E:=(fun (Qoc : (List (Tx × Int))) => [.sh (d (Qnv : (List (Tx × Int)))),.sh (d (QmX : Int)),.sh (d (Qnx : Int)),.ow (d (Qoc : (List (Tx × Int)))),.sh (d (a3.1 : Tx)),.sh (d (a3.2 : Int))])) (Qa9 rfl (cv (Jl (Qb 4 rfl) (Qb 2 rfl))) (fun _ => rfl)) fun Qoc =>
  (QB (E:=(fun (q : ((List (Tx × Int)))) => [.sh (d (Qnv : (List (Tx × Int)))),.sh (d (QmX : Int)),.sh (d (Qnx : Int)),.ow (d (q : (List (Tx × Int)))),.sh (d (a3.1 : Tx)),.sh (d (a3.2 : Int))])) (s:=Qoc) rfl))
  (QB (E:=(fun (q : ((List (Tx × Int)))) => [.sh (d (Qnv : (List (Tx × Int)))),.sh (d (QmX : Int)),.sh (d (Qnx : Int)),.ow (d (q : (List (Tx × Int)))),.sh (d (a3.1 : Tx)),.sh (d (a3.2 : Int))])) (s:=Qn6) rfl)) fun s9 =>
  (Qq (env':=[.sh (d (Qnv : (List (Tx × Int)))),.sh (d (QmX : Int)),.sh (d (Qnx : Int)),.ow (d (s9 : (List (Tx × Int)))),.no,.sh (d (a3.2 : Int))]) rfl (Qq (env':=[.sh (d (Qnv : (List (Tx × Int)))),.sh (d (QmX : Int)),.sh (d (Qnx : Int)),.ow (d (s9 : (List (Tx × Int)))),.no,.no]) rfl (QB (E:=(fun (q : ((List (Tx × Int)))) => [.sh (d (Qnv : (List (Tx × Int)))),.sh (d (QmX : Int)),.sh (d (Qnx : Int)),.ow (d (q : (List (Tx × Int)))),.no,.no])) (s:=s9) rfl)))))) fun s10 =>
  (Qq (env':=[.sh (d (Qnv : (List (Tx × Int)))),.sh (d (QmX : Int)),.sh (d (Qnx : Int)),.sh (d (s10 : (List (Tx × Int)))),.no,.no]) rfl (QX (cv (Qb 3 rfl))))))
def QbR  (q1 : Unit) (a2 : Int) : M (Ot Unit Int):=
  (M.bind (M.ok a2) fun r3 => M.ok (Ot.rt r3))
def Jh (v_script : Scr) (v_k : Int) : M Int:=
  (M.bind (M.bind (M.ok (cut v_script.ns (some v_k) (some (v_k + (1 : Int))))) fun l5 => Qcf QbR l5 ()) fun y6 => y6.f fun s4 =>
  (M.ok (0 : Int)))
theorem QaG (v_script : Scr) (v_k : Int) : Ref (Jf [d v_script,d v_k]) (Jh v_script v_k):=
  J6
  (Qf5 (E:=(fun (q : Unit) => [.sh (d (v_script : Scr)),.sh (d (v_k : Int)),.no])) (QgV (E:=(fun (q : Unit) => [.sh (d (v_script : Scr)),.sh (d (v_k : Int)),.no])) (E':=(fun (q1 : Unit) (a2 : Int) => [.sh (d (v_script : Scr)),.sh (d (v_k : Int)),.sh (d (a2 : Int))])) () rfl (cv (ZG (Qcq Qf3 (Qb 0 rfl) (Jk (Qb 1 rfl)) (Jk (Ql QT (Qb 1 rfl) (Qu (a:=(1 : Int)) rfl)))))) (fun _ _ => rfl) fun q1 a2 =>
  (QmM (QdS (E:=(fun (q : Unit) => [.sh (d (v_script : Scr)),.sh (d (v_k : Int)),.no])) (QX (cv (Qb 2 rfl)))))) fun s4 =>
  (QX (cv (Qu (a:=(0 : Int)) rfl))))
def Qbf  (q3 : (Int)) (a4 : Int) : M (Int):=
  (M.bind (M.ok (q3 / 1000003)) fun QnJ =>
  (M.ok QnJ))
def Qp (QmY : Int) (Qn0 : Int) (Qnc : Int) : M Int:=
  (M.bind (M.ok (eqT (QmY % 2) (1 : Int))) fun c1 => if c1 then
  (M.bind (M.ok ((Int.natAbs QmY : Int) / 2)) fun QnR =>
  (M.bind (M.bind (rgM Qn0) fun l7 => ZX Qbf l7 QnR) fun s6 =>
  (ZY (s6 % 1000003) Qnc))) else
  (M.bind (M.ok (QmY % 998244353)) fun QnY =>
  (M.bind (M.ok ((QmY / 998244353) % 1000000007)) fun QnZ =>
  (M.bind (M.bind (Zd QnY ((4099 : Int) + (Qn0 * 30))) fun x11 => (M.bind (Zd QnZ (Qn0 + (2 : Int))) fun x12 => M.ok (x11 + x12))) fun Qob =>
  (M.bind (M.bind (M.bind (M.bind (M.bind (Zd Qn0 Qn0) fun x14 => M.ok (x14 * 104729)) fun x15 => M.ok (Qob + x15)) fun x16 => M.ok (x16 + (31 : Int))) fun x17 => M.ok (x17 % 1000000007)) fun QnL =>
  (M.bind (M.bind (Zd QnL QnL) fun x18 => M.ok (x18 % 1000000007)) fun x19 => (ZY x19 Qnc)))))))
theorem Q5 (QmY : Int) (Qn0 : Int) (Qnc : Int) : Ref (Qy [d QmY,d Qn0,d Qnc]) (Qp QmY Qn0 Qnc):=
  J6
  (ZW (cv (Ql Qcd (JF (Qb 0 rfl)) (Qu (a:=(1 : Int)) rfl)))
  (xF (Qm (E:=(fun (QnR : Int) => [.sh (d (QmY : Int)),.sh (d (Qn0 : Int)),.sh (d (Qnc : Int)),.sh (d (QnR : Int)),.no,.no,.no,.no])) (Qt (cv (QdT (Qs Qli (Qb 0 rfl)))) (fun _ => rfl)) fun QnR =>
  (Qm (E:=(fun (q : (Int)) => [.sh (d (QmY : Int)),.sh (d (Qn0 : Int)),.sh (d (Qnc : Int)),.sh (d (q : Int)),.no,.no,.no,.no])) (Qcg (E:=(fun (q : (Int)) => [.sh (d (QmY : Int)),.sh (d (Qn0 : Int)),.sh (d (Qnc : Int)),.sh (d (q : Int)),.no,.no,.no,.no])) (E':=(fun (q3 : (Int)) (a4 : Int) => [.sh (d (QmY : Int)),.sh (d (Qn0 : Int)),.sh (d (Qnc : Int)),.sh (d (q3 : Int)),.sh (d (a4 : Int)),.no,.no,.no])) QnR rfl (cv (JE (Qb 1 rfl))) (fun _ _ => rfl) fun q3 a4 =>
  (Qm (E:=(fun (QnJ : Int) => [.sh (d (QmY : Int)),.sh (d (Qn0 : Int)),.sh (d (Qnc : Int)),.sh (d (QnJ : Int)),.sh (d (a4 : Int)),.no,.no,.no])) (Qt (cv (QdT (Qb 3 rfl))) (fun _ => rfl)) fun QnJ =>
  (Qq (env':=[.sh (d (QmY : Int)),.sh (d (Qn0 : Int)),.sh (d (Qnc : Int)),.sh (d (QnJ : Int)),.no,.no,.no,.no]) rfl (QB (E:=(fun (q : (Int)) => [.sh (d (QmY : Int)),.sh (d (Qn0 : Int)),.sh (d (Qnc : Int)),.sh (d (q : Int)),.no,.no,.no,.no])) (s:=QnJ) rfl)))) fun s6 =>
  (QX (cv (Ql Qiz (JF (Qb 3 rfl)) (Qb 2 rfl)))))))
  (Z5 (Qm (E:=(fun (QnY : Int) => [.sh (d (QmY : Int)),.sh (d (Qn0 : Int)),.sh (d (Qnc : Int)),.no,.no,.sh (d (QnY : Int)),.no,.no])) (Qt (cv (JF (Qb 0 rfl))) (fun _ => rfl)) fun QnY =>
  (Qm (E:=(fun (QnZ : Int) => [.sh (d (QmY : Int)),.sh (d (Qn0 : Int)),.sh (d (Qnc : Int)),.no,.no,.sh (d (QnY : Int)),.sh (d (QnZ : Int)),.no])) (Qt (cv (JF (QdT (Qb 0 rfl)))) (fun _ => rfl)) fun QnZ =>
  (Qm (E:=(fun (Qob : Int) => [.sh (d (QmY : Int)),.sh (d (Qn0 : Int)),.sh (d (Qnc : Int)),.no,.no,.sh (d (QnY : Int)),.sh (d (QnZ : Int)),.sh (d (Qob : Int))])) (Qt (cv (Ql QT (Ql QbK (Qb 5 rfl) (Ql QT (Qu (a:=(4099 : Int)) rfl) (Qf8 (Qb 1 rfl)))) (Ql QbK (Qb 6 rfl) (Ql QT (Qb 1 rfl) (Qu (a:=(2 : Int)) rfl))))) (fun _ => rfl)) fun Qob =>
  (Qm (E:=(fun (QnL : Int) => [.sh (d (QmY : Int)),.sh (d (Qn0 : Int)),.sh (d (Qnc : Int)),.no,.no,.sh (d (QnY : Int)),.sh (d (QnZ : Int)),.sh (d (QnL : Int))])) (Qt (cv (JF (Ql QT (Ql QT (Qb 7 rfl) (Qf8 (Ql QbK (Qb 1 rfl) (Qb 1 rfl)))) (Qu (a:=(31 : Int)) rfl)))) (fun _ => rfl)) fun QnL =>
  (QX (cv (Ql Qiz (JF (Ql QbK (Qb 7 rfl) (Qb 7 rfl))) (Qb 2 rfl))))))))))
def Ji (v_lines : (List (List (Tx × Int)))) (v_weights : (List Int)) (QmX : Int) (QmW : (List Int)) : M (P3 (List (Tx × Int)) (List (Tx × Int)) (List Int)):=
  (M.bind (M.bind (M.bind (M.bind (ixL v_lines QmX) fun x2 => M.ok (List.length x2 : Int)) fun x3 => (rgM x3)) fun x6 => (Q2 (fun (a4 : Int) => (M.ok (inT a4 QmW))) (fun (a4 : Int) => (M.bind (ixL v_lines QmX) fun x5 => (ixL x5 a4))) x6)) fun Qn3 =>
  (M.bind (M.bind (M.bind (M.bind (ixL v_lines QmX) fun x8 => M.ok (List.length x8 : Int)) fun x9 => (rgM x9)) fun x12 => (Q2 (fun (a10 : Int) => (M.ok (!inT a10 QmW))) (fun (a10 : Int) => (M.bind (ixL v_lines QmX) fun x11 => (ixL x11 a10))) x12)) fun Qn1 =>
  (M.bind (Q4 (fun (a14 : (List (Tx × Int))) => (M.bind (Q4 (fun (a15 : (Tx × Int)) => (ixL v_weights a15.2)) a14) fun x16 => M.ok (List.sum x16))) ([Qn3,Qn1] : List (List (Tx × Int)))) fun Qnm =>
  (M.ok (⟨Qn3,Qn1,Qnm⟩ : (P3 (List (Tx × Int)) (List (Tx × Int)) (List Int)))))))
theorem Qbg (v_lines : (List (List (Tx × Int)))) (v_weights : (List Int)) (QmX : Int) (QmW : (List Int)) : Ref (Jg [d v_lines,d v_weights,d QmX,d QmW]) (Ji v_lines v_weights QmX QmW):=
  J6
  (Qm (E:=(fun (Qn3 : (List (Tx × Int))) => [.sh (d (v_lines : (List (List (Tx × Int))))),.sh (d (v_weights : (List Int))),.sh (d (QmX : Int)),.sh (d (QmW : (List Int))),.ow (d (Qn3 : (List (Tx × Int)))),.no,.no,.no,.no,.no,.no])) (ZM (cv (Qbc (E:=(fun (a4 : Int) => [.sh (d (v_lines : (List (List (Tx × Int))))),.sh (d (v_weights : (List Int))),.sh (d (QmX : Int)),.sh (d (QmW : (List Int))),.no,.sh (d (a4 : Int)),.no,.no,.no,.no,.no])) (p:=(fun (a4 : Int) => (M.ok (inT a4 QmW)))) (k:=(fun (a4 : Int) => (M.bind (ixL v_lines QmX) fun x5 => (ixL x5 a4)))) (JE (Qs JV (Ql Z4 (Qb 0 rfl) (Qb 2 rfl)))) rfl (fun _ => rfl) (fun a4 => cv (Ql Qi1 (Qb 5 rfl) (Qb 3 rfl))) (fun a4 => cv (Ql Z4 (Ql Z4 (Qb 0 rfl) (Qb 2 rfl)) (Qb 5 rfl))))) (fun _ => rfl)) fun Qn3 =>
  (Qm (E:=(fun (Qn1 : (List (Tx × Int))) => [.sh (d (v_lines : (List (List (Tx × Int))))),.sh (d (v_weights : (List Int))),.sh (d (QmX : Int)),.sh (d (QmW : (List Int))),.ow (d (Qn3 : (List (Tx × Int)))),.no,.ow (d (Qn1 : (List (Tx × Int)))),.no,.no,.no,.no])) (ZM (cv (Qbc (E:=(fun (a10 : Int) => [.sh (d (v_lines : (List (List (Tx × Int))))),.sh (d (v_weights : (List Int))),.sh (d (QmX : Int)),.sh (d (QmW : (List Int))),.ow (d (Qn3 : (List (Tx × Int)))),.sh (d (a10 : Int)),.no,.no,.no,.no,.no])) (p:=(fun (a10 : Int) => (M.ok (!inT a10 QmW)))) (k:=(fun (a10 : Int) => (M.bind (ixL v_lines QmX) fun x11 => (ixL x11 a10)))) (JE (Qs JV (Ql Z4 (Qb 0 rfl) (Qb 2 rfl)))) rfl (fun _ => rfl) (fun a10 => cv (Ql Qez (Qb 5 rfl) (Qb 3 rfl))) (fun a10 => cv (Ql Z4 (Ql Z4 (Qb 0 rfl) (Qb 2 rfl)) (Qb 5 rfl))))) (fun _ => rfl)) fun Qn1 =>
  (Qq (env':=[.sh (d (v_lines : (List (List (Tx × Int))))),.sh (d (v_weights : (List Int))),.sh (d (QmX : Int)),.sh (d (QmW : (List Int))),.ow (d (Qn3 : (List (Tx × Int)))),.no,.sh (d (Qn1 : (List (Tx × Int)))),.no,.no,.no,.no]) rfl (Qq (env':=[.sh (d (v_lines : (List (List (Tx × Int))))),.sh (d (v_weights : (List Int))),.sh (d (QmX : Int)),.sh (d (QmW : (List Int))),.sh (d (Qn3 : (List (Tx × Int)))),.no,.sh (d (Qn1 : (List (Tx × Int)))),.no,.no,.no,.no]) rfl (Qm (E:=(fun (Qnm : (List Int)) => [.sh (d (v_lines : (List (List (Tx × Int))))),.sh (d (v_weights : (List Int))),.sh (d (QmX : Int)),.sh (d (QmW : (List Int))),.sh (d (Qn3 : (List (Tx × Int)))),.no,.sh (d (Qn1 : (List (Tx × Int)))),.ow (d (Qnm : (List Int))),.no,.no,.no])) (ZM (cv (ZD (E:=(fun (a14 : (List (Tx × Int))) => [.sh (d (v_lines : (List (List (Tx × Int))))),.sh (d (v_weights : (List Int))),.sh (d (QmX : Int)),.sh (d (QmW : (List Int))),.sh (d (Qn3 : (List (Tx × Int)))),.no,.sh (d (Qn1 : (List (Tx × Int)))),.no,.no,.no,.sh (d (a14 : (List (Tx × Int))))])) (k:=(fun (a14 : (List (Tx × Int))) => (M.bind (Q4 (fun (a15 : (Tx × Int)) => (ixL v_weights a15.2)) a14) fun x16 => M.ok (List.sum x16)))) (ZG (Z2 (by decide) (ZV (Qb 4 rfl) (ZV (Qb 6 rfl) (Z1 (α:=(List (Tx × Int)))))))) rfl (fun _ => rfl) (fun a14 => cv (Qs Qi3 (ZD (E:=(fun (a15 : (Tx × Int)) => [.sh (d (v_lines : (List (List (Tx × Int))))),.sh (d (v_weights : (List Int))),.sh (d (QmX : Int)),.sh (d (QmW : (List Int))),.sh (d (Qn3 : (List (Tx × Int)))),.no,.sh (d (Qn1 : (List (Tx × Int)))),.no,.sh (d (a15.1 : Tx)),.sh (d (a15.2 : Int)),.sh (d (a14 : (List (Tx × Int))))])) (k:=(fun (a15 : (Tx × Int)) => (ixL v_weights a15.2))) (ZG (Qb 10 rfl)) rfl (fun _ => rfl) (fun a15 => cv (Ql Z4 (Qb 1 rfl) (Qb 9 rfl)))))))) (fun _ => rfl)) fun Qnm =>
  (Qq (env':=[.sh (d (v_lines : (List (List (Tx × Int))))),.sh (d (v_weights : (List Int))),.sh (d (QmX : Int)),.sh (d (QmW : (List Int))),.sh (d (Qn3 : (List (Tx × Int)))),.no,.sh (d (Qn1 : (List (Tx × Int)))),.sh (d (Qnm : (List Int))),.no,.no,.no]) rfl (QX (cv (QbJ (Qb 4 rfl) (Qb 6 rfl) (Qb 7 rfl))))))))))
def Za (v_found : TSheet) (Qoj : (P3 (List Tx) (List Int) (List (List (Tx × Int))))) : M Bool:=
  (M.bind (M.ok ((!true) || ((!true) || (!true)))) fun c1 => if c1 then
  (M.ok false) else
  (M.bind (M.bind (M.ok (!true)) fun x5 => if x5 then M.ok true else (M.bind (M.bind (Q4 (fun (a2 : (List (Tx × Int))) => (M.ok true)) v_found.lines) fun x3 => M.ok (List.all x3 id)) fun x4 => M.ok (!x4))) fun c6 => if c6 then
  (M.ok false) else
  (M.bind (M.bind (M.bind (Q4 (fun (a7 : Int) => (M.ok (true && (!false)))) v_found.weights) fun x8 => M.ok (List.all x8 id)) fun x9 => M.ok (!x9)) fun c10 => if c10 then
  (M.ok false) else
  (M.ok (eqT (⟨v_found.homes,v_found.weights,v_found.lines⟩ : (P3 (List Tx) (List Int) (List (List (Tx × Int))))) Qoj)))))
theorem ZL (v_found : TSheet) (Qoj : (P3 (List Tx) (List Int) (List (List (Tx × Int))))) : Ref (QZ [d v_found,d Qoj]) (Za v_found Qoj):=
  J6
  (ZW (cv (Qbe (ZU (Qb7 (α:=TSheet) (fun _ => Qgc) (QN 0 rfl))) (Qbe (ZU (Qb7 (α:=(List Tx)) (fun _ => Jq) (Zw Zn (QN 0 rfl)))) (ZU (Qb7 (α:=(List Int)) (fun _ => Jq) (Zw QQ (QN 0 rfl)))))))
  (xF (QX (cv (Qu (a:=false) rfl))))
  (Z5 (ZW (cv (Qby (ZU (Qb7 (α:=(List (List (Tx × Int)))) (fun _ => Jq) (Zw Zo (QN 0 rfl)))) (ZU (Qs Qi4 (ZD (E:=(fun (a2 : (List (Tx × Int))) => [.bo (d (v_found : TSheet)),.sh (d (Qoj : (P3 (List Tx) (List Int) (List (List (Tx × Int)))))),.sh (d (a2 : (List (Tx × Int)))),.no])) (k:=(fun (a2 : (List (Tx × Int))) => (M.ok true))) (ZG (Zw Zo (QN 0 rfl))) rfl (fun _ => rfl) (fun a2 => cv (Qb7 (α:=(List (Tx × Int))) (fun _ => Jq) (Qb 2 rfl))))))))
  (xF (QX (cv (Qu (a:=false) rfl))))
  (Z5 (ZW (cv (ZU (Qs Qi4 (ZD (E:=(fun (a7 : Int) => [.bo (d (v_found : TSheet)),.sh (d (Qoj : (P3 (List Tx) (List Int) (List (List (Tx × Int)))))),.no,.sh (d (a7 : Int))])) (k:=(fun (a7 : Int) => (M.ok (true && (!false))))) (ZG (Zw QQ (QN 0 rfl))) rfl (fun _ => rfl) (fun a7 => cv (Qc8 (Qb7 (α:=Int) (fun _ => Qe4) (Qb 3 rfl)) (ZU (Qb7 (α:=Int) (fun _ => QdY) (Qb 3 rfl)))))))))
  (xF (QX (cv (Qu (a:=false) rfl))))
  (Z5 (QX (cv (Ql Qcd (QbJ (Zw Zn (QN 0 rfl)) (Zw QQ (QN 0 rfl)) (Zw Zo (QN 0 rfl))) (Qb 1 rfl))))))))))
def Jc (Qnj : Int) (Qnf : Int) (a11 : Int) (q24 : ((List (Tx × Int)))) (a25 : Int) : M ((List (Tx × Int))):=
  (M.bind (Qp Qnj (((10 : Int) + (9 * a11)) + a25) (8 : Int)) fun Qn2 =>
  (M.bind (M.bind (Q4 (fun (a28 : Int) => (M.bind (M.bind (ZA Qn2 a28) fun x29 => M.ok (x29 % 2)) fun x30 => (ixS ("ab".toList : Tx) x30))) ([(1 : Int),(2 : Int),(4 : Int)] : List Int)) fun x31 => (Zh ("".toList : Tx) x31)) fun QnH =>
  (M.bind (M.bind (M.bind (Qp Qnj (((70 : Int) + (9 * a11)) + a25) Qnf) fun x33 => M.ok (QnH,x33)) fun x34 => Z6 q24 x34) fun QnA =>
  (M.ok QnA))))
def JY (QmY : Int) (Qnj : Int) (Qnf : Int) (q10 : ((List Int) × (List (List (Tx × Int))))) (a11 : Int) : M ((List Int) × (List (List (Tx × Int)))):=
  (M.bind (M.bind (Qp QmY ((10 : Int) + a11) (9 : Int)) fun x13 => M.ok ((1 : Int) + x13)) fun QnE =>
  (M.bind (M.bind (M.bind (Qp QmY (9 : Int) (4 : Int)) fun x14 => M.ok (eqT x14 (1 : Int))) fun c15 => if c15 then
  (M.bind (M.bind (Zd QnE (10 ^ 20 : Int)) fun x17 => (M.bind (Qp QmY ((20 : Int) + a11) (10 ^ 9 : Int)) fun x18 => M.ok (x17 + x18))) fun Qn8 =>
  (M.ok Qn8)) else
  (M.ok QnE)) fun s19 =>
  (M.bind (M.bind (M.ok s19) fun x21 => Z6 q10.1 x21) fun Qnk =>
  (M.bind (M.ok ([] : List (Tx × Int))) fun Qoe =>
  (M.bind (M.bind (M.bind (Qp Qnj ((1 : Int) + a11) (9 : Int)) fun x23 => (rgM x23)) fun l36 => ZX (Jc Qnj Qnf a11) l36 Qoe) fun s35 =>
  (M.bind (M.bind (M.ok s35) fun x38 => Z6 q10.2 x38) fun Qn7 =>
  (M.ok (Qnk,Qn7))))))))
def J2 (QmY : Int) (Qnj : Int) : M (P3 (List Tx) (List Int) (List (List (Tx × Int)))):=
  (M.bind (M.bind (Qp QmY (1 : Int) (6 : Int)) fun x2 => M.ok ((1 : Int) + x2)) fun Qnf =>
  (M.bind (M.bind (rgM Qnf) fun x7 => (Q4 (fun (a4 : Int) => (M.bind (M.bind (Qp QmY ((2 : Int) + a4) (2 : Int)) fun x5 => (ixS ("ab".toList : Tx) x5)) fun x6 => (QeW x6 (a4 % 3)))) x7)) fun Qng =>
  (M.bind (M.ok ([] : List Int)) fun QnF =>
  (M.bind (M.ok ([] : List (List (Tx × Int)))) fun Qof =>
  (M.bind (M.bind (rgM Qnf) fun l40 => ZX (JY QmY Qnj Qnf) l40 (QnF,Qof)) fun s39 =>
  (M.ok (⟨Qng,s39.1,s39.2⟩ : (P3 (List Tx) (List Int) (List (List (Tx × Int)))))))))))
theorem QdZ (QmY : Int) (Qnj : Int) : Ref (Qak [d QmY,d Qnj]) (J2 QmY Qnj):=
  J6
  (Qm (E:=(fun (Qnf : Int) => [.sh (d (QmY : Int)),.sh (d (Qnj : Int)),.sh (d (Qnf : Int)),.no,.no,.no,.no,.no,.no,.no,.no,.no,.no])) (Qt (cv (Ql QT (Qu (a:=(1 : Int)) rfl) (ZT (Qb 0 rfl) (Qu (a:=(1 : Int)) rfl) (Qu (a:=(6 : Int)) rfl) Q5))) (fun _ => rfl)) fun Qnf =>
  (Qm (E:=(fun (Qng : (List Tx)) => [.sh (d (QmY : Int)),.sh (d (Qnj : Int)),.sh (d (Qnf : Int)),.ow (d (Qng : (List Tx))),.no,.no,.no,.no,.no,.no,.no,.no,.no])) (ZM (cv (ZD (E:=(fun (a4 : Int) => [.sh (d (QmY : Int)),.sh (d (Qnj : Int)),.sh (d (Qnf : Int)),.no,.sh (d (a4 : Int)),.no,.no,.no,.no,.no,.no,.no,.no])) (k:=(fun (a4 : Int) => (M.bind (M.bind (Qp QmY ((2 : Int) + a4) (2 : Int)) fun x5 => (ixS ("ab".toList : Tx) x5)) fun x6 => (QeW x6 (a4 % 3))))) (JE (Qb 2 rfl)) rfl (fun _ => rfl) (fun a4 => cv (Ql Qjm (Ql Qi2 (QdQ (x:="ab".toList) (QdN _)) (ZT (Qb 0 rfl) (Ql QT (Qu (a:=(2 : Int)) rfl) (Qb 4 rfl)) (Qu (a:=(2 : Int)) rfl) Q5)) (JF (Qb 4 rfl)))))) (fun _ => rfl)) fun Qng =>
  (Qm (E:=(fun (QnF : (List Int)) => [.sh (d (QmY : Int)),.sh (d (Qnj : Int)),.sh (d (Qnf : Int)),.ow (d (Qng : (List Tx))),.no,.ow (d (QnF : (List Int))),.no,.no,.no,.no,.no,.no,.no])) (ZM (cv (Z2 (by decide) (Z1 (α:=Int)))) (fun _ => rfl)) fun QnF =>
  (Qm (E:=(fun (Qof : (List (List (Tx × Int)))) => [.sh (d (QmY : Int)),.sh (d (Qnj : Int)),.sh (d (Qnf : Int)),.ow (d (Qng : (List Tx))),.no,.ow (d (QnF : (List Int))),.ow (d (Qof : (List (List (Tx × Int))))),.no,.no,.no,.no,.no,.no])) (ZM (cv (Z2 (by decide) (Z1 (α:=(List (Tx × Int)))))) (fun _ => rfl)) fun Qof =>
  (Qm (E:=(fun (q : ((List Int) × (List (List (Tx × Int))))) => [.sh (d (QmY : Int)),.sh (d (Qnj : Int)),.sh (d (Qnf : Int)),.ow (d (Qng : (List Tx))),.no,.ow (d (q.1 : (List Int))),.ow (d (q.2 : (List (List (Tx × Int))))),.no,.no,.no,.no,.no,.no])) (Qcg (E:=(fun (q : ((List Int) × (List (List (Tx × Int))))) => [.sh (d (QmY : Int)),.sh (d (Qnj : Int)),.sh (d (Qnf : Int)),.ow (d (Qng : (List Tx))),.no,.ow (d (q.1 : (List Int))),.ow (d (q.2 : (List (List (Tx × Int))))),.no,.no,.no,.no,.no,.no])) (E':=(fun (q10 : ((List Int) × (List (List (Tx × Int))))) (a11 : Int) => [.sh (d (QmY : Int)),.sh (d (Qnj : Int)),.sh (d (Qnf : Int)),.ow (d (Qng : (List Tx))),.sh (d (a11 : Int)),.ow (d (q10.1 : (List Int))),.ow (d (q10.2 : (List (List (Tx × Int))))),.no,.no,.no,.no,.no,.no])) (QnF,Qof) rfl (cv (JE (Qb 2 rfl))) (fun _ _ => rfl) fun q10 a11 =>
  (Qm (E:=(fun (QnE : Int) => [.sh (d (QmY : Int)),.sh (d (Qnj : Int)),.sh (d (Qnf : Int)),.ow (d (Qng : (List Tx))),.sh (d (a11 : Int)),.ow (d (q10.1 : (List Int))),.ow (d (q10.2 : (List (List (Tx × Int))))),.sh (d (QnE : Int)),.no,.no,.no,.no,.no])) (Qt (cv (Ql QT (Qu (a:=(1 : Int)) rfl) (ZT (Qb 0 rfl) (Ql QT (Qu (a:=(10 : Int)) rfl) (Qb 4 rfl)) (Qu (a:=(9 : Int)) rfl) Q5))) (fun _ => rfl)) fun QnE =>
  (Qm (E:=(fun (q : (Int)) => [.sh (d (QmY : Int)),.sh (d (Qnj : Int)),.sh (d (Qnf : Int)),.ow (d (Qng : (List Tx))),.sh (d (a11 : Int)),.ow (d (q10.1 : (List Int))),.ow (d (q10.2 : (List (List (Tx × Int))))),.sh (d (q : Int)),.no,.no,.no,.no,.no])) (QbM (cv (Ql Qcd (ZT (Qb 0 rfl) (Qu (a:=(9 : Int)) rfl) (Qu (a:=(4 : Int)) rfl) Q5) (Qu (a:=(1 : Int)) rfl)))
  (Qm (E:=(fun (Qn8 : Int) => [.sh (d (QmY : Int)),.sh (d (Qnj : Int)),.sh (d (Qnf : Int)),.ow (d (Qng : (List Tx))),.sh (d (a11 : Int)),.ow (d (q10.1 : (List Int))),.ow (d (q10.2 : (List (List (Tx × Int))))),.sh (d (Qn8 : Int)),.no,.no,.no,.no,.no])) (Qt (cv (Ql QT (Ql QbK (Qb 7 rfl) (QfA (k:=10) (n:=20))) (ZT (Qb 0 rfl) (Ql QT (Qu (a:=(20 : Int)) rfl) (Qb 4 rfl)) (QfA (k:=10) (n:=9)) Q5))) (fun _ => rfl)) fun Qn8 =>
  (QB (E:=(fun (q : (Int)) => [.sh (d (QmY : Int)),.sh (d (Qnj : Int)),.sh (d (Qnf : Int)),.ow (d (Qng : (List Tx))),.sh (d (a11 : Int)),.ow (d (q10.1 : (List Int))),.ow (d (q10.2 : (List (List (Tx × Int))))),.sh (d (q : Int)),.no,.no,.no,.no,.no])) (s:=Qn8) rfl))
  (QB (E:=(fun (q : (Int)) => [.sh (d (QmY : Int)),.sh (d (Qnj : Int)),.sh (d (Qnf : Int)),.ow (d (Qng : (List Tx))),.sh (d (a11 : Int)),.ow (d (q10.1 : (List Int))),.ow (d (q10.2 : (List (List (Tx × Int))))),.sh (d (q : Int)),.no,.no,.no,.no,.no])) (s:=QnE) rfl)) fun s19 =>
  (Qm (E:=(fun (Qnk : (List Int)) => [.sh (d (QmY : Int)),.sh (d (Qnj : Int)),.sh (d (Qnf : Int)),.ow (d (Qng : (List Tx))),.sh (d (a11 : Int)),.ow (d (Qnk : (List Int))),.ow (d (q10.2 : (List (List (Tx × Int))))),.sh (d (s19 : Int)),.no,.no,.no,.no,.no])) (Qa9 rfl (cv (Qb 7 rfl)) (fun _ => rfl)) fun Qnk =>
  (Qm (E:=(fun (Qoe : (List (Tx × Int))) => [.sh (d (QmY : Int)),.sh (d (Qnj : Int)),.sh (d (Qnf : Int)),.ow (d (Qng : (List Tx))),.sh (d (a11 : Int)),.ow (d (Qnk : (List Int))),.ow (d (q10.2 : (List (List (Tx × Int))))),.sh (d (s19 : Int)),.ow (d (Qoe : (List (Tx × Int)))),.no,.no,.no,.no])) (ZM (cv (Z2 (by decide) (Z1 (α:=(Tx × Int))))) (fun _ => rfl)) fun Qoe =>
  (Qm (E:=(fun (q : ((List (Tx × Int)))) => [.sh (d (QmY : Int)),.sh (d (Qnj : Int)),.sh (d (Qnf : Int)),.ow (d (Qng : (List Tx))),.sh (d (a11 : Int)),.ow (d (Qnk : (List Int))),.ow (d (q10.2 : (List (List (Tx × Int))))),.sh (d (s19 : Int)),.ow (d (q : (List (Tx × Int)))),.no,.no,.no,.no])) (Qcg (E:=(fun (q : ((List (Tx × Int)))) => [.sh (d (QmY : Int)),.sh (d (Qnj : Int)),.sh (d (Qnf : Int)),.ow (d (Qng : (List Tx))),.sh (d (a11 : Int)),.ow (d (Qnk : (List Int))),.ow (d (q10.2 : (List (List (Tx × Int))))),.sh (d (s19 : Int)),.ow (d (q : (List (Tx × Int)))),.no,.no,.no,.no])) (E':=(fun (q24 : ((List (Tx × Int)))) (a25 : Int) => [.sh (d (QmY : Int)),.sh (d (Qnj : Int)),.sh (d (Qnf : Int)),.ow (d (Qng : (List Tx))),.sh (d (a11 : Int)),.ow (d (Qnk : (List Int))),.ow (d (q10.2 : (List (List (Tx × Int))))),.sh (d (s19 : Int)),.ow (d (q24 : (List (Tx × Int)))),.sh (d (a25 : Int)),.no,.no,.no])) Qoe rfl (cv (JE (ZT (Qb 1 rfl) (Ql QT (Qu (a:=(1 : Int)) rfl) (Qb 4 rfl)) (Qu (a:=(9 : Int)) rfl) Q5))) (fun _ _ => rfl) fun q24 a25 =>
  (Qm (E:=(fun (Qn2 : Int) => [.sh (d (QmY : Int)),.sh (d (Qnj : Int)),.sh (d (Qnf : Int)),.ow (d (Qng : (List Tx))),.sh (d (a11 : Int)),.ow (d (Qnk : (List Int))),.ow (d (q10.2 : (List (List (Tx × Int))))),.sh (d (s19 : Int)),.ow (d (q24 : (List (Tx × Int)))),.sh (d (a25 : Int)),.sh (d (Qn2 : Int)),.no,.no])) (Qt (cv (ZT (Qb 1 rfl) (Ql QT (Ql QT (Qu (a:=(10 : Int)) rfl) (Qf9 (Qb 4 rfl))) (Qb 9 rfl)) (Qu (a:=(8 : Int)) rfl) Q5)) (fun _ => rfl)) fun Qn2 =>
  (Qm (E:=(fun (QnH : Tx) => [.sh (d (QmY : Int)),.sh (d (Qnj : Int)),.sh (d (Qnf : Int)),.ow (d (Qng : (List Tx))),.sh (d (a11 : Int)),.ow (d (Qnk : (List Int))),.ow (d (q10.2 : (List (List (Tx × Int))))),.sh (d (s19 : Int)),.ow (d (q24 : (List (Tx × Int)))),.sh (d (a25 : Int)),.sh (d (Qn2 : Int)),.sh (d (QnH : Tx)),.no])) (Qt (cv (Qle Qjn (QdQ (x:="".toList) (QdN _)) (ZD (E:=(fun (a28 : Int) => [.sh (d (QmY : Int)),.sh (d (Qnj : Int)),.sh (d (Qnf : Int)),.ow (d (Qng : (List Tx))),.sh (d (a11 : Int)),.ow (d (Qnk : (List Int))),.ow (d (q10.2 : (List (List (Tx × Int))))),.sh (d (s19 : Int)),.ow (d (q24 : (List (Tx × Int)))),.sh (d (a25 : Int)),.sh (d (Qn2 : Int)),.no,.sh (d (a28 : Int))])) (k:=(fun (a28 : Int) => (M.bind (M.bind (ZA Qn2 a28) fun x29 => M.ok (x29 % 2)) fun x30 => (ixS ("ab".toList : Tx) x30)))) (ZG (Z2 (by decide) (ZV (Qu (a:=(1 : Int)) rfl) (ZV (Qu (a:=(2 : Int)) rfl) (ZV (Qu (a:=(4 : Int)) rfl) (Z1 (α:=Int))))))) rfl (fun _ => rfl) (fun a28 => cv (Ql Qi2 (QdQ (x:="ab".toList) (QdN _)) (JF (Ql QdR (Qb 10 rfl) (Qb 12 rfl)))))))) (fun _ => rfl)) fun QnH =>
  (Qm (E:=(fun (QnA : (List (Tx × Int))) => [.sh (d (QmY : Int)),.sh (d (Qnj : Int)),.sh (d (Qnf : Int)),.ow (d (Qng : (List Tx))),.sh (d (a11 : Int)),.ow (d (Qnk : (List Int))),.ow (d (q10.2 : (List (List (Tx × Int))))),.sh (d (s19 : Int)),.ow (d (QnA : (List (Tx × Int)))),.sh (d (a25 : Int)),.sh (d (Qn2 : Int)),.sh (d (QnH : Tx)),.no])) (Qa9 rfl (cv (Jl (Qb 11 rfl) (ZT (Qb 1 rfl) (Ql QT (Ql QT (Qu (a:=(70 : Int)) rfl) (Qf9 (Qb 4 rfl))) (Qb 9 rfl)) (Qb 2 rfl) Q5))) (fun _ => rfl)) fun QnA =>
  (Qq (env':=[.sh (d (QmY : Int)),.sh (d (Qnj : Int)),.sh (d (Qnf : Int)),.ow (d (Qng : (List Tx))),.sh (d (a11 : Int)),.ow (d (Qnk : (List Int))),.ow (d (q10.2 : (List (List (Tx × Int))))),.sh (d (s19 : Int)),.ow (d (QnA : (List (Tx × Int)))),.no,.sh (d (Qn2 : Int)),.sh (d (QnH : Tx)),.no]) rfl (Qq (env':=[.sh (d (QmY : Int)),.sh (d (Qnj : Int)),.sh (d (Qnf : Int)),.ow (d (Qng : (List Tx))),.sh (d (a11 : Int)),.ow (d (Qnk : (List Int))),.ow (d (q10.2 : (List (List (Tx × Int))))),.sh (d (s19 : Int)),.ow (d (QnA : (List (Tx × Int)))),.no,.no,.sh (d (QnH : Tx)),.no]) rfl (Qq (env':=[.sh (d (QmY : Int)),.sh (d (Qnj : Int)),.sh (d (Qnf : Int)),.ow (d (Qng : (List Tx))),.sh (d (a11 : Int)),.ow (d (Qnk : (List Int))),.ow (d (q10.2 : (List (List (Tx × Int))))),.sh (d (s19 : Int)),.ow (d (QnA : (List (Tx × Int)))),.no,.no,.no,.no]) rfl (QB (E:=(fun (q : ((List (Tx × Int)))) => [.sh (d (QmY : Int)),.sh (d (Qnj : Int)),.sh (d (Qnf : Int)),.ow (d (Qng : (List Tx))),.sh (d (a11 : Int)),.ow (d (Qnk : (List Int))),.ow (d (q10.2 : (List (List (Tx × Int))))),.sh (d (s19 : Int)),.ow (d (q : (List (Tx × Int)))),.no,.no,.no,.no])) (s:=QnA) rfl)))))))) fun s35 =>
  (Qq (env':=[.sh (d (QmY : Int)),.sh (d (Qnj : Int)),.sh (d (Qnf : Int)),.ow (d (Qng : (List Tx))),.sh (d (a11 : Int)),.ow (d (Qnk : (List Int))),.ow (d (q10.2 : (List (List (Tx × Int))))),.sh (d (s19 : Int)),.sh (d (s35 : (List (Tx × Int)))),.no,.no,.no,.no]) rfl (Qm (E:=(fun (Qn7 : (List (List (Tx × Int)))) => [.sh (d (QmY : Int)),.sh (d (Qnj : Int)),.sh (d (Qnf : Int)),.ow (d (Qng : (List Tx))),.sh (d (a11 : Int)),.ow (d (Qnk : (List Int))),.ow (d (Qn7 : (List (List (Tx × Int))))),.sh (d (s19 : Int)),.sh (d (s35 : (List (Tx × Int)))),.no,.no,.no,.no])) (Qa9 rfl (cv (Qb 8 rfl)) (fun _ => rfl)) fun Qn7 =>
  (Qq (env':=[.sh (d (QmY : Int)),.sh (d (Qnj : Int)),.sh (d (Qnf : Int)),.ow (d (Qng : (List Tx))),.no,.ow (d (Qnk : (List Int))),.ow (d (Qn7 : (List (List (Tx × Int))))),.sh (d (s19 : Int)),.sh (d (s35 : (List (Tx × Int)))),.no,.no,.no,.no]) rfl (Qq (env':=[.sh (d (QmY : Int)),.sh (d (Qnj : Int)),.sh (d (Qnf : Int)),.ow (d (Qng : (List Tx))),.no,.ow (d (Qnk : (List Int))),.ow (d (Qn7 : (List (List (Tx × Int))))),.no,.sh (d (s35 : (List (Tx × Int)))),.no,.no,.no,.no]) rfl (Qq (env':=[.sh (d (QmY : Int)),.sh (d (Qnj : Int)),.sh (d (Qnf : Int)),.ow (d (Qng : (List Tx))),.no,.ow (d (Qnk : (List Int))),.ow (d (Qn7 : (List (List (Tx × Int))))),.no,.no,.no,.no,.no,.no]) rfl (QB (E:=(fun (q : ((List Int) × (List (List (Tx × Int))))) => [.sh (d (QmY : Int)),.sh (d (Qnj : Int)),.sh (d (Qnf : Int)),.ow (d (Qng : (List Tx))),.no,.ow (d (q.1 : (List Int))),.ow (d (q.2 : (List (List (Tx × Int))))),.no,.no,.no,.no,.no,.no])) (s:=(Qnk,Qn7)) rfl)))))))))))) fun s39 =>
  (Qq (env':=[.sh (d (QmY : Int)),.sh (d (Qnj : Int)),.sh (d (Qnf : Int)),.sh (d (Qng : (List Tx))),.no,.ow (d (s39.1 : (List Int))),.ow (d (s39.2 : (List (List (Tx × Int))))),.no,.no,.no,.no,.no,.no]) rfl (Qq (env':=[.sh (d (QmY : Int)),.sh (d (Qnj : Int)),.sh (d (Qnf : Int)),.sh (d (Qng : (List Tx))),.no,.ow (d (s39.1 : (List Int))),.sh (d (s39.2 : (List (List (Tx × Int))))),.no,.no,.no,.no,.no,.no]) rfl (Qq (env':=[.sh (d (QmY : Int)),.sh (d (Qnj : Int)),.sh (d (Qnf : Int)),.sh (d (Qng : (List Tx))),.no,.sh (d (s39.1 : (List Int))),.sh (d (s39.2 : (List (List (Tx × Int))))),.no,.no,.no,.no,.no,.no]) rfl (QX (cv (QbJ (Qb 3 rfl) (Qb 5 rfl) (Qb 6 rfl))))))))))))
def Qay (v_lines : (List (List (Tx × Int)))) (QmX : Int) (q13 : ((List (Tx × Int)))) (a14 : (Tx × Int)) : M ((List (Tx × Int))):=
  (M.bind (M.bind (M.ok (a14.1,a14.2)) fun x16 => Z6 q13 x16) fun QnK =>
  (M.bind (M.bind (M.ok (eqT a14.2 QmX)) fun c17 => if c17 then
  (M.bind (M.bind (M.ok (a14.1,(List.length v_lines : Int))) fun x19 => Z6 QnK x19) fun QnS =>
  (M.ok QnS)) else
  (M.ok QnK)) fun s20 =>
  (M.ok s20)))
def Jj (v_lines : (List (List (Tx × Int)))) (QmX : Int) (q10 : ((List (List (Tx × Int))))) (a11 : (List (Tx × Int))) : M ((List (List (Tx × Int)))):=
  (M.bind (M.ok ([] : List (Tx × Int))) fun QnT =>
  (M.bind (M.bind (M.ok a11) fun l22 => ZX (Qay v_lines QmX) l22 QnT) fun s21 =>
  (M.bind (M.bind (M.ok s21) fun x24 => Z6 q10 x24) fun QnC =>
  (M.ok QnC))))
def Jr (v_homes : (List Tx)) (v_weights : (List Int)) (v_lines : (List (List (Tx × Int)))) (QmX : Int) (QmW : (List Int)) (QmZ : Int) : M (P3 (List Tx) (List Int) (List (List (Tx × Int)))):=
  (M.bind (Ji v_lines v_weights QmX QmW) fun p1 =>
  (M.bind (Q4 (fun (a3 : (List (Tx × Int))) => (M.ok a3)) v_lines) fun Qoh =>
  (M.bind (M.bind (M.ok p1.a) fun x5 => M.bind (M.ok QmX) fun x6 => ZZ Qoh x6 x5) fun Qoi =>
  (M.bind (M.bind (M.ok p1.b) fun x8 => Z6 Qoi x8) fun Qnn =>
  (M.bind (M.ok ([] : List (List (Tx × Int)))) fun QnP =>
  (M.bind (M.bind (M.ok Qnn) fun l26 => ZX (Jj v_lines QmX) l26 QnP) fun s25 =>
  (M.bind (M.bind (ixL v_weights QmX) fun x28 => M.ok (x28 - QmZ)) fun QnQ =>
  (M.bind (M.bind (Zq (cut v_weights (none : Option Int) (some QmX)) ([QmZ] : List Int)) fun x30 => (Zq x30 (cut v_weights (some (QmX + (1 : Int))) (none : Option Int)))) fun QnU =>
  (M.bind (M.bind (M.bind (ixL v_homes QmX) fun x31 => M.ok ([x31] : List Tx)) fun x32 => (Zq v_homes x32)) fun x33 => (M.bind (Zq QnU ([QnQ] : List Int)) fun x34 => M.ok (⟨x33,x34,s25⟩ : (P3 (List Tx) (List Int) (List (List (Tx × Int)))))))))))))))
theorem Qdh (v_homes : (List Tx)) (v_weights : (List Int)) (v_lines : (List (List (Tx × Int)))) (QmX : Int) (QmW : (List Int)) (QmZ : Int) : Ref (Jp [d v_homes,d v_weights,d v_lines,d QmX,d QmW,d QmZ]) (Jr v_homes v_weights v_lines QmX QmW QmZ):=
  J6
  (Qm (E:=(fun (p1 : (P3 (List (Tx × Int)) (List (Tx × Int)) (List Int))) => [.sh (d (v_homes : (List Tx))),.sh (d (v_weights : (List Int))),.sh (d (v_lines : (List (List (Tx × Int))))),.sh (d (QmX : Int)),.sh (d (QmW : (List Int))),.sh (d (QmZ : Int)),.sh (d (p1.a : (List (Tx × Int)))),.sh (d (p1.b : (List (Tx × Int)))),.sh (d (p1.c : (List Int))),.no,.no,.no,.no,.no,.no,.no,.no])) (Qt (cv (QdO (Qb 2 rfl) (Qb 1 rfl) (Qb 3 rfl) (Qb 4 rfl) Qbg)) (fun _ => rfl)) fun p1 =>
  (Qm (E:=(fun (Qoh : (List (List (Tx × Int)))) => [.sh (d (v_homes : (List Tx))),.sh (d (v_weights : (List Int))),.sh (d (v_lines : (List (List (Tx × Int))))),.sh (d (QmX : Int)),.sh (d (QmW : (List Int))),.sh (d (QmZ : Int)),.sh (d (p1.a : (List (Tx × Int)))),.sh (d (p1.b : (List (Tx × Int)))),.sh (d (p1.c : (List Int))),.ow (d (Qoh : (List (List (Tx × Int))))),.no,.no,.no,.no,.no,.no,.no])) (ZM (cv (ZD (E:=(fun (a3 : (List (Tx × Int))) => [.sh (d (v_homes : (List Tx))),.sh (d (v_weights : (List Int))),.sh (d (v_lines : (List (List (Tx × Int))))),.sh (d (QmX : Int)),.sh (d (QmW : (List Int))),.sh (d (QmZ : Int)),.sh (d (p1.a : (List (Tx × Int)))),.sh (d (p1.b : (List (Tx × Int)))),.sh (d (p1.c : (List Int))),.no,.sh (d (a3 : (List (Tx × Int)))),.no,.no,.no,.no,.no,.no])) (k:=(fun (a3 : (List (Tx × Int))) => (M.ok a3))) (ZG (Qb 2 rfl)) rfl (fun _ => rfl) (fun a3 => cv (Qs Qbd (Qb 10 rfl))))) (fun _ => rfl)) fun Qoh =>
  (Qm (E:=(fun (Qoi : (List (List (Tx × Int)))) => [.sh (d (v_homes : (List Tx))),.sh (d (v_weights : (List Int))),.sh (d (v_lines : (List (List (Tx × Int))))),.sh (d (QmX : Int)),.sh (d (QmW : (List Int))),.sh (d (QmZ : Int)),.sh (d (p1.a : (List (Tx × Int)))),.sh (d (p1.b : (List (Tx × Int)))),.sh (d (p1.c : (List Int))),.ow (d (Qoi : (List (List (Tx × Int))))),.no,.no,.no,.no,.no,.no,.no])) (QhN rfl (cv (Qb 6 rfl)) (cv (Qb 3 rfl)) (fun _ => rfl)) fun Qoi =>
  (Qm (E:=(fun (Qnn : (List (List (Tx × Int)))) => [.sh (d (v_homes : (List Tx))),.sh (d (v_weights : (List Int))),.sh (d (v_lines : (List (List (Tx × Int))))),.sh (d (QmX : Int)),.sh (d (QmW : (List Int))),.sh (d (QmZ : Int)),.sh (d (p1.a : (List (Tx × Int)))),.sh (d (p1.b : (List (Tx × Int)))),.sh (d (p1.c : (List Int))),.ow (d (Qnn : (List (List (Tx × Int))))),.no,.no,.no,.no,.no,.no,.no])) (Qa9 rfl (cv (Qb 7 rfl)) (fun _ => rfl)) fun Qnn =>
  (Qm (E:=(fun (QnP : (List (List (Tx × Int)))) => [.sh (d (v_homes : (List Tx))),.sh (d (v_weights : (List Int))),.sh (d (v_lines : (List (List (Tx × Int))))),.sh (d (QmX : Int)),.sh (d (QmW : (List Int))),.sh (d (QmZ : Int)),.sh (d (p1.a : (List (Tx × Int)))),.sh (d (p1.b : (List (Tx × Int)))),.sh (d (p1.c : (List Int))),.ow (d (Qnn : (List (List (Tx × Int))))),.no,.ow (d (QnP : (List (List (Tx × Int))))),.no,.no,.no,.no,.no])) (ZM (cv (Z2 (by decide) (Z1 (α:=(List (Tx × Int)))))) (fun _ => rfl)) fun QnP =>
  (Qq (env':=[.sh (d (v_homes : (List Tx))),.sh (d (v_weights : (List Int))),.sh (d (v_lines : (List (List (Tx × Int))))),.sh (d (QmX : Int)),.sh (d (QmW : (List Int))),.sh (d (QmZ : Int)),.sh (d (p1.a : (List (Tx × Int)))),.sh (d (p1.b : (List (Tx × Int)))),.sh (d (p1.c : (List Int))),.sh (d (Qnn : (List (List (Tx × Int))))),.no,.ow (d (QnP : (List (List (Tx × Int))))),.no,.no,.no,.no,.no]) rfl (Qm (E:=(fun (q : ((List (List (Tx × Int))))) => [.sh (d (v_homes : (List Tx))),.sh (d (v_weights : (List Int))),.sh (d (v_lines : (List (List (Tx × Int))))),.sh (d (QmX : Int)),.sh (d (QmW : (List Int))),.sh (d (QmZ : Int)),.sh (d (p1.a : (List (Tx × Int)))),.sh (d (p1.b : (List (Tx × Int)))),.sh (d (p1.c : (List Int))),.sh (d (Qnn : (List (List (Tx × Int))))),.no,.ow (d (q : (List (List (Tx × Int))))),.no,.no,.no,.no,.no])) (Qcg (E:=(fun (q : ((List (List (Tx × Int))))) => [.sh (d (v_homes : (List Tx))),.sh (d (v_weights : (List Int))),.sh (d (v_lines : (List (List (Tx × Int))))),.sh (d (QmX : Int)),.sh (d (QmW : (List Int))),.sh (d (QmZ : Int)),.sh (d (p1.a : (List (Tx × Int)))),.sh (d (p1.b : (List (Tx × Int)))),.sh (d (p1.c : (List Int))),.sh (d (Qnn : (List (List (Tx × Int))))),.no,.ow (d (q : (List (List (Tx × Int))))),.no,.no,.no,.no,.no])) (E':=(fun (q10 : ((List (List (Tx × Int))))) (a11 : (List (Tx × Int))) => [.sh (d (v_homes : (List Tx))),.sh (d (v_weights : (List Int))),.sh (d (v_lines : (List (List (Tx × Int))))),.sh (d (QmX : Int)),.sh (d (QmW : (List Int))),.sh (d (QmZ : Int)),.sh (d (p1.a : (List (Tx × Int)))),.sh (d (p1.b : (List (Tx × Int)))),.sh (d (p1.c : (List Int))),.sh (d (Qnn : (List (List (Tx × Int))))),.sh (d (a11 : (List (Tx × Int)))),.ow (d (q10 : (List (List (Tx × Int))))),.no,.no,.no,.no,.no])) QnP rfl (cv (ZG (Qb 9 rfl))) (fun _ _ => rfl) fun q10 a11 =>
  (Qm (E:=(fun (QnT : (List (Tx × Int))) => [.sh (d (v_homes : (List Tx))),.sh (d (v_weights : (List Int))),.sh (d (v_lines : (List (List (Tx × Int))))),.sh (d (QmX : Int)),.sh (d (QmW : (List Int))),.sh (d (QmZ : Int)),.sh (d (p1.a : (List (Tx × Int)))),.sh (d (p1.b : (List (Tx × Int)))),.sh (d (p1.c : (List Int))),.sh (d (Qnn : (List (List (Tx × Int))))),.sh (d (a11 : (List (Tx × Int)))),.ow (d (q10 : (List (List (Tx × Int))))),.ow (d (QnT : (List (Tx × Int)))),.no,.no,.no,.no])) (ZM (cv (Z2 (by decide) (Z1 (α:=(Tx × Int))))) (fun _ => rfl)) fun QnT =>
  (Qm (E:=(fun (q : ((List (Tx × Int)))) => [.sh (d (v_homes : (List Tx))),.sh (d (v_weights : (List Int))),.sh (d (v_lines : (List (List (Tx × Int))))),.sh (d (QmX : Int)),.sh (d (QmW : (List Int))),.sh (d (QmZ : Int)),.sh (d (p1.a : (List (Tx × Int)))),.sh (d (p1.b : (List (Tx × Int)))),.sh (d (p1.c : (List Int))),.sh (d (Qnn : (List (List (Tx × Int))))),.sh (d (a11 : (List (Tx × Int)))),.ow (d (q10 : (List (List (Tx × Int))))),.ow (d (q : (List (Tx × Int)))),.no,.no,.no,.no])) (Qcg (E:=(fun (q : ((List (Tx × Int)))) => [.sh (d (v_homes : (List Tx))),.sh (d (v_weights : (List Int))),.sh (d (v_lines : (List (List (Tx × Int))))),.sh (d (QmX : Int)),.sh (d (QmW : (List Int))),.sh (d (QmZ : Int)),.sh (d (p1.a : (List (Tx × Int)))),.sh (d (p1.b : (List (Tx × Int)))),.sh (d (p1.c : (List Int))),.sh (d (Qnn : (List (List (Tx × Int))))),.sh (d (a11 : (List (Tx × Int)))),.ow (d (q10 : (List (List (Tx × Int))))),.ow (d (q : (List (Tx × Int)))),.no,.no,.no,.no])) (E':=(fun (q13 : ((List (Tx × Int)))) (a14 : (Tx × Int)) => [.sh (d (v_homes : (List Tx))),.sh (d (v_weights : (List Int))),.sh (d (v_lines : (List (List (Tx × Int))))),.sh (d (QmX : Int)),.sh (d (QmW : (List Int))),.sh (d (QmZ : Int)),.sh (d (p1.a : (List (Tx × Int)))),.sh (d (p1.b : (List (Tx × Int)))),.sh (d (p1.c : (List Int))),.sh (d (Qnn : (List (List (Tx × Int))))),.sh (d (a11 : (List (Tx × Int)))),.ow (d (q10 : (List (List (Tx × Int))))),.ow (d (q13 : (List (Tx × Int)))),.sh (d (a14.1 : Tx)),.sh (d (a14.2 : Int)),.no,.no])) QnT rfl (cv (ZG (Qb 10 rfl))) (fun _ _ => rfl) fun q13 a14 =>
  (Qm (E:=(fun (QnK : (List (Tx × Int))) => [.sh (d (v_homes : (List Tx))),.sh (d (v_weights : (List Int))),.sh (d (v_lines : (List (List (Tx × Int))))),.sh (d (QmX : Int)),.sh (d (QmW : (List Int))),.sh (d (QmZ : Int)),.sh (d (p1.a : (List (Tx × Int)))),.sh (d (p1.b : (List (Tx × Int)))),.sh (d (p1.c : (List Int))),.sh (d (Qnn : (List (List (Tx × Int))))),.sh (d (a11 : (List (Tx × Int)))),.ow (d (q10 : (List (List (Tx × Int))))),.ow (d (QnK : (List (Tx × Int)))),.sh (d (a14.1 : Tx)),.sh (d (a14.2 : Int)),.no,.no])) (Qa9 rfl (cv (Jl (Qb 13 rfl) (Qb 14 rfl))) (fun _ => rfl)) fun QnK =>
  (Qm (E:=(fun (q : ((List (Tx × Int)))) => [.sh (d (v_homes : (List Tx))),.sh (d (v_weights : (List Int))),.sh (d (v_lines : (List (List (Tx × Int))))),.sh (d (QmX : Int)),.sh (d (QmW : (List Int))),.sh (d (QmZ : Int)),.sh (d (p1.a : (List (Tx × Int)))),.sh (d (p1.b : (List (Tx × Int)))),.sh (d (p1.c : (List Int))),.sh (d (Qnn : (List (List (Tx × Int))))),.sh (d (a11 : (List (Tx × Int)))),.ow (d (q10 : (List (List (Tx × Int))))),.ow (d (q : (List (Tx × Int)))),.sh (d (a14.1 : Tx)),.sh (d (a14.2 : Int)),.no,.no])) (QbM (cv (Ql Qcd (Qb 14 rfl) (Qb 3 rfl)))
  (Qm (E:=(fun (QnS : (List (Tx × Int))) => [.sh (d (v_homes : (List Tx))),.sh (d (v_weights : (List Int))),.sh (d (v_lines : (List (List (Tx × Int))))),.sh (d (QmX : Int)),.sh (d (QmW : (List Int))),.sh (d (QmZ : Int)),.sh (d (p1.a : (List (Tx × Int)))),.sh (d (p1.b : (List (Tx × Int)))),.sh (d (p1.c : (List Int))),.sh (d (Qnn : (List (List (Tx × Int))))),.sh (d (a11 : (List (Tx × Int)))),.ow (d (q10 : (List (List (Tx × Int))))),.ow (d (QnS : (List (Tx × Int)))),.sh (d (a14.1 : Tx)),.sh (d (a14.2 : Int)),.no,.no])) (Qa9 rfl (cv (Jl (Qb 13 rfl) (Qs JV (Qb 2 rfl)))) (fun _ => rfl)) fun QnS =>
  (QB (E:=(fun (q : ((List (Tx × Int)))) => [.sh (d (v_homes : (List Tx))),.sh (d (v_weights : (List Int))),.sh (d (v_lines : (List (List (Tx × Int))))),.sh (d (QmX : Int)),.sh (d (QmW : (List Int))),.sh (d (QmZ : Int)),.sh (d (p1.a : (List (Tx × Int)))),.sh (d (p1.b : (List (Tx × Int)))),.sh (d (p1.c : (List Int))),.sh (d (Qnn : (List (List (Tx × Int))))),.sh (d (a11 : (List (Tx × Int)))),.ow (d (q10 : (List (List (Tx × Int))))),.ow (d (q : (List (Tx × Int)))),.sh (d (a14.1 : Tx)),.sh (d (a14.2 : Int)),.no,.no])) (s:=QnS) rfl))
  (QB (E:=(fun (q : ((List (Tx × Int)))) => [.sh (d (v_homes : (List Tx))),.sh (d (v_weights : (List Int))),.sh (d (v_lines : (List (List (Tx × Int))))),.sh (d (QmX : Int)),.sh (d (QmW : (List Int))),.sh (d (QmZ : Int)),.sh (d (p1.a : (List (Tx × Int)))),.sh (d (p1.b : (List (Tx × Int)))),.sh (d (p1.c : (List Int))),.sh (d (Qnn : (List (List (Tx × Int))))),.sh (d (a11 : (List (Tx × Int)))),.ow (d (q10 : (List (List (Tx × Int))))),.ow (d (q : (List (Tx × Int)))),.sh (d (a14.1 : Tx)),.sh (d (a14.2 : Int)),.no,.no])) (s:=QnK) rfl)) fun s20 =>
  (Qq (env':=[.sh (d (v_homes : (List Tx))),.sh (d (v_weights : (List Int))),.sh (d (v_lines : (List (List (Tx × Int))))),.sh (d (QmX : Int)),.sh (d (QmW : (List Int))),.sh (d (QmZ : Int)),.sh (d (p1.a : (List (Tx × Int)))),.sh (d (p1.b : (List (Tx × Int)))),.sh (d (p1.c : (List Int))),.sh (d (Qnn : (List (List (Tx × Int))))),.sh (d (a11 : (List (Tx × Int)))),.ow (d (q10 : (List (List (Tx × Int))))),.ow (d (s20 : (List (Tx × Int)))),.no,.sh (d (a14.2 : Int)),.no,.no]) rfl (Qq (env':=[.sh (d (v_homes : (List Tx))),.sh (d (v_weights : (List Int))),.sh (d (v_lines : (List (List (Tx × Int))))),.sh (d (QmX : Int)),.sh (d (QmW : (List Int))),.sh (d (QmZ : Int)),.sh (d (p1.a : (List (Tx × Int)))),.sh (d (p1.b : (List (Tx × Int)))),.sh (d (p1.c : (List Int))),.sh (d (Qnn : (List (List (Tx × Int))))),.sh (d (a11 : (List (Tx × Int)))),.ow (d (q10 : (List (List (Tx × Int))))),.ow (d (s20 : (List (Tx × Int)))),.no,.no,.no,.no]) rfl (QB (E:=(fun (q : ((List (Tx × Int)))) => [.sh (d (v_homes : (List Tx))),.sh (d (v_weights : (List Int))),.sh (d (v_lines : (List (List (Tx × Int))))),.sh (d (QmX : Int)),.sh (d (QmW : (List Int))),.sh (d (QmZ : Int)),.sh (d (p1.a : (List (Tx × Int)))),.sh (d (p1.b : (List (Tx × Int)))),.sh (d (p1.c : (List Int))),.sh (d (Qnn : (List (List (Tx × Int))))),.sh (d (a11 : (List (Tx × Int)))),.ow (d (q10 : (List (List (Tx × Int))))),.ow (d (q : (List (Tx × Int)))),.no,.no,.no,.no])) (s:=s20) rfl)))))) fun s21 =>
  (Qq (env':=[.sh (d (v_homes : (List Tx))),.sh (d (v_weights : (List Int))),.sh (d (v_lines : (List (List (Tx × Int))))),.sh (d (QmX : Int)),.sh (d (QmW : (List Int))),.sh (d (QmZ : Int)),.sh (d (p1.a : (List (Tx × Int)))),.sh (d (p1.b : (List (Tx × Int)))),.sh (d (p1.c : (List Int))),.sh (d (Qnn : (List (List (Tx × Int))))),.sh (d (a11 : (List (Tx × Int)))),.ow (d (q10 : (List (List (Tx × Int))))),.sh (d (s21 : (List (Tx × Int)))),.no,.no,.no,.no]) rfl (Qm (E:=(fun (QnC : (List (List (Tx × Int)))) => [.sh (d (v_homes : (List Tx))),.sh (d (v_weights : (List Int))),.sh (d (v_lines : (List (List (Tx × Int))))),.sh (d (QmX : Int)),.sh (d (QmW : (List Int))),.sh (d (QmZ : Int)),.sh (d (p1.a : (List (Tx × Int)))),.sh (d (p1.b : (List (Tx × Int)))),.sh (d (p1.c : (List Int))),.sh (d (Qnn : (List (List (Tx × Int))))),.sh (d (a11 : (List (Tx × Int)))),.ow (d (QnC : (List (List (Tx × Int))))),.sh (d (s21 : (List (Tx × Int)))),.no,.no,.no,.no])) (Qa9 rfl (cv (Qb 12 rfl)) (fun _ => rfl)) fun QnC =>
  (Qq (env':=[.sh (d (v_homes : (List Tx))),.sh (d (v_weights : (List Int))),.sh (d (v_lines : (List (List (Tx × Int))))),.sh (d (QmX : Int)),.sh (d (QmW : (List Int))),.sh (d (QmZ : Int)),.sh (d (p1.a : (List (Tx × Int)))),.sh (d (p1.b : (List (Tx × Int)))),.sh (d (p1.c : (List Int))),.sh (d (Qnn : (List (List (Tx × Int))))),.no,.ow (d (QnC : (List (List (Tx × Int))))),.sh (d (s21 : (List (Tx × Int)))),.no,.no,.no,.no]) rfl (Qq (env':=[.sh (d (v_homes : (List Tx))),.sh (d (v_weights : (List Int))),.sh (d (v_lines : (List (List (Tx × Int))))),.sh (d (QmX : Int)),.sh (d (QmW : (List Int))),.sh (d (QmZ : Int)),.sh (d (p1.a : (List (Tx × Int)))),.sh (d (p1.b : (List (Tx × Int)))),.sh (d (p1.c : (List Int))),.sh (d (Qnn : (List (List (Tx × Int))))),.no,.ow (d (QnC : (List (List (Tx × Int))))),.no,.no,.no,.no,.no]) rfl (QB (E:=(fun (q : ((List (List (Tx × Int))))) => [.sh (d (v_homes : (List Tx))),.sh (d (v_weights : (List Int))),.sh (d (v_lines : (List (List (Tx × Int))))),.sh (d (QmX : Int)),.sh (d (QmW : (List Int))),.sh (d (QmZ : Int)),.sh (d (p1.a : (List (Tx × Int)))),.sh (d (p1.b : (List (Tx × Int)))),.sh (d (p1.c : (List Int))),.sh (d (Qnn : (List (List (Tx × Int))))),.no,.ow (d (q : (List (List (Tx × Int))))),.no,.no,.no,.no,.no])) (s:=QnC) rfl)))))))) fun s25 =>
  (Qm (E:=(fun (QnQ : Int) => [.sh (d (v_homes : (List Tx))),.sh (d (v_weights : (List Int))),.sh (d (v_lines : (List (List (Tx × Int))))),.sh (d (QmX : Int)),.sh (d (QmW : (List Int))),.sh (d (QmZ : Int)),.sh (d (p1.a : (List (Tx × Int)))),.sh (d (p1.b : (List (Tx × Int)))),.sh (d (p1.c : (List Int))),.sh (d (Qnn : (List (List (Tx × Int))))),.no,.ow (d (s25 : (List (List (Tx × Int))))),.no,.no,.no,.sh (d (QnQ : Int)),.no])) (Qt (cv (Ql Qf1 (Ql Z4 (Qb 1 rfl) (Qb 3 rfl)) (Qb 5 rfl))) (fun _ => rfl)) fun QnQ =>
  (Qm (E:=(fun (QnU : (List Int)) => [.sh (d (v_homes : (List Tx))),.sh (d (v_weights : (List Int))),.sh (d (v_lines : (List (List (Tx × Int))))),.sh (d (QmX : Int)),.sh (d (QmW : (List Int))),.sh (d (QmZ : Int)),.sh (d (p1.a : (List (Tx × Int)))),.sh (d (p1.b : (List (Tx × Int)))),.sh (d (p1.c : (List Int))),.sh (d (Qnn : (List (List (Tx × Int))))),.no,.ow (d (s25 : (List (List (Tx × Int))))),.no,.no,.no,.sh (d (QnQ : Int)),.sh (d (QnU : (List Int)))])) (Qt (cv (Ql J5 (Ql J5 (Qcq Qd9 (Qb 1 rfl) Qbq (Jk (Qb 3 rfl))) (Z2 (by decide) (ZV (Qb 5 rfl) (Z1 (α:=Int))))) (Qcq Qd9 (Qb 1 rfl) (Jk (Ql QT (Qb 3 rfl) (Qu (a:=(1 : Int)) rfl))) Qbq))) (fun _ => rfl)) fun QnU =>
  (Qq (env':=[.sh (d (v_homes : (List Tx))),.sh (d (v_weights : (List Int))),.sh (d (v_lines : (List (List (Tx × Int))))),.sh (d (QmX : Int)),.sh (d (QmW : (List Int))),.sh (d (QmZ : Int)),.sh (d (p1.a : (List (Tx × Int)))),.sh (d (p1.b : (List (Tx × Int)))),.sh (d (p1.c : (List Int))),.sh (d (Qnn : (List (List (Tx × Int))))),.no,.sh (d (s25 : (List (List (Tx × Int))))),.no,.no,.no,.sh (d (QnQ : Int)),.sh (d (QnU : (List Int)))]) rfl (QX (cv (QbJ (Ql J5 (Qb 0 rfl) (QdU (Ql Z4 (Qb 0 rfl) (Qb 3 rfl)))) (Ql J5 (Qb 16 rfl) (Z2 (by decide) (ZV (Qb 15 rfl) (Z1 (α:=Int))))) (Qb 11 rfl))))))))))))))
def JH (QmY : Int) (v_weights : (List Int)) (v_lines : (List (List (Tx × Int)))) (Qnc : Int) : M (P3 Int (List Int) Int):=
  (M.bind (Qp QmY (1 : Int) (List.length v_weights : Int)) fun Qnl =>
  (M.bind (M.bind (M.bind (M.bind (ixL v_lines Qnl) fun x3 => M.ok (List.length x3 : Int)) fun x4 => (rgM x4)) fun x7 => (Q2 (fun (a5 : Int) => (M.bind (Qp QmY ((20 : Int) + a5) (2 : Int)) fun x6 => M.ok (eqT x6 (1 : Int)))) (fun (a5 : Int) => (M.ok a5)) x7)) fun Qn9 =>
  (M.bind (M.bind (M.bind (Qp QmY (2 : Int) (2 : Int)) fun x8 => M.ok (eqT x8 (1 : Int))) fun c9 => if c9 then
  (M.bind (M.ok (List.reverse Qn9)) fun Qnw =>
  (M.ok Qnw)) else
  (M.ok Qn9)) fun s12 =>
  (M.bind (M.bind (Ji v_lines v_weights Qnl s12) fun x14 => M.ok x14.c) fun Qnm =>
  (M.bind (M.bind (ixL v_weights Qnl) fun x16 => (Qp QmY (3 : Int) x16)) fun QnG =>
  (M.bind (Qp QmY (4 : Int) (5 : Int)) fun Qnt =>
  (M.bind (M.bind (M.ok ((eqT Qnt (1 : Int)) || (eqT Qnt (2 : Int)))) fun c18 => if c18 then
  (M.bind (M.bind (ixL Qnm (0 : Int)) fun x20 => (ZA x20 Qnc)) fun QnM =>
  (M.ok QnM)) else
  (M.ok QnG)) fun s21 =>
  (M.bind (M.bind (M.ok (eqT Qnt (3 : Int))) fun c22 => if c22 then
  (M.bind (M.bind (M.bind (ixL Qnm (0 : Int)) fun x24 => (ZA x24 Qnc)) fun x25 => M.ok (x25 + (1 : Int))) fun QnN =>
  (M.ok QnN)) else
  (M.ok s21)) fun s26 =>
  (M.bind (M.bind (M.ok (eqT Qnt (4 : Int))) fun c27 => if c27 then
  (M.bind (M.bind (ixL v_weights Qnl) fun x30 => (M.bind (M.bind (ixL Qnm (1 : Int)) fun x29 => (ZA x29 Qnc)) fun x31 => M.ok (x30 - x31))) fun QnO =>
  (M.ok QnO)) else
  (M.ok s26)) fun s32 =>
  (M.ok (⟨Qnl,s12,s32⟩ : (P3 Int (List Int) Int))))))))))))
theorem Qdp (QmY : Int) (v_weights : (List Int)) (v_lines : (List (List (Tx × Int)))) (Qnc : Int) : Ref (JG [d QmY,d v_weights,d v_lines,d Qnc]) (JH QmY v_weights v_lines Qnc):=
  J6
  (Qm (E:=(fun (Qnl : Int) => [.sh (d (QmY : Int)),.sh (d (v_weights : (List Int))),.sh (d (v_lines : (List (List (Tx × Int))))),.sh (d (Qnc : Int)),.sh (d (Qnl : Int)),.no,.no,.no,.no,.no])) (Qt (cv (ZT (Qb 0 rfl) (Qu (a:=(1 : Int)) rfl) (Qs JV (Qb 1 rfl)) Q5) (by first | with_reducible rfl | simp only [Zr,Jw,Zq,Zd,ZA,ZY,Jx,ixL,ixS,ixD,slS,Jy,Zh,Zs,Zt,rgM,Jz,rgL,Q4,Q2,Z6,J1,ZZ,Zu])) (fun _ => rfl)) fun Qnl =>
  (Qm (E:=(fun (Qn9 : (List Int)) => [.sh (d (QmY : Int)),.sh (d (v_weights : (List Int))),.sh (d (v_lines : (List (List (Tx × Int))))),.sh (d (Qnc : Int)),.sh (d (Qnl : Int)),.ow (d (Qn9 : (List Int))),.no,.no,.no,.no])) (ZM (cv (Qbc (E:=(fun (a5 : Int) => [.sh (d (QmY : Int)),.sh (d (v_weights : (List Int))),.sh (d (v_lines : (List (List (Tx × Int))))),.sh (d (Qnc : Int)),.sh (d (Qnl : Int)),.no,.sh (d (a5 : Int)),.no,.no,.no])) (p:=(fun (a5 : Int) => (M.bind (Qp QmY ((20 : Int) + a5) (2 : Int)) fun x6 => M.ok (eqT x6 (1 : Int))))) (k:=(fun (a5 : Int) => (M.ok a5))) (JE (Qs JV (Ql Z4 (Qb 2 rfl) (Qb 4 rfl)))) rfl (fun _ => rfl) (fun a5 => cv (Ql Qcd (ZT (Qb 0 rfl) (Ql QT (Qu (a:=(20 : Int)) rfl) (Qb 6 rfl)) (Qu (a:=(2 : Int)) rfl) Q5) (Qu (a:=(1 : Int)) rfl))) (fun a5 => cv (Qb 6 rfl))) (by first | with_reducible rfl | simp only [Zr,Jw,Zq,Zd,ZA,ZY,Jx,ixL,ixS,ixD,slS,Jy,Zh,Zs,Zt,rgM,Jz,rgL,Q4,Q2,Z6,J1,ZZ,Zu])) (fun _ => rfl)) fun Qn9 =>
  (Qm (E:=(fun (q : ((List Int))) => [.sh (d (QmY : Int)),.sh (d (v_weights : (List Int))),.sh (d (v_lines : (List (List (Tx × Int))))),.sh (d (Qnc : Int)),.sh (d (Qnl : Int)),.sh (d (q : (List Int))),.no,.no,.no,.no])) (QbM (cv (Ql Qcd (ZT (Qb 0 rfl) (Qu (a:=(2 : Int)) rfl) (Qu (a:=(2 : Int)) rfl) Q5) (Qu (a:=(1 : Int)) rfl)) (by first | with_reducible rfl | simp only [Zr,Jw,Zq,Zd,ZA,ZY,Jx,ixL,ixS,ixD,slS,Jy,Zh,Zs,Zt,rgM,Jz,rgL,Q4,Q2,Z6,J1,ZZ,Zu]))
  (Qm (E:=(fun (Qnw : (List Int)) => [.sh (d (QmY : Int)),.sh (d (v_weights : (List Int))),.sh (d (v_lines : (List (List (Tx × Int))))),.sh (d (Qnc : Int)),.sh (d (Qnl : Int)),.sh (d (Qnw : (List Int))),.no,.no,.no,.no])) (Qt (cv (Qjl (QdP 5 rfl)) (by first | with_reducible rfl | simp only [Zr,Jw,Zq,Zd,ZA,ZY,Jx,ixL,ixS,ixD,slS,Jy,Zh,Zs,Zt,rgM,Jz,rgL,Q4,Q2,Z6,J1,ZZ,Zu])) (fun _ => rfl)) fun Qnw =>
  (QB (E:=(fun (q : ((List Int))) => [.sh (d (QmY : Int)),.sh (d (v_weights : (List Int))),.sh (d (v_lines : (List (List (Tx × Int))))),.sh (d (Qnc : Int)),.sh (d (Qnl : Int)),.sh (d (q : (List Int))),.no,.no,.no,.no])) (s:=Qnw) rfl))
  (Qq (env':=[.sh (d (QmY : Int)),.sh (d (v_weights : (List Int))),.sh (d (v_lines : (List (List (Tx × Int))))),.sh (d (Qnc : Int)),.sh (d (Qnl : Int)),.sh (d (Qn9 : (List Int))),.no,.no,.no,.no]) rfl (QB (E:=(fun (q : ((List Int))) => [.sh (d (QmY : Int)),.sh (d (v_weights : (List Int))),.sh (d (v_lines : (List (List (Tx × Int))))),.sh (d (Qnc : Int)),.sh (d (Qnl : Int)),.sh (d (q : (List Int))),.no,.no,.no,.no])) (s:=Qn9) rfl))) fun s12 =>
  (Qm (E:=(fun (Qnm : (List Int)) => [.sh (d (QmY : Int)),.sh (d (v_weights : (List Int))),.sh (d (v_lines : (List (List (Tx × Int))))),.sh (d (Qnc : Int)),.sh (d (Qnl : Int)),.sh (d (s12 : (List Int))),.no,.sh (d (Qnm : (List Int))),.no,.no])) (Qt (cv (Qjt (QdO (Qb 2 rfl) (Qb 1 rfl) (Qb 4 rfl) (Qb 5 rfl) Qbg)) (by first | with_reducible rfl | simp only [Zr,Jw,Zq,Zd,ZA,ZY,Jx,ixL,ixS,ixD,slS,Jy,Zh,Zs,Zt,rgM,Jz,rgL,Q4,Q2,Z6,J1,ZZ,Zu])) (fun _ => rfl)) fun Qnm =>
  (Qm (E:=(fun (QnG : Int) => [.sh (d (QmY : Int)),.sh (d (v_weights : (List Int))),.sh (d (v_lines : (List (List (Tx × Int))))),.sh (d (Qnc : Int)),.sh (d (Qnl : Int)),.sh (d (s12 : (List Int))),.no,.sh (d (Qnm : (List Int))),.sh (d (QnG : Int)),.no])) (Qt (cv (ZT (Qb 0 rfl) (Qu (a:=(3 : Int)) rfl) (Ql Z4 (Qb 1 rfl) (Qb 4 rfl)) Q5) (by first | with_reducible rfl | simp only [Zr,Jw,Zq,Zd,ZA,ZY,Jx,ixL,ixS,ixD,slS,Jy,Zh,Zs,Zt,rgM,Jz,rgL,Q4,Q2,Z6,J1,ZZ,Zu])) (fun _ => rfl)) fun QnG =>
  (Qm (E:=(fun (Qnt : Int) => [.sh (d (QmY : Int)),.sh (d (v_weights : (List Int))),.sh (d (v_lines : (List (List (Tx × Int))))),.sh (d (Qnc : Int)),.sh (d (Qnl : Int)),.sh (d (s12 : (List Int))),.no,.sh (d (Qnm : (List Int))),.sh (d (QnG : Int)),.sh (d (Qnt : Int))])) (Qt (cv (ZT (Qb 0 rfl) (Qu (a:=(4 : Int)) rfl) (Qu (a:=(5 : Int)) rfl) Q5) (by first | with_reducible rfl | simp only [Zr,Jw,Zq,Zd,ZA,ZY,Jx,ixL,ixS,ixD,slS,Jy,Zh,Zs,Zt,rgM,Jz,rgL,Q4,Q2,Z6,J1,ZZ,Zu])) (fun _ => rfl)) fun Qnt =>
  (Qm (E:=(fun (q : (Int)) => [.sh (d (QmY : Int)),.sh (d (v_weights : (List Int))),.sh (d (v_lines : (List (List (Tx × Int))))),.sh (d (Qnc : Int)),.sh (d (Qnl : Int)),.sh (d (s12 : (List Int))),.no,.sh (d (Qnm : (List Int))),.sh (d (q : Int)),.sh (d (Qnt : Int))])) (QbM (cv (Qbe (Ql Qcd (Qb 9 rfl) (Qu (a:=(1 : Int)) rfl)) (Ql Qcd (Qb 9 rfl) (Qu (a:=(2 : Int)) rfl))) (by first | with_reducible rfl | simp only [Zr,Jw,Zq,Zd,ZA,ZY,Jx,ixL,ixS,ixD,slS,Jy,Zh,Zs,Zt,rgM,Jz,rgL,Q4,Q2,Z6,J1,ZZ,Zu]))
  (Qm (E:=(fun (QnM : Int) => [.sh (d (QmY : Int)),.sh (d (v_weights : (List Int))),.sh (d (v_lines : (List (List (Tx × Int))))),.sh (d (Qnc : Int)),.sh (d (Qnl : Int)),.sh (d (s12 : (List Int))),.no,.sh (d (Qnm : (List Int))),.sh (d (QnM : Int)),.sh (d (Qnt : Int))])) (Qt (cv (Ql QdR (Ql Z4 (Qb 7 rfl) (Qu (a:=(0 : Int)) rfl)) (Qb 3 rfl)) (by first | with_reducible rfl | simp only [Zr,Jw,Zq,Zd,ZA,ZY,Jx,ixL,ixS,ixD,slS,Jy,Zh,Zs,Zt,rgM,Jz,rgL,Q4,Q2,Z6,J1,ZZ,Zu])) (fun _ => rfl)) fun QnM =>
  (QB (E:=(fun (q : (Int)) => [.sh (d (QmY : Int)),.sh (d (v_weights : (List Int))),.sh (d (v_lines : (List (List (Tx × Int))))),.sh (d (Qnc : Int)),.sh (d (Qnl : Int)),.sh (d (s12 : (List Int))),.no,.sh (d (Qnm : (List Int))),.sh (d (q : Int)),.sh (d (Qnt : Int))])) (s:=QnM) rfl))
  (QB (E:=(fun (q : (Int)) => [.sh (d (QmY : Int)),.sh (d (v_weights : (List Int))),.sh (d (v_lines : (List (List (Tx × Int))))),.sh (d (Qnc : Int)),.sh (d (Qnl : Int)),.sh (d (s12 : (List Int))),.no,.sh (d (Qnm : (List Int))),.sh (d (q : Int)),.sh (d (Qnt : Int))])) (s:=QnG) rfl)) fun s21 =>
  (Qm (E:=(fun (q : (Int)) => [.sh (d (QmY : Int)),.sh (d (v_weights : (List Int))),.sh (d (v_lines : (List (List (Tx × Int))))),.sh (d (Qnc : Int)),.sh (d (Qnl : Int)),.sh (d (s12 : (List Int))),.no,.sh (d (Qnm : (List Int))),.sh (d (q : Int)),.sh (d (Qnt : Int))])) (QbM (cv (Ql Qcd (Qb 9 rfl) (Qu (a:=(3 : Int)) rfl)) (by first | with_reducible rfl | simp only [Zr,Jw,Zq,Zd,ZA,ZY,Jx,ixL,ixS,ixD,slS,Jy,Zh,Zs,Zt,rgM,Jz,rgL,Q4,Q2,Z6,J1,ZZ,Zu]))
  (Qm (E:=(fun (QnN : Int) => [.sh (d (QmY : Int)),.sh (d (v_weights : (List Int))),.sh (d (v_lines : (List (List (Tx × Int))))),.sh (d (Qnc : Int)),.sh (d (Qnl : Int)),.sh (d (s12 : (List Int))),.no,.sh (d (Qnm : (List Int))),.sh (d (QnN : Int)),.sh (d (Qnt : Int))])) (Qt (cv (Ql QT (Ql QdR (Ql Z4 (Qb 7 rfl) (Qu (a:=(0 : Int)) rfl)) (Qb 3 rfl)) (Qu (a:=(1 : Int)) rfl)) (by first | with_reducible rfl | simp only [Zr,Jw,Zq,Zd,ZA,ZY,Jx,ixL,ixS,ixD,slS,Jy,Zh,Zs,Zt,rgM,Jz,rgL,Q4,Q2,Z6,J1,ZZ,Zu])) (fun _ => rfl)) fun QnN =>
  (QB (E:=(fun (q : (Int)) => [.sh (d (QmY : Int)),.sh (d (v_weights : (List Int))),.sh (d (v_lines : (List (List (Tx × Int))))),.sh (d (Qnc : Int)),.sh (d (Qnl : Int)),.sh (d (s12 : (List Int))),.no,.sh (d (Qnm : (List Int))),.sh (d (q : Int)),.sh (d (Qnt : Int))])) (s:=QnN) rfl))
  (QB (E:=(fun (q : (Int)) => [.sh (d (QmY : Int)),.sh (d (v_weights : (List Int))),.sh (d (v_lines : (List (List (Tx × Int))))),.sh (d (Qnc : Int)),.sh (d (Qnl : Int)),.sh (d (s12 : (List Int))),.no,.sh (d (Qnm : (List Int))),.sh (d (q : Int)),.sh (d (Qnt : Int))])) (s:=s21) rfl)) fun s26 =>
  (Qm (E:=(fun (q : (Int)) => [.sh (d (QmY : Int)),.sh (d (v_weights : (List Int))),.sh (d (v_lines : (List (List (Tx × Int))))),.sh (d (Qnc : Int)),.sh (d (Qnl : Int)),.sh (d (s12 : (List Int))),.no,.sh (d (Qnm : (List Int))),.sh (d (q : Int)),.sh (d (Qnt : Int))])) (QbM (cv (Ql Qcd (Qb 9 rfl) (Qu (a:=(4 : Int)) rfl)) (by first | with_reducible rfl | simp only [Zr,Jw,Zq,Zd,ZA,ZY,Jx,ixL,ixS,ixD,slS,Jy,Zh,Zs,Zt,rgM,Jz,rgL,Q4,Q2,Z6,J1,ZZ,Zu]))
  (Qm (E:=(fun (QnO : Int) => [.sh (d (QmY : Int)),.sh (d (v_weights : (List Int))),.sh (d (v_lines : (List (List (Tx × Int))))),.sh (d (Qnc : Int)),.sh (d (Qnl : Int)),.sh (d (s12 : (List Int))),.no,.sh (d (Qnm : (List Int))),.sh (d (QnO : Int)),.sh (d (Qnt : Int))])) (Qt (cv (Ql Qf1 (Ql Z4 (Qb 1 rfl) (Qb 4 rfl)) (Ql QdR (Ql Z4 (Qb 7 rfl) (Qu (a:=(1 : Int)) rfl)) (Qb 3 rfl))) (by first | with_reducible rfl | simp only [Zr,Jw,Zq,Zd,ZA,ZY,Jx,ixL,ixS,ixD,slS,Jy,Zh,Zs,Zt,rgM,Jz,rgL,Q4,Q2,Z6,J1,ZZ,Zu])) (fun _ => rfl)) fun QnO =>
  (QB (E:=(fun (q : (Int)) => [.sh (d (QmY : Int)),.sh (d (v_weights : (List Int))),.sh (d (v_lines : (List (List (Tx × Int))))),.sh (d (Qnc : Int)),.sh (d (Qnl : Int)),.sh (d (s12 : (List Int))),.no,.sh (d (Qnm : (List Int))),.sh (d (q : Int)),.sh (d (Qnt : Int))])) (s:=QnO) rfl))
  (QB (E:=(fun (q : (Int)) => [.sh (d (QmY : Int)),.sh (d (v_weights : (List Int))),.sh (d (v_lines : (List (List (Tx × Int))))),.sh (d (Qnc : Int)),.sh (d (Qnl : Int)),.sh (d (s12 : (List Int))),.no,.sh (d (Qnm : (List Int))),.sh (d (q : Int)),.sh (d (Qnt : Int))])) (s:=s26) rfl)) fun s32 =>
  (QX (cv (QbJ (Qb 4 rfl) (Qb 5 rfl) (Qb 8 rfl)) (by first | with_reducible rfl | simp only [Zr,Jw,Zq,Zd,ZA,ZY,Jx,ixL,ixS,ixD,slS,Jy,Zh,Zs,Zt,rgM,Jz,rgL,Q4,Q2,Z6,J1,ZZ,Zu]))))))))))))
def QbS (v_sheet : TSheet) (Qnc : Int) (QmX : Int) (QmW : (List Int)) (QmZ : Int) : M TSheet:=
  (M.bind (M.ok ((decide (QmX < (0 : Int))) || (decide ((List.length v_sheet.homes : Int) ≤ QmX)))) fun c1 => if c1 then
  (M.er 15 []) else
  (M.bind (ixL v_sheet.lines QmX) fun Qnp =>
  (M.bind (M.bind (Q4 (fun (a3 : Int) => (M.ok ((decide (a3 < (0 : Int))) || (decide ((List.length Qnp : Int) ≤ a3))))) QmW) fun x4 => M.ok (List.any x4 id)) fun c5 => if c5 then
  (M.er 15 []) else
  (M.bind (M.bind (rgM (List.length Qnp : Int)) fun x8 => (Q2 (fun (a7 : Int) => (M.ok (inT a7 QmW))) (fun (a7 : Int) => (ixL Qnp a7)) x8)) fun Qny =>
  (M.bind (M.bind (rgM (List.length Qnp : Int)) fun x11 => (Q2 (fun (a10 : Int) => (M.ok (!inT a10 QmW))) (fun (a10 : Int) => (ixL Qnp a10)) x11)) fun Qnu =>
  (M.bind (M.bind (ixL v_sheet.weights QmX) fun x13 => M.ok (x13 - QmZ)) fun Qnz =>
  (M.bind (M.ok ((eqT Qny ([] : List (Tx × Int))) || ((eqT Qnu ([] : List (Tx × Int))) || ((decide (QmZ < (1 : Int))) || (decide (Qnz < (1 : Int))))))) fun c14 => if c14 then
  (M.er 15 []) else
  (M.bind (M.bind (M.bind (ZO v_sheet Qny) fun x15 => (M.bind (Zd Qnc QmZ) fun x16 => M.ok (decide (x15 < x16)))) fun x19 => if x19 then M.ok true else (M.bind (ZO v_sheet Qnu) fun x17 => (M.bind (Zd Qnc Qnz) fun x18 => M.ok (decide (x17 < x18))))) fun c20 => if c20 then
  (M.er 15 []) else
  (M.bind (M.bind (M.bind (Zq (cut v_sheet.weights (none : Option Int) (some QmX)) ([QmZ] : List Int)) fun x22 => (Zq x22 (cut v_sheet.weights (some (QmX + (1 : Int))) (none : Option Int)))) fun x23 => (Zq x23 ([Qnz] : List Int))) fun Qn5 =>
  (M.bind (M.bind (M.bind (Zq (cut v_sheet.lines (none : Option Int) (some QmX)) ([Qny] : List (List (Tx × Int)))) fun x25 => (Zq x25 (cut v_sheet.lines (some (QmX + (1 : Int))) (none : Option Int)))) fun x26 => (Zq x26 ([Qnu] : List (List (Tx × Int))))) fun QnV =>
  (M.bind (Q4 (fun (a28 : (List (Tx × Int))) => (Qax a28 QmX (List.length v_sheet.homes : Int))) QnV) fun QnW =>
  (M.bind (M.bind (M.bind (ixL v_sheet.homes QmX) fun x29 => M.ok ([x29] : List Tx)) fun x30 => (Zq v_sheet.homes x30)) fun x31 => (mkM (JX x31 Qn5 QnW))))))))))))))
theorem Qe6 (v_sheet : TSheet) (Qnc : Int) (QmX : Int) (QmW : (List Int)) (QmZ : Int) : Ref (QbQ [d v_sheet,d Qnc,d QmX,d QmW,d QmZ]) (QbS v_sheet Qnc QmX QmW QmZ):=
  J6
  (ZW (cv (Qbe (Ql QeX (Qb 2 rfl) (Qu (a:=(0 : Int)) rfl)) (Ql QhI (Qb 2 rfl) (Qs JV (Zw Zn (QN 0 rfl))))) (by first | with_reducible rfl | simp only [Zr,Jw,Zq,Zd,ZA,ZY,Jx,ixL,ixS,ixD,slS,Jy,Zh,Zs,Zt,rgM,Jz,rgL,Q4,Q2,Z6,J1,ZZ,Zu]))
  (xF QbL)
  (Z5 (Qm (E:=(fun (Qnp : (List (Tx × Int))) => [.bo (d (v_sheet : TSheet)),.sh (d (Qnc : Int)),.sh (d (QmX : Int)),.sh (d (QmW : (List Int))),.sh (d (QmZ : Int)),.sh (d (Qnp : (List (Tx × Int)))),.no,.no,.no,.no,.no,.no,.no])) (Qt (cv (Ql Z4 (Zw Zo (QN 0 rfl)) (Qb 2 rfl)) (by first | with_reducible rfl | simp only [Zr,Jw,Zq,Zd,ZA,ZY,Jx,ixL,ixS,ixD,slS,Jy,Zh,Zs,Zt,rgM,Jz,rgL,Q4,Q2,Z6,J1,ZZ,Zu])) (fun _ => rfl)) fun Qnp =>
  (ZW (cv (Qs Qlh (ZD (E:=(fun (a3 : Int) => [.bo (d (v_sheet : TSheet)),.sh (d (Qnc : Int)),.sh (d (QmX : Int)),.sh (d (QmW : (List Int))),.sh (d (QmZ : Int)),.sh (d (Qnp : (List (Tx × Int)))),.sh (d (a3 : Int)),.no,.no,.no,.no,.no,.no])) (k:=(fun (a3 : Int) => (M.ok ((decide (a3 < (0 : Int))) || (decide ((List.length Qnp : Int) ≤ a3)))))) (ZG (Qb 3 rfl)) rfl (fun _ => rfl) (fun a3 => cv (Qbe (Ql QeX (Qb 6 rfl) (Qu (a:=(0 : Int)) rfl)) (Ql QhI (Qb 6 rfl) (Qs JV (Qb 5 rfl))))))) (by first | with_reducible rfl | simp only [Zr,Jw,Zq,Zd,ZA,ZY,Jx,ixL,ixS,ixD,slS,Jy,Zh,Zs,Zt,rgM,Jz,rgL,Q4,Q2,Z6,J1,ZZ,Zu]))
  (xF QbL)
  (Z5 (Qm (E:=(fun (Qny : (List (Tx × Int))) => [.bo (d (v_sheet : TSheet)),.sh (d (Qnc : Int)),.sh (d (QmX : Int)),.sh (d (QmW : (List Int))),.sh (d (QmZ : Int)),.sh (d (Qnp : (List (Tx × Int)))),.no,.ow (d (Qny : (List (Tx × Int)))),.no,.no,.no,.no,.no])) (ZM (cv (Qbc (E:=(fun (a7 : Int) => [.bo (d (v_sheet : TSheet)),.sh (d (Qnc : Int)),.sh (d (QmX : Int)),.sh (d (QmW : (List Int))),.sh (d (QmZ : Int)),.sh (d (Qnp : (List (Tx × Int)))),.no,.no,.sh (d (a7 : Int)),.no,.no,.no,.no])) (p:=(fun (a7 : Int) => (M.ok (inT a7 QmW)))) (k:=(fun (a7 : Int) => (ixL Qnp a7))) (JE (Qs JV (Qb 5 rfl))) rfl (fun _ => rfl) (fun a7 => cv (Ql Qi1 (Qb 8 rfl) (Qb 3 rfl))) (fun a7 => cv (Ql Z4 (Qb 5 rfl) (Qb 8 rfl)))) (by first | with_reducible rfl | simp only [Zr,Jw,Zq,Zd,ZA,ZY,Jx,ixL,ixS,ixD,slS,Jy,Zh,Zs,Zt,rgM,Jz,rgL,Q4,Q2,Z6,J1,ZZ,Zu])) (fun _ => rfl)) fun Qny =>
  (Qm (E:=(fun (Qnu : (List (Tx × Int))) => [.bo (d (v_sheet : TSheet)),.sh (d (Qnc : Int)),.sh (d (QmX : Int)),.sh (d (QmW : (List Int))),.sh (d (QmZ : Int)),.sh (d (Qnp : (List (Tx × Int)))),.no,.ow (d (Qny : (List (Tx × Int)))),.no,.ow (d (Qnu : (List (Tx × Int)))),.no,.no,.no])) (ZM (cv (Qbc (E:=(fun (a10 : Int) => [.bo (d (v_sheet : TSheet)),.sh (d (Qnc : Int)),.sh (d (QmX : Int)),.sh (d (QmW : (List Int))),.sh (d (QmZ : Int)),.sh (d (Qnp : (List (Tx × Int)))),.no,.ow (d (Qny : (List (Tx × Int)))),.sh (d (a10 : Int)),.no,.no,.no,.no])) (p:=(fun (a10 : Int) => (M.ok (!inT a10 QmW)))) (k:=(fun (a10 : Int) => (ixL Qnp a10))) (JE (Qs JV (Qb 5 rfl))) rfl (fun _ => rfl) (fun a10 => cv (Ql Qez (Qb 8 rfl) (Qb 3 rfl))) (fun a10 => cv (Ql Z4 (Qb 5 rfl) (Qb 8 rfl)))) (by first | with_reducible rfl | simp only [Zr,Jw,Zq,Zd,ZA,ZY,Jx,ixL,ixS,ixD,slS,Jy,Zh,Zs,Zt,rgM,Jz,rgL,Q4,Q2,Z6,J1,ZZ,Zu])) (fun _ => rfl)) fun Qnu =>
  (Qm (E:=(fun (Qnz : Int) => [.bo (d (v_sheet : TSheet)),.sh (d (Qnc : Int)),.sh (d (QmX : Int)),.sh (d (QmW : (List Int))),.sh (d (QmZ : Int)),.sh (d (Qnp : (List (Tx × Int)))),.no,.ow (d (Qny : (List (Tx × Int)))),.no,.ow (d (Qnu : (List (Tx × Int)))),.sh (d (Qnz : Int)),.no,.no])) (Qt (cv (Ql Qf1 (Ql Z4 (Zw QQ (QN 0 rfl)) (Qb 2 rfl)) (Qb 4 rfl)) (by first | with_reducible rfl | simp only [Zr,Jw,Zq,Zd,ZA,ZY,Jx,ixL,ixS,ixD,slS,Jy,Zh,Zs,Zt,rgM,Jz,rgL,Q4,Q2,Z6,J1,ZZ,Zu])) (fun _ => rfl)) fun Qnz =>
  (ZW (cv (Qbe (Ql Qcd (QdP 7 rfl) (Z2 (by decide) (Z1 (α:=(Tx × Int))))) (Qbe (Ql Qcd (QdP 9 rfl) (Z2 (by decide) (Z1 (α:=(Tx × Int))))) (Qbe (Ql QeX (Qb 4 rfl) (Qu (a:=(1 : Int)) rfl)) (Ql QeX (Qb 10 rfl) (Qu (a:=(1 : Int)) rfl))))) (by first | with_reducible rfl | simp only [Zr,Jw,Zq,Zd,ZA,ZY,Jx,ixL,ixS,ixD,slS,Jy,Zh,Zs,Zt,rgM,Jz,rgL,Q4,Q2,Z6,J1,ZZ,Zu]))
  (xF QbL)
  (Z5 (Qq (env':=[.bo (d (v_sheet : TSheet)),.sh (d (Qnc : Int)),.sh (d (QmX : Int)),.sh (d (QmW : (List Int))),.sh (d (QmZ : Int)),.sh (d (Qnp : (List (Tx × Int)))),.no,.ow (d (Qny : (List (Tx × Int)))),.no,.sh (d (Qnu : (List (Tx × Int)))),.sh (d (Qnz : Int)),.no,.no]) rfl (Qq (env':=[.bo (d (v_sheet : TSheet)),.sh (d (Qnc : Int)),.sh (d (QmX : Int)),.sh (d (QmW : (List Int))),.sh (d (QmZ : Int)),.sh (d (Qnp : (List (Tx × Int)))),.no,.sh (d (Qny : (List (Tx × Int)))),.no,.sh (d (Qnu : (List (Tx × Int)))),.sh (d (Qnz : Int)),.no,.no]) rfl (ZW (cv (Qby (Ql QeX (JU (QN 0 rfl) (Qb 7 rfl) Qct) (Ql QbK (Qb 1 rfl) (Qb 4 rfl))) (Ql QeX (JU (QN 0 rfl) (Qb 9 rfl) Qct) (Ql QbK (Qb 1 rfl) (Qb 10 rfl)))) (by first | with_reducible rfl | simp only [Zr,Jw,Zq,Zd,ZA,ZY,Jx,ixL,ixS,ixD,slS,Jy,Zh,Zs,Zt,rgM,Jz,rgL,Q4,Q2,Z6,J1,ZZ,Zu]))
  (xF QbL)
  (Z5 (Qm (E:=(fun (Qn5 : (List Int)) => [.bo (d (v_sheet : TSheet)),.sh (d (Qnc : Int)),.sh (d (QmX : Int)),.sh (d (QmW : (List Int))),.sh (d (QmZ : Int)),.sh (d (Qnp : (List (Tx × Int)))),.no,.sh (d (Qny : (List (Tx × Int)))),.no,.sh (d (Qnu : (List (Tx × Int)))),.sh (d (Qnz : Int)),.sh (d (Qn5 : (List Int))),.no])) (Qt (cv (Ql J5 (Ql J5 (Ql J5 (Qcq Qd9 (Zw QQ (QN 0 rfl)) Qbq (Jk (Qb 2 rfl))) (Z2 (by decide) (ZV (Qb 4 rfl) (Z1 (α:=Int))))) (Qcq Qd9 (Zw QQ (QN 0 rfl)) (Jk (Ql QT (Qb 2 rfl) (Qu (a:=(1 : Int)) rfl))) Qbq)) (Z2 (by decide) (ZV (Qb 10 rfl) (Z1 (α:=Int))))) (by first | with_reducible rfl | simp only [Zr,Jw,Zq,Zd,ZA,ZY,Jx,ixL,ixS,ixD,slS,Jy,Zh,Zs,Zt,rgM,Jz,rgL,Q4,Q2,Z6,J1,ZZ,Zu])) (fun _ => rfl)) fun Qn5 =>
  (Qm (E:=(fun (QnV : (List (List (Tx × Int)))) => [.bo (d (v_sheet : TSheet)),.sh (d (Qnc : Int)),.sh (d (QmX : Int)),.sh (d (QmW : (List Int))),.sh (d (QmZ : Int)),.sh (d (Qnp : (List (Tx × Int)))),.no,.sh (d (Qny : (List (Tx × Int)))),.no,.sh (d (Qnu : (List (Tx × Int)))),.sh (d (Qnz : Int)),.sh (d (Qn5 : (List Int))),.sh (d (QnV : (List (List (Tx × Int)))))])) (Qt (cv (Ql J5 (Ql J5 (Ql J5 (Qcq Qd9 (Zw Zo (QN 0 rfl)) Qbq (Jk (Qb 2 rfl))) (Z2 (by decide) (ZV (Qb 7 rfl) (Z1 (α:=(List (Tx × Int))))))) (Qcq Qd9 (Zw Zo (QN 0 rfl)) (Jk (Ql QT (Qb 2 rfl) (Qu (a:=(1 : Int)) rfl))) Qbq)) (Z2 (by decide) (ZV (Qb 9 rfl) (Z1 (α:=(List (Tx × Int))))))) (by first | with_reducible rfl | simp only [Zr,Jw,Zq,Zd,ZA,ZY,Jx,ixL,ixS,ixD,slS,Jy,Zh,Zs,Zt,rgM,Jz,rgL,Q4,Q2,Z6,J1,ZZ,Zu])) (fun _ => rfl)) fun QnV =>
  (Qm (E:=(fun (QnW : (List (List (Tx × Int)))) => [.bo (d (v_sheet : TSheet)),.sh (d (Qnc : Int)),.sh (d (QmX : Int)),.sh (d (QmW : (List Int))),.sh (d (QmZ : Int)),.sh (d (Qnp : (List (Tx × Int)))),.no,.sh (d (Qny : (List (Tx × Int)))),.no,.sh (d (Qnu : (List (Tx × Int)))),.sh (d (Qnz : Int)),.sh (d (Qn5 : (List Int))),.ow (d (QnW : (List (List (Tx × Int)))))])) (ZM (cv (ZD (E:=(fun (a28 : (List (Tx × Int))) => [.bo (d (v_sheet : TSheet)),.sh (d (Qnc : Int)),.sh (d (QmX : Int)),.sh (d (QmW : (List Int))),.sh (d (QmZ : Int)),.sh (d (a28 : (List (Tx × Int)))),.no,.sh (d (Qny : (List (Tx × Int)))),.no,.sh (d (Qnu : (List (Tx × Int)))),.sh (d (Qnz : Int)),.sh (d (Qn5 : (List Int))),.sh (d (QnV : (List (List (Tx × Int)))))])) (k:=(fun (a28 : (List (Tx × Int))) => (Qax a28 QmX (List.length v_sheet.homes : Int)))) (ZG (Qb 12 rfl)) rfl (fun _ => rfl) (fun a28 => cv (ZT (Qb 5 rfl) (Qb 2 rfl) (Qs JV (Zw Zn (QN 0 rfl))) Qfc))) (by first | with_reducible rfl | simp only [Zr,Jw,Zq,Zd,ZA,ZY,Jx,ixL,ixS,ixD,slS,Jy,Zh,Zs,Zt,rgM,Jz,rgL,Q4,Q2,Z6,J1,ZZ,Zu])) (fun _ => rfl)) fun QnW =>
  (Qq (env':=[.bo (d (v_sheet : TSheet)),.sh (d (Qnc : Int)),.sh (d (QmX : Int)),.sh (d (QmW : (List Int))),.sh (d (QmZ : Int)),.sh (d (Qnp : (List (Tx × Int)))),.no,.sh (d (Qny : (List (Tx × Int)))),.no,.sh (d (Qnu : (List (Tx × Int)))),.sh (d (Qnz : Int)),.sh (d (Qn5 : (List Int))),.sh (d (QnW : (List (List (Tx × Int)))))]) rfl (QX (cv (QgQ (Ql J5 (Zw Zn (QN 0 rfl)) (QdU (Ql Z4 (Zw Zn (QN 0 rfl)) (Qb 2 rfl)))) (Qb 11 rfl) (Qb 12 rfl) (fun _ _ _ => rfl) Qcy) (by first | with_reducible rfl | simp only [Zr,Jw,Zq,Zd,ZA,ZY,Jx,ixL,ixS,ixD,slS,Jy,Zh,Zs,Zt,rgM,Jz,rgL,Q4,Q2,Z6,J1,ZZ,Zu])))))))))))))))))))))
def JZ (Qnr : TSheet) (Qnc : Int) (QmX : Int) (QmW : (List Int)) (QmZ : Int) : M (Int × (Option TSheet)):=
  (M.bind (M.ok ((fun (_ : Unit) => (none : (Option Exc))) ())) fun QnD =>
  (M.bind (M.ok ((fun (_ : Unit) => (none : (Option TSheet))) ())) fun QnI =>
  (M.bind (Qlk Jo
  (M.bind (M.bind (QbS Qnr Qnc QmX QmW QmZ) fun x3 => M.ok ((fun (a : TSheet) => some ((fun (a : TSheet) => a) a)) x3)) fun Qn6 => M.ok (QnD,Qn6)) fun (e5 : Exc) =>
  (M.bind (M.ok ((fun (a : Exc) => some ((fun (a : Exc) => a) a)) e5)) fun QnX =>
  (M.ok (QnX,QnI)))) fun s7 =>
  (M.bind (M.ok (Option.isNone s7.1)) fun c8 => if c8 then
  (M.ok ((0 : Int),s7.2)) else
  (M.bind (M.bind (M.bind (Qbb QaD s7.1) fun x9 => M.ok (!x9)) fun x11 => if x11 then M.ok true else (M.bind (Qbb Jn s7.1) fun x10 => M.ok (!x10))) fun c12 => if c12 then
  (M.ok ((2 : Int),((fun (_ : Unit) => (none : (Option TSheet))) ()))) else
  (M.bind (M.bind (Qbb Qaj s7.1) fun x14 => if x14 then M.ok true else (M.bind (Qbb QaC s7.1) fun x13 => if x13 then M.ok true else (Qbb Qbs s7.1))) fun c15 => if c15 then
  (M.ok ((2 : Int),((fun (_ : Unit) => (none : (Option TSheet))) ()))) else
  (M.bind (M.bind (M.bind (M.bind (Qbb QcB s7.1) fun x16 => if x16 then M.ok true else (Qbb QaE s7.1)) fun x17 => M.ok (if x17 then (1 : Int) else 0)) fun x18 => M.ok ((1 : Int) + x18)) fun x19 => M.ok (x19,((fun (_ : Unit) => (none : (Option TSheet))) ())))))))))
theorem Qe7 (Qnr : TSheet) (Qnc : Int) (QmX : Int) (QmW : (List Int)) (QmZ : Int) : Ref (QaF [d Qnr,d Qnc,d QmX,d QmW,d QmZ]) (JZ Qnr Qnc QmX QmW QmZ):=
  J6
  (Qm (E:=(fun (QnD : (Option Exc)) => [.sh (d (Qnr : TSheet)),.sh (d (Qnc : Int)),.sh (d (QmX : Int)),.sh (d (QmW : (List Int))),.sh (d (QmZ : Int)),.sh (d (QnD : (Option Exc))),.no,.no])) (Qt (cv (Qb6 (fun (_ : Unit) => (none : (Option Exc))) (fun _ => rfl) (Qu (a:=()) rfl))) (fun _ => rfl)) fun QnD =>
  (Qm (E:=(fun (QnI : (Option TSheet)) => [.sh (d (Qnr : TSheet)),.sh (d (Qnc : Int)),.sh (d (QmX : Int)),.sh (d (QmW : (List Int))),.sh (d (QmZ : Int)),.sh (d (QnD : (Option Exc))),.sh (d (QnI : (Option TSheet))),.no])) (Qt (cv (Qb6 (fun (_ : Unit) => (none : (Option TSheet))) (fun _ => rfl) (Qu (a:=()) rfl))) (fun _ => rfl)) fun QnI =>
  (Qm (E:=(fun (q : ((Option Exc) × (Option TSheet))) => [.sh (d (Qnr : TSheet)),.sh (d (Qnc : Int)),.sh (d (QmX : Int)),.sh (d (QmW : (List Int))),.sh (d (QmZ : Int)),.sh (d (q.1 : (Option Exc))),.sh (d (q.2 : (Option TSheet))),.no])) (QhO (E:=(fun (q : ((Option Exc) × (Option TSheet))) => [.sh (d (Qnr : TSheet)),.sh (d (Qnc : Int)),.sh (d (QmX : Int)),.sh (d (QmW : (List Int))),.sh (d (QmZ : Int)),.sh (d (q.1 : (Option Exc))),.sh (d (q.2 : (Option TSheet))),.no])) (Eg:=fun e5 => (fun (q : ((Option Exc) × (Option TSheet))) => [.sh (d (Qnr : TSheet)),.sh (d (Qnc : Int)),.sh (d (QmX : Int)),.sh (d (QmW : (List Int))),.sh (d (QmZ : Int)),.sh (d (q.1 : (Option Exc))),.sh (d (q.2 : (Option TSheet))),.sh (d (e5 : Exc))])) (Eh:=(fun (e5 : Exc) => [.sh (d (Qnr : TSheet)),.sh (d (Qnc : Int)),.sh (d (QmX : Int)),.sh (d (QmW : (List Int))),.sh (d (QmZ : Int)),.sh (d (QnD : (Option Exc))),.sh (d (QnI : (Option TSheet))),.sh (d (e5 : Exc))]))
  (QhP (E:=(fun (q : ((Option Exc) × (Option TSheet))) => [.sh (d (Qnr : TSheet)),.sh (d (Qnc : Int)),.sh (d (QmX : Int)),.sh (d (QmW : (List Int))),.sh (d (QmZ : Int)),.sh (d (q.1 : (Option Exc))),.sh (d (q.2 : (Option TSheet))),.no])) (k:=fun (Qn6 : (Option TSheet)) => (QnD,Qn6)) (cv (Qb6 (fun (a : TSheet) => some ((fun (a : TSheet) => a) a)) (fun _ => rfl) (QeU (Qb 0 rfl) (Qb 1 rfl) (Qb 2 rfl) (Qb 3 rfl) (Qb 4 rfl) Qe6))) (fun _ => rfl)) (fun _ => rfl) (fun e5 =>
  (Qm (E:=(fun (QnX : (Option Exc)) => [.sh (d (Qnr : TSheet)),.sh (d (Qnc : Int)),.sh (d (QmX : Int)),.sh (d (QmW : (List Int))),.sh (d (QmZ : Int)),.sh (d (QnX : (Option Exc))),.sh (d (QnI : (Option TSheet))),.sh (d (e5 : Exc))])) (Qt (cv (Qb6 (fun (a : Exc) => some ((fun (a : Exc) => a) a)) (fun _ => rfl) (Qb 7 rfl))) (fun _ => rfl)) fun QnX =>
  (QB (E:=(fun (q : ((Option Exc) × (Option TSheet))) => [.sh (d (Qnr : TSheet)),.sh (d (Qnc : Int)),.sh (d (QmX : Int)),.sh (d (QmW : (List Int))),.sh (d (QmZ : Int)),.sh (d (q.1 : (Option Exc))),.sh (d (q.2 : (Option TSheet))),.sh (d (e5 : Exc))])) (s:=(QnX,QnI)) rfl))) (fun _ _ => rfl)) fun s7 =>
  (ZW (cv (Ql QmL (Qb 5 rfl) (Qu (a:=()) rfl)))
  (xF (QX (cv (Jl (Qu (a:=(0 : Int)) rfl) (Qb 6 rfl)))))
  (Z5 (ZW (cv (Qby (ZU (Qa8 (Qb 5 rfl))) (ZU (Qa8 (Qb 5 rfl)))))
  (xF (QX (cv (Jl (Qu (a:=(2 : Int)) rfl) (Qb6 (fun (_ : Unit) => (none : (Option TSheet))) (fun _ => rfl) (Qu (a:=()) rfl))))))
  (Z5 (ZW (cv (Qby (Qa8 (Qb 5 rfl)) (Qby (Qa8 (Qb 5 rfl)) (Qa8 (Qb 5 rfl)))))
  (xF (QX (cv (Jl (Qu (a:=(2 : Int)) rfl) (Qb6 (fun (_ : Unit) => (none : (Option TSheet))) (fun _ => rfl) (Qu (a:=()) rfl))))))
  (Z5 (QX (cv (Jl (Ql QT (Qu (a:=(1 : Int)) rfl) (Qs QgS (Qby (Qa8 (Qb 5 rfl)) (Qa8 (Qb 5 rfl))))) (Qb6 (fun (_ : Unit) => (none : (Option TSheet))) (fun _ => rfl) (Qu (a:=()) rfl))))))))))))))
def Qbh (Qnb : Int) (q9 : ((P3 (List Tx) (List Int) (List (List (Tx × Int)))))) (a10 : Int) : M (Ot ((P3 (List Tx) (List Int) (List (List (Tx × Int))))) Bool):=
  (M.bind (M.ok q9) fun p11 =>
  (M.bind (JH a10 p11.b p11.c Qnb) fun p12 =>
  (M.bind (Ji p11.c p11.b p12.a p12.b) fun p13 =>
  (M.bind (M.bind (ixL p11.b p12.a) fun x15 => M.ok (x15 - p12.c)) fun Qnh =>
  (M.bind (M.ok ((!eqT p13.a ([] : List (Tx × Int))) && ((!eqT p13.b ([] : List (Tx × Int))) && ((decide ((0 : Int) < p12.c)) && (decide ((0 : Int) < Qnh)))))) fun QnB =>
  (M.bind (M.bind (M.ok QnB) fun x23 => if x23 then (M.bind (M.bind (ixL p13.c (0 : Int)) fun x18 => (M.bind (Zd Qnb p12.c) fun x19 => M.ok (decide (x19 ≤ x18)))) fun x22 => if x22 then (M.bind (ixL p13.c (1 : Int)) fun x20 => (M.bind (Zd Qnb Qnh) fun x21 => M.ok (decide (x21 ≤ x20)))) else M.ok false) else M.ok false) fun Qni =>
  (M.bind (Qhc (M.ok p11.a) (M.ok p11.b) (Q4 (fun (a24 : (List (Tx × Int))) => (M.ok a24)) p11.c) (fun a b c => mkM (ZN a b c)) (fun _ => (M.ok (("aaa".toList : Tx),(0 : Int))))) fun Qnd =>
  (M.bind (M.ok p12.b) fun Qne =>
  (M.bind (JZ Qnd Qnb p12.a Qne p12.c) fun Qna =>
  (M.bind (M.bind (M.ok (!eqT Qna.1 (if (!Qni) then (1 : Int) else 0))) fun x30 => if x30 then M.ok true else (M.bind (M.bind (Za Qnd q9) fun x28 => M.ok (!x28)) fun x29 => if x29 then M.ok true else (M.ok (!eqT Qne p12.b)))) fun c31 => if c31 then
  (M.bind (M.ok false) fun r32 => M.ok (Ot.rt r32)) else
  (M.bind (M.ok Qni) fun c33 => if c33 then
  (M.bind (Jr p11.a p11.b p11.c p12.a p12.b p12.c) fun Qno =>
  (M.bind (M.bind (M.bind (oM Qna.2) fun x35 => (Za x35 Qno)) fun x36 => M.ok (!x36)) fun c37 => if c37 then
  (M.bind (M.ok false) fun r38 => M.ok (Ot.rt r38)) else
  (M.bind (M.bind (M.bind (Za Qnd q9) fun x39 => M.ok (!x39)) fun x42 => if x42 then M.ok true else (M.bind (M.bind (QbS Qnd Qnb p12.a Qne p12.c) fun x40 => (Za x40 Qno)) fun x41 => M.ok (!x41))) fun c43 => if c43 then
  (M.bind (M.ok false) fun r44 => M.ok (Ot.rt r44)) else
  (M.bind (M.bind (M.ok (decide ((List.length p11.a : Int) < (9 : Int)))) fun c45 => if c45 then
  (M.bind (M.ok Qno) fun Qog =>
  (M.ok Qog)) else
  (M.ok q9)) fun s47 =>
  (M.ok (Ot.nx s47)))))) else
  (M.ok (Ot.nx q9)))))))))))))
def Qhh (v_script : Scr) : M Bool:=
  (M.bind (M.bind (Jh v_script (0 : Int)) fun x2 => (M.bind (Jh v_script (1 : Int)) fun x3 => (J2 x2 x3))) fun Qoa =>
  (M.bind (M.bind (M.bind (Jh v_script (2 : Int)) fun x5 => M.ok (x5 % 7)) fun x6 => M.ok ((2 : Int) + x6)) fun Qnb =>
  (M.bind (M.bind (M.bind (M.bind (Jh v_script (3 : Int)) fun x7 => M.ok ([x7] : List Int)) fun x8 => (Zq x8 (cut v_script.ns (some (4 : Int)) (some (14 : Int))))) fun l49 => Qcf (Qbh Qnb) l49 Qoa) fun y50 => y50.f fun s48 =>
  (M.ok true))))
theorem Qjw (v_script : Scr) : Ref (Qhf [d v_script]) (Qhh v_script):=
  J6
  (Qm (E:=(fun (Qoa : (P3 (List Tx) (List Int) (List (List (Tx × Int))))) => [.sh (d (v_script : Scr)),.sh (d (Qoa : (P3 (List Tx) (List Int) (List (List (Tx × Int)))))),.no,.no,.no,.no,.no,.no,.no,.no,.no,.no,.no,.no,.no,.no,.no,.no,.no,.no,.no,.no])) (Qt (cv (JU (JU (Qb 0 rfl) (Qu (a:=(0 : Int)) rfl) QaG) (JU (Qb 0 rfl) (Qu (a:=(1 : Int)) rfl) QaG) QdZ)) (fun _ => rfl)) fun Qoa =>
  (Qm (E:=(fun (Qnb : Int) => [.sh (d (v_script : Scr)),.sh (d (Qoa : (P3 (List Tx) (List Int) (List (List (Tx × Int)))))),.sh (d (Qnb : Int)),.no,.no,.no,.no,.no,.no,.no,.no,.no,.no,.no,.no,.no,.no,.no,.no,.no,.no,.no])) (Qt (cv (Ql QT (Qu (a:=(2 : Int)) rfl) (JF (JU (Qb 0 rfl) (Qu (a:=(2 : Int)) rfl) QaG)))) (fun _ => rfl)) fun Qnb =>
  (Qf5 (E:=(fun (q : ((P3 (List Tx) (List Int) (List (List (Tx × Int)))))) => [.sh (d (v_script : Scr)),.sh (d (q : (P3 (List Tx) (List Int) (List (List (Tx × Int)))))),.sh (d (Qnb : Int)),.no,.no,.no,.no,.no,.no,.no,.no,.no,.no,.no,.no,.no,.no,.no,.no,.no,.no,.no])) (QgV (E:=(fun (q : ((P3 (List Tx) (List Int) (List (List (Tx × Int)))))) => [.sh (d (v_script : Scr)),.sh (d (q : (P3 (List Tx) (List Int) (List (List (Tx × Int)))))),.sh (d (Qnb : Int)),.no,.no,.no,.no,.no,.no,.no,.no,.no,.no,.no,.no,.no,.no,.no,.no,.no,.no,.no])) (E':=(fun (q9 : ((P3 (List Tx) (List Int) (List (List (Tx × Int)))))) (a10 : Int) => [.sh (d (v_script : Scr)),.sh (d (q9 : (P3 (List Tx) (List Int) (List (List (Tx × Int)))))),.sh (d (Qnb : Int)),.sh (d (a10 : Int)),.no,.no,.no,.no,.no,.no,.no,.no,.no,.no,.no,.no,.no,.no,.no,.no,.no,.no])) Qoa rfl (cv (ZG (Ql J5 (QdU (JU (Qb 0 rfl) (Qu (a:=(3 : Int)) rfl) QaG)) (Qcq Qf3 (Qb 0 rfl) (Jk (Qu (a:=(4 : Int)) rfl)) (Jk (Qu (a:=(14 : Int)) rfl)))))) (fun _ _ => rfl) fun q9 a10 =>
  (Qm (E:=(fun (p11 : (P3 (List Tx) (List Int) (List (List (Tx × Int))))) => [.sh (d (v_script : Scr)),.sh (d (q9 : (P3 (List Tx) (List Int) (List (List (Tx × Int)))))),.sh (d (Qnb : Int)),.sh (d (a10 : Int)),.sh (d (p11.a : (List Tx))),.sh (d (p11.b : (List Int))),.sh (d (p11.c : (List (List (Tx × Int))))),.no,.no,.no,.no,.no,.no,.no,.no,.no,.no,.no,.no,.no,.no,.no])) (Qt (cv (Qb 1 rfl)) (fun _ => rfl)) fun p11 =>
  (Qm (E:=(fun (p12 : (P3 Int (List Int) Int)) => [.sh (d (v_script : Scr)),.sh (d (q9 : (P3 (List Tx) (List Int) (List (List (Tx × Int)))))),.sh (d (Qnb : Int)),.sh (d (a10 : Int)),.sh (d (p11.a : (List Tx))),.sh (d (p11.b : (List Int))),.sh (d (p11.c : (List (List (Tx × Int))))),.sh (d (p12.a : Int)),.sh (d (p12.b : (List Int))),.sh (d (p12.c : Int)),.no,.no,.no,.no,.no,.no,.no,.no,.no,.no,.no,.no])) (Qt (cv (QdO (Qb 3 rfl) (Qb 5 rfl) (Qb 6 rfl) (Qb 2 rfl) Qdp)) (fun _ => rfl)) fun p12 =>
  (Qm (E:=(fun (p13 : (P3 (List (Tx × Int)) (List (Tx × Int)) (List Int))) => [.sh (d (v_script : Scr)),.sh (d (q9 : (P3 (List Tx) (List Int) (List (List (Tx × Int)))))),.sh (d (Qnb : Int)),.sh (d (a10 : Int)),.sh (d (p11.a : (List Tx))),.sh (d (p11.b : (List Int))),.sh (d (p11.c : (List (List (Tx × Int))))),.sh (d (p12.a : Int)),.sh (d (p12.b : (List Int))),.sh (d (p12.c : Int)),.sh (d (p13.a : (List (Tx × Int)))),.sh (d (p13.b : (List (Tx × Int)))),.sh (d (p13.c : (List Int))),.no,.no,.no,.no,.no,.no,.no,.no,.no])) (Qt (cv (QdO (Qb 6 rfl) (Qb 5 rfl) (Qb 7 rfl) (Qb 8 rfl) Qbg)) (fun _ => rfl)) fun p13 =>
  (Qm (E:=(fun (Qnh : Int) => [.sh (d (v_script : Scr)),.sh (d (q9 : (P3 (List Tx) (List Int) (List (List (Tx × Int)))))),.sh (d (Qnb : Int)),.sh (d (a10 : Int)),.sh (d (p11.a : (List Tx))),.sh (d (p11.b : (List Int))),.sh (d (p11.c : (List (List (Tx × Int))))),.sh (d (p12.a : Int)),.sh (d (p12.b : (List Int))),.sh (d (p12.c : Int)),.sh (d (p13.a : (List (Tx × Int)))),.sh (d (p13.b : (List (Tx × Int)))),.sh (d (p13.c : (List Int))),.sh (d (Qnh : Int)),.no,.no,.no,.no,.no,.no,.no,.no])) (Qt (cv (Ql Qf1 (Ql Z4 (Qb 5 rfl) (Qb 7 rfl)) (Qb 9 rfl))) (fun _ => rfl)) fun Qnh =>
  (Qm (E:=(fun (QnB : Bool) => [.sh (d (v_script : Scr)),.sh (d (q9 : (P3 (List Tx) (List Int) (List (List (Tx × Int)))))),.sh (d (Qnb : Int)),.sh (d (a10 : Int)),.sh (d (p11.a : (List Tx))),.sh (d (p11.b : (List Int))),.sh (d (p11.c : (List (List (Tx × Int))))),.sh (d (p12.a : Int)),.sh (d (p12.b : (List Int))),.sh (d (p12.c : Int)),.sh (d (p13.a : (List (Tx × Int)))),.sh (d (p13.b : (List (Tx × Int)))),.sh (d (p13.c : (List Int))),.sh (d (Qnh : Int)),.sh (d (QnB : Bool)),.no,.no,.no,.no,.no,.no,.no])) (Qt (cv (Qc8 (Ql QhJ (Qb 10 rfl) (Z2 (by decide) (Z1 (α:=(Tx × Int))))) (Qc8 (Ql QhJ (Qb 11 rfl) (Z2 (by decide) (Z1 (α:=(Tx × Int))))) (Qc8 (Ql Qlf (Qb 9 rfl) (Qu (a:=(0 : Int)) rfl)) (Ql Qlf (Qb 13 rfl) (Qu (a:=(0 : Int)) rfl)))))) (fun _ => rfl)) fun QnB =>
  (Qm (E:=(fun (Qni : Bool) => [.sh (d (v_script : Scr)),.sh (d (q9 : (P3 (List Tx) (List Int) (List (List (Tx × Int)))))),.sh (d (Qnb : Int)),.sh (d (a10 : Int)),.sh (d (p11.a : (List Tx))),.sh (d (p11.b : (List Int))),.sh (d (p11.c : (List (List (Tx × Int))))),.sh (d (p12.a : Int)),.sh (d (p12.b : (List Int))),.sh (d (p12.c : Int)),.sh (d (p13.a : (List (Tx × Int)))),.sh (d (p13.b : (List (Tx × Int)))),.sh (d (p13.c : (List Int))),.sh (d (Qnh : Int)),.sh (d (Qni : Bool)),.no,.no,.no,.no,.no,.no,.no])) (Qt (cv (QeV (Qb 14 rfl) (QeV (Ql QhI (Ql Z4 (Qb 12 rfl) (Qu (a:=(0 : Int)) rfl)) (Ql QbK (Qb 2 rfl) (Qb 9 rfl))) (Ql QhI (Ql Z4 (Qb 12 rfl) (Qu (a:=(1 : Int)) rfl)) (Ql QbK (Qb 2 rfl) (Qb 13 rfl)))))) (fun _ => rfl)) fun Qni =>
  (Qm (E:=(fun (Qnd : TSheet) => [.sh (d (v_script : Scr)),.sh (d (q9 : (P3 (List Tx) (List Int) (List (List (Tx × Int)))))),.sh (d (Qnb : Int)),.sh (d (a10 : Int)),.sh (d (p11.a : (List Tx))),.sh (d (p11.b : (List Int))),.sh (d (p11.c : (List (List (Tx × Int))))),.sh (d (p12.a : Int)),.sh (d (p12.b : (List Int))),.sh (d (p12.c : Int)),.sh (d (p13.a : (List (Tx × Int)))),.sh (d (p13.b : (List (Tx × Int)))),.sh (d (p13.c : (List Int))),.sh (d (Qnh : Int)),.sh (d (Qni : Bool)),.no,.no,.sh (d (Qnd : TSheet)),.no,.no,.no,.no])) (Qhd (cv (Qs Qbd (Qb 4 rfl))) (cv (Qs Qbd (Qb 5 rfl))) (cv (ZD (E:=(fun (a24 : (List (Tx × Int))) => [.sh (d (v_script : Scr)),.sh (d (q9 : (P3 (List Tx) (List Int) (List (List (Tx × Int)))))),.sh (d (Qnb : Int)),.sh (d (a10 : Int)),.sh (d (p11.a : (List Tx))),.sh (d (p11.b : (List Int))),.sh (d (p11.c : (List (List (Tx × Int))))),.sh (d (p12.a : Int)),.sh (d (p12.b : (List Int))),.sh (d (p12.c : Int)),.sh (d (p13.a : (List (Tx × Int)))),.sh (d (p13.b : (List (Tx × Int)))),.sh (d (p13.c : (List Int))),.sh (d (Qnh : Int)),.sh (d (Qni : Bool)),.no,.sh (d (a24 : (List (Tx × Int)))),.no,.no,.no,.no,.no])) (k:=(fun (a24 : (List (Tx × Int))) => (M.ok a24))) (ZG (Qb 6 rfl)) rfl (fun _ => rfl) (fun a24 => cv (Qs Qbd (Qb 16 rfl))))) Qju QhQ QhR Qgd (fun a b c => Qhg a b c rfl) (fun _ => cv (Jl (QdQ (x:="aaa".toList) (QdN _)) (Qu (a:=(0 : Int)) rfl))) rfl rfl rfl (fun _ => rfl)) fun Qnd =>
  (Qm (E:=(fun (Qne : (List Int)) => [.sh (d (v_script : Scr)),.sh (d (q9 : (P3 (List Tx) (List Int) (List (List (Tx × Int)))))),.sh (d (Qnb : Int)),.sh (d (a10 : Int)),.sh (d (p11.a : (List Tx))),.sh (d (p11.b : (List Int))),.sh (d (p11.c : (List (List (Tx × Int))))),.sh (d (p12.a : Int)),.sh (d (p12.b : (List Int))),.sh (d (p12.c : Int)),.sh (d (p13.a : (List (Tx × Int)))),.sh (d (p13.b : (List (Tx × Int)))),.sh (d (p13.c : (List Int))),.sh (d (Qnh : Int)),.sh (d (Qni : Bool)),.no,.no,.sh (d (Qnd : TSheet)),.no,.sh (d (Qne : (List Int))),.no,.no])) (Qt (cv (Qs Qbd (Qb 8 rfl))) (fun _ => rfl)) fun Qne =>
  (Qm (E:=(fun (Qna : (Int × (Option TSheet))) => [.sh (d (v_script : Scr)),.sh (d (q9 : (P3 (List Tx) (List Int) (List (List (Tx × Int)))))),.sh (d (Qnb : Int)),.sh (d (a10 : Int)),.sh (d (p11.a : (List Tx))),.sh (d (p11.b : (List Int))),.sh (d (p11.c : (List (List (Tx × Int))))),.sh (d (p12.a : Int)),.sh (d (p12.b : (List Int))),.sh (d (p12.c : Int)),.sh (d (p13.a : (List (Tx × Int)))),.sh (d (p13.b : (List (Tx × Int)))),.sh (d (p13.c : (List Int))),.sh (d (Qnh : Int)),.sh (d (Qni : Bool)),.no,.no,.sh (d (Qnd : TSheet)),.no,.sh (d (Qne : (List Int))),.sh (d (Qna : (Int × (Option TSheet)))),.no])) (Qt (cv (QeU (Qb 17 rfl) (Qb 2 rfl) (Qb 7 rfl) (Qb 19 rfl) (Qb 9 rfl) Qe7)) (fun _ => rfl)) fun Qna =>
  (ZW (cv (Qby (Ql QhJ (Qjr (Qb 20 rfl)) (Qs QgS (ZU (Qb 14 rfl)))) (Qby (ZU (JU (Qb 17 rfl) (Qb 1 rfl) ZL)) (Ql QhJ (Qb 19 rfl) (Qb 8 rfl)))))
  (QdS (E:=(fun (q : ((P3 (List Tx) (List Int) (List (List (Tx × Int)))))) => [.sh (d (v_script : Scr)),.sh (d (q : (P3 (List Tx) (List Int) (List (List (Tx × Int)))))),.sh (d (Qnb : Int)),.no,.no,.no,.no,.no,.no,.no,.no,.no,.no,.no,.no,.no,.no,.no,.no,.no,.no,.no])) (QX (cv (Qu (a:=false) rfl))))
  (Z5 (QbM (cv (Qb 14 rfl))
  (Qm (E:=(fun (Qno : (P3 (List Tx) (List Int) (List (List (Tx × Int))))) => [.sh (d (v_script : Scr)),.sh (d (q9 : (P3 (List Tx) (List Int) (List (List (Tx × Int)))))),.sh (d (Qnb : Int)),.sh (d (a10 : Int)),.sh (d (p11.a : (List Tx))),.sh (d (p11.b : (List Int))),.sh (d (p11.c : (List (List (Tx × Int))))),.sh (d (p12.a : Int)),.sh (d (p12.b : (List Int))),.sh (d (p12.c : Int)),.sh (d (p13.a : (List (Tx × Int)))),.sh (d (p13.b : (List (Tx × Int)))),.sh (d (p13.c : (List Int))),.sh (d (Qnh : Int)),.sh (d (Qni : Bool)),.no,.no,.sh (d (Qnd : TSheet)),.no,.sh (d (Qne : (List Int))),.sh (d (Qna : (Int × (Option TSheet)))),.sh (d (Qno : (P3 (List Tx) (List Int) (List (List (Tx × Int))))))])) (Qt (cv (Qjk (Qb 4 rfl) (Qb 5 rfl) (Qb 6 rfl) (Qb 7 rfl) (Qb 8 rfl) (Qb 9 rfl) Qdh)) (fun _ => rfl)) fun Qno =>
  (ZW (cv (ZU (JU (Qha (Qjs (Qb 20 rfl))) (Qb 21 rfl) ZL)))
  (QdS (E:=(fun (q : ((P3 (List Tx) (List Int) (List (List (Tx × Int)))))) => [.sh (d (v_script : Scr)),.sh (d (q : (P3 (List Tx) (List Int) (List (List (Tx × Int)))))),.sh (d (Qnb : Int)),.no,.no,.no,.no,.no,.no,.no,.no,.no,.no,.no,.no,.no,.no,.no,.no,.no,.no,.no])) (QX (cv (Qu (a:=false) rfl))))
  (Z5 (ZW (cv (Qby (ZU (JU (Qb 17 rfl) (Qb 1 rfl) ZL)) (ZU (JU (QeU (Qb 17 rfl) (Qb 2 rfl) (Qb 7 rfl) (Qb 19 rfl) (Qb 9 rfl) Qe6) (Qb 21 rfl) ZL))))
  (QdS (E:=(fun (q : ((P3 (List Tx) (List Int) (List (List (Tx × Int)))))) => [.sh (d (v_script : Scr)),.sh (d (q : (P3 (List Tx) (List Int) (List (List (Tx × Int)))))),.sh (d (Qnb : Int)),.no,.no,.no,.no,.no,.no,.no,.no,.no,.no,.no,.no,.no,.no,.no,.no,.no,.no,.no])) (QX (cv (Qu (a:=false) rfl))))
  (Z5 (Qm (E:=(fun (q : ((P3 (List Tx) (List Int) (List (List (Tx × Int)))))) => [.sh (d (v_script : Scr)),.sh (d (q : (P3 (List Tx) (List Int) (List (List (Tx × Int)))))),.sh (d (Qnb : Int)),.sh (d (a10 : Int)),.sh (d (p11.a : (List Tx))),.sh (d (p11.b : (List Int))),.sh (d (p11.c : (List (List (Tx × Int))))),.sh (d (p12.a : Int)),.sh (d (p12.b : (List Int))),.sh (d (p12.c : Int)),.sh (d (p13.a : (List (Tx × Int)))),.sh (d (p13.b : (List (Tx × Int)))),.sh (d (p13.c : (List Int))),.sh (d (Qnh : Int)),.sh (d (Qni : Bool)),.no,.no,.sh (d (Qnd : TSheet)),.no,.sh (d (Qne : (List Int))),.sh (d (Qna : (Int × (Option TSheet)))),.sh (d (Qno : (P3 (List Tx) (List Int) (List (List (Tx × Int))))))])) (QbM (cv (Ql QeX (Qs JV (Qb 4 rfl)) (Qu (a:=(9 : Int)) rfl)))
  (Qm (E:=(fun (Qog : (P3 (List Tx) (List Int) (List (List (Tx × Int))))) => [.sh (d (v_script : Scr)),.sh (d (Qog : (P3 (List Tx) (List Int) (List (List (Tx × Int)))))),.sh (d (Qnb : Int)),.sh (d (a10 : Int)),.sh (d (p11.a : (List Tx))),.sh (d (p11.b : (List Int))),.sh (d (p11.c : (List (List (Tx × Int))))),.sh (d (p12.a : Int)),.sh (d (p12.b : (List Int))),.sh (d (p12.c : Int)),.sh (d (p13.a : (List (Tx × Int)))),.sh (d (p13.b : (List (Tx × Int)))),.sh (d (p13.c : (List Int))),.sh (d (Qnh : Int)),.sh (d (Qni : Bool)),.no,.no,.sh (d (Qnd : TSheet)),.no,.sh (d (Qne : (List Int))),.sh (d (Qna : (Int × (Option TSheet)))),.sh (d (Qno : (P3 (List Tx) (List Int) (List (List (Tx × Int))))))])) (Qt (cv (Qb 21 rfl)) (fun _ => rfl)) fun Qog =>
  (QB (E:=(fun (q : ((P3 (List Tx) (List Int) (List (List (Tx × Int)))))) => [.sh (d (v_script : Scr)),.sh (d (q : (P3 (List Tx) (List Int) (List (List (Tx × Int)))))),.sh (d (Qnb : Int)),.sh (d (a10 : Int)),.sh (d (p11.a : (List Tx))),.sh (d (p11.b : (List Int))),.sh (d (p11.c : (List (List (Tx × Int))))),.sh (d (p12.a : Int)),.sh (d (p12.b : (List Int))),.sh (d (p12.c : Int)),.sh (d (p13.a : (List (Tx × Int)))),.sh (d (p13.b : (List (Tx × Int)))),.sh (d (p13.c : (List Int))),.sh (d (Qnh : Int)),.sh (d (Qni : Bool)),.no,.no,.sh (d (Qnd : TSheet)),.no,.sh (d (Qne : (List Int))),.sh (d (Qna : (Int × (Option TSheet)))),.sh (d (Qno : (P3 (List Tx) (List Int) (List (List (Tx × Int))))))])) (s:=Qog) rfl))
  (QB (E:=(fun (q : ((P3 (List Tx) (List Int) (List (List (Tx × Int)))))) => [.sh (d (v_script : Scr)),.sh (d (q : (P3 (List Tx) (List Int) (List (List (Tx × Int)))))),.sh (d (Qnb : Int)),.sh (d (a10 : Int)),.sh (d (p11.a : (List Tx))),.sh (d (p11.b : (List Int))),.sh (d (p11.c : (List (List (Tx × Int))))),.sh (d (p12.a : Int)),.sh (d (p12.b : (List Int))),.sh (d (p12.c : Int)),.sh (d (p13.a : (List (Tx × Int)))),.sh (d (p13.b : (List (Tx × Int)))),.sh (d (p13.c : (List Int))),.sh (d (Qnh : Int)),.sh (d (Qni : Bool)),.no,.no,.sh (d (Qnd : TSheet)),.no,.sh (d (Qne : (List Int))),.sh (d (Qna : (Int × (Option TSheet)))),.sh (d (Qno : (P3 (List Tx) (List Int) (List (List (Tx × Int))))))])) (s:=q9) rfl)) fun s47 =>
  (Qq (env':=[.sh (d (v_script : Scr)),.sh (d (s47 : (P3 (List Tx) (List Int) (List (List (Tx × Int)))))),.sh (d (Qnb : Int)),.no,.sh (d (p11.a : (List Tx))),.sh (d (p11.b : (List Int))),.sh (d (p11.c : (List (List (Tx × Int))))),.sh (d (p12.a : Int)),.sh (d (p12.b : (List Int))),.sh (d (p12.c : Int)),.sh (d (p13.a : (List (Tx × Int)))),.sh (d (p13.b : (List (Tx × Int)))),.sh (d (p13.c : (List Int))),.sh (d (Qnh : Int)),.sh (d (Qni : Bool)),.no,.no,.sh (d (Qnd : TSheet)),.no,.sh (d (Qne : (List Int))),.sh (d (Qna : (Int × (Option TSheet)))),.sh (d (Qno : (P3 (List Tx) (List Int) (List (List (Tx × Int))))))]) rfl (Qq (env':=[.sh (d (v_script : Scr)),.sh (d (s47 : (P3 (List Tx) (List Int) (List (List (Tx × Int)))))),.sh (d (Qnb : Int)),.no,.no,.sh (d (p11.b : (List Int))),.sh (d (p11.c : (List (List (Tx × Int))))),.sh (d (p12.a : Int)),.sh (d (p12.b : (List Int))),.sh (d (p12.c : Int)),.sh (d (p13.a : (List (Tx × Int)))),.sh (d (p13.b : (List (Tx × Int)))),.sh (d (p13.c : (List Int))),.sh (d (Qnh : Int)),.sh (d (Qni : Bool)),.no,.no,.sh (d (Qnd : TSheet)),.no,.sh (d (Qne : (List Int))),.sh (d (Qna : (Int × (Option TSheet)))),.sh (d (Qno : (P3 (List Tx) (List Int) (List (List (Tx × Int))))))]) rfl (Qq (env':=[.sh (d (v_script : Scr)),.sh (d (s47 : (P3 (List Tx) (List Int) (List (List (Tx × Int)))))),.sh (d (Qnb : Int)),.no,.no,.no,.sh (d (p11.c : (List (List (Tx × Int))))),.sh (d (p12.a : Int)),.sh (d (p12.b : (List Int))),.sh (d (p12.c : Int)),.sh (d (p13.a : (List (Tx × Int)))),.sh (d (p13.b : (List (Tx × Int)))),.sh (d (p13.c : (List Int))),.sh (d (Qnh : Int)),.sh (d (Qni : Bool)),.no,.no,.sh (d (Qnd : TSheet)),.no,.sh (d (Qne : (List Int))),.sh (d (Qna : (Int × (Option TSheet)))),.sh (d (Qno : (P3 (List Tx) (List Int) (List (List (Tx × Int))))))]) rfl (Qq (env':=[.sh (d (v_script : Scr)),.sh (d (s47 : (P3 (List Tx) (List Int) (List (List (Tx × Int)))))),.sh (d (Qnb : Int)),.no,.no,.no,.no,.sh (d (p12.a : Int)),.sh (d (p12.b : (List Int))),.sh (d (p12.c : Int)),.sh (d (p13.a : (List (Tx × Int)))),.sh (d (p13.b : (List (Tx × Int)))),.sh (d (p13.c : (List Int))),.sh (d (Qnh : Int)),.sh (d (Qni : Bool)),.no,.no,.sh (d (Qnd : TSheet)),.no,.sh (d (Qne : (List Int))),.sh (d (Qna : (Int × (Option TSheet)))),.sh (d (Qno : (P3 (List Tx) (List Int) (List (List (Tx × Int))))))]) rfl (Qq (env':=[.sh (d (v_script : Scr)),.sh (d (s47 : (P3 (List Tx) (List Int) (List (List (Tx × Int)))))),.sh (d (Qnb : Int)),.no,.no,.no,.no,.no,.sh (d (p12.b : (List Int))),.sh (d (p12.c : Int)),.sh (d (p13.a : (List (Tx × Int)))),.sh (d (p13.b : (List (Tx × Int)))),.sh (d (p13.c : (List Int))),.sh (d (Qnh : Int)),.sh (d (Qni : Bool)),.no,.no,.sh (d (Qnd : TSheet)),.no,.sh (d (Qne : (List Int))),.sh (d (Qna : (Int × (Option TSheet)))),.sh (d (Qno : (P3 (List Tx) (List Int) (List (List (Tx × Int))))))]) rfl (Qq (env':=[.sh (d (v_script : Scr)),.sh (d (s47 : (P3 (List Tx) (List Int) (List (List (Tx × Int)))))),.sh (d (Qnb : Int)),.no,.no,.no,.no,.no,.no,.sh (d (p12.c : Int)),.sh (d (p13.a : (List (Tx × Int)))),.sh (d (p13.b : (List (Tx × Int)))),.sh (d (p13.c : (List Int))),.sh (d (Qnh : Int)),.sh (d (Qni : Bool)),.no,.no,.sh (d (Qnd : TSheet)),.no,.sh (d (Qne : (List Int))),.sh (d (Qna : (Int × (Option TSheet)))),.sh (d (Qno : (P3 (List Tx) (List Int) (List (List (Tx × Int))))))]) rfl (Qq (env':=[.sh (d (v_script : Scr)),.sh (d (s47 : (P3 (List Tx) (List Int) (List (List (Tx × Int)))))),.sh (d (Qnb : Int)),.no,.no,.no,.no,.no,.no,.no,.sh (d (p13.a : (List (Tx × Int)))),.sh (d (p13.b : (List (Tx × Int)))),.sh (d (p13.c : (List Int))),.sh (d (Qnh : Int)),.sh (d (Qni : Bool)),.no,.no,.sh (d (Qnd : TSheet)),.no,.sh (d (Qne : (List Int))),.sh (d (Qna : (Int × (Option TSheet)))),.sh (d (Qno : (P3 (List Tx) (List Int) (List (List (Tx × Int))))))]) rfl (Qq (env':=[.sh (d (v_script : Scr)),.sh (d (s47 : (P3 (List Tx) (List Int) (List (List (Tx × Int)))))),.sh (d (Qnb : Int)),.no,.no,.no,.no,.no,.no,.no,.no,.sh (d (p13.b : (List (Tx × Int)))),.sh (d (p13.c : (List Int))),.sh (d (Qnh : Int)),.sh (d (Qni : Bool)),.no,.no,.sh (d (Qnd : TSheet)),.no,.sh (d (Qne : (List Int))),.sh (d (Qna : (Int × (Option TSheet)))),.sh (d (Qno : (P3 (List Tx) (List Int) (List (List (Tx × Int))))))]) rfl (Qq (env':=[.sh (d (v_script : Scr)),.sh (d (s47 : (P3 (List Tx) (List Int) (List (List (Tx × Int)))))),.sh (d (Qnb : Int)),.no,.no,.no,.no,.no,.no,.no,.no,.no,.sh (d (p13.c : (List Int))),.sh (d (Qnh : Int)),.sh (d (Qni : Bool)),.no,.no,.sh (d (Qnd : TSheet)),.no,.sh (d (Qne : (List Int))),.sh (d (Qna : (Int × (Option TSheet)))),.sh (d (Qno : (P3 (List Tx) (List Int) (List (List (Tx × Int))))))]) rfl (Qq (env':=[.sh (d (v_script : Scr)),.sh (d (s47 : (P3 (List Tx) (List Int) (List (List (Tx × Int)))))),.sh (d (Qnb : Int)),.no,.no,.no,.no,.no,.no,.no,.no,.no,.no,.sh (d (Qnh : Int)),.sh (d (Qni : Bool)),.no,.no,.sh (d (Qnd : TSheet)),.no,.sh (d (Qne : (List Int))),.sh (d (Qna : (Int × (Option TSheet)))),.sh (d (Qno : (P3 (List Tx) (List Int) (List (List (Tx × Int))))))]) rfl (Qq (env':=[.sh (d (v_script : Scr)),.sh (d (s47 : (P3 (List Tx) (List Int) (List (List (Tx × Int)))))),.sh (d (Qnb : Int)),.no,.no,.no,.no,.no,.no,.no,.no,.no,.no,.no,.sh (d (Qni : Bool)),.no,.no,.sh (d (Qnd : TSheet)),.no,.sh (d (Qne : (List Int))),.sh (d (Qna : (Int × (Option TSheet)))),.sh (d (Qno : (P3 (List Tx) (List Int) (List (List (Tx × Int))))))]) rfl (Qq (env':=[.sh (d (v_script : Scr)),.sh (d (s47 : (P3 (List Tx) (List Int) (List (List (Tx × Int)))))),.sh (d (Qnb : Int)),.no,.no,.no,.no,.no,.no,.no,.no,.no,.no,.no,.no,.no,.no,.sh (d (Qnd : TSheet)),.no,.sh (d (Qne : (List Int))),.sh (d (Qna : (Int × (Option TSheet)))),.sh (d (Qno : (P3 (List Tx) (List Int) (List (List (Tx × Int))))))]) rfl (Qq (env':=[.sh (d (v_script : Scr)),.sh (d (s47 : (P3 (List Tx) (List Int) (List (List (Tx × Int)))))),.sh (d (Qnb : Int)),.no,.no,.no,.no,.no,.no,.no,.no,.no,.no,.no,.no,.no,.no,.no,.no,.sh (d (Qne : (List Int))),.sh (d (Qna : (Int × (Option TSheet)))),.sh (d (Qno : (P3 (List Tx) (List Int) (List (List (Tx × Int))))))]) rfl (Qq (env':=[.sh (d (v_script : Scr)),.sh (d (s47 : (P3 (List Tx) (List Int) (List (List (Tx × Int)))))),.sh (d (Qnb : Int)),.no,.no,.no,.no,.no,.no,.no,.no,.no,.no,.no,.no,.no,.no,.no,.no,.no,.sh (d (Qna : (Int × (Option TSheet)))),.sh (d (Qno : (P3 (List Tx) (List Int) (List (List (Tx × Int))))))]) rfl (Qq (env':=[.sh (d (v_script : Scr)),.sh (d (s47 : (P3 (List Tx) (List Int) (List (List (Tx × Int)))))),.sh (d (Qnb : Int)),.no,.no,.no,.no,.no,.no,.no,.no,.no,.no,.no,.no,.no,.no,.no,.no,.no,.no,.sh (d (Qno : (P3 (List Tx) (List Int) (List (List (Tx × Int))))))]) rfl (Qq (env':=[.sh (d (v_script : Scr)),.sh (d (s47 : (P3 (List Tx) (List Int) (List (List (Tx × Int)))))),.sh (d (Qnb : Int)),.no,.no,.no,.no,.no,.no,.no,.no,.no,.no,.no,.no,.no,.no,.no,.no,.no,.no,.no]) rfl (Qf4 (E:=(fun (q : ((P3 (List Tx) (List Int) (List (List (Tx × Int)))))) => [.sh (d (v_script : Scr)),.sh (d (q : (P3 (List Tx) (List Int) (List (List (Tx × Int)))))),.sh (d (Qnb : Int)),.no,.no,.no,.no,.no,.no,.no,.no,.no,.no,.no,.no,.no,.no,.no,.no,.no,.no,.no])) (s:=s47) rfl)))))))))))))))))))))))
  (Qq (env':=[.sh (d (v_script : Scr)),.sh (d (q9 : (P3 (List Tx) (List Int) (List (List (Tx × Int)))))),.sh (d (Qnb : Int)),.no,.sh (d (p11.a : (List Tx))),.sh (d (p11.b : (List Int))),.sh (d (p11.c : (List (List (Tx × Int))))),.sh (d (p12.a : Int)),.sh (d (p12.b : (List Int))),.sh (d (p12.c : Int)),.sh (d (p13.a : (List (Tx × Int)))),.sh (d (p13.b : (List (Tx × Int)))),.sh (d (p13.c : (List Int))),.sh (d (Qnh : Int)),.sh (d (Qni : Bool)),.no,.no,.sh (d (Qnd : TSheet)),.no,.sh (d (Qne : (List Int))),.sh (d (Qna : (Int × (Option TSheet)))),.no]) rfl (Qq (env':=[.sh (d (v_script : Scr)),.sh (d (q9 : (P3 (List Tx) (List Int) (List (List (Tx × Int)))))),.sh (d (Qnb : Int)),.no,.no,.sh (d (p11.b : (List Int))),.sh (d (p11.c : (List (List (Tx × Int))))),.sh (d (p12.a : Int)),.sh (d (p12.b : (List Int))),.sh (d (p12.c : Int)),.sh (d (p13.a : (List (Tx × Int)))),.sh (d (p13.b : (List (Tx × Int)))),.sh (d (p13.c : (List Int))),.sh (d (Qnh : Int)),.sh (d (Qni : Bool)),.no,.no,.sh (d (Qnd : TSheet)),.no,.sh (d (Qne : (List Int))),.sh (d (Qna : (Int × (Option TSheet)))),.no]) rfl (Qq (env':=[.sh (d (v_script : Scr)),.sh (d (q9 : (P3 (List Tx) (List Int) (List (List (Tx × Int)))))),.sh (d (Qnb : Int)),.no,.no,.no,.sh (d (p11.c : (List (List (Tx × Int))))),.sh (d (p12.a : Int)),.sh (d (p12.b : (List Int))),.sh (d (p12.c : Int)),.sh (d (p13.a : (List (Tx × Int)))),.sh (d (p13.b : (List (Tx × Int)))),.sh (d (p13.c : (List Int))),.sh (d (Qnh : Int)),.sh (d (Qni : Bool)),.no,.no,.sh (d (Qnd : TSheet)),.no,.sh (d (Qne : (List Int))),.sh (d (Qna : (Int × (Option TSheet)))),.no]) rfl (Qq (env':=[.sh (d (v_script : Scr)),.sh (d (q9 : (P3 (List Tx) (List Int) (List (List (Tx × Int)))))),.sh (d (Qnb : Int)),.no,.no,.no,.no,.sh (d (p12.a : Int)),.sh (d (p12.b : (List Int))),.sh (d (p12.c : Int)),.sh (d (p13.a : (List (Tx × Int)))),.sh (d (p13.b : (List (Tx × Int)))),.sh (d (p13.c : (List Int))),.sh (d (Qnh : Int)),.sh (d (Qni : Bool)),.no,.no,.sh (d (Qnd : TSheet)),.no,.sh (d (Qne : (List Int))),.sh (d (Qna : (Int × (Option TSheet)))),.no]) rfl (Qq (env':=[.sh (d (v_script : Scr)),.sh (d (q9 : (P3 (List Tx) (List Int) (List (List (Tx × Int)))))),.sh (d (Qnb : Int)),.no,.no,.no,.no,.no,.sh (d (p12.b : (List Int))),.sh (d (p12.c : Int)),.sh (d (p13.a : (List (Tx × Int)))),.sh (d (p13.b : (List (Tx × Int)))),.sh (d (p13.c : (List Int))),.sh (d (Qnh : Int)),.sh (d (Qni : Bool)),.no,.no,.sh (d (Qnd : TSheet)),.no,.sh (d (Qne : (List Int))),.sh (d (Qna : (Int × (Option TSheet)))),.no]) rfl (Qq (env':=[.sh (d (v_script : Scr)),.sh (d (q9 : (P3 (List Tx) (List Int) (List (List (Tx × Int)))))),.sh (d (Qnb : Int)),.no,.no,.no,.no,.no,.no,.sh (d (p12.c : Int)),.sh (d (p13.a : (List (Tx × Int)))),.sh (d (p13.b : (List (Tx × Int)))),.sh (d (p13.c : (List Int))),.sh (d (Qnh : Int)),.sh (d (Qni : Bool)),.no,.no,.sh (d (Qnd : TSheet)),.no,.sh (d (Qne : (List Int))),.sh (d (Qna : (Int × (Option TSheet)))),.no]) rfl (Qq (env':=[.sh (d (v_script : Scr)),.sh (d (q9 : (P3 (List Tx) (List Int) (List (List (Tx × Int)))))),.sh (d (Qnb : Int)),.no,.no,.no,.no,.no,.no,.no,.sh (d (p13.a : (List (Tx × Int)))),.sh (d (p13.b : (List (Tx × Int)))),.sh (d (p13.c : (List Int))),.sh (d (Qnh : Int)),.sh (d (Qni : Bool)),.no,.no,.sh (d (Qnd : TSheet)),.no,.sh (d (Qne : (List Int))),.sh (d (Qna : (Int × (Option TSheet)))),.no]) rfl (Qq (env':=[.sh (d (v_script : Scr)),.sh (d (q9 : (P3 (List Tx) (List Int) (List (List (Tx × Int)))))),.sh (d (Qnb : Int)),.no,.no,.no,.no,.no,.no,.no,.no,.sh (d (p13.b : (List (Tx × Int)))),.sh (d (p13.c : (List Int))),.sh (d (Qnh : Int)),.sh (d (Qni : Bool)),.no,.no,.sh (d (Qnd : TSheet)),.no,.sh (d (Qne : (List Int))),.sh (d (Qna : (Int × (Option TSheet)))),.no]) rfl (Qq (env':=[.sh (d (v_script : Scr)),.sh (d (q9 : (P3 (List Tx) (List Int) (List (List (Tx × Int)))))),.sh (d (Qnb : Int)),.no,.no,.no,.no,.no,.no,.no,.no,.no,.sh (d (p13.c : (List Int))),.sh (d (Qnh : Int)),.sh (d (Qni : Bool)),.no,.no,.sh (d (Qnd : TSheet)),.no,.sh (d (Qne : (List Int))),.sh (d (Qna : (Int × (Option TSheet)))),.no]) rfl (Qq (env':=[.sh (d (v_script : Scr)),.sh (d (q9 : (P3 (List Tx) (List Int) (List (List (Tx × Int)))))),.sh (d (Qnb : Int)),.no,.no,.no,.no,.no,.no,.no,.no,.no,.no,.sh (d (Qnh : Int)),.sh (d (Qni : Bool)),.no,.no,.sh (d (Qnd : TSheet)),.no,.sh (d (Qne : (List Int))),.sh (d (Qna : (Int × (Option TSheet)))),.no]) rfl (Qq (env':=[.sh (d (v_script : Scr)),.sh (d (q9 : (P3 (List Tx) (List Int) (List (List (Tx × Int)))))),.sh (d (Qnb : Int)),.no,.no,.no,.no,.no,.no,.no,.no,.no,.no,.no,.sh (d (Qni : Bool)),.no,.no,.sh (d (Qnd : TSheet)),.no,.sh (d (Qne : (List Int))),.sh (d (Qna : (Int × (Option TSheet)))),.no]) rfl (Qq (env':=[.sh (d (v_script : Scr)),.sh (d (q9 : (P3 (List Tx) (List Int) (List (List (Tx × Int)))))),.sh (d (Qnb : Int)),.no,.no,.no,.no,.no,.no,.no,.no,.no,.no,.no,.no,.no,.no,.sh (d (Qnd : TSheet)),.no,.sh (d (Qne : (List Int))),.sh (d (Qna : (Int × (Option TSheet)))),.no]) rfl (Qq (env':=[.sh (d (v_script : Scr)),.sh (d (q9 : (P3 (List Tx) (List Int) (List (List (Tx × Int)))))),.sh (d (Qnb : Int)),.no,.no,.no,.no,.no,.no,.no,.no,.no,.no,.no,.no,.no,.no,.no,.no,.sh (d (Qne : (List Int))),.sh (d (Qna : (Int × (Option TSheet)))),.no]) rfl (Qq (env':=[.sh (d (v_script : Scr)),.sh (d (q9 : (P3 (List Tx) (List Int) (List (List (Tx × Int)))))),.sh (d (Qnb : Int)),.no,.no,.no,.no,.no,.no,.no,.no,.no,.no,.no,.no,.no,.no,.no,.no,.no,.sh (d (Qna : (Int × (Option TSheet)))),.no]) rfl (Qq (env':=[.sh (d (v_script : Scr)),.sh (d (q9 : (P3 (List Tx) (List Int) (List (List (Tx × Int)))))),.sh (d (Qnb : Int)),.no,.no,.no,.no,.no,.no,.no,.no,.no,.no,.no,.no,.no,.no,.no,.no,.no,.no,.no]) rfl (Qf4 (E:=(fun (q : ((P3 (List Tx) (List Int) (List (List (Tx × Int)))))) => [.sh (d (v_script : Scr)),.sh (d (q : (P3 (List Tx) (List Int) (List (List (Tx × Int)))))),.sh (d (Qnb : Int)),.no,.no,.no,.no,.no,.no,.no,.no,.no,.no,.no,.no,.no,.no,.no,.no,.no,.no,.no])) (s:=q9) rfl))))))))))))))))))))))))))))) fun s48 =>
  (QX (cv (Qu (a:=true) rfl))))))
end
end Lw
namespace Lw
open Ps Tm
def Qlq : Tx:="abcdefghijklmnopqrstuvwxyz0123456789".toList
structure GoodSigns (s : Tx) : Prop where
 l2 : 2 ≤ s.length
 l4 : s.length ≤ 4
 nd : s.Nodup
 kn : ∀ c ∈ s,c ∈ Qlq
structure GoodWords (s : Tx) (ws : List Tx) : Prop where
 l6 : ws.length ≤ 6
 ne : ∀ w ∈ ws,w ≠ []
 l5 : ∀ w ∈ ws,w.length ≤ 5
 sg : ∀ w ∈ ws,∀ c ∈ w,c ∈ s
def Qaa (c t m : Int) : Int:=
 if c % 2 = 1 then ((rgT t).foldl (fun (q : Int) (_ : Int) => q / 1000003) ((c.natAbs : Int) / 2)) % 1000003 % m
 else (c % 998244353 * (4099 + t * 30) + c / 998244353 % 1000000007 * (t + 2) + t * t * 104729 + 31) % 1000000007 * ((c % 998244353 * (4099 + t * 30) + c / 998244353 % 1000000007 * (t + 2) + t * t * 104729 + 31) % 1000000007) % 1000000007 % m
theorem Zp (c t m : Int) (hm : 0 < m) (h0 : 0 ≤ t) (h1 : t ≤ 1000000) : Qp c t m = .ok (Qaa c t m):=by
 unfold Qp Qaa
 by_cases hc : c % 2 = 1
 ·have hf:=(Qe0 (tb:=Qbf) (g:=fun q _ => q / 1000003) (fun _ => True) (l:=rgT t) (s:=(c.natAbs : Int) / 2) trivial (fun s a _ _ => ⟨rfl,trivial⟩)).1
  rw [QdV,hc,Qci (n:=t) ⟨by omega,by omega⟩]
  simp only [Qd,hf,decide_true,if_true,Qf7 hm]
 ·generalize hlo : c % 998244353 = lo
  generalize hhi : c / 998244353 % 1000000007 = hi
  have l1 : 0 ≤ lo:=by rw [← hlo]; exact Int.emod_nonneg _ (by decide)
  have l2 : lo < 998244353:=by rw [← hlo]; exact Int.emod_lt_of_pos _ (by decide)
  have l3 : 0 ≤ hi:=by rw [← hhi]; exact Int.emod_nonneg _ (by decide)
  have l4 : hi < 1000000007:=by rw [← hhi]; exact Int.emod_lt_of_pos _ (by decide)
  have m2 : Zd lo (4099 + t * 30) = .ok (lo * (4099 + t * 30)):=Qai (.inl ⟨by omega,by omega⟩)
  have m3 : Zd hi (t + 2) = .ok (hi * (t + 2)):=Qai (.inl ⟨by omega,by omega⟩)
  have m4 : Zd t t = .ok (t * t):=Qai (.inl ⟨by omega,by omega⟩)
  have e : lo * (4099 + t * 30) + hi * (t + 2) + t * t * 104729 + 31 = lo * (4099 + t * 30) + hi * (t + 2) + t * t * 104729 + 31:=rfl
  generalize hN : (lo * (4099 + t * 30) + hi * (t + 2) + t * t * 104729 + 31) % 1000000007 = N
  have n1 : 0 ≤ N:=by rw [← hN]; exact Int.emod_nonneg _ (by decide)
  have n2 : N < 1000000007:=by rw [← hN]; exact Int.emod_lt_of_pos _ (by decide)
  have m6 : Zd N N = .ok (N * N):=Qai (.inl ⟨by omega,by omega⟩)
  simp [QdV,hc,m2,m3,m4,hN,m6,Qf7 hm]
theorem Qea (s : Scr) (k : Int) (h : 0 ≤ k) : Jh s k = .ok (s.ns.getD k.toNat 0):=by
 unfold Jh
 have e : cut s.ns (some k) (some (k + 1)) = (s.ns[k.toNat]?).toList:=by
  rw [QfB _ _ _ h (by omega),show (k + 1).toNat = k.toNat + 1 by omega,List.drop_take,show k.toNat + 1 - k.toNat = 1 by omega]
  cases q : s.ns[k.toNat]? with
  | none =>
   rw [List.drop_of_length_le (by simpa using q)]; rfl
  | some a =>
   obtain ⟨h1,h2⟩:=List.getElem?_eq_some_iff.mp q
   rw [List.drop_eq_getElem_cons h1,h2]; rfl
 rw [e]
 cases q : s.ns[k.toNat]? with
 | none => simp [List.getD_eq_getElem?_getD,q]
 | some a => simp [List.getD_eq_getElem?_getD,q,QbR]
end Lw
namespace Lw
open Ps Tm
open Emb (d)
abbrev ZB:=List (Tx × Int)
def wof (ws : List Int) (e : Int) : Int:=ws.getD e.toNat 0
def QaO (W : Int → Int) (l : ZB) : Int:=(l.map fun r => W r.2).sum
theorem QhV {ws : List Int} {e : Int} (h0 : 0 ≤ e) (h1 : e < ws.length) : wof ws e ∈ ws:=by
 unfold wof
 rw [List.getD_eq_getElem?_getD,List.getElem?_eq_getElem (by omega)]
 exact List.getElem_mem _
theorem Qcl {ws : List Int} {e : Int} (h0 : 0 ≤ e) (h1 : e < ws.length) : ixL ws e = .ok (wof ws e):=by
 rw [QgY h0 h1]
 unfold wof
 rw [List.getD_eq_getElem?_getD,List.getElem?_eq_getElem (by omega)]; rfl
theorem QfC {α : Type} {l : List α} {i : Nat} (h : i < l.length) (d : α) : l.getD i d ∈ l:=by
 rw [List.getD_eq_getElem?_getD,List.getElem?_eq_getElem h]
 exact List.getElem_mem _
theorem JI {α : Type} {l : List α} {i : Int} (h0 : 0 ≤ i) (h1 : i < l.length) (d : α) : ixL l i = .ok (l.getD i.toNat d):=by
 rw [QgY h0 h1,List.getD_eq_getElem?_getD,List.getElem?_eq_getElem (by omega)]; rfl
def Qdi (l : ZB) (p : Int → Bool) : ZB:=((rgT (l.length : Int)).filter p).map fun k => l.getD k.toNat ([],0)
theorem Qaz {l : ZB} {p : Int → Bool} {r : Tx × Int} (h : r ∈ Qdi l p) : r ∈ l:=by
 unfold Qdi at h
 obtain ⟨k,hk,rfl⟩:=List.mem_map.mp h
 have:=rgT_mem.mp (List.mem_filter.mp hk).1
 exact QfC (by omega) _
theorem QfD (l : ZB) (hl : l.length ≤ 100000) (p : Int → Bool) : Q2 (fun (a7 : Int) => (M.ok (p a7))) (fun (a7 : Int) => (ixL l a7)) (rgT (l.length : Int)) = .ok (Qdi l p):=by
 have e:=QbN (p:=fun (a7 : Int) => (M.ok (p a7))) (k:=fun (a7 : Int) => (ixL l a7)) (q:=p) (g:=fun k => l.getD k.toNat ([],0)) (l:=rgT (l.length : Int)) (fun _ _ => rfl) (fun k hk _ => by
  have:=rgT_mem.mp hk
  exact JI this.1 this.2 _)
 rw [Qcj (by rw [Ja]; omega),e]; rfl
def dbl (desk other : Int) (l : ZB) : ZB:=l.flatMap fun r => if r.2 = desk then [r,(r.1,other)] else [r]
theorem QfE (desk other : Int) : ∀ l : ZB,(dbl desk other l).length ≤ 2 * l.length
 | [] => Nat.le_refl _
 | r :: l => by
  have ih:=QfE desk other l
  unfold dbl at *
  rw [List.flatMap_cons,List.length_append,List.length_cons]
  split <;> simp only [List.length_cons,List.length_nil] <;> omega
theorem Qdj (desk other : Int) : ∀ (l q : ZB),q.length + 2 * l.length ≤ 100000 → ZX (Jb desk other) l q = .ok (q ++ dbl desk other l)
 | [],q,_ => by rw [show dbl desk other [] = [] from rfl,List.append_nil]; rfl
 | r :: l,q,h => by
  rw [List.length_cons] at h
  have ed : dbl desk other (r :: l) = (if r.2 = desk then [r,(r.1,other)] else [r]) ++ dbl desk other l:=by unfold dbl; rw [List.flatMap_cons]
  rw [QaB,ed]
  have e1 : Jb desk other q r = .ok (q ++ if r.2 = desk then [r,(r.1,other)] else [r]):=by
   unfold Jb
   simp only [Qd]
   rw [QaA (by omega),Qd,QdV]
   by_cases hd : r.2 = desk
   ·rw [decide_eq_true hd,if_pos rfl,if_pos hd,QaA (by rw [List.length_append,List.length_singleton]; omega)]
    simp only [Qd]
    rw [List.append_assoc]; rfl
   ·rw [decide_eq_false hd,if_neg (by decide),if_neg hd]; rfl
  rw [e1,Qd,Qdj desk other l _ (by
   rw [List.length_append]
   split <;> simp only [List.length_cons,List.length_nil] <;> omega),List.append_assoc]
theorem Qfd (desk other : Int) (l : ZB) (h : l.length ≤ 10000) : Qax l desk other = .ok (dbl desk other l):=by
 unfold Qax
 rw [Qd,Qd,Qdj desk other l [] (by simp; omega)]
 rfl
theorem Qeb {α : Type} (l : List α) (i : Int) (h0 : 0 ≤ i) (h1 : i < l.length) (x : α) : cut l none (some i) ++ [x] ++ cut l (some (i + 1)) none = l.set i.toNat x:=by
 rw [QbO _ _ h0,QbP _ _ (by omega),List.set_eq_take_append_cons_drop,if_pos (by omega),show (i + 1).toNat = i.toNat + 1 by omega,List.append_assoc]; rfl
end Lw
namespace Lw
open Ps Tm
open Emb (d)
structure Ds (sh : TSheet) : Prop where
 n1 : 1 ≤ sh.homes.length
 n10 : sh.homes.length ≤ 10
 hw : sh.weights.length = sh.homes.length
 hl : sh.lines.length = sh.homes.length
 pos : ∀ w ∈ sh.weights,1 ≤ w
 en : ∀ l ∈ sh.lines,∀ r ∈ l,0 ≤ r.2 ∧ r.2 < sh.homes.length
 ll : ∀ l ∈ sh.lines,l.length ≤ 8 * 2 ^ (sh.homes.length - 1)
section
variable {sh : TSheet}
theorem Ds.len (h : Ds sh) {l : ZB} (hl : l ∈ sh.lines) : l.length ≤ 4096:=by
 have h1:=h.ll l hl
 have h2:=h.n10
 have : 2 ^ (sh.homes.length - 1) ≤ 2 ^ 9:=Nat.pow_le_pow_right (by decide) (by omega)
 omega
theorem Ds.line (h : Ds sh) {a : Int} (a0 : 0 ≤ a) (a1 : a < sh.homes.length) : sh.lines.getD a.toNat [] ∈ sh.lines:=QfC (by have:=h.hl; omega) _
def Qa0 (sh : TSheet) (a : Int) : ZB:=sh.lines.getD a.toNat []
def Zk (sh : TSheet) (a : Int) (b : List Int) : ZB:=Qdi (Qa0 sh a) fun k => inT k b
def Q8 (sh : TSheet) (a : Int) (b : List Int) : ZB:=Qdi (Qa0 sh a) fun k => !inT k b
theorem Qbi (l : ZB) (p : Int → Bool) : (Qdi l p).length ≤ l.length:=by
 unfold Qdi
 rw [List.length_map]
 have:=List.length_filter_le p (rgT (l.length : Int))
 rw [Ja] at this
 omega
theorem Qec (h : Ds sh) {a : Int} (a0 : 0 ≤ a) (a1 : a < sh.homes.length) (b : List Int) : Ji sh.lines sh.weights a b = .ok ⟨Zk sh a b,Q8 sh a b,[QaO (wof sh.weights) (Zk sh a b),QaO (wof sh.weights) (Q8 sh a b)]⟩:=by
 have hl:=h.hl
 have hw:=h.hw
 have hline:=h.line a0 a1
 have ll:=h.len hline
 have plen : ∀ p,(Qdi (sh.lines.getD a.toNat []) p).length ≤ 4096:=fun p => Nat.le_trans (Qbi _ p) ll
 have e : ∀ p : Int → Bool,Q2 (fun (a4 : Int) => (M.ok (p a4))) (fun (a4 : Int) => (M.bind (ixL sh.lines a) fun x5 => (ixL x5 a4))) (rgT ((sh.lines.getD a.toNat []).length : Int)) = .ok (Qdi (sh.lines.getD a.toNat []) p):=fun p => by
  have:=QbN (p:=fun (a4 : Int) => (M.ok (p a4))) (k:=fun (a4 : Int) => (M.bind (ixL sh.lines a) fun x5 => (ixL x5 a4))) (q:=p) (g:=fun k => (sh.lines.getD a.toNat []).getD k.toNat ([],0)) (l:=rgT ((sh.lines.getD a.toNat []).length : Int)) (fun _ _ => rfl) (fun k hk _ => by
   have:=rgT_mem.mp hk
   rw [JI a0 (by omega) [],Qd]
   exact JI this.1 this.2 _)
  rw [Qcj (by rw [Ja]; omega),this]; rfl
 have su : ∀ l : ZB,(∀ r ∈ l,r ∈ sh.lines.getD a.toNat []) → l.length ≤ 4096 → (M.bind (Q4 (fun (a15 : (Tx × Int)) => (ixL sh.weights a15.2)) l) fun x16 => M.ok (List.sum x16)) = .ok (QaO (wof sh.weights) l):=fun l hr hl => by
  rw [Zm (by omega),Jm (g:=fun r : Tx × Int => wof sh.weights r.2) (fun r h1 => by
   have:=h.en _ hline r (hr r h1)
   exact Qcl this.1 (by omega)),Qd]; rfl
 unfold Ji
 rw [JI a0 (by omega) [],Qd,Qd,Qci ⟨by omega,by omega⟩,Qd]
 have e1:=e fun k => inT k b
 have e2:=e fun k => !inT k b
 rw [JI a0 (by omega) []] at e1 e2
 rw [e1,Qd,Qd,e2,Qd,Zm (by simp),Jm (g:=fun l => QaO (wof sh.weights) l) (fun l hl => by
  rcases List.mem_cons.mp hl with rfl | hl
  ·exact su _ (fun r hr => Qaz hr) (plen _)
  ·rw [List.mem_singleton.mp hl]
   exact su _ (fun r hr => Qaz hr) (plen _)),Qd]
 rfl
theorem Qhi (h : Ds sh) {δ : Type} [Emb δ] (w : δ) : Qhc (M.ok sh.homes) (M.ok sh.weights) (Q4 (fun (a24 : (List (Tx × Int))) => (M.ok a24)) sh.lines) (fun a b c => mkM (ZN a b c)) (fun _ => M.ok w) = .ok sh:=by
 have hl:=h.hl
 have n10:=h.n10
 have n1:=h.n1
 have e0 : Q4 (fun (a24 : (List (Tx × Int))) => (M.ok a24)) sh.lines = .ok sh.lines:=by
  rw [Zm (by omega),Jm (g:=fun l => l) (fun _ _ => rfl),List.map_id']
 unfold Qhc
 rw [e0,Qd,Qd,Qd]
 obtain ⟨c0,cs,ec⟩ : ∃ c0 cs,sh.lines = c0 :: cs:=by
  cases q : sh.lines with
  | nil => rw [q] at hl; simp at hl; omega
  | cons c0 cs => exact ⟨c0,cs,rfl⟩
 have l0:=h.len (l:=c0) (by rw [ec]; exact List.mem_cons_self)
 have em : Q4 (fun (a4 : (Rdl (Tx × Int))) => (M.ok a4.l)) (sh.lines.map Rdl.mk) = .ok sh.lines:=by
  rw [Zm (by rw [List.length_map]; omega),Jm (g:=fun (l : Rdl (Tx × Int)) => l.l) (fun _ _ => rfl),List.map_map]
  exact congrArg M.ok (by rw [show ((fun l : Rdl (Tx × Int) => l.l) ∘ Rdl.mk) = id from rfl,List.map_id])
 have es : ZN ⟨sh.homes⟩ ⟨sh.weights⟩ ⟨sh.lines.map Rdl.mk⟩ = .ok sh:=by
  unfold ZN
  rw [Qd,Qd,em]; rfl
 rw [ec] at es ⊢
 show Qcs (gd (c0.length < 16777216) ((mkM (ZN ⟨sh.homes⟩ ⟨sh.weights⟩ ⟨(c0 :: cs).map Rdl.mk⟩)).bind fun s => (M.ok w).bind fun _ => .ok s)) = _
 rw [es,QaL (by omega)]; rfl
theorem Qba {α : Type} (l : List α) : (l.map fun _ => true).all id = true:=by
 induction l with
 | nil => rfl
 | cons a l ih => rw [List.map_cons,List.all_cons,ih]; rfl
end
end Lw
namespace Lw
open Ps Tm
open Emb (d)
section
variable {sh : TSheet} {many a c : Int} {b : List Int}
def Qbj (sh : TSheet) (a c : Int) : List Int:=sh.weights.set a.toNat c ++ [wof sh.weights a - c]
def Qbk (sh : TSheet) (a : Int) (b : List Int) : List ZB:=(sh.lines.set a.toNat (Zk sh a b) ++ [Q8 sh a b]).map (dbl a sh.homes.length)
def Qb9 (sh : TSheet) (a : Int) (b : List Int) (c : Int) : TSheet:=⟨sh.homes ++ [sh.homes.getD a.toNat []],Qbj sh a c,Qbk sh a b⟩
def QaM (sh : TSheet) (many a : Int) (b : List Int) (c : Int) : Prop:=Zk sh a b ≠ [] ∧ Q8 sh a b ≠ [] ∧ 0 < c ∧ 0 < wof sh.weights a - c ∧ many * c ≤ QaO (wof sh.weights) (Zk sh a b) ∧ many * (wof sh.weights a - c) ≤ QaO (wof sh.weights) (Q8 sh a b)
instance : Decidable (QaM sh many a b c):=by unfold QaM; infer_instance
theorem Qe8 (h : Ds sh) {l : ZB} (he : ∀ r ∈ l,0 ≤ r.2 ∧ r.2 < sh.homes.length) (hl : l.length ≤ 100000) : ZO sh l = .ok (QaO (wof sh.weights) l):=by
 have hw:=h.hw
 unfold ZO
 rw [Zm (by omega),Jm (g:=fun r : Tx × Int => wof sh.weights r.2) (fun r hr => Qcl (he r hr).1 (by have:=(he r hr).2; omega)),Qd]; rfl
theorem Qe9 (h : Ds sh) (m2 : 2 ≤ many) (m8 : many ≤ 8) (a0 : 0 ≤ a) (a1 : a < sh.homes.length) (rg : ∀ k ∈ b,0 ≤ k ∧ k < (Qa0 sh a).length) (bl : b.length ≤ 4096) :
  QbS sh many a b c = if QaM sh many a b c then .ok (Qb9 sh a b c) else .er 15 []:=by
 have hw:=h.hw
 have hl:=h.hl
 have hn:=h.n10
 have hline:=h.line a0 a1
 have ll:=h.len hline
 have es:=QfD (sh.lines.getD a.toNat []) (by omega) fun k => inT k b
 have eo:=QfD (sh.lines.getD a.toNat []) (by omega) fun k => !inT k b
 have hlen : ∀ p,(Qdi (sh.lines.getD a.toNat []) p).length ≤ 4096:=fun p => Nat.le_trans (Qbi _ p) ll
 unfold QbS
 rw [Qd,decide_eq_false (by omega),decide_eq_false (by omega),Bool.or_self,if_neg (by decide),JI a0 (by omega) [],Qd]
 have e1 : (List.map (fun (a3 : Int) => ((decide (a3 < (0 : Int))) || (decide (((sh.lines.getD a.toNat []).length : Int) ≤ a3)))) b).any id = false:=by
  rw [List.any_map,List.any_eq_false]
  intro k hk hz
  have hz : (decide (k < (0 : Int)) || decide (((sh.lines.getD a.toNat []).length : Int) ≤ k)) = true:=hz
  have:=rg k hk
  unfold Qa0 at this
  rcases Bool.or_eq_true_iff.mp hz with z | z <;> have:=of_decide_eq_true z <;> omega
 rw [Zm (by omega),Jm (g:=fun (a3 : Int) => ((decide (a3 < (0 : Int))) || (decide (((sh.lines.getD a.toNat []).length : Int) ≤ a3)))) (fun _ _ => rfl),Qd,Qd,e1,if_neg (by decide),Qci ⟨by omega,by omega⟩,Qd,es,Qd,Qd,eo,Qd,Qcl a0 (by omega),Qd,Qd,Qd]
 have bs:=Qe8 h (l:=Zk sh a b) (fun r hr => h.en _ hline r (Qaz hr)) (by have:=hlen (fun k => inT k b); unfold Zk Qa0; omega)
 have bo:=Qe8 h (l:=Q8 sh a b) (fun r hr => h.en _ hline r (Qaz hr)) (by have:=hlen (fun k => !inT k b); unfold Q8 Qa0; omega)
 have q1 : eqT (Zk sh a b) ([] : ZB) = decide (Zk sh a b = []):=QcY _ _
 have q2 : eqT (Q8 sh a b) ([] : ZB) = decide (Q8 sh a b = []):=QcY _ _
 show (if (eqT (Zk sh a b) [] || (eqT (Q8 sh a b) [] || (decide (c < 1) || decide (wof sh.weights a - c < 1)))) = true then _ else _) = _
 rw [q1,q2]
 by_cases z1 : Zk sh a b = []
 ·rw [decide_eq_true z1,Bool.true_or,if_pos rfl,if_neg (fun z => z.1 z1)]
 by_cases z2 : Q8 sh a b = []
 ·rw [decide_eq_true z2,Bool.true_or,Bool.or_true,if_pos rfl,if_neg (fun z => z.2.1 z2)]
 by_cases z3 : c < 1
 ·rw [decide_eq_true z3,Bool.true_or,Bool.or_true,Bool.or_true,if_pos rfl,if_neg (fun z => by have:=z.2.2.1; omega)]
 by_cases z4 : wof sh.weights a - c < 1
 ·rw [decide_eq_true z4,Bool.or_true,Bool.or_true,Bool.or_true,if_pos rfl,if_neg (fun z => by have:=z.2.2.2.1; omega)]
 rw [decide_eq_false z1,decide_eq_false z2,decide_eq_false z3,decide_eq_false z4]
 simp only [Bool.or_false,Bool.false_eq_true,if_false]
 show M.bind (M.bind (M.bind (ZO sh (Zk sh a b)) _) _) _ = _
 rw [bs,Qd,Qai (.inl ⟨by omega,by omega⟩),Qd,Qd]
 by_cases z5 : QaO (wof sh.weights) (Zk sh a b) < many * c
 ·rw [decide_eq_true z5,if_pos rfl,Qd,if_pos rfl,if_neg (fun z => by have:=z.2.2.2.2.1; omega)]
 rw [decide_eq_false z5,if_neg (by decide)]
 show M.bind (M.bind (ZO sh (Q8 sh a b)) _) _ = _
 rw [bo,Qd,Qai (.inl ⟨by omega,by omega⟩),Qd,Qd]
 by_cases z6 : QaO (wof sh.weights) (Q8 sh a b) < many * (wof sh.weights a - c)
 ·rw [decide_eq_true z6,if_pos rfl,if_neg (fun z => by have:=z.2.2.2.2.2; omega)]
 rw [decide_eq_false z6,if_neg (by decide),if_pos ⟨z1,z2,by omega,by omega,by omega,by omega⟩]
 have c1:=Qeb sh.weights a a0 (by omega) c
 have c2:=Qeb sh.lines a a0 (by omega) (Zk sh a b)
 have d1 : (cut sh.weights none (some a)).length ≤ 40:=by rw [QbO _ _ a0,List.length_take]; omega
 have d2 : (cut sh.weights (some (a + 1)) none).length ≤ 40:=by rw [QbP _ _ (by omega),List.length_drop]; omega
 have d3 : (cut sh.lines none (some a)).length ≤ 40:=by rw [QbO _ _ a0,List.length_take]; omega
 have d4 : (cut sh.lines (some (a + 1)) none).length ≤ 40:=by rw [QbP _ _ (by omega),List.length_drop]; omega
 rw [ZK (by simp; omega),Qd,ZK (by simp; omega),Qd,c1,ZK (by simp; omega),Qd]
 rw [ZK (by simp; omega),Qd,ZK (by simp; omega),Qd]
 show M.bind (Zq (cut sh.lines none (some a) ++ [Zk sh a b] ++ cut sh.lines (some (a + 1)) none) [Q8 sh a b]) _ = _
 rw [c2,ZK (by simp; omega),Qd]
 rw [Zm (by simp; omega),Jm (g:=dbl a sh.homes.length) (fun l hm => Qfd _ _ l (by
  rcases List.mem_append.mp hm with hm | hm
  ·rcases List.mem_or_eq_of_mem_set hm with hm | rfl
   ·have:=h.len hm; omega
   ·have:=hlen (fun k => inT k b)
    unfold Zk Qa0; omega
  ·rw [List.mem_singleton.mp hm]
   have:=hlen (fun k => !inT k b)
   unfold Q8 Qa0; omega)),Qd,JI a0 (by omega) [],Qd,Qd,ZK (by simp; omega),Qd]
 unfold JX
 rw [Qd,Qd,Zm (by simp; omega),Qck,List.map_id']
 rfl
end
end Lw
namespace Lw
open Ps Tm
open Emb (d)
section
variable {sh : TSheet} {many a c : Int} {b : List Int}
theorem Qbl {α : Type} [Cm α] (a : α) : eqT a a = true:=by unfold eqT; simp
abbrev shP (sh : TSheet) : P3 (List Tx) (List Int) (List (List (Tx × Int))):=⟨sh.homes,sh.weights,sh.lines⟩
theorem QdD {α β : Type} {tb : List β → α → M (List β)} {g : α → β} : ∀ (l : List α) (q : List β),q.length + l.length ≤ 1000000 → (∀ q a,a ∈ l → q.length ≤ 1000000 → tb q a = .ok (q ++ [g a])) → ZX tb l q = .ok (q ++ l.map g)
 | [],q,_,_ => by simp
 | a :: l,q,hl,h => by
  rw [List.length_cons] at hl
  rw [QaB,h q a List.mem_cons_self (by omega),Qd,QdD l (q ++ [g a]) (by simp; omega) fun q b hb => h q b (List.mem_cons_of_mem _ hb)]
  simp
theorem Qhj {α : Type} {l : List α} {i : Int} {x : α} (h0 : 0 ≤ i) (h1 : i < l.length) : ZZ l i x = .ok (l.set i.toNat x):=by
 unfold ZZ L2.ixN
 rw [if_pos h0,if_pos h1]; rfl
theorem Qfe (h : Ds sh) (a0 : 0 ≤ a) (a1 : a < sh.homes.length) : Jr sh.homes sh.weights sh.lines a b c = .ok (shP (Qb9 sh a b c)):=by
 have hl:=h.hl
 have hw:=h.hw
 have hn:=h.n10
 have hline:=h.line a0 a1
 have ll:=h.len hline
 have plen : ∀ p,(Qdi (sh.lines.getD a.toNat []) p).length ≤ 4096:=fun p => Nat.le_trans (Qbi _ p) ll
 have c1:=Qeb sh.weights a a0 (by omega) c
 have d1 : (cut sh.weights none (some a)).length ≤ 40:=by rw [QbO _ _ a0,List.length_take]; omega
 have d2 : (cut sh.weights (some (a + 1)) none).length ≤ 40:=by rw [QbP _ _ (by omega),List.length_drop]; omega
 have ef : ZX (Jj sh.lines a) (sh.lines.set a.toNat (Zk sh a b) ++ [Q8 sh a b]) [] = .ok (Qbk sh a b):=by
  rw [QdD (g:=dbl a sh.homes.length) _ _ (by simp; omega) (fun q l hm hq => by
   have hlen : l.length ≤ 4096:=by
    rcases List.mem_append.mp hm with hm | hm
    ·rcases List.mem_or_eq_of_mem_set hm with hm | rfl
     ·exact h.len hm
     ·exact plen _
    ·rw [List.mem_singleton.mp hm]; exact plen _
   unfold Jj
   rw [Qd,Qd,show Qay sh.lines a = Jb a (sh.lines.length : Int) from rfl,hl,Qdj a sh.homes.length l [] (by simp; omega),Qd,Qd,List.nil_append,QaA (by omega),Qd]),List.nil_append]
  rfl
 unfold Jr
 rw [Qec h a0 a1,Qd,Zm (by omega),Qck,List.map_id',Qd,Qd,Qd,Qhj a0 (by omega),Qd,Qd,QaA (by rw [List.length_set]; omega),Qd,Qd,Qd,ef,Qd,Qcl a0 (by omega),Qd,Qd,ZK (by simp; omega),Qd,ZK (by simp; omega),Qd,c1,JI a0 (by omega) [],Qd,Qd,ZK (by simp; omega),Qd,ZK (by simp; omega),Qd]
 rfl
theorem Qbm (h : Ds sh) : Za sh (shP sh) = .ok true:=by
 have hl:=h.hl
 have hw:=h.hw
 have hn:=h.n10
 unfold Za
 simp only [Qd,Bool.not_true,Bool.or_self,Bool.false_eq_true,if_false]
 rw [Zm (by omega),Jm (g:=fun _ => true) (fun _ _ => rfl),Qd,Qba]
 simp only [Qd,Bool.not_true,Bool.false_eq_true,if_false]
 rw [Zm (by omega),show (fun (_ : Int) => M.ok (true && !false)) = fun (_ : Int) => M.ok true from rfl,Jm (g:=fun _ => true) (fun _ _ => rfl),Qd,Qba]
 simp only [Qd,Bool.not_true,Bool.false_eq_true,if_false]
 rw [Qbl]
theorem QhW {desk other : Int} {l : ZB} {r : Tx × Int} (h : r ∈ dbl desk other l) : (∃ r' ∈ l,r.2 = r'.2) ∨ r.2 = other:=by
 unfold dbl at h
 obtain ⟨r',h1,h2⟩:=List.mem_flatMap.mp h
 by_cases z : r'.2 = desk
 ·rw [if_pos z] at h2
  rcases List.mem_cons.mp h2 with rfl | h2
  ·exact .inl ⟨_,h1,rfl⟩
  ·rw [List.mem_singleton.mp h2]; exact .inr rfl
 ·rw [if_neg z] at h2
  rw [List.mem_singleton.mp h2]; exact .inl ⟨_,h1,rfl⟩
theorem Ds.split (h : Ds sh) (n9 : sh.homes.length ≤ 9) (a0 : 0 ≤ a) (a1 : a < sh.homes.length) (g : QaM sh many a b c) : Ds (Qb9 sh a b c):=by
 have hl:=h.hl
 have hw:=h.hw
 have n1:=h.n1
 have hline:=h.line a0 a1
 have e1 : (Qb9 sh a b c).homes.length = sh.homes.length + 1:=by show (sh.homes ++ [_]).length = _; simp
 have old : ∀ l ∈ sh.lines.set a.toNat (Zk sh a b) ++ [Q8 sh a b],(∃ l' ∈ sh.lines,l.length ≤ l'.length ∧ ∀ r ∈ l,r ∈ l'):=fun l hm => by
  rcases List.mem_append.mp hm with hm | hm
  ·rcases List.mem_or_eq_of_mem_set hm with hm | rfl
   ·exact ⟨l,hm,Nat.le_refl _,fun _ hr => hr⟩
   ·exact ⟨_,hline,Qbi _ _,fun r hr => Qaz hr⟩
  ·rw [List.mem_singleton.mp hm]; exact ⟨_,hline,Qbi _ _,fun r hr => Qaz hr⟩
 refine ⟨by omega,by omega,?_,?_,fun w hm => ?_,fun l hm r hr => ?_,fun l hm => ?_⟩
 ·rw [e1]; show (Qbj sh a c).length = _; unfold Qbj; simp; omega
 ·rw [e1]; show (Qbk sh a b).length = _; unfold Qbk; simp; omega
 ·have hm : w ∈ Qbj sh a c:=hm
  unfold Qbj at hm
  have g3:=g.2.2.1
  have g4:=g.2.2.2.1
  rcases List.mem_append.mp hm with hm | hm
  ·rcases List.mem_or_eq_of_mem_set hm with hm | rfl
   ·exact h.pos w hm
   ·omega
  ·rw [List.mem_singleton.mp hm]; omega
 ·have hm : l ∈ Qbk sh a b:=hm
  unfold Qbk at hm
  obtain ⟨l0,h0,rfl⟩:=List.mem_map.mp hm
  obtain ⟨l',k1,_,k3⟩:=old l0 h0
  rw [e1]
  rcases QhW hr with ⟨r',z1,z2⟩ | z
  ·have:=h.en l' k1 r' (k3 r' z1); omega
  ·omega
 ·have hm : l ∈ Qbk sh a b:=hm
  unfold Qbk at hm
  obtain ⟨l0,h0,rfl⟩:=List.mem_map.mp hm
  obtain ⟨l',k1,k2,_⟩:=old l0 h0
  have h2:=QfE a sh.homes.length l0
  have h3:=h.ll l' k1
  rw [e1,show sh.homes.length + 1 - 1 = (sh.homes.length - 1) + 1 by omega,Nat.pow_succ]
  omega
end
end Lw
namespace Lw
open Ps Tm
open Emb (d)
section
variable {sh : TSheet} {many a c : Int} {b : List Int}
theorem QaH (x t m : Int) (hm : 0 < m) : 0 ≤ Qaa x t m ∧ Qaa x t m < m:=by
 unfold Qaa
 split
 ·exact ⟨Int.emod_nonneg _ (by omega),Int.emod_lt_of_pos _ hm⟩
 ·exact ⟨Int.emod_nonneg _ (by omega),Int.emod_lt_of_pos _ hm⟩
theorem QaI {tb : Kd → Option Bool} {c : Nat} {fs : List (PySem.Str × D)} {b : Bool} (q : tb (.err c) = some b) : Qbb tb (some (⟨c,fs⟩ : Exc)) = .ok b:=by
 show (match tb (.err c) with | some b => M.ok b | none => .st) = _
 rw [q]
theorem QhX (h : Ds sh) (m2 : 2 ≤ many) (m8 : many ≤ 8) (a0 : 0 ≤ a) (a1 : a < sh.homes.length) (rg : ∀ k ∈ b,0 ≤ k ∧ k < (Qa0 sh a).length) (bl : b.length ≤ 4096) :
  JZ sh many a b c = if QaM sh many a b c then .ok (0,some (Qb9 sh a b c)) else .ok (1,none):=by
 have e:=Qe9 (c:=c) h m2 m8 a0 a1 rg bl
 by_cases g : QaM sh many a b c
 ·rw [if_pos g] at e ⊢
  unfold JZ
  rw [e]; rfl
 ·rw [if_neg g] at e ⊢
  unfold JZ
  rw [e]
  rw [Qd,Qd]
  show (M.ok ((some (⟨15,[]⟩ : Exc)),(none : Option TSheet))).bind _ = _
  rw [Qd]
  dsimp only
  rw [Qd,Option.isNone_some,if_neg (by decide)]
  rw [show Qbb QaD (some (⟨15,[]⟩ : Exc)) = .ok true from QaI (by decide +kernel),show Qbb Jn (some (⟨15,[]⟩ : Exc)) = .ok true from QaI (by decide +kernel),show Qbb Qaj (some (⟨15,[]⟩ : Exc)) = .ok false from QaI (by decide +kernel),show Qbb QaC (some (⟨15,[]⟩ : Exc)) = .ok false from QaI (by decide +kernel),show Qbb Qbs (some (⟨15,[]⟩ : Exc)) = .ok false from QaI (by decide +kernel),show Qbb QcB (some (⟨15,[]⟩ : Exc)) = .ok false from QaI (by decide +kernel),show Qbb QaE (some (⟨15,[]⟩ : Exc)) = .ok false from QaI (by decide +kernel)]
  rfl
end
end Lw
namespace Lw
open Ps Tm
open Emb (d)
section
variable {sh : TSheet} {many : Int}
theorem Qge (h : Ds sh) (m2 : 2 ≤ many) (m8 : many ≤ 8) (x : Int) : ∃ a b c,JH x sh.weights sh.lines many = .ok ⟨a,b,c⟩ ∧ 0 ≤ a ∧ a < sh.homes.length ∧ (∀ k ∈ b,0 ≤ k ∧ k < (Qa0 sh a).length) ∧ b.length ≤ 4096:=by
 have hw:=h.hw
 have hl:=h.hl
 have n1:=h.n1
 have n10:=h.n10
 obtain ⟨a0,a1⟩:=QaH x 1 (sh.weights.length : Int) (by omega)
 have hline:=h.line a0 (by omega : Qaa x 1 (sh.weights.length : Int) < sh.homes.length)
 have ll:=h.len hline
 have w0:=h.pos _ (QhV (ws:=sh.weights) a0 a1)
 unfold JH
 rw [Zp x 1 _ (by omega) (by decide) (by decide),Qd]
 generalize ea : Qaa x 1 (sh.weights.length : Int) = a at *
 have en : Q2 (fun (a5 : Int) => (M.bind (Qp x ((20 : Int) + a5) (2 : Int)) fun x6 => M.ok (eqT x6 (1 : Int)))) (fun (a5 : Int) => (M.ok a5)) (rgT ((sh.lines.getD a.toNat []).length : Int)) = .ok ((rgT ((sh.lines.getD a.toNat []).length : Int)).filter fun k => eqT (Qaa x (20 + k) 2) 1):=by
  have e:=QbN (p:=fun (a5 : Int) => (M.bind (Qp x ((20 : Int) + a5) (2 : Int)) fun x6 => M.ok (eqT x6 (1 : Int)))) (k:=fun (a5 : Int) => (M.ok a5)) (q:=fun k => eqT (Qaa x (20 + k) 2) 1) (g:=fun k => k) (l:=rgT ((sh.lines.getD a.toNat []).length : Int)) (fun k hk => by
   have:=rgT_mem.mp hk
   rw [Zp x (20 + k) 2 (by decide) (by omega) (by omega),Qd]) (fun _ _ _ => rfl)
  rw [Qcj (by rw [Ja]; omega),e,List.map_id']
 rw [JI a0 (by omega) [],Qd,Qd,Qci ⟨by omega,by omega⟩,Qd,en,Qd]
 have fl : ((rgT ((sh.lines.getD a.toNat []).length : Int)).filter fun k => eqT (Qaa x (20 + k) 2) 1).length ≤ 4096:=by
  have:=List.length_filter_le (fun k => eqT (Qaa x (20 + k) 2) 1) (rgT ((sh.lines.getD a.toNat []).length : Int))
  rw [Ja] at this
  omega
 have fm : ∀ k ∈ (rgT ((sh.lines.getD a.toNat []).length : Int)).filter (fun k => eqT (Qaa x (20 + k) 2) 1),0 ≤ k ∧ k < (Qa0 sh a).length:=fun k hk => by
  have:=rgT_mem.mp (List.mem_filter.mp hk).1
  unfold Qa0; omega
 generalize (rgT ((sh.lines.getD a.toNat []).length : Int)).filter (fun k => eqT (Qaa x (20 + k) 2) 1) = b0 at fl fm
 obtain ⟨b,eb,bm,bl⟩ : ∃ b,(M.bind (M.bind (M.bind (Qp x (2 : Int) (2 : Int)) fun x8 => M.ok (eqT x8 (1 : Int))) fun c9 => if c9 then (M.bind (M.ok (List.reverse b0)) fun Qnw => (M.ok Qnw)) else (M.ok b0)) fun s => M.ok s) = .ok b ∧ (∀ k ∈ b,0 ≤ k ∧ k < (Qa0 sh a).length) ∧ b.length ≤ 4096:=by
  rw [Zp x 2 2 (by decide) (by decide) (by decide),Qd,Qd]
  cases eqT (Qaa x 2 2) (1 : Int) with
  | true => exact ⟨b0.reverse,rfl,fun k hk => fm k (List.mem_reverse.mp hk),by rw [List.length_reverse]; exact fl⟩
  | false => exact ⟨b0,rfl,fm,fl⟩
 have eb' : (M.bind (M.bind (Qp x (2 : Int) (2 : Int)) fun x8 => M.ok (eqT x8 (1 : Int))) fun c9 => if c9 then (M.bind (M.ok (List.reverse b0)) fun Qnw => (M.ok Qnw)) else (M.ok b0)) = .ok b:=by
  rw [← eb]
  generalize (M.bind (M.bind (Qp x (2 : Int) (2 : Int)) fun x8 => M.ok (eqT x8 (1 : Int))) fun c9 => if c9 then (M.bind (M.ok (List.reverse b0)) fun Qnw => (M.ok Qnw)) else (M.ok b0)) = t
  cases t <;> rfl
 rw [eb',Qd,Qec h a0 (by omega) b,Qd,Qd,Qcl a0 (by omega),Qd,Zp x 3 _ (by omega) (by decide) (by decide),Qd,Zp x 4 5 (by decide) (by decide) (by decide),Qd]
 have s0 : ∀ p q : Int,ixL [p,q] (0 : Int) = .ok p:=fun _ _ => rfl
 have s1 : ∀ p q : Int,ixL [p,q] (1 : Int) = .ok q:=fun _ _ => rfl
 have dv : ∀ p : Int,ZA p many = .ok (p / many):=fun p => Qf6 ⟨by omega,by omega⟩
 simp only [s0,s1,dv,Qd]
 cases (eqT (Qaa x 4 5) (1 : Int) || eqT (Qaa x 4 5) (2 : Int)) <;> cases eqT (Qaa x 4 5) (3 : Int) <;> cases eqT (Qaa x 4 5) (4 : Int) <;> exact ⟨a,b,_,rfl,a0,by omega,bm,bl⟩
end
end Lw
namespace Lw
open Ps Tm
open Emb (d)
section
variable {sh : TSheet} {many : Int}
theorem QhY (h : Ds sh) (n9 : sh.homes.length ≤ 9) (m2 : 2 ≤ many) (m8 : many ≤ 8) (x : Int) : ∃ sh',Qbh many (shP sh) x = .ok (.nx (shP sh')) ∧ Ds sh' ∧ sh'.homes.length ≤ 9:=by
 obtain ⟨a,b,c,ec,a0,a1,rg,bl⟩:=Qge h m2 m8 x
 have hw:=h.hw
 have et:=QhX (c:=c) h m2 m8 a0 a1 rg bl
 have es:=Qe9 (c:=c) h m2 m8 a0 a1 rg bl
 have q1 : eqT (Zk sh a b) ([] : ZB) = decide (Zk sh a b = []):=QcY _ _
 have q2 : eqT (Q8 sh a b) ([] : ZB) = decide (Q8 sh a b = []):=QcY _ _
 have s0 : ∀ p q : Int,ixL [p,q] (0 : Int) = .ok p:=fun _ _ => rfl
 have s1 : ∀ p q : Int,ixL [p,q] (1 : Int) = .ok q:=fun _ _ => rfl
 have good : (M.bind (M.ok ((!eqT (Zk sh a b) ([] : List (Tx × Int))) && ((!eqT (Q8 sh a b) ([] : List (Tx × Int))) && ((decide ((0 : Int) < c)) && (decide ((0 : Int) < wof sh.weights a - c)))))) fun QnB =>
   (M.bind (M.ok QnB) fun x23 => if x23 then (M.bind (M.bind (ixL [QaO (wof sh.weights) (Zk sh a b),QaO (wof sh.weights) (Q8 sh a b)] (0 : Int)) fun x18 => (M.bind (Zd many c) fun x19 => M.ok (decide (x19 ≤ x18)))) fun x22 => if x22 then (M.bind (ixL [QaO (wof sh.weights) (Zk sh a b),QaO (wof sh.weights) (Q8 sh a b)] (1 : Int)) fun x20 => (M.bind (Zd many (wof sh.weights a - c)) fun x21 => M.ok (decide (x21 ≤ x20)))) else M.ok false) else M.ok false)) = .ok (decide (QaM sh many a b c)):=by
  have mu : ∀ y,Zd many y = .ok (many * y):=fun y => Qai (.inl ⟨by omega,by omega⟩)
  rw [q1,q2,s0,s1,mu,mu]
  unfold QaM
  by_cases z1 : Zk sh a b = []
  ·simp [z1]
  by_cases z2 : Q8 sh a b = []
  ·simp [z2]
  by_cases z3 : 0 < c
  ·by_cases z4 : 0 < wof sh.weights a - c
   ·by_cases z5 : many * c ≤ QaO (wof sh.weights) (Zk sh a b)
    ·have z6 : c < wof sh.weights a:=by omega
     simp [z1,z2,z3,z5,z6]
    ·have z6 : c < wof sh.weights a:=by omega
     simp [z1,z2,z3,z5,z6]
   ·have z6 : ¬ c < wof sh.weights a:=by omega
    simp [z1,z2,z3,z6]
  ·simp [z1,z2,z3]
 have good' : ∀ {β : Type} (k : Bool → M β),(M.bind (M.ok ((!eqT (Zk sh a b) ([] : List (Tx × Int))) && ((!eqT (Q8 sh a b) ([] : List (Tx × Int))) && ((decide ((0 : Int) < c)) && (decide ((0 : Int) < wof sh.weights a - c)))))) fun QnB =>
   M.bind (M.bind (M.ok QnB) fun x23 => if x23 then (M.bind (M.bind (ixL [QaO (wof sh.weights) (Zk sh a b),QaO (wof sh.weights) (Q8 sh a b)] (0 : Int)) fun x18 => (M.bind (Zd many c) fun x19 => M.ok (decide (x19 ≤ x18)))) fun x22 => if x22 then (M.bind (ixL [QaO (wof sh.weights) (Zk sh a b),QaO (wof sh.weights) (Q8 sh a b)] (1 : Int)) fun x20 => (M.bind (Zd many (wof sh.weights a - c)) fun x21 => M.ok (decide (x21 ≤ x20)))) else M.ok false) else M.ok false) k) = k (decide (QaM sh many a b c)):=fun k => by
  rw [Qd] at good ⊢
  rw [good,Qd]
 unfold Qbh
 rw [Qd]
 dsimp only
 rw [ec,Qd]
 dsimp only
 rw [Qec h a0 a1 b,Qd]
 dsimp only
 rw [Qcl a0 (by omega),Qd,Qd]
 refine ⟨if QaM sh many a b c then (if sh.homes.length < 9 then Qb9 sh a b c else sh) else sh,?_,?_⟩
 ·refine (good' _).trans ?_
  rw [Qhi h,Qd,Qd,et]
  by_cases g : QaM sh many a b c
  ·have hd : Ds (Qb9 sh a b c):=h.split n9 a0 a1 g
   rw [if_pos g,if_pos g,Qd]
   rw [if_pos g] at es
   dsimp only
   rw [decide_eq_true g]
   rw [show eqT (0 : Int) (if (!true) = true then (1 : Int) else 0) = true from Qbl (0 : Int),Qbm h,Qbl,Qfe h a0 a1,es]
   simp only [Qd,QhL,Qbm hd,Bool.not_true,Bool.false_eq_true,if_false,if_true]
   by_cases n : sh.homes.length < 9
   ·rw [decide_eq_true (by omega),if_pos rfl,if_pos n]; rfl
   ·rw [decide_eq_false (by omega),if_neg (by decide),if_neg n]; rfl
  ·rw [if_neg g,if_neg g,Qd]
   dsimp only
   rw [decide_eq_false g]
   rw [show eqT (1 : Int) (if (!false) = true then (1 : Int) else 0) = true from Qbl (1 : Int),Qbm h,Qbl]
   simp only [Qd,Bool.not_true,Bool.false_eq_true,if_false]
 ·by_cases g : QaM sh many a b c
  ·rw [if_pos g]
   by_cases n : sh.homes.length < 9
   ·rw [if_pos n]
    exact ⟨h.split n9 a0 a1 g,by show (sh.homes ++ [_]).length ≤ 9; simp; omega⟩
   ·rw [if_neg n]; exact ⟨h,n9⟩
  ·rw [if_neg g]; exact ⟨h,n9⟩
end
end Lw
namespace Lw
open Ps Tm
open Emb (d)
theorem Qdk {α β : Type} {k : α → M β} (P : β → Prop) : ∀ l : List α,(∀ a ∈ l,∃ b,k a = .ok b ∧ P b) → ∃ bs,Qbw k l = .ok bs ∧ bs.length = l.length ∧ ∀ b ∈ bs,P b
 | [],_ => ⟨[],rfl,rfl,fun _ z => nomatch z⟩
 | a :: l,h => by
  obtain ⟨b,e,p⟩:=h a List.mem_cons_self
  obtain ⟨bs,e2,e3,e4⟩:=Qdk P l fun x hx => h x (List.mem_cons_of_mem _ hx)
  refine ⟨b :: bs,?_,by simp [e3],fun y hy => ?_⟩
  ·unfold Qbw; rw [e]; simp only [e2,Qd]
  ·rcases List.mem_cons.mp hy with rfl | hy
   ·exact p
   ·exact e4 y hy
theorem Qi6 {i : Int} (h0 : 0 ≤ i) (h1 : i < 2) : ∃ c,ixS ("ab".toList : Tx) i = .ok (sg c):=
 ⟨_,Qjq (x:="ab".toList) h0 (show i < 2 from h1) (by decide)⟩
theorem QeA : ∀ l : List Tx,(∀ b ∈ l,b.length = 1) → (l.map List.length).sum = l.length
 | [],_ => rfl
 | b :: l,h => by
  have h1:=h b List.mem_cons_self
  have ih:=QeA l fun c hc => h c (List.mem_cons_of_mem _ hc)
  rw [List.map_cons,List.sum_cons,List.length_cons,ih,h1]; omega
theorem Qhk {x : Tx} {n : Int} (h0 : 0 ≤ n) (h1 : n ≤ 9) (hx : x.length = 1) : ∃ w,QeW x n = .ok w:=by
 unfold QeW
 by_cases z : n < 1
 ·rw [if_pos z]; exact ⟨_,QaL (by omega)⟩
 ·rw [if_neg z]
  by_cases z2 : n = 1
  ·rw [if_pos z2]; exact ⟨_,rfl⟩
  ·rw [if_neg z2]; exact ⟨_,QaL ⟨by omega,by omega,by omega⟩⟩
theorem QhZ {v : Int} (h0 : 0 ≤ v) : ∃ w : Tx,(M.bind (Q4 (fun (a28 : Int) => (M.bind (M.bind (ZA v a28) fun x29 => M.ok (x29 % 2)) fun x30 => (ixS ("ab".toList : Tx) x30))) ([(1 : Int),(2 : Int),(4 : Int)] : List Int)) fun x31 => (Zh ("".toList : Tx) x31)) = .ok w:=by
 obtain ⟨bs,e,l,p⟩:=Qdk (k:=fun (a28 : Int) => (M.bind (M.bind (ZA v a28) fun x29 => M.ok (x29 % 2)) fun x30 => (ixS ("ab".toList : Tx) x30))) (fun b : Tx => b.length = 1) [(1 : Int),(2 : Int),(4 : Int)] (fun a ha => by
  have ha2 : 0 < a ∧ a < 10:=by
   rcases List.mem_cons.mp ha with rfl | ha
   ·omega
   rcases List.mem_cons.mp ha with rfl | ha
   ·omega
   rw [List.mem_singleton.mp ha]; omega
  obtain ⟨c,ec⟩:=Qi6 (i:=v / a % 2) (Int.emod_nonneg _ (by decide)) (Int.emod_lt_of_pos _ (by decide))
  refine ⟨sg c,?_,rfl⟩
  rw [Qf6 ⟨by omega,by omega⟩,Qd,Qd]
  exact ec)
 rw [Zm (by simp),e,Qd]
 refine ⟨_,QgX ?_⟩
 rw [QeA bs p,l]
 decide
theorem Qia (y n a m : Int) (hn : 1 ≤ n) (a0 : 0 ≤ a) (a1 : a ≤ 100) (m0 : 0 ≤ m) (m8 : m ≤ 8) : ∃ l,ZX (Jc y n a) (rgT m) ([] : List (Tx × Int)) = .ok l ∧ l.length ≤ 8 ∧ ∀ r ∈ l,0 ≤ r.2 ∧ r.2 < n:=by
 obtain ⟨l,e,h1,h2⟩:=QdC (tb:=Jc y n a) (l:=rgT m) (s:=([] : List (Tx × Int))) (fun pre l => l.length = pre.length ∧ ∀ r ∈ l,0 ≤ r.2 ∧ r.2 < n) ⟨rfl,fun _ z => nomatch z⟩ (fun pre i post s el hp => by
  obtain ⟨hp1,hp2⟩:=hp
  have hi:=rgT_mem.mp (show i ∈ rgT m by rw [el]; simp)
  have hlen : (rgT m).length = pre.length + (post.length + 1):=by rw [el]; simp
  rw [Ja] at hlen
  obtain ⟨v0,v8⟩:=QaH y (((10 : Int) + (9 * a)) + i) 8 (by decide)
  obtain ⟨w,ew⟩:=QhZ v0
  obtain ⟨t0,t1⟩:=QaH y (((70 : Int) + (9 * a)) + i) n (by omega)
  refine ⟨s ++ [(w,Qaa y (((70 : Int) + (9 * a)) + i) n)],?_,?_,?_⟩
  ·unfold Jc
   rw [Zp y (((10 : Int) + (9 * a)) + i) 8 (by decide) (by omega) (by omega),Qd,ew,Qd,Zp y (((70 : Int) + (9 * a)) + i) n (by omega) (by omega) (by omega),Qd,Qd,QaA (by omega),Qd]
  ·rw [List.length_append,List.length_append,hp1]; rfl
  ·intro r hr
   rcases List.mem_append.mp hr with hr | hr
   ·exact hp2 r hr
   ·rw [List.mem_singleton.mp hr]; exact ⟨t0,t1⟩)
 rw [Ja] at h1
 exact ⟨l,e,by omega,h2⟩
theorem Qgf (x i : Int) (i0 : 0 ≤ i) (i1 : i ≤ 100) (w : Int) (w1 : 1 ≤ w) (w9 : w ≤ 9) : ∃ v,(M.bind (M.bind (Qp x (9 : Int) (4 : Int)) fun x14 => M.ok (eqT x14 (1 : Int))) fun c15 => if c15 then
  (M.bind (M.bind (Zd w (10 ^ 20 : Int)) fun x17 => (M.bind (Qp x ((20 : Int) + i) (10 ^ 9 : Int)) fun x18 => M.ok (x17 + x18))) fun Qn8 =>
  (M.ok Qn8)) else
  (M.ok w)) = .ok v ∧ 1 ≤ v:=by
 rw [Zp x 9 4 (by decide) (by decide) (by decide),Qd,Qd]
 cases eqT (Qaa x 9 4) (1 : Int) with
 | true =>
  rw [if_pos rfl,Qai (.inl ⟨by omega,by omega⟩),Qd,Zp x (20 + i) (10 ^ 9) (by decide) (by omega) (by omega),Qd,Qd]
  have:=(QaH x (20 + i) (10 ^ 9) (by decide)).1
  exact ⟨_,rfl,by omega⟩
 | false =>
  rw [if_neg (by decide)]
  exact ⟨w,rfl,w1⟩
theorem Qed (x y : Int) : ∃ sh,J2 x y = .ok (shP sh) ∧ Ds sh ∧ sh.homes.length ≤ 6:=by
 obtain ⟨n,en,n1,n6⟩ : ∃ n : Int,(1 : Int) + Qaa x 1 6 = n ∧ 1 ≤ n ∧ n ≤ 6:=⟨_,rfl,by have:=(QaH x 1 6 (by decide)).1; omega,by have:=(QaH x 1 6 (by decide)).2; omega⟩
 obtain ⟨hs,eh,lh,_⟩:=Qdk (k:=fun (a4 : Int) => (M.bind (M.bind (Qp x ((2 : Int) + a4) (2 : Int)) fun x5 => (ixS ("ab".toList : Tx) x5)) fun x6 => (QeW x6 (a4 % 3)))) (fun _ : Tx => True) (rgT n) (fun i hi => by
  have hi:=rgT_mem.mp hi
  obtain ⟨q0,q1⟩:=QaH x (2 + i) 2 (by decide)
  obtain ⟨c,ec⟩:=Qi6 q0 q1
  obtain ⟨w,ew⟩:=Qhk (x:=sg c) (n:=i % 3) (by omega) (by omega) rfl
  refine ⟨w,?_,trivial⟩
  show (M.bind (M.bind (Qp x ((2 : Int) + i) (2 : Int)) _) _) = _
  rw [Zp x (2 + i) 2 (by decide) (by omega) (by omega),Qd,ec,Qd,ew])
 rw [Ja] at lh
 obtain ⟨⟨ws,ls⟩,e,h1,h2,h3,h4⟩:=QdC (tb:=JY x y n) (l:=rgT n) (s:=(([] : List Int),([] : List (List (Tx × Int))))) (fun pre q => q.1.length = pre.length ∧ q.2.length = pre.length ∧ (∀ w ∈ q.1,1 ≤ w) ∧ ∀ l ∈ q.2,l.length ≤ 8 ∧ ∀ r ∈ l,0 ≤ r.2 ∧ r.2 < n) ⟨rfl,rfl,fun _ z => (nomatch z),fun _ z => (nomatch z)⟩ (fun pre i post s el hp => by
  obtain ⟨hp1,hp2,hp3,hp4⟩:=hp
  have hi:=rgT_mem.mp (show i ∈ rgT n by rw [el]; simp)
  have hlen : (rgT n).length = pre.length + (post.length + 1):=by rw [el]; simp
  rw [Ja] at hlen
  obtain ⟨q0,q1⟩:=QaH x (10 + i) 9 (by decide)
  obtain ⟨v,ev,v1⟩:=Qgf x i (by omega) (by omega) (1 + Qaa x (10 + i) 9) (by omega) (by omega)
  obtain ⟨p0,p1⟩:=QaH y (1 + i) 9 (by decide)
  obtain ⟨l,e1,l8,lr⟩:=Qia y n i (Qaa y (1 + i) 9) n1 (by omega) (by omega) p0 (by omega)
  refine ⟨(s.1 ++ [v],s.2 ++ [l]),?_,?_,?_,?_,?_⟩
  ·unfold JY
   rw [Zp x (10 + i) 9 (by decide) (by omega) (by omega),Qd,Qd,ev,Qd,Qd,QaA (by omega),Qd,Qd,Zp y (1 + i) 9 (by decide) (by omega) (by omega),Qd,Qci ⟨by omega,by omega⟩,Qd,e1,Qd,Qd,QaA (by omega),Qd]
  ·show (s.1 ++ [v]).length = _
   rw [List.length_append,List.length_append,hp1]; rfl
  ·show (s.2 ++ [l]).length = _
   rw [List.length_append,List.length_append,hp2]; rfl
  ·intro w hw
   rcases List.mem_append.mp hw with hw | hw
   ·exact hp3 w hw
   ·rw [List.mem_singleton.mp hw]; exact v1
  ·intro k hk
   rcases List.mem_append.mp hk with hk | hk
   ·exact hp4 k hk
   ·rw [List.mem_singleton.mp hk]; exact ⟨l8,lr⟩)
 rw [Ja] at h1 h2
 have h1 : ws.length = n.toNat:=h1
 have h2 : ls.length = n.toNat:=h2
 refine ⟨⟨hs,ws,ls⟩,?_,⟨?_,?_,?_,?_,h3,?_,?_⟩,?_⟩
 ·unfold J2
  rw [Zp x 1 6 (by decide) (by decide) (by decide),Qd,Qd]
  rw [en,Qci ⟨by omega,by omega⟩,Qd,Zm (by rw [Ja]; omega),eh,Qd,Qd,Qd,Qd,e,Qd]
 ·show 1 ≤ hs.length; omega
 ·show hs.length ≤ 10; omega
 ·show ws.length = hs.length; omega
 ·show ls.length = hs.length; omega
 ·intro l hl r hr
  have:=(h4 l hl).2 r hr
  exact ⟨this.1,show r.2 < (hs.length : Int) by omega⟩
 ·intro l hl
  have:=(h4 l hl).1
  have : 1 ≤ 2 ^ (hs.length - 1):=Nat.one_le_two_pow
  show l.length ≤ 8 * 2 ^ (hs.length - 1)
  omega
 ·show hs.length ≤ 6; omega
end Lw
namespace Lw
open Ps Tm
open Emb (d)
theorem Qff (sc : Scr) : Qhh sc = .ok true:=by
 obtain ⟨sh,e,h,n6⟩:=Qed (sc.ns.getD 0 0) (sc.ns.getD 1 0)
 obtain ⟨many,em,m2,m8⟩ : ∃ many : Int,(2 : Int) + sc.ns.getD 2 0 % 7 = many ∧ 2 ≤ many ∧ many ≤ 8:=⟨_,rfl,by have:=Int.emod_nonneg (sc.ns.getD 2 0) (show (7 : Int) ≠ 0 by decide); omega,by have:=Int.emod_lt_of_pos (sc.ns.getD 2 0) (show (0 : Int) < 7 by decide); omega⟩
 have n0:=Qea sc 0 (by decide)
 have n1:=Qea sc 1 (by decide)
 have n2:=Qea sc 2 (by decide)
 have n3:=Qea sc 3 (by decide)
 have cl : (cut sc.ns (some (4 : Int)) (some (14 : Int))).length ≤ 10:=by
  rw [QfB _ _ _ (by decide) (by decide)]
  rw [List.length_drop,List.length_take]
  have : (14 : Int).toNat = 14:=rfl
  have : (4 : Int).toNat = 4:=rfl
  omega
 obtain ⟨s',e',_⟩:=QgZ (tb:=Qbh many) (l:=[sc.ns.getD 3 0] ++ cut sc.ns (some (4 : Int)) (some (14 : Int))) (s:=shP sh) (fun _ q => ∃ sh',q = shP sh' ∧ Ds sh' ∧ sh'.homes.length ≤ 9) ⟨sh,rfl,h,by omega⟩ (fun pre a post q _ hq => by
  obtain ⟨sh1,rfl,h1,k9⟩:=hq
  obtain ⟨sh2,e2,h2,k2⟩:=QhY h1 k9 m2 m8 a
  exact ⟨_,.inl e2,sh2,rfl,h2,k2⟩)
 unfold Qhh
 rw [n0,Qd,n1,Qd]
 show (M.bind (J2 (sc.ns.getD 0 0) (sc.ns.getD 1 0)) _) = _
 rw [e,Qd,n2,Qd,Qd]
 show (M.bind (M.ok ((2 : Int) + sc.ns.getD 2 0 % 7)) _) = _
 rw [em,Qd,n3,Qd,Qd,ZK (by simp; omega),Qd]
 show (Qcf (Qbh many) ([sc.ns.getD 3 0] ++ cut sc.ns (some (4 : Int)) (some (14 : Int))) (shP sh)).bind _ = _
 rw [e',Qd]; rfl
theorem law_true : ∀ ns : List Int,ns.length ≤ 63 → Qhf [.scr ns] = .ok (.bl true):=fun ns h => by
 have:=Qjw ⟨ns⟩
 rw [Qff ⟨ns⟩] at this
 exact this
end Lw
namespace Lw
open PySem PySem.Spec PyProof.Rows L2 Ps
structure Txt (K : PySem.W.Frag) (mg : Str → Option Value) (ct fa : Nat → Addr) : Prop where
 F_Sheet__init_ : ∃ fd,L2.Fun K "__init__" "Sheet.__init__" Q0 (fa 0) fd
 F_borne_by : ∃ fd,L2.Fun K "borne_by" "borne_by" QV (fa 1) fd
 g_borne_by : mg "borne_by" = some (.ref (fa 1))
 F_doubled : ∃ fd,L2.Fun K "doubled" "doubled" Zz (fa 2) fd
 g_doubled : mg "doubled" = some (.ref (fa 2))
 F_law_nth : ∃ fd,L2.Fun K "_law_nth" "_law_nth" Z0 (fa 4) fd
 g_law_nth : mg "_law_nth" = some (.ref (fa 4))
 F_law_mixed : ∃ fd,L2.Fun K "_law_mixed" "_law_mixed" QU (fa 5) fd
 g_law_mixed : mg "_law_mixed" = some (.ref (fa 5))
 F_law_part : ∃ fd,L2.Fun K "_law_part" "_law_part" QO (fa 7) fd
 g_law_part : mg "_law_part" = some (.ref (fa 7))
 F_law_is_sheet : ∃ fd,L2.Fun K "_law_is_sheet" "_law_is_sheet" Qw (fa 9) fd
 g_law_is_sheet : mg "_law_is_sheet" = some (.ref (fa 9))
 F_law_sheet : ∃ fd,L2.Fun K "_law_sheet" "_law_sheet" QJ (fa 6) fd
 g_law_sheet : mg "_law_sheet" = some (.ref (fa 6))
 F_law_divided : ∃ fd,L2.Fun K "_law_divided" "_law_divided" Q9 (fa 8) fd
 g_law_divided : mg "_law_divided" = some (.ref (fa 8))
 F_law_choice : ∃ fd,L2.Fun K "_law_choice" "_law_choice" QH (fa 10) fd
 g_law_choice : mg "_law_choice" = some (.ref (fa 10))
 F_split : ∃ fd,L2.Fun K "split" "split" Z3 (fa 3) fd
 g_split : mg "split" = some (.ref (fa 3))
 F_law_told : ∃ fd,L2.Fun K "_law_told" "_law_told" Zi (fa 11) fd
 g_law_told : mg "_law_told" = some (.ref (fa 11))
 F_law : ∃ fd,L2.Fun K "law" "law" QaP (fa 12) fd
 g_law : mg "law" = some (.ref (fa 12))
 g_Sheet : mg "Sheet" = some (.ref (ct 1))
 cl_1 : Cls K (ct 1)
 ow_1 : OwnC K (ct 1)
 na_1_homes : NoAttr K (ct 1) "homes"
 na_1_weights : NoAttr K (ct 1) "weights"
 na_1_lines : NoAttr K (ct 1) "lines"
 mk_1 : Mk K (ct 1) (fa 0)
 g_BandError : mg "BandError" = some (.ref (ct 6))
 g_TooMany : mg "TooMany" = some (.ref (ct 8))
 g_NoPlace : mg "NoPlace" = some (.ref (ct 12))
 g_NoNumber : mg "NoNumber" = some (.ref (ct 13))
 g_NoRate : mg "NoRate" = some (.ref (ct 14))
 g_NoSplit : mg "NoSplit" = some (.ref (ct 15))
 g_Open : mg "Open" = some (.ref (ct 18))
 er_NoSplit : ErrC K mg (ct 15) "NoSplit"
 ec_NoSplit : ExcC K (ct 15)
 xm_NoSplit_BandError : PySem.W.exmOne K (.ref (ct 15)) (.ref (ct 6)) = some true
 ks_NoNumber_tyNoneType : PySem.W.kitOne K (.type "NoneType") (.ref (ct 13)) = some false
 ks_NoNumber_err15 : PySem.W.kitOne K (.ref (ct 15)) (.ref (ct 13)) = some false
 ks_NoPlace_tyNoneType : PySem.W.kitOne K (.type "NoneType") (.ref (ct 12)) = some false
 ks_NoPlace_err15 : PySem.W.kitOne K (.ref (ct 15)) (.ref (ct 12)) = some false
 ks_NoRate_tyNoneType : PySem.W.kitOne K (.type "NoneType") (.ref (ct 14)) = some false
 ks_NoRate_err15 : PySem.W.kitOne K (.ref (ct 15)) (.ref (ct 14)) = some false
 ks_NoSplit_tyNoneType : PySem.W.kitOne K (.type "NoneType") (.ref (ct 15)) = some false
 ks_NoSplit_err15 : PySem.W.kitOne K (.ref (ct 15)) (.ref (ct 15)) = some true
 ks_Open_tyNoneType : PySem.W.kitOne K (.type "NoneType") (.ref (ct 18)) = some false
 ks_Open_err15 : PySem.W.kitOne K (.ref (ct 15)) (.ref (ct 18)) = some false
 ks_Sheet_own1 : PySem.W.kitOne K (.ref (ct 1)) (.ref (ct 1)) = some true
 ks_TooMany_tyNoneType : PySem.W.kitOne K (.type "NoneType") (.ref (ct 8)) = some false
 ks_TooMany_err15 : PySem.W.kitOne K (.ref (ct 15)) (.ref (ct 8)) = some false
 ks_ValueError_err15 : PySem.W.kitOne K (.ref (ct 15)) (.type "ValueError") = some true
 ks_bool_err15 : PySem.W.kitOne K (.ref (ct 15)) (.type "bool") = some false
 ks_int_err15 : PySem.W.kitOne K (.ref (ct 15)) (.type "int") = some false
 ks_list_err15 : PySem.W.kitOne K (.ref (ct 15)) (.type "list") = some false
 z_ValueError : mg "ValueError" = none
 z_abs : mg "abs" = none
 z_all : mg "all" = none
 z_any : mg "any" = none
 z_bool : mg "bool" = none
 z_int : mg "int" = none
 z_isinstance : mg "isinstance" = none
 z_len : mg "len" = none
 z_list : mg "list" = none
 z_range : mg "range" = none
 z_sum : mg "sum" = none
theorem Ze {α : Type} {p : Prop} [Decidable p] {a b c : α} (h : (if p then a else b) = c) : (p ∧ a = c) ∨ (¬p ∧ b = c):=by
 by_cases q : p
 ·exact .inl ⟨q,by rw [if_pos q] at h; exact h⟩
 ·exact .inr ⟨q,by rw [if_neg q] at h; exact h⟩
section
variable {P : Program} {w : World} {K : PySem.W.Frag} {mg : Str → Option Value} {base : Heap} {ct fa : Nat → Addr}
theorem QeB (T : Txt K mg ct fa) : Qcw K ct (.ref (ct 13)) Qaj:=by
 intro k b h
 cases k with
 | ty n =>
  rcases Ze h with ⟨q,h⟩ | ⟨_,h⟩
  ·subst q; cases h; exact ⟨T.ks_NoNumber_tyNoneType,trivial⟩
  ·cases h
 | own n => cases h
 | err n =>
  rcases Ze h with ⟨q,h⟩ | ⟨_,h⟩
  ·subst q; cases h; exact ⟨T.ks_NoNumber_err15,T.ec_NoSplit⟩
  ·cases h
 | no => cases h
theorem Qfg (T : Txt K mg ct fa) : Qcw K ct (.ref (ct 12)) QaC:=by
 intro k b h
 cases k with
 | ty n =>
  rcases Ze h with ⟨q,h⟩ | ⟨_,h⟩
  ·subst q; cases h; exact ⟨T.ks_NoPlace_tyNoneType,trivial⟩
  ·cases h
 | own n => cases h
 | err n =>
  rcases Ze h with ⟨q,h⟩ | ⟨_,h⟩
  ·subst q; cases h; exact ⟨T.ks_NoPlace_err15,T.ec_NoSplit⟩
  ·cases h
 | no => cases h
theorem Qgg (T : Txt K mg ct fa) : Qcw K ct (.ref (ct 14)) Qbs:=by
 intro k b h
 cases k with
 | ty n =>
  rcases Ze h with ⟨q,h⟩ | ⟨_,h⟩
  ·subst q; cases h; exact ⟨T.ks_NoRate_tyNoneType,trivial⟩
  ·cases h
 | own n => cases h
 | err n =>
  rcases Ze h with ⟨q,h⟩ | ⟨_,h⟩
  ·subst q; cases h; exact ⟨T.ks_NoRate_err15,T.ec_NoSplit⟩
  ·cases h
 | no => cases h
theorem Qfh (T : Txt K mg ct fa) : Qcw K ct (.ref (ct 15)) QaD:=by
 intro k b h
 cases k with
 | ty n =>
  rcases Ze h with ⟨q,h⟩ | ⟨_,h⟩
  ·subst q; cases h; exact ⟨T.ks_NoSplit_tyNoneType,trivial⟩
  ·cases h
 | own n => cases h
 | err n =>
  rcases Ze h with ⟨q,h⟩ | ⟨_,h⟩
  ·subst q; cases h; exact ⟨T.ks_NoSplit_err15,T.ec_NoSplit⟩
  ·cases h
 | no => cases h
theorem Qib (T : Txt K mg ct fa) : Qcw K ct (.ref (ct 18)) QcB:=by
 intro k b h
 cases k with
 | ty n =>
  rcases Ze h with ⟨q,h⟩ | ⟨_,h⟩
  ·subst q; cases h; exact ⟨T.ks_Open_tyNoneType,trivial⟩
  ·cases h
 | own n => cases h
 | err n =>
  rcases Ze h with ⟨q,h⟩ | ⟨_,h⟩
  ·subst q; cases h; exact ⟨T.ks_Open_err15,T.ec_NoSplit⟩
  ·cases h
 | no => cases h
theorem Qhl (T : Txt K mg ct fa) : Qcw K ct (.ref (ct 1)) Qde:=by
 intro k b h
 cases k with
 | ty n => cases h
 | own n =>
  rcases Ze h with ⟨q,h⟩ | ⟨_,h⟩
  ·subst q; cases h; exact ⟨T.ks_Sheet_own1,T.ow_1⟩
  ·cases h
 | err n => cases h
 | no => cases h
theorem Qfi (T : Txt K mg ct fa) : Qcw K ct (.ref (ct 8)) QaE:=by
 intro k b h
 cases k with
 | ty n =>
  rcases Ze h with ⟨q,h⟩ | ⟨_,h⟩
  ·subst q; cases h; exact ⟨T.ks_TooMany_tyNoneType,trivial⟩
  ·cases h
 | own n => cases h
 | err n =>
  rcases Ze h with ⟨q,h⟩ | ⟨_,h⟩
  ·subst q; cases h; exact ⟨T.ks_TooMany_err15,T.ec_NoSplit⟩
  ·cases h
 | no => cases h
theorem Qdq (T : Txt K mg ct fa) : Qcw K ct (.type "ValueError") Jn:=by
 intro k b h
 cases k with
 | ty n =>
  rcases Ze h with ⟨q,h⟩ | ⟨_,h⟩
  ·subst q; cases h; exact ⟨kit_ty (by decide +kernel),trivial⟩
  rcases Ze h with ⟨q,h⟩ | ⟨_,h⟩
  ·subst q; cases h; exact ⟨kit_ty (by decide +kernel),trivial⟩
  rcases Ze h with ⟨q,h⟩ | ⟨_,h⟩
  ·subst q; cases h; exact ⟨kit_ty (by decide +kernel),trivial⟩
  rcases Ze h with ⟨q,h⟩ | ⟨_,h⟩
  ·subst q; cases h; exact ⟨kit_ty (by decide +kernel),trivial⟩
  rcases Ze h with ⟨q,h⟩ | ⟨_,h⟩
  ·subst q; cases h; exact ⟨kit_ty (by decide +kernel),trivial⟩
  rcases Ze h with ⟨q,h⟩ | ⟨_,h⟩
  ·subst q; cases h; exact ⟨kit_ty (by decide +kernel),trivial⟩
  rcases Ze h with ⟨q,h⟩ | ⟨_,h⟩
  ·subst q; cases h; exact ⟨kit_ty (by decide +kernel),trivial⟩
  ·cases h
 | own n => cases h
 | err n =>
  rcases Ze h with ⟨q,h⟩ | ⟨_,h⟩
  ·subst q; cases h; exact ⟨T.ks_ValueError_err15,T.ec_NoSplit⟩
  ·cases h
 | no => cases h
theorem Qic (T : Txt K mg ct fa) : Qcw K ct (.type "bool") QdW:=by
 intro k b h
 cases k with
 | ty n =>
  rcases Ze h with ⟨q,h⟩ | ⟨_,h⟩
  ·subst q; cases h; exact ⟨kit_ty (by decide +kernel),trivial⟩
  rcases Ze h with ⟨q,h⟩ | ⟨_,h⟩
  ·subst q; cases h; exact ⟨kit_ty (by decide +kernel),trivial⟩
  rcases Ze h with ⟨q,h⟩ | ⟨_,h⟩
  ·subst q; cases h; exact ⟨kit_ty (by decide +kernel),trivial⟩
  rcases Ze h with ⟨q,h⟩ | ⟨_,h⟩
  ·subst q; cases h; exact ⟨kit_ty (by decide +kernel),trivial⟩
  rcases Ze h with ⟨q,h⟩ | ⟨_,h⟩
  ·subst q; cases h; exact ⟨kit_ty (by decide +kernel),trivial⟩
  rcases Ze h with ⟨q,h⟩ | ⟨_,h⟩
  ·subst q; cases h; exact ⟨kit_ty (by decide +kernel),trivial⟩
  rcases Ze h with ⟨q,h⟩ | ⟨_,h⟩
  ·subst q; cases h; exact ⟨kit_ty (by decide +kernel),trivial⟩
  ·cases h
 | own n => cases h
 | err n =>
  rcases Ze h with ⟨q,h⟩ | ⟨_,h⟩
  ·subst q; cases h; exact ⟨T.ks_bool_err15,T.ec_NoSplit⟩
  ·cases h
 | no => cases h
theorem Qjx (T : Txt K mg ct fa) : Qcw K ct (.type "int") QeY:=by
 intro k b h
 cases k with
 | ty n =>
  rcases Ze h with ⟨q,h⟩ | ⟨_,h⟩
  ·subst q; cases h; exact ⟨kit_ty (by decide +kernel),trivial⟩
  rcases Ze h with ⟨q,h⟩ | ⟨_,h⟩
  ·subst q; cases h; exact ⟨kit_ty (by decide +kernel),trivial⟩
  rcases Ze h with ⟨q,h⟩ | ⟨_,h⟩
  ·subst q; cases h; exact ⟨kit_ty (by decide +kernel),trivial⟩
  rcases Ze h with ⟨q,h⟩ | ⟨_,h⟩
  ·subst q; cases h; exact ⟨kit_ty (by decide +kernel),trivial⟩
  rcases Ze h with ⟨q,h⟩ | ⟨_,h⟩
  ·subst q; cases h; exact ⟨kit_ty (by decide +kernel),trivial⟩
  rcases Ze h with ⟨q,h⟩ | ⟨_,h⟩
  ·subst q; cases h; exact ⟨kit_ty (by decide +kernel),trivial⟩
  rcases Ze h with ⟨q,h⟩ | ⟨_,h⟩
  ·subst q; cases h; exact ⟨kit_ty (by decide +kernel),trivial⟩
  ·cases h
 | own n => cases h
 | err n =>
  rcases Ze h with ⟨q,h⟩ | ⟨_,h⟩
  ·subst q; cases h; exact ⟨T.ks_int_err15,T.ec_NoSplit⟩
  ·cases h
 | no => cases h
theorem QcC (T : Txt K mg ct fa) : Qcw K ct (.type "list") Qbt:=by
 intro k b h
 cases k with
 | ty n =>
  rcases Ze h with ⟨q,h⟩ | ⟨_,h⟩
  ·subst q; cases h; exact ⟨kit_ty (by decide +kernel),trivial⟩
  rcases Ze h with ⟨q,h⟩ | ⟨_,h⟩
  ·subst q; cases h; exact ⟨kit_ty (by decide +kernel),trivial⟩
  rcases Ze h with ⟨q,h⟩ | ⟨_,h⟩
  ·subst q; cases h; exact ⟨kit_ty (by decide +kernel),trivial⟩
  rcases Ze h with ⟨q,h⟩ | ⟨_,h⟩
  ·subst q; cases h; exact ⟨kit_ty (by decide +kernel),trivial⟩
  rcases Ze h with ⟨q,h⟩ | ⟨_,h⟩
  ·subst q; cases h; exact ⟨kit_ty (by decide +kernel),trivial⟩
  rcases Ze h with ⟨q,h⟩ | ⟨_,h⟩
  ·subst q; cases h; exact ⟨kit_ty (by decide +kernel),trivial⟩
  rcases Ze h with ⟨q,h⟩ | ⟨_,h⟩
  ·subst q; cases h; exact ⟨kit_ty (by decide +kernel),trivial⟩
  ·cases h
 | own n => cases h
 | err n =>
  rcases Ze h with ⟨q,h⟩ | ⟨_,h⟩
  ·subst q; cases h; exact ⟨T.ks_list_err15,T.ec_NoSplit⟩
  ·cases h
 | no => cases h
theorem Qcm (T : Txt K mg ct fa) : ∀ n b,Jo n = some b → PySem.W.exmOne K (.ref (ct n)) (.ref (ct 6)) = some b:=by
 intro n b h
 rcases Ze h with ⟨q,h⟩ | ⟨_,h⟩
 ·subst q; cases h; exact T.xm_NoSplit_BandError
 ·cases h
theorem sc_Sheet__init_ : FnScope ["self", "homes", "weights", "lines", "line"] ["self", "homes", "weights", "lines"] (L2.defScope Q0):=⟨rfl,rfl,rfl,by decide +kernel,rfl,by decide +kernel,by decide +kernel⟩
theorem Qcz (T : Txt K mg ct fa) {fd : FuncData} (F : L2.Fun K "__init__" "Sheet.__init__" Q0 (fa 0) fd) : FnOk P w K mg base (L2.CX P w) 1 (fa 0) fd ["self", "homes", "weights", "lines"] (spI K ct 1 [false,false,false] QY):=by
 refine Qh5 (k:=0) (N:=["self", "homes", "weights", "lines", "line"]) F sc_Sheet__init_ rfl fun cdv A outer s H E hr => ?_
 have nd:=sc_Sheet__init_.nd
 exact (Qj (Qg3 1 0 T.cl_1 T.na_1_homes (e_n (QaZ T.z_list (by rfl)  (e_b (Qc 1)))))
  (Qj (Qg3 1 0 T.cl_1 T.na_1_weights (e_n (QaZ T.z_list (by rfl)  (e_b (Qc 2)))))
  (Qj (Qg3 1 0 T.cl_1 T.na_1_lines (e_n (Qb5 [("line",4)] rfl rfl nd (J9 (m:=true) JO QcO (e_b (Qc 3))) (blkOk_by (own:=[("line",4)]) (N:=["self", "homes", "weights", "lines", "line"]) (sc:=L2.defScope Q0) (by decide +kernel)) (fun _ _ _ _ _ => (pg_name (i:=4) nd rfl (by first | exact Or.inl rfl | exact Or.inr rfl))) (Z8 4) (by decide) (fun _ _ _ _ _ => J4) (fun _ _ _ _ _ => (e_n (QaZ T.z_list (by rfl)  (e_b (Qc 4))))))))
  QE)))
theorem Qa1 (T : Txt K mg ct fa) : Cal P w K mg base 1 (fa 0) (spI K ct 1 [false,false,false] QY):=by
 obtain ⟨fd,F⟩:=T.F_Sheet__init_
 refine ⟨⟨fd,["self", "homes", "weights", "lines"],Qcz T F,?_⟩,F.kp⟩
 exact F.binds fun _ _ _ _ _ _ us hl => match us,hl with | [_,_,_,_],_ => rfl
theorem sc_borne_by : FnScope ["sheet", "line", "word", "end"] ["sheet", "line"] (L2.defScope QV):=⟨rfl,rfl,rfl,by decide +kernel,rfl,by decide +kernel,by decide +kernel⟩
theorem QeC (T : Txt K mg ct fa) {fd : FuncData} (F : L2.Fun K "borne_by" "borne_by" QV (fa 1) fd) : FnOk P w K mg base (L2.CX P w) 1 (fa 1) fd ["sheet", "line"] (spP K ct [true,false] false JW):=by
 refine fn_ok (k:=0) (N:=["sheet", "line", "word", "end"]) F sc_borne_by rfl fun cdv A outer s H E hr => ?_
 have nd:=sc_borne_by.nd
 exact (Zj (Z9 (Qiv T.z_sum (by rfl) rfl (e_b (e_n (Qb5 [("word",2),("end",3)] rfl rfl nd (J9 (m:=true) JO QcO (e_b (Qc 1))) (blkOk_by (own:=[("word",2),("end",3)]) (N:=["sheet", "line", "word", "end"]) (sc:=L2.defScope QV) (by decide +kernel)) (fun _ _ _ _ _ => (pg_tup rfl (pgs_cons (pg_name (i:=2) nd rfl (by first | exact Or.inl rfl | exact Or.inr rfl)) (pgs_cons (pg_name (i:=3) nd rfl (by first | exact Or.inl rfl | exact Or.inr rfl)) pgs_nil)))) (Qcn [2,3]) (by decide) (fun _ _ _ _ _ => J4) (fun _ _ _ _ _ => (ZI (hu_of hr) (e_b (ZQ 1 T.cl_1 T.na_1_weights (QL 0))) (Qc 3)))))))))
theorem QbT (T : Txt K mg ct fa) : Cal P w K mg base 1 (fa 1) (spP K ct [true,false] false JW):=by
 obtain ⟨fd,F⟩:=T.F_borne_by
 refine ⟨⟨fd,["sheet", "line"],QeC T F,?_⟩,F.kp⟩
 exact F.binds fun _ _ _ _ _ _ us hl => match us,hl with | [_,_],_ => rfl
theorem sc_doubled : FnScope ["line", "desk", "other", "found", "word", "end"] ["line", "desk", "other"] (L2.defScope Zz):=⟨rfl,rfl,rfl,by decide +kernel,rfl,by decide +kernel,by decide +kernel⟩
theorem Qfj (T : Txt K mg ct fa) {fd : FuncData} (F : L2.Fun K "doubled" "doubled" Zz (fa 2) fd) : FnOk P w K mg base (L2.CX P w) 1 (fa 2) fd ["line", "desk", "other"] (spP K ct [false,false,false] false Qbu):=by
 refine fn_ok (k:=0) (N:=["line", "desk", "other", "found", "word", "end"]) F sc_doubled rfl fun cdv A outer s H E hr => ?_
 have nd:=sc_doubled.nd
 exact (Qj (Qd1 (i:=3) nd rfl (by first | exact Or.inl rfl | exact Or.inr rfl) (ZJ (k:=0) 0 Qo))
  (Qj (Qco (passes_of rfl) rfl (Qcn [4,5]) (J9 (m:=false) QcP Qgy (Qc 0)) (pg_tup rfl (pgs_cons (pg_name (i:=4) nd rfl (by first | exact Or.inl rfl | exact Or.inr rfl)) (pgs_cons (pg_name (i:=5) nd rfl (by first | exact Or.inl rfl | exact Or.inr rfl)) pgs_nil))) (Qj (QbF 3 (JM 2 (Qe (m:=false) (Qc 4) (Qe (m:=false) (Qc 5) Qo))))
  (Qj (JR (Qcx hr (e_b (Qc 5)) (e_b (Qc 1))) (Qj (QbF 3 (JM 2 (Qe (m:=false) (Qc 4) (Qe (m:=false) (Qc 2) Qo))))
  QE) QE)
  (Q7 4 (Q7 5 QE)))))
  (JS 3 (Zj (Z9 (Qc 3))))))
theorem QeD (T : Txt K mg ct fa) : Cal P w K mg base 1 (fa 2) (spP K ct [false,false,false] false Qbu):=by
 obtain ⟨fd,F⟩:=T.F_doubled
 refine ⟨⟨fd,["line", "desk", "other"],Qfj T F,?_⟩,F.kp⟩
 exact F.binds fun _ _ _ _ _ _ us hl => match us,hl with | [_,_,_],_ => rfl
theorem sc_law_nth : FnScope ["_law_script", "_law_k", "_law_cell"] ["_law_script", "_law_k"] (L2.defScope Z0):=⟨rfl,rfl,rfl,by decide +kernel,rfl,by decide +kernel,by decide +kernel⟩
theorem Qfk (T : Txt K mg ct fa) {fd : FuncData} (F : L2.Fun K "_law_nth" "_law_nth" Z0 (fa 4) fd) : FnOk P w K mg base (L2.CX P w) 1 (fa 4) fd ["_law_script", "_law_k"] (spP K ct [false,false] false Jf):=by
 refine fn_ok (k:=0) (N:=["_law_script", "_law_k", "_law_cell"]) F sc_law_nth rfl fun cdv A outer s H E hr => ?_
 have nd:=sc_law_nth.nd
 exact (Qj (Qco (passes_of rfl) rfl (Z8 2) (J9 (m:=false) QcP Qgy (Qaf (e_b (Qc 0)) (Qam (Qc 1)) (Qam (QR (e_b (Qc 1)) (e_b Qn))))) (pg_name (i:=2) nd rfl (by first | exact Or.inl rfl | exact Or.inr rfl)) (Zj (Z9 (Qc 2))))
  (Zj (Z9 Qn)))
theorem Qal (T : Txt K mg ct fa) : Cal P w K mg base 1 (fa 4) (spP K ct [false,false] false Jf):=by
 obtain ⟨fd,F⟩:=T.F_law_nth
 refine ⟨⟨fd,["_law_script", "_law_k"],Qfk T F,?_⟩,F.kp⟩
 exact F.binds fun _ _ _ _ _ _ us hl => match us,hl with | [_,_],_ => rfl
theorem sc_law_mixed : FnScope ["_law_cell", "_law_turn", "_law_many", "_law_digits", "_law_step", "_law_low", "_law_high", "_law_number"] ["_law_cell", "_law_turn", "_law_many"] (L2.defScope QU):=⟨rfl,rfl,rfl,by decide +kernel,rfl,by decide +kernel,by decide +kernel⟩
theorem Qee (T : Txt K mg ct fa) {fd : FuncData} (F : L2.Fun K "_law_mixed" "_law_mixed" QU (fa 5) fd) : FnOk P w K mg base (L2.CX P w) 1 (fa 5) fd ["_law_cell", "_law_turn", "_law_many"] (spP K ct [false,false,false] false Qy):=by
 refine fn_ok (k:=0) (N:=["_law_cell", "_law_turn", "_law_many", "_law_digits", "_law_step", "_law_low", "_law_high", "_law_number"]) F sc_law_mixed rfl fun cdv A outer s H E hr => ?_
 have nd:=sc_law_mixed.nd
 exact (Qj (JR (Qcx hr (e_b (QaX (Qc 0) Qn)) (e_b Qn)) (Qj (QK (i:=3) nd rfl (by first | exact Or.inl rfl | exact Or.inr rfl) (Qb4 (Qkn T.z_abs (by rfl)  (Qc 0)) Qn))
  (Qj (Qco (passes_of rfl) rfl (Z8 4) (Qa4 (by rfl) T.z_range (Qe (m:=false) (Qc 1) Qo)) (pg_name (i:=4) nd rfl (by first | exact Or.inl rfl | exact Or.inr rfl)) (Qj (QK (i:=3) nd rfl (by first | exact Or.inl rfl | exact Or.inr rfl) (Qb4 (Qc 3) Qn))
  (Q7 4 QE)))
  (Zj (Z9 (QaX (QaX (Qc 3) Qn) (Qc 2)))))) QE)
  (Qj (QK (i:=5) nd rfl (by first | exact Or.inl rfl | exact Or.inr rfl) (QaX (Qc 0) Qn))
  (Qj (QK (i:=6) nd rfl (by first | exact Or.inl rfl | exact Or.inr rfl) (QaX (Qb4 (Qc 0) Qn) Qn))
  (Qj (QK (i:=7) nd rfl (by first | exact Or.inl rfl | exact Or.inr rfl) (QR (e_b (Qae (Qc 5) (QR (e_b Qn) (e_b (Qae (Qc 1) Qn))))) (e_b (Qae (Qc 6) (QR (e_b (Qc 1)) (e_b Qn))))))
  (Qj (QK (i:=7) nd rfl (by first | exact Or.inl rfl | exact Or.inr rfl) (QaX (QR (e_b (QR (e_b (Qc 7)) (e_b (Qae (Qae (Qc 1) (Qc 1)) Qn)))) (e_b Qn)) Qn))
  (Zj (Z9 (QaX (QaX (Qae (Qc 7) (Qc 7)) Qn) (Qc 2)))))))))
theorem Qx (T : Txt K mg ct fa) : Cal P w K mg base 1 (fa 5) (spP K ct [false,false,false] false Qy):=by
 obtain ⟨fd,F⟩:=T.F_law_mixed
 refine ⟨⟨fd,["_law_cell", "_law_turn", "_law_many"],Qee T F,?_⟩,F.kp⟩
 exact F.binds fun _ _ _ _ _ _ us hl => match us,hl with | [_,_,_],_ => rfl
theorem sc_law_part : FnScope ["_law_lines", "_law_weights", "_law_desk", "_law_numbers", "_law_some", "_law_k", "_law_others", "_law_sums", "_law_word", "_law_end", "_law_line"] ["_law_lines", "_law_weights", "_law_desk", "_law_numbers"] (L2.defScope QO):=⟨rfl,rfl,rfl,by decide +kernel,rfl,by decide +kernel,by decide +kernel⟩
theorem QeE (T : Txt K mg ct fa) {fd : FuncData} (F : L2.Fun K "_law_part" "_law_part" QO (fa 7) fd) : FnOk P w K mg base (L2.CX P w) 1 (fa 7) fd ["_law_lines", "_law_weights", "_law_desk", "_law_numbers"] (spP K ct [false,false,false,false] false Jg):=by
 refine fn_ok (k:=0) (N:=["_law_lines", "_law_weights", "_law_desk", "_law_numbers", "_law_some", "_law_k", "_law_others", "_law_sums", "_law_word", "_law_end", "_law_line"]) F sc_law_part rfl fun cdv A outer s H E hr => ?_
 have nd:=sc_law_part.nd
 exact (Qj (Qa7 (i:=4) [("_law_k",5)] rfl rfl nd rfl rfl (sw_true rfl rfl rfl (by decide +kernel)) (Qa4 (by rfl) T.z_range (Qe (m:=false) (QaY T.z_len (by rfl)  (e_b (ZI (hu_of hr) (e_b (Qc 0)) (Qc 2)))) Qo)) (blkOk_by (own:=[("_law_k",5)]) (N:=["_law_lines", "_law_weights", "_law_desk", "_law_numbers", "_law_some", "_law_k", "_law_others", "_law_sums", "_law_word", "_law_end", "_law_line"]) (sc:=L2.defScope QO) (by decide +kernel)) (fun _ _ _ _ _ => (pg_name (i:=5) nd rfl (by first | exact Or.inl rfl | exact Or.inr rfl))) (Z8 5) (by decide) (fun _ _ _ _ _ => (QcS (Qkm hr (Qc 5) (e_b (Qc 3))))) (fun _ _ _ _ _ => (ZI (hu_of hr) (e_b (ZI (hu_of hr) (e_b (Qc 0)) (Qc 2))) (Qc 5))))
  (Qj (Qa7 (i:=6) [("_law_k",5)] rfl rfl nd rfl rfl (sw_true rfl rfl rfl (by decide +kernel)) (Qa4 (by rfl) T.z_range (Qe (m:=false) (QaY T.z_len (by rfl)  (e_b (ZI (hu_of hr) (e_b (Qc 0)) (Qc 2)))) Qo)) (blkOk_by (own:=[("_law_k",5)]) (N:=["_law_lines", "_law_weights", "_law_desk", "_law_numbers", "_law_some", "_law_k", "_law_others", "_law_sums", "_law_word", "_law_end", "_law_line"]) (sc:=L2.defScope QO) (by decide +kernel)) (fun _ _ _ _ _ => (pg_name (i:=5) nd rfl (by first | exact Or.inl rfl | exact Or.inr rfl))) (Z8 5) (by decide) (fun _ _ _ _ _ => (QcS (Qfv hr (Qc 5) (e_b (Qc 3))))) (fun _ _ _ _ _ => (ZI (hu_of hr) (e_b (ZI (hu_of hr) (e_b (Qc 0)) (Qc 2))) (Qc 5))))
  (JS 6 (JS 4 (Qj (Qa7 (i:=7) [("_law_line",10)] rfl rfl nd rfl rfl (sw_true rfl rfl rfl (by decide +kernel)) (J9 (m:=true) JO QcO (e_b (e_n (ZJ (k:=0) 2 (Qe (m:=false) (Qc 4) (Qe (m:=false) (Qc 6) Qo)))))) (blkOk_by (own:=[("_law_line",10)]) (N:=["_law_lines", "_law_weights", "_law_desk", "_law_numbers", "_law_some", "_law_k", "_law_others", "_law_sums", "_law_word", "_law_end", "_law_line"]) (sc:=L2.defScope QO) (by decide +kernel)) (fun _ _ _ _ _ => (pg_name (i:=10) nd rfl (by first | exact Or.inl rfl | exact Or.inr rfl))) (Z8 10) (by decide) (fun _ _ _ _ _ => J4) (fun _ _ _ _ _ => (Qiv T.z_sum (by rfl) rfl (e_b (e_n (Qb5 [("_law_word",8),("_law_end",9)] rfl rfl nd (J9 (m:=true) JO QcO (e_b (Qc 10))) (blkOk_by (own:=[("_law_word",8),("_law_end",9)]) (N:=["_law_lines", "_law_weights", "_law_desk", "_law_numbers", "_law_some", "_law_k", "_law_others", "_law_sums", "_law_word", "_law_end", "_law_line"]) (by rfl)) (fun _ _ _ _ _ => (pg_tup rfl (pgs_cons (pg_name (i:=8) nd rfl (by first | exact Or.inl rfl | exact Or.inr rfl)) (pgs_cons (pg_name (i:=9) nd rfl (by first | exact Or.inl rfl | exact Or.inr rfl)) pgs_nil)))) (Qcn [8,9]) (by decide) (fun _ _ _ _ _ => J4) (fun _ _ _ _ _ => (ZI (hu_of hr) (e_b (Qc 1)) (Qc 9)))))))))
  (JS 7 (Zj (Z9 (JM 3 (Qe (m:=false) (Qc 4) (Qe (m:=false) (Qc 6) (Qe (m:=false) (Qc 7) Qo))))))))))))
theorem QaJ (T : Txt K mg ct fa) : Cal P w K mg base 1 (fa 7) (spP K ct [false,false,false,false] false Jg):=by
 obtain ⟨fd,F⟩:=T.F_law_part
 refine ⟨⟨fd,["_law_lines", "_law_weights", "_law_desk", "_law_numbers"],QeE T F,?_⟩,F.kp⟩
 exact F.binds fun _ _ _ _ _ _ us hl => match us,hl with | [_,_,_,_],_ => rfl
theorem sc_law_is_sheet : FnScope ["_law_found", "_law_due", "_law_line", "_law_weight"] ["_law_found", "_law_due"] (L2.defScope Qw):=⟨rfl,rfl,rfl,by decide +kernel,rfl,by decide +kernel,by decide +kernel⟩
theorem Qc0 (T : Txt K mg ct fa) {fd : FuncData} (F : L2.Fun K "_law_is_sheet" "_law_is_sheet" Qw (fa 9) fd) : FnOk P w K mg base (L2.CX P w) 1 (fa 9) fd ["_law_found", "_law_due"] (spP K ct [true,false] false QZ):=by
 refine fn_ok (k:=0) (N:=["_law_found", "_law_due", "_law_line", "_law_weight"]) F sc_law_is_sheet rfl fun cdv A outer s H E hr => ?_
 have nd:=sc_law_is_sheet.nd
 exact (Qj (JR (PW.pt (Qbz (QaK (Jt (Qad (by rfl) T.z_isinstance (QL 0) (Qb3 (by rfl) T.g_Sheet) (.own _) (Qhl T)))) (Qbz (QaK (Jt (Qad (by rfl) T.z_isinstance (e_b (ZQ 1 T.cl_1 T.na_1_homes (QL 0))) (Qb2 (by rfl) T.z_list (by decide +kernel)) (.ty _) (QcC T)))) (Qbx (QaK (Jt (Qad (by rfl) T.z_isinstance (e_b (ZQ 1 T.cl_1 T.na_1_weights (QL 0))) (Qb2 (by rfl) T.z_list (by decide +kernel)) (.ty _) (QcC T)))))))) (Zj (Z9 QeG)) QE)
  (Qj (JR (PW.pt (Qbz (QaK (Jt (Qad (by rfl) T.z_isinstance (e_b (ZQ 1 T.cl_1 T.na_1_lines (QL 0))) (Qb2 (by rfl) T.z_list (by decide +kernel)) (.ty _) (QcC T)))) (Qbx (QaK (Jt (Qiw T.z_all (by rfl) rfl (e_b (e_n (Qb5 [("_law_line",2)] rfl rfl nd (J9 (m:=true) JO QcO (e_b (ZQ 1 T.cl_1 T.na_1_lines (QL 0)))) (blkOk_by (own:=[("_law_line",2)]) (N:=["_law_found", "_law_due", "_law_line", "_law_weight"]) (sc:=L2.defScope Qw) (by decide +kernel)) (fun _ _ _ _ _ => (pg_name (i:=2) nd rfl (by first | exact Or.inl rfl | exact Or.inr rfl))) (Z8 2) (by decide) (fun _ _ _ _ _ => J4) (fun _ _ _ _ _ => (Qad (by rfl) T.z_isinstance (e_b (Qc 2)) (Qb2 (by rfl) T.z_list (by decide +kernel)) (.ty _) (QcC T)))))))))))) (Zj (Z9 QeG)) QE)
  (Qj (JR (QaK (Jt (Qiw T.z_all (by rfl) rfl (e_b (e_n (Qb5 [("_law_weight",3)] rfl rfl nd (J9 (m:=true) JO QcO (e_b (ZQ 1 T.cl_1 T.na_1_weights (QL 0)))) (blkOk_by (own:=[("_law_weight",3)]) (N:=["_law_found", "_law_due", "_law_line", "_law_weight"]) (sc:=L2.defScope Qw) (by decide +kernel)) (fun _ _ _ _ _ => (pg_name (i:=3) nd rfl (by first | exact Or.inl rfl | exact Or.inr rfl))) (Z8 3) (by decide) (fun _ _ _ _ _ => J4) (fun _ _ _ _ _ => (Qdu (Qad (by rfl) T.z_isinstance (e_b (Qc 3)) (Qb2 (by rfl) T.z_int (by decide +kernel)) (.ty _) (Qjx T)) (Qej (Qih (Qad (by rfl) T.z_isinstance (e_b (Qc 3)) (Qb2 (by rfl) T.z_bool (by decide +kernel)) (.ty _) (Qic T)))))))))))) (Zj (Z9 QeG)) QE)
  (Zj (Z9 (Qml hr (e_b (JM 3 (Qe (m:=false) (ZQ 1 T.cl_1 T.na_1_homes (QL 0)) (Qe (m:=false) (ZQ 1 T.cl_1 T.na_1_weights (QL 0)) (Qe (m:=false) (ZQ 1 T.cl_1 T.na_1_lines (QL 0)) Qo))))) (e_b (Qc 1))))))))
theorem ZE (T : Txt K mg ct fa) : Cal P w K mg base 1 (fa 9) (spP K ct [true,false] false QZ):=by
 obtain ⟨fd,F⟩:=T.F_law_is_sheet
 refine ⟨⟨fd,["_law_found", "_law_due"],Qc0 T F,?_⟩,F.kp⟩
 exact F.binds fun _ _ _ _ _ _ us hl => match us,hl with | [_,_],_ => rfl
theorem sc_law_sheet : FnScope ["_law_cell", "_law_more", "_law_desks", "_law_homes", "_law_desk", "_law_weights", "_law_lines", "_law_weight", "_law_line", "_law_k", "_law_letters", "_law_word", "_law_power"] ["_law_cell", "_law_more"] (L2.defScope QJ):=⟨rfl,rfl,rfl,by decide +kernel,rfl,by decide +kernel,by decide +kernel⟩
theorem Qef (T : Txt K mg ct fa) {fd : FuncData} (F : L2.Fun K "_law_sheet" "_law_sheet" QJ (fa 6) fd) : FnOk P w K mg base (L2.CX P w) 2 (fa 6) fd ["_law_cell", "_law_more"] (spP K ct [false,false] false Qak):=by
 refine fn_ok (k:=1) (N:=["_law_cell", "_law_more", "_law_desks", "_law_homes", "_law_desk", "_law_weights", "_law_lines", "_law_weight", "_law_line", "_law_k", "_law_letters", "_law_word", "_law_power"]) F sc_law_sheet rfl fun cdv A outer s H E hr => ?_
 have nd:=sc_law_sheet.nd
 exact (Qj (QK (i:=2) nd rfl (by first | exact Or.inl rfl | exact Or.inr rfl) (QR (e_b Qn) (e_b (Q6 (fr:=false) (Qx T) T.g_law_mixed (takes_of rfl rfl rfl rfl) hr (by decide) (by rfl) (Qe (m:=false) (Qc 0) (Qe (m:=false) Qn (Qe (m:=false) Qn Qo)))))))
  (Qj (Qa7 (i:=3) [("_law_desk",4)] rfl rfl nd rfl rfl (sw_true rfl rfl rfl (by decide +kernel)) (Qa4 (by rfl) T.z_range (Qe (m:=false) (Qc 2) Qo)) (blkOk_by (own:=[("_law_desk",4)]) (N:=["_law_cell", "_law_more", "_law_desks", "_law_homes", "_law_desk", "_law_weights", "_law_lines", "_law_weight", "_law_line", "_law_k", "_law_letters", "_law_word", "_law_power"]) (sc:=L2.defScope QJ) (by decide +kernel)) (fun _ _ _ _ _ => (pg_name (i:=4) nd rfl (by first | exact Or.inl rfl | exact Or.inr rfl))) (Z8 4) (by decide) (fun _ _ _ _ _ => J4) (fun _ _ _ _ _ => (Qae (ZI (hu_of hr) (e_b Qfl) (Q6 (fr:=false) (Qx T) T.g_law_mixed takes0 hr (by decide) (by rfl) (Qe (m:=false) (Qc 0) (Qe (m:=false) (QR (e_b Qn) (e_b (Qc 4))) (Qe (m:=false) Qn Qo))))) (QaX (Qc 4) Qn))))
  (Qj (Qd1 (i:=5) nd rfl (by first | exact Or.inl rfl | exact Or.inr rfl) (ZJ (k:=0) 0 Qo))
  (Qj (Qd1 (i:=6) nd rfl (by first | exact Or.inl rfl | exact Or.inr rfl) (ZJ (k:=0) 0 Qo))
  (Qj (Qco (passes_of rfl) rfl (Z8 4) (Qa4 (by rfl) T.z_range (Qe (m:=false) (Qc 2) Qo)) (pg_name (i:=4) nd rfl (by first | exact Or.inl rfl | exact Or.inr rfl)) (Qj (QK (i:=7) nd rfl (by first | exact Or.inl rfl | exact Or.inr rfl) (QR (e_b Qn) (e_b (Q6 (fr:=false) (Qx T) T.g_law_mixed (takes_of rfl rfl rfl rfl) hr (by decide) (by rfl) (Qe (m:=false) (Qc 0) (Qe (m:=false) (QR (e_b Qn) (e_b (Qc 4))) (Qe (m:=false) Qn Qo)))))))
  (Qj (JR (Qcx hr (e_b (Q6 (fr:=false) (Qx T) T.g_law_mixed (takes_of rfl rfl rfl rfl) hr (by decide) (by rfl) (Qe (m:=false) (Qc 0) (Qe (m:=false) Qn (Qe (m:=false) Qn Qo))))) (e_b Qn)) (Qj (QK (i:=7) nd rfl (by first | exact Or.inl rfl | exact Or.inr rfl) (QR (e_b (Qae (Qc 7) (Qiu Qn Qn))) (e_b (Q6 (fr:=false) (Qx T) T.g_law_mixed (takes_of rfl rfl rfl rfl) hr (by decide) (by rfl) (Qe (m:=false) (Qc 0) (Qe (m:=false) (QR (e_b Qn) (e_b (Qc 4))) (Qe (m:=false) (Qiu Qn Qn) Qo)))))))
  QE) QE)
  (Qj (QbF 5 (Qc 7))
  (Qj (Qd1 (i:=8) nd rfl (by first | exact Or.inl rfl | exact Or.inr rfl) (ZJ (k:=0) 0 Qo))
  (Qj (Qco (passes_of rfl) rfl (Z8 9) (Qa4 (by rfl) T.z_range (Qe (m:=false) (Q6 (fr:=false) (Qx T) T.g_law_mixed (takes_of rfl rfl rfl rfl) hr (by decide) (by rfl) (Qe (m:=false) (Qc 1) (Qe (m:=false) (QR (e_b Qn) (e_b (Qc 4))) (Qe (m:=false) Qn Qo)))) Qo)) (pg_name (i:=9) nd rfl (by first | exact Or.inl rfl | exact Or.inr rfl)) (Qj (QK (i:=10) nd rfl (by first | exact Or.inl rfl | exact Or.inr rfl) (Q6 (fr:=false) (Qx T) T.g_law_mixed (takes_of rfl rfl rfl rfl) hr (by decide) (by rfl) (Qe (m:=false) (Qc 1) (Qe (m:=false) (QR (e_b (QR (e_b Qn) (e_b (Qae Qn (Qc 4))))) (e_b (Qc 9))) (Qe (m:=false) Qn Qo)))))
  (Qj (QK (i:=11) nd rfl (by first | exact Or.inl rfl | exact Or.inr rfl) (QiU (e_b Qfl) (e_b (e_n (Qb5 [("_law_power",12)] rfl rfl nd (J9 (m:=true) JO QcO (e_b (e_n (ZJ (k:=0) 3 (Qe (m:=false) Qn (Qe (m:=false) Qn (Qe (m:=false) Qn Qo))))))) (blkOk_by (own:=[("_law_power",12)]) (N:=["_law_cell", "_law_more", "_law_desks", "_law_homes", "_law_desk", "_law_weights", "_law_lines", "_law_weight", "_law_line", "_law_k", "_law_letters", "_law_word", "_law_power"]) (sc:=L2.defScope QJ) (by decide +kernel)) (fun _ _ _ _ _ => (pg_name (i:=12) nd rfl (by first | exact Or.inl rfl | exact Or.inr rfl))) (Z8 12) (by decide) (fun _ _ _ _ _ => J4) (fun _ _ _ _ _ => (ZI (hu_of hr) (e_b Qfl) (QaX (Qb4 (Qc 10) (Qc 12)) Qn))))))))
  (Qj (QbF 8 (JM 2 (Qe (m:=false) (Qc 11) (Qe (m:=false) (Q6 (fr:=false) (Qx T) T.g_law_mixed (takes_of rfl rfl rfl rfl) hr (by decide) (by rfl) (Qe (m:=false) (Qc 1) (Qe (m:=false) (QR (e_b (QR (e_b Qn) (e_b (Qae Qn (Qc 4))))) (e_b (Qc 9))) (Qe (m:=false) (Qc 2) Qo)))) Qo))))
  (Q7 9 (Q7 10 (Q7 11 QE)))))))
  (JS 8 (Qj (QbF 6 (Qc 8))
  (Q7 4 (Q7 7 (Q7 8 QE)))))))))))
  (JS 3 (JS 6 (JS 5 (Zj (Z9 (JM 3 (Qe (m:=false) (Qc 3) (Qe (m:=false) (Qc 5) (Qe (m:=false) (Qc 6) Qo))))))))))))))
theorem Qdr (T : Txt K mg ct fa) : Cal P w K mg base 2 (fa 6) (spP K ct [false,false] false Qak):=by
 obtain ⟨fd,F⟩:=T.F_law_sheet
 refine ⟨⟨fd,["_law_cell", "_law_more"],Qef T F,?_⟩,F.kp⟩
 exact F.binds fun _ _ _ _ _ _ us hl => match us,hl with | [_,_],_ => rfl
theorem sc_law_divided : FnScope ["_law_homes", "_law_weights", "_law_lines", "_law_desk", "_law_numbers", "_law_weight", "_law_some", "_law_others", "_law_sums", "_law_more", "_law_line", "_law_found", "_law_steps", "_law_word", "_law_end", "_law_rest", "_law_heavy"] ["_law_homes", "_law_weights", "_law_lines", "_law_desk", "_law_numbers", "_law_weight"] (L2.defScope Q9):=⟨rfl,rfl,rfl,by decide +kernel,rfl,by decide +kernel,by decide +kernel⟩
theorem Qdl (T : Txt K mg ct fa) {fd : FuncData} (F : L2.Fun K "_law_divided" "_law_divided" Q9 (fa 8) fd) : FnOk P w K mg base (L2.CX P w) 2 (fa 8) fd ["_law_homes", "_law_weights", "_law_lines", "_law_desk", "_law_numbers", "_law_weight"] (spP K ct [false,false,false,false,false,false] false Jp):=by
 refine fn_ok (k:=1) (N:=["_law_homes", "_law_weights", "_law_lines", "_law_desk", "_law_numbers", "_law_weight", "_law_some", "_law_others", "_law_sums", "_law_more", "_law_line", "_law_found", "_law_steps", "_law_word", "_law_end", "_law_rest", "_law_heavy"]) F sc_law_divided rfl fun cdv A outer s H E hr => ?_
 have nd:=sc_law_divided.nd
 exact (Qj (Qfs (Qcn [6,7,8]) (pg_tup rfl (pgs_cons (pg_name (i:=6) nd rfl (by first | exact Or.inl rfl | exact Or.inr rfl)) (pgs_cons (pg_name (i:=7) nd rfl (by first | exact Or.inl rfl | exact Or.inr rfl)) (pgs_cons (pg_name (i:=8) nd rfl (by first | exact Or.inl rfl | exact Or.inr rfl)) pgs_nil)))) (Q6 (fr:=false) (QaJ T) T.g_law_part (takes_of rfl rfl rfl rfl) hr (by decide) (by rfl) (Qe (m:=false) (Qc 2) (Qe (m:=false) (Qc 1) (Qe (m:=false) (Qc 3) (Qe (m:=false) (Qc 4) Qo))))))
  (Qj (Qa7 (i:=9) [("_law_line",10)] rfl rfl nd rfl rfl (sw_true rfl rfl rfl (by decide +kernel)) (J9 (m:=true) JO QcO (e_b (Qc 2))) (blkOk_by (own:=[("_law_line",10)]) (N:=["_law_homes", "_law_weights", "_law_lines", "_law_desk", "_law_numbers", "_law_weight", "_law_some", "_law_others", "_law_sums", "_law_more", "_law_line", "_law_found", "_law_steps", "_law_word", "_law_end", "_law_rest", "_law_heavy"]) (sc:=L2.defScope Q9) (by decide +kernel)) (fun _ _ _ _ _ => (pg_name (i:=10) nd rfl (by first | exact Or.inl rfl | exact Or.inr rfl))) (Z8 10) (by decide) (fun _ _ _ _ _ => J4) (fun _ _ _ _ _ => (e_n (QaZ T.z_list (by rfl)  (e_b (Qc 10))))))
  (Qj (Qkd 9 (hu_of hr) (Qc 3) (Qc 6))
  (Qj (QbF 9 (Qc 7))
  (Qj (Qd1 (i:=11) nd rfl (by first | exact Or.inl rfl | exact Or.inr rfl) (ZJ (k:=0) 0 Qo))
  (JS 9 (Qj (Qco (passes_of rfl) rfl (Z8 10) (J9 (m:=false) QcP Qgy (Qc 9)) (pg_name (i:=10) nd rfl (by first | exact Or.inl rfl | exact Or.inr rfl)) (Qj (Qd1 (i:=12) nd rfl (by first | exact Or.inl rfl | exact Or.inr rfl) (ZJ (k:=0) 0 Qo))
  (Qj (Qco (passes_of rfl) rfl (Qcn [13,14]) (J9 (m:=false) QcP Qgy (Qc 10)) (pg_tup rfl (pgs_cons (pg_name (i:=13) nd rfl (by first | exact Or.inl rfl | exact Or.inr rfl)) (pgs_cons (pg_name (i:=14) nd rfl (by first | exact Or.inl rfl | exact Or.inr rfl)) pgs_nil))) (Qj (QbF 12 (JM 2 (Qe (m:=false) (Qc 13) (Qe (m:=false) (Qc 14) Qo))))
  (Qj (JR (Qcx hr (e_b (Qc 14)) (e_b (Qc 3))) (Qj (QbF 12 (JM 2 (Qe (m:=false) (Qc 13) (Qe (m:=false) (QaY T.z_len (by rfl)  (e_b (Qc 2))) Qo))))
  QE) QE)
  (Q7 13 (Q7 14 QE)))))
  (JS 12 (Qj (QbF 11 (Qc 12))
  (Q7 10 (Q7 12 QE)))))))
  (Qj (QK (i:=15) nd rfl (by first | exact Or.inl rfl | exact Or.inr rfl) (Qfu (ZI (hu_of hr) (e_b (Qc 1)) (Qc 3)) (Qc 5)))
  (Qj (QK (i:=16) nd rfl (by first | exact Or.inl rfl | exact Or.inr rfl) (QR (e_b (QR (e_b (Qaf (e_b (Qc 1)) QbX (Qam (Qc 3)))) (e_b (e_n (ZJ (k:=0) 1 (Qe (m:=false) (Qc 5) Qo)))))) (e_b (Qaf (e_b (Qc 1)) (Qam (QR (e_b (Qc 3)) (e_b Qn))) QbX))))
  (JS 11 (Zj (Z9 (JM 3 (Qe (m:=false) (QR (e_b (Qc 0)) (e_b (e_n (ZJ (k:=0) 1 (Qe (m:=false) (ZI (hu_of hr) (e_b (Qc 0)) (Qc 3)) Qo))))) (Qe (m:=false) (QR (e_b (Qc 16)) (e_b (e_n (ZJ (k:=0) 1 (Qe (m:=false) (Qc 15) Qo))))) (Qe (m:=false) (Qc 11) Qo))))))))))))))))
theorem Qc1 (T : Txt K mg ct fa) : Cal P w K mg base 2 (fa 8) (spP K ct [false,false,false,false,false,false] false Jp):=by
 obtain ⟨fd,F⟩:=T.F_law_divided
 refine ⟨⟨fd,["_law_homes", "_law_weights", "_law_lines", "_law_desk", "_law_numbers", "_law_weight"],Qdl T F,?_⟩,F.kp⟩
 exact F.binds fun _ _ _ _ _ _ us hl => match us,hl with | [_,_,_,_,_,_],_ => rfl
theorem sc_law_choice : FnScope ["_law_cell", "_law_weights", "_law_lines", "_law_many", "_law_desk", "_law_numbers", "_law_k", "_law_sums", "_law_weight", "_law_way"] ["_law_cell", "_law_weights", "_law_lines", "_law_many"] (L2.defScope QH):=⟨rfl,rfl,rfl,by decide +kernel,rfl,by decide +kernel,by decide +kernel⟩
theorem Qds (T : Txt K mg ct fa) {fd : FuncData} (F : L2.Fun K "_law_choice" "_law_choice" QH (fa 10) fd) : FnOk P w K mg base (L2.CX P w) 2 (fa 10) fd ["_law_cell", "_law_weights", "_law_lines", "_law_many"] (spP K ct [false,false,false,false] false JG):=by
 refine fn_ok (k:=1) (N:=["_law_cell", "_law_weights", "_law_lines", "_law_many", "_law_desk", "_law_numbers", "_law_k", "_law_sums", "_law_weight", "_law_way"]) F sc_law_choice rfl fun cdv A outer s H E hr => ?_
 have nd:=sc_law_choice.nd
 exact (Qj (QK (i:=4) nd rfl (by first | exact Or.inl rfl | exact Or.inr rfl) (Q6 (fr:=false) (Qx T) T.g_law_mixed (takes_of rfl rfl rfl rfl) hr (by decide) (by rfl) (Qe (m:=false) (Qc 0) (Qe (m:=false) Qn (Qe (m:=false) (QaY T.z_len (by rfl)  (e_b (Qc 1))) Qo)))))
  (Qj (Qa7 (i:=5) [("_law_k",6)] rfl rfl nd rfl rfl (sw_true rfl rfl rfl (by decide +kernel)) (Qa4 (by rfl) T.z_range (Qe (m:=false) (QaY T.z_len (by rfl)  (e_b (ZI (hu_of hr) (e_b (Qc 2)) (Qc 4)))) Qo)) (blkOk_by (own:=[("_law_k",6)]) (N:=["_law_cell", "_law_weights", "_law_lines", "_law_many", "_law_desk", "_law_numbers", "_law_k", "_law_sums", "_law_weight", "_law_way"]) (sc:=L2.defScope QH) (by decide +kernel)) (fun _ _ _ _ _ => (pg_name (i:=6) nd rfl (by first | exact Or.inl rfl | exact Or.inr rfl))) (Z8 6) (by decide) (fun _ _ _ _ _ => (QcS (Qcx hr (e_b (Q6 (fr:=false) (Qx T) T.g_law_mixed takes0 hr (by decide) (by rfl) (Qe (m:=false) (Qc 0) (Qe (m:=false) (QR (e_b Qn) (e_b (Qc 6))) (Qe (m:=false) Qn Qo))))) (e_b Qn)))) (fun _ _ _ _ _ => (Qc 6)))
  (Qj (JR (Qcx hr (e_b (Q6 (fr:=false) (Qx T) T.g_law_mixed (takes_of rfl rfl rfl rfl) hr (by decide) (by rfl) (Qe (m:=false) (Qc 0) (Qe (m:=false) Qn (Qe (m:=false) Qn Qo))))) (e_b Qn)) (Qj (QK (i:=5) nd rfl (by first | exact Or.inl rfl | exact Or.inr rfl) (e_n (QkW (QL 5))))
  QE) (JS 5 QE))
  (Qj (QK (i:=7) nd rfl (by first | exact Or.inl rfl | exact Or.inr rfl) (ZI (hu_of hr) (e_b (Q6 (fr:=false) (QaJ T) T.g_law_part (takes_of rfl rfl rfl rfl) hr (by decide) (by rfl) (Qe (m:=false) (Qc 2) (Qe (m:=false) (Qc 1) (Qe (m:=false) (Qc 4) (Qe (m:=false) (Qc 5) Qo)))))) Qn))
  (Qj (QK (i:=8) nd rfl (by first | exact Or.inl rfl | exact Or.inr rfl) (Q6 (fr:=false) (Qx T) T.g_law_mixed (takes_of rfl rfl rfl rfl) hr (by decide) (by rfl) (Qe (m:=false) (Qc 0) (Qe (m:=false) Qn (Qe (m:=false) (ZI (hu_of hr) (e_b (Qc 1)) (Qc 4)) Qo)))))
  (Qj (QK (i:=9) nd rfl (by first | exact Or.inl rfl | exact Or.inr rfl) (Q6 (fr:=false) (Qx T) T.g_law_mixed (takes_of rfl rfl rfl rfl) hr (by decide) (by rfl) (Qe (m:=false) (Qc 0) (Qe (m:=false) Qn (Qe (m:=false) Qn Qo)))))
  (Qj (JR (PW.pt (Qbz (Qcx hr (e_b (Qc 9)) (e_b Qn)) (Qbx (Qcx hr (e_b (Qc 9)) (e_b Qn))))) (Qj (QK (i:=8) nd rfl (by first | exact Or.inl rfl | exact Or.inr rfl) (Qb4 (ZI (hu_of hr) (e_b (Qc 7)) Qn) (Qc 3)))
  QE) QE)
  (Qj (JR (Qcx hr (e_b (Qc 9)) (e_b Qn)) (Qj (QK (i:=8) nd rfl (by first | exact Or.inl rfl | exact Or.inr rfl) (QR (e_b (Qb4 (ZI (hu_of hr) (e_b (Qc 7)) Qn) (Qc 3))) (e_b Qn)))
  QE) QE)
  (Qj (JR (Qcx hr (e_b (Qc 9)) (e_b Qn)) (Qj (QK (i:=8) nd rfl (by first | exact Or.inl rfl | exact Or.inr rfl) (Qfu (ZI (hu_of hr) (e_b (Qc 1)) (Qc 4)) (Qb4 (ZI (hu_of hr) (e_b (Qc 7)) Qn) (Qc 3))))
  QE) QE)
  (Zj (Z9 (JM 3 (Qe (m:=false) (Qc 4) (Qe (m:=false) (Qc 5) (Qe (m:=false) (Qc 8) Qo)))))))))))))))
theorem Qdm (T : Txt K mg ct fa) : Cal P w K mg base 2 (fa 10) (spP K ct [false,false,false,false] false JG):=by
 obtain ⟨fd,F⟩:=T.F_law_choice
 refine ⟨⟨fd,["_law_cell", "_law_weights", "_law_lines", "_law_many"],Qds T F,?_⟩,F.kp⟩
 exact F.binds fun _ _ _ _ _ _ us hl => match us,hl with | [_,_,_,_],_ => rfl
theorem sc_split : FnScope ["sheet", "many", "desk", "numbers", "weight", "line", "number", "some", "k", "others", "rest", "weights", "lines"] ["sheet", "many", "desk", "numbers", "weight"] (L2.defScope Z3):=⟨rfl,rfl,rfl,by decide +kernel,rfl,by decide +kernel,by decide +kernel⟩
theorem Qhm (T : Txt K mg ct fa) {fd : FuncData} (F : L2.Fun K "split" "split" Z3 (fa 3) fd) : FnOk P w K mg base (L2.CX P w) 3 (fa 3) fd ["sheet", "many", "desk", "numbers", "weight"] (spP K ct [true,false,false,false,false] false QbQ):=by
 refine fn_ok (k:=2) (N:=["sheet", "many", "desk", "numbers", "weight", "line", "number", "some", "k", "others", "rest", "weights", "lines"]) F sc_split rfl fun cdv A outer s H E hr => ?_
 have nd:=sc_split.nd
 exact (Qj (JR (PW.pt (Qbz (QfT (Qc 2) Qn) (Qbx (Qmk (Qc 2) (QaY T.z_len (by rfl)  (e_b (ZQ 1 T.cl_1 T.na_1_homes (QL 0)))))))) (Zj (Qc5 15 T.er_NoSplit (by rfl) rfl (takes_of rfl rfl rfl rfl))) QE)
  (Qj (QK (i:=5) nd rfl (by first | exact Or.inl rfl | exact Or.inr rfl) (ZI (hu_of hr) (e_b (ZQ 1 T.cl_1 T.na_1_lines (QL 0))) (Qc 2)))
  (Qj (JR (Jt (Qko T.z_any (by rfl) rfl (e_b (e_n (Qb5 [("number",6)] rfl rfl nd (J9 (m:=true) JO QcO (e_b (Qc 3))) (blkOk_by (own:=[("number",6)]) (N:=["sheet", "many", "desk", "numbers", "weight", "line", "number", "some", "k", "others", "rest", "weights", "lines"]) (sc:=L2.defScope Z3) (by decide +kernel)) (fun _ _ _ _ _ => (pg_name (i:=6) nd rfl (by first | exact Or.inl rfl | exact Or.inr rfl))) (Z8 6) (by decide) (fun _ _ _ _ _ => J4) (fun _ _ _ _ _ => (QjM (Qmj (Qc 6) Qn) (Qej (QiT (Qc 6) (QaY T.z_len (by rfl)  (e_b (Qc 5)))))))))))) (Zj (Qc5 15 T.er_NoSplit (by rfl) rfl (takes_of rfl rfl rfl rfl))) QE)
  (Qj (Qa7 (i:=7) [("k",8)] rfl rfl nd rfl rfl (sw_true rfl rfl rfl (by decide +kernel)) (Qa4 (by rfl) T.z_range (Qe (m:=false) (QaY T.z_len (by rfl)  (e_b (Qc 5))) Qo)) (blkOk_by (own:=[("k",8)]) (N:=["sheet", "many", "desk", "numbers", "weight", "line", "number", "some", "k", "others", "rest", "weights", "lines"]) (sc:=L2.defScope Z3) (by decide +kernel)) (fun _ _ _ _ _ => (pg_name (i:=8) nd rfl (by first | exact Or.inl rfl | exact Or.inr rfl))) (Z8 8) (by decide) (fun _ _ _ _ _ => (QcS (Qkm hr (Qc 8) (e_b (Qc 3))))) (fun _ _ _ _ _ => (ZI (hu_of hr) (e_b (Qc 5)) (Qc 8))))
  (Qj (Qa7 (i:=9) [("k",8)] rfl rfl nd rfl rfl (sw_true rfl rfl rfl (by decide +kernel)) (Qa4 (by rfl) T.z_range (Qe (m:=false) (QaY T.z_len (by rfl)  (e_b (Qc 5))) Qo)) (blkOk_by (own:=[("k",8)]) (N:=["sheet", "many", "desk", "numbers", "weight", "line", "number", "some", "k", "others", "rest", "weights", "lines"]) (sc:=L2.defScope Z3) (by decide +kernel)) (fun _ _ _ _ _ => (pg_name (i:=8) nd rfl (by first | exact Or.inl rfl | exact Or.inr rfl))) (Z8 8) (by decide) (fun _ _ _ _ _ => (QcS (Qfv hr (Qc 8) (e_b (Qc 3))))) (fun _ _ _ _ _ => (ZI (hu_of hr) (e_b (Qc 5)) (Qc 8))))
  (Qj (QK (i:=10) nd rfl (by first | exact Or.inl rfl | exact Or.inr rfl) (Qfu (ZI (hu_of hr) (e_b (ZQ 1 T.cl_1 T.na_1_weights (QL 0))) (Qc 2)) (Qc 4)))
  (Qj (JR (PW.pt (Qbz (Qcx hr (QL 7) (e_b (e_n (ZJ (k:=0) 0 Qo)))) (Qbz (Qcx hr (QL 9) (e_b (e_n (ZJ (k:=0) 0 Qo)))) (Qbz (QfT (Qc 4) Qn) (Qbx (QfT (Qc 10) Qn)))))) (Zj (Qc5 15 T.er_NoSplit (by rfl) rfl (takes_of rfl rfl rfl rfl))) QE)
  (JS 9 (JS 7 (Qj (JR (PW.pt (Qbz (QfT (Q6 (fr:=false) (QbT T) T.g_borne_by (takes_of rfl rfl rfl rfl) hr (by decide) (by rfl) (Qe (m:=true) (QL 0) (Qe (m:=false) (Qc 7) Qo))) (Qae (Qc 1) (Qc 4))) (Qbx (QfT (Q6 (fr:=false) (QbT T) T.g_borne_by (takes_of rfl rfl rfl rfl) hr (by decide) (by rfl) (Qe (m:=true) (QL 0) (Qe (m:=false) (Qc 9) Qo))) (Qae (Qc 1) (Qc 10)))))) (Zj (Qc5 15 T.er_NoSplit (by rfl) rfl (takes_of rfl rfl rfl rfl))) QE)
  (Qj (QK (i:=11) nd rfl (by first | exact Or.inl rfl | exact Or.inr rfl) (QR (e_b (QR (e_b (QR (e_b (Qaf (e_b (ZQ 1 T.cl_1 T.na_1_weights (QL 0))) QbX (Qam (Qc 2)))) (e_b (e_n (ZJ (k:=0) 1 (Qe (m:=false) (Qc 4) Qo)))))) (e_b (Qaf (e_b (ZQ 1 T.cl_1 T.na_1_weights (QL 0))) (Qam (QR (e_b (Qc 2)) (e_b Qn))) QbX)))) (e_b (e_n (ZJ (k:=0) 1 (Qe (m:=false) (Qc 10) Qo))))))
  (Qj (QK (i:=12) nd rfl (by first | exact Or.inl rfl | exact Or.inr rfl) (QR (e_b (QR (e_b (QR (e_b (Qaf (e_b (ZQ 1 T.cl_1 T.na_1_lines (QL 0))) QbX (Qam (Qc 2)))) (e_b (e_n (ZJ (k:=0) 1 (Qe (m:=false) (Qc 7) Qo)))))) (e_b (Qaf (e_b (ZQ 1 T.cl_1 T.na_1_lines (QL 0))) (Qam (QR (e_b (Qc 2)) (e_b Qn))) QbX)))) (e_b (e_n (ZJ (k:=0) 1 (Qe (m:=false) (Qc 9) Qo))))))
  (Qj (Qa7 (i:=12) [("line",5)] rfl rfl nd rfl rfl (sw_true rfl rfl rfl (by decide +kernel)) (J9 (m:=true) JO QcO (e_b (Qc 12))) (blkOk_by (own:=[("line",5)]) (N:=["sheet", "many", "desk", "numbers", "weight", "line", "number", "some", "k", "others", "rest", "weights", "lines"]) (sc:=L2.defScope Z3) (by decide +kernel)) (fun _ _ _ _ _ => (pg_name (i:=5) nd rfl (by first | exact Or.inl rfl | exact Or.inr rfl))) (Z8 5) (by decide) (fun _ _ _ _ _ => J4) (fun _ _ _ _ _ => (Q6 (fr:=false) (QeD T) T.g_doubled takes0 hr (by decide) (by rfl) (Qe (m:=false) (Qc 5) (Qe (m:=false) (Qc 2) (Qe (m:=false) (QaY T.z_len (by rfl)  (e_b (ZQ 1 T.cl_1 T.na_1_homes (QL 0)))) Qo))))))
  (JS 12 (Zj (Z9 (Qka 1 T.mk_1 (Qa1 T) T.g_Sheet (takes_of rfl rfl rfl rfl) hr (by decide) (by rfl) (Qe (m:=false) (QR (e_b (ZQ 1 T.cl_1 T.na_1_homes (QL 0))) (e_b (e_n (ZJ (k:=0) 1 (Qe (m:=false) (ZI (hu_of hr) (e_b (ZQ 1 T.cl_1 T.na_1_homes (QL 0))) (Qc 2)) Qo))))) (Qe (m:=false) (Qc 11) (Qe (m:=false) (Qc 12) Qo))))))))))))))))))))
theorem QdE (T : Txt K mg ct fa) : Cal P w K mg base 3 (fa 3) (spP K ct [true,false,false,false,false] false QbQ):=by
 obtain ⟨fd,F⟩:=T.F_split
 refine ⟨⟨fd,["sheet", "many", "desk", "numbers", "weight"],Qhm T F,?_⟩,F.kp⟩
 exact F.binds fun _ _ _ _ _ _ us hl => match us,hl with | [_,_,_,_,_],_ => rfl
theorem sc_law_told : FnScope ["_law_sheet_here", "_law_many", "_law_desk", "_law_numbers", "_law_weight", "_law_caught", "_law_found", "e"] ["_law_sheet_here", "_law_many", "_law_desk", "_law_numbers", "_law_weight"] (L2.defScope Zi):=⟨rfl,rfl,rfl,by decide +kernel,rfl,by decide +kernel,by decide +kernel⟩
theorem QeF (T : Txt K mg ct fa) {fd : FuncData} (F : L2.Fun K "_law_told" "_law_told" Zi (fa 11) fd) : FnOk P w K mg base (L2.CX P w) 4 (fa 11) fd ["_law_sheet_here", "_law_many", "_law_desk", "_law_numbers", "_law_weight"] (spP K ct [false,false,false,false,false] false QaF):=by
 refine fn_ok (k:=3) (N:=["_law_sheet_here", "_law_many", "_law_desk", "_law_numbers", "_law_weight", "_law_caught", "_law_found", "e"]) F sc_law_told rfl fun cdv A outer s H E hr => ?_
 have nd:=sc_law_told.nd
 exact (Qj (QK (i:=5) nd rfl (by first | exact Or.inl rfl | exact Or.inr rfl) Qdt)
  (Qj (QK (i:=6) nd rfl (by first | exact Or.inl rfl | exact Or.inr rfl) Qdt)
  (Qj (Qkh (cat:=Jo) 7 rfl rfl rfl nd rfl rfl ⟨by rfl,by decide,.inl T.g_BandError⟩ (takes_of rfl rfl rfl rfl) (Qcm T) (fun W pn xe tk ps => (Qj (QK (i:=6) nd rfl (by first | exact Or.inl rfl | exact Or.inr rfl) (Q6 (fr:=false) (QdE T) T.g_split tk hr (by decide) (by rfl) (Qe (m:=true) (e_b (Qc 0)) (Qe (m:=false) (Qc 1) (Qe (m:=false) (Qc 2) (Qe (m:=false) (Qc 3) (Qe (m:=false) (Qc 4) Qo))))))) QE)) (fun a pn => (Qj (QK (i:=5) nd rfl (by first | exact Or.inl rfl | exact Or.inr rfl) (Qc 7))
  QE)))
  (Qj (JR (Qmm (e_b (Qc 5)) Qdt) (Zj (Z9 (JM 2 (Qe (m:=false) Qn (Qe (m:=false) (Qc 6) Qo))))) QE)
  (Qj (JR (PW.pt (Qbz (QaK (Jt (Qad (by rfl) T.z_isinstance (e_b (Qc 5)) (Qb3 (by rfl) T.g_NoSplit) (.own _) (Qfh T)))) (Qbx (QaK (Jt (Qad (by rfl) T.z_isinstance (e_b (Qc 5)) (Qb2 (by rfl) T.z_ValueError (by decide +kernel)) (.ty _) (Qdq T))))))) (Zj (Z9 (JM 2 (Qe (m:=false) Qn (Qe (m:=false) Qdt Qo))))) QE)
  (Qj (JR (PW.pt (Qbz (Jt (Qad (by rfl) T.z_isinstance (e_b (Qc 5)) (Qb3 (by rfl) T.g_NoNumber) (.own _) (QeB T))) (Qbz (Jt (Qad (by rfl) T.z_isinstance (e_b (Qc 5)) (Qb3 (by rfl) T.g_NoPlace) (.own _) (Qfg T))) (Qbx (Jt (Qad (by rfl) T.z_isinstance (e_b (Qc 5)) (Qb3 (by rfl) T.g_NoRate) (.own _) (Qgg T))))))) (Zj (Z9 (JM 2 (Qe (m:=false) Qn (Qe (m:=false) Qdt Qo))))) QE)
  (Zj (Z9 (JM 2 (Qe (m:=false) (QR (e_b Qn) (e_b (Qg8 T.z_int (by rfl)  (QjM (Qad (by rfl) T.z_isinstance (e_b (Qc 5)) (Qb3 (by rfl) T.g_Open) (.own _) (Qib T)) (Qej (Qad (by rfl) T.z_isinstance (e_b (Qc 5)) (Qb3 (by rfl) T.g_TooMany) (.own _) (Qfi T))))))) (Qe (m:=false) Qdt Qo)))))))))))
theorem Qeg (T : Txt K mg ct fa) : Cal P w K mg base 4 (fa 11) (spP K ct [false,false,false,false,false] false QaF):=by
 obtain ⟨fd,F⟩:=T.F_law_told
 refine ⟨⟨fd,["_law_sheet_here", "_law_many", "_law_desk", "_law_numbers", "_law_weight"],QeF T F,?_⟩,F.kp⟩
 exact F.binds fun _ _ _ _ _ _ us hl => match us,hl with | [_,_,_,_,_],_ => rfl
theorem sc_law : FnScope ["_law_script", "_law_here", "_law_many", "_law_cell", "_law_homes", "_law_weights", "_law_lines", "_law_desk", "_law_numbers", "_law_weight", "_law_some", "_law_others", "_law_sums", "_law_rest", "_law_good", "_law_given", "_law_line", "_law_handed", "_law_thing", "_law_listed", "_law_told_here", "_law_due"] ["_law_script"] (L2.defScope QaP):=⟨rfl,rfl,rfl,by decide +kernel,rfl,by decide +kernel,by decide +kernel⟩
theorem Qjy (T : Txt K mg ct fa) {fd : FuncData} (F : L2.Fun K "law" "law" QaP (fa 12) fd) : FnOk P w K mg base (L2.CX P w) 5 (fa 12) fd ["_law_script"] (spP K ct [false] false Qhf):=by
 refine fn_ok (k:=4) (N:=["_law_script", "_law_here", "_law_many", "_law_cell", "_law_homes", "_law_weights", "_law_lines", "_law_desk", "_law_numbers", "_law_weight", "_law_some", "_law_others", "_law_sums", "_law_rest", "_law_good", "_law_given", "_law_line", "_law_handed", "_law_thing", "_law_listed", "_law_told_here", "_law_due"]) F sc_law rfl fun cdv A outer s H E hr => ?_
 have nd:=sc_law.nd
 exact (Qj (QK (i:=1) nd rfl (by first | exact Or.inl rfl | exact Or.inr rfl) (Q6 (fr:=false) (Qdr T) T.g_law_sheet (takes_of rfl rfl rfl rfl) hr (by decide) (by rfl) (Qe (m:=false) (Q6 (fr:=false) (Qal T) T.g_law_nth (takes_of rfl rfl rfl rfl) hr (by decide) (by rfl) (Qe (m:=false) (Qc 0) (Qe (m:=false) Qn Qo))) (Qe (m:=false) (Q6 (fr:=false) (Qal T) T.g_law_nth (takes_of rfl rfl rfl rfl) hr (by decide) (by rfl) (Qe (m:=false) (Qc 0) (Qe (m:=false) Qn Qo))) Qo))))
  (Qj (QK (i:=2) nd rfl (by first | exact Or.inl rfl | exact Or.inr rfl) (QR (e_b Qn) (e_b (QaX (Q6 (fr:=false) (Qal T) T.g_law_nth (takes_of rfl rfl rfl rfl) hr (by decide) (by rfl) (Qe (m:=false) (Qc 0) (Qe (m:=false) Qn Qo))) Qn))))
  (Qj (Qco (passes_of rfl) rfl (Z8 3) (J9 (m:=false) QcP Qgy (QR (e_b (e_n (ZJ (k:=0) 1 (Qe (m:=false) (Q6 (fr:=false) (Qal T) T.g_law_nth (takes_of rfl rfl rfl rfl) hr (by decide) (by rfl) (Qe (m:=false) (Qc 0) (Qe (m:=false) Qn Qo))) Qo)))) (e_b (Qaf (e_b (Qc 0)) (Qam Qn) (Qam Qn))))) (pg_name (i:=3) nd rfl (by first | exact Or.inl rfl | exact Or.inr rfl)) (Qj (Qfs (Qcn [4,5,6]) (pg_tup rfl (pgs_cons (pg_name (i:=4) nd rfl (by first | exact Or.inl rfl | exact Or.inr rfl)) (pgs_cons (pg_name (i:=5) nd rfl (by first | exact Or.inl rfl | exact Or.inr rfl)) (pgs_cons (pg_name (i:=6) nd rfl (by first | exact Or.inl rfl | exact Or.inr rfl)) pgs_nil)))) (Qc 1))
  (Qj (Qfs (Qcn [7,8,9]) (pg_tup rfl (pgs_cons (pg_name (i:=7) nd rfl (by first | exact Or.inl rfl | exact Or.inr rfl)) (pgs_cons (pg_name (i:=8) nd rfl (by first | exact Or.inl rfl | exact Or.inr rfl)) (pgs_cons (pg_name (i:=9) nd rfl (by first | exact Or.inl rfl | exact Or.inr rfl)) pgs_nil)))) (Q6 (fr:=false) (Qdm T) T.g_law_choice (takes_of rfl rfl rfl rfl) hr (by decide) (by rfl) (Qe (m:=false) (Qc 3) (Qe (m:=false) (Qc 5) (Qe (m:=false) (Qc 6) (Qe (m:=false) (Qc 2) Qo))))))
  (Qj (Qfs (Qcn [10,11,12]) (pg_tup rfl (pgs_cons (pg_name (i:=10) nd rfl (by first | exact Or.inl rfl | exact Or.inr rfl)) (pgs_cons (pg_name (i:=11) nd rfl (by first | exact Or.inl rfl | exact Or.inr rfl)) (pgs_cons (pg_name (i:=12) nd rfl (by first | exact Or.inl rfl | exact Or.inr rfl)) pgs_nil)))) (Q6 (fr:=false) (QaJ T) T.g_law_part (takes_of rfl rfl rfl rfl) hr (by decide) (by rfl) (Qe (m:=false) (Qc 6) (Qe (m:=false) (Qc 5) (Qe (m:=false) (Qc 7) (Qe (m:=false) (Qc 8) Qo))))))
  (Qj (QK (i:=13) nd rfl (by first | exact Or.inl rfl | exact Or.inr rfl) (Qfu (ZI (hu_of hr) (e_b (Qc 5)) (Qc 7)) (Qc 9)))
  (Qj (QK (i:=14) nd rfl (by first | exact Or.inl rfl | exact Or.inr rfl) (Qdu (Qkk hr (e_b (Qc 10)) (e_b (e_n (ZJ (k:=0) 0 Qo)))) (Qdu (Qkk hr (e_b (Qc 11)) (e_b (e_n (ZJ (k:=0) 0 Qo)))) (Qdu (Qkj (Qc 9) Qn) (Qej (Qkj (Qc 13) Qn))))))
  (Qj (QK (i:=14) nd rfl (by first | exact Or.inl rfl | exact Or.inr rfl) (Qdu (Qc 14) (Qdu (QiT (ZI (hu_of hr) (e_b (Qc 12)) Qn) (Qae (Qc 2) (Qc 9))) (Qej (QiT (ZI (hu_of hr) (e_b (Qc 12)) Qn) (Qae (Qc 2) (Qc 13)))))))
  (QhD 15 17 18 (by decide) (by decide) (by decide) nd rfl rfl rfl (by first | exact Or.inl rfl | exact Or.inr rfl) (by first | exact Or.inl rfl | exact Or.inr rfl) (by first | exact Or.inl rfl | exact Or.inr rfl) (passes_of rfl) rfl (QaZ T.z_list (by rfl)  (e_b (Qc 4))) (QaZ T.z_list (by rfl)  (e_b (Qc 5))) (QhC [("_law_line",16)] rfl rfl nd (J9 (m:=true) JO QcO (e_b (Qc 6))) (blkOk_by (own:=[("_law_line",16)]) (N:=["_law_script", "_law_here", "_law_many", "_law_cell", "_law_homes", "_law_weights", "_law_lines", "_law_desk", "_law_numbers", "_law_weight", "_law_some", "_law_others", "_law_sums", "_law_rest", "_law_good", "_law_given", "_law_line", "_law_handed", "_law_thing", "_law_listed", "_law_told_here", "_law_due"]) (sc:=L2.defScope QaP) (by decide +kernel)) (fun _ _ _ _ _ => (pg_name (i:=16) nd rfl (by first | exact Or.inl rfl | exact Or.inr rfl))) (Z8 16) (by decide) (fun _ _ _ _ _ => J4) (fun _ _ _ _ _ => (QaZ T.z_list (by rfl)  (e_b (Qc 16))))) (Qka 1 T.mk_1 (Qa1 T) T.g_Sheet (takes_of rfl rfl rfl rfl) hr (by decide) (by rfl) (Qe (m:=false) (ZI (hu_of hr) (QL 15) Qn) (Qe (m:=false) (ZI (hu_of hr) (QL 15) Qn) (Qe (m:=false) (ZI (hu_of hr) (QL 15) Qn) Qo)))) (JM 2 (Qe (m:=false) Qfl (Qe (m:=false) Qn Qo)))
  (Qj (QK (i:=19) nd rfl (by first | exact Or.inl rfl | exact Or.inr rfl) (e_n (QaZ T.z_list (by rfl)  (e_b (Qc 8)))))
  (Qj (QK (i:=20) nd rfl (by first | exact Or.inl rfl | exact Or.inr rfl) (Q6 (fr:=false) (Qeg T) T.g_law_told (takes_of rfl rfl rfl rfl) hr (by decide) (by rfl) (Qe (m:=false) (Qc 17) (Qe (m:=false) (Qc 2) (Qe (m:=false) (Qc 7) (Qe (m:=false) (Qc 19) (Qe (m:=false) (Qc 9) Qo)))))))
  (Qj (JR (PW.pt (Qbz (Qkl hr (e_b (ZI (hu_of hr) (e_b (Qc 20)) Qn)) (e_b (Qg8 T.z_int (by rfl)  (Qih (Qc 14))))) (Qbz (QaK (Jt (Q6 (fr:=false) (ZE T) T.g_law_is_sheet (takes_of rfl rfl rfl rfl) hr (by decide) (by rfl) (Qe (m:=true) (e_b (Qc 17)) (Qe (m:=false) (Qc 1) Qo))))) (Qbx (Qkl hr (e_b (Qc 19)) (e_b (Qc 8))))))) (Zj (Z9 QeG)) QE)
  (Zj (JR (Jt (Qc 14)) (Qj (QK (i:=21) nd rfl (by first | exact Or.inl rfl | exact Or.inr rfl) (Q6 (fr:=false) (Qc1 T) T.g_law_divided (takes_of rfl rfl rfl rfl) hr (by decide) (by rfl) (Qe (m:=false) (Qc 4) (Qe (m:=false) (Qc 5) (Qe (m:=false) (Qc 6) (Qe (m:=false) (Qc 7) (Qe (m:=false) (Qc 8) (Qe (m:=false) (Qc 9) Qo))))))))
  (Qj (JR (QaK (Jt (Q6 (fr:=false) (ZE T) T.g_law_is_sheet (takes_of rfl rfl rfl rfl) hr (by decide) (by rfl) (Qe (m:=true) (e_b (ZI (hu_of hr) (e_b (Qc 20)) Qn)) (Qe (m:=false) (Qc 21) Qo))))) (Zj (Z9 QeG)) QE)
  (Qj (JR (PW.pt (Qbz (QaK (Jt (Q6 (fr:=false) (ZE T) T.g_law_is_sheet (takes_of rfl rfl rfl rfl) hr (by decide) (by rfl) (Qe (m:=true) (e_b (Qc 17)) (Qe (m:=false) (Qc 1) Qo))))) (Qbx (QaK (Jt (Q6 (fr:=false) (ZE T) T.g_law_is_sheet (takes_of rfl rfl rfl rfl) hr (by decide) (by rfl) (Qe (m:=true) (e_b (Q6 (fr:=false) (QdE T) T.g_split (takes_of rfl rfl rfl rfl) hr (by decide) (by rfl) (Qe (m:=true) (e_b (Qc 17)) (Qe (m:=false) (Qc 2) (Qe (m:=false) (Qc 7) (Qe (m:=false) (Qc 19) (Qe (m:=false) (Qc 9) Qo))))))) (Qe (m:=false) (Qc 21) Qo)))))))) (Zj (Z9 QeG)) QE)
  (Qj (JR (QfT (QaY T.z_len (by rfl)  (e_b (Qc 4))) Qn) (Qj (QK (i:=1) nd rfl (by first | exact Or.inl rfl | exact Or.inr rfl) (Qc 21))
  QE) QE)
  (Q7 3 (Q7 4 (Q7 5 (Q7 6 (Q7 7 (Q7 8 (Q7 9 (Q7 10 (Q7 11 (Q7 12 (Q7 13 (Q7 14 (Q7 17 (Q7 19 (Q7 20 (Q7 21 QE)))))))))))))))))))) (Q7 3 (Q7 4 (Q7 5 (Q7 6 (Q7 7 (Q7 8 (Q7 9 (Q7 10 (Q7 11 (Q7 12 (Q7 13 (Q7 14 (Q7 17 (Q7 19 (Q7 20 QE))))))))))))))))))))))))))))
  (Zj (Z9 QeG)))))
end
end Lw
namespace Lw
open PySem PySem.Spec PyProof.Rows L2 Ps
def Qhn (K : PySem.W.Frag) : Sp:=fun vs H Q _ => ∃ (a : Addr) (ns : List Int),vs = [.ref a] ∧ SqL K H a (ns.map V.int) ∧ ns.length ≤ 63 ∧ ∀ H',Q (.bl true) H'
theorem Qid {K : PySem.W.Frag} {ct : Nat → Addr} {m : List D → R} {H : Hp} {a : Addr} {ns : List Int} {Q : VK} {E : XK} (hS : SqL K H a (ns.map V.int)) (hm : m [.scr ns] = .ok (.bl true)) (k : ∀ H',Q (.bl true) H') : spP K ct [false] false m [.ref a] H Q E:=by
 refine ⟨H,[.scr ns],Ex.refl H,⟨_,_,_,_,rfl,rfl,⟨a,rfl,hS⟩,rfl,rfl⟩,?_⟩
 rw [hm]
 intro v F' H' g r
 cases (show v = .bl true from r)
 exact k H'
theorem Qjz {l : PySem.W.OpenLaw} {w : World} {K : PySem.W.Frag} {h : Heap} {mg : Str → Option Value} (X : K.In h) (G : h.Ns mainGlobals mg) {C1 C6 C8 C12 C13 C14 C15 C18 f0 f1 f2 f3 f4 f5 f6 f7 f8 f9 f10 f11 f12 fL : Addr} {od0 an0 od1 an1 od2 an2 od4 an4 od5 an5 od7 an7 od9 an9 od6 an6 od8 an8 od10 an10 od3 an3 od11 an11 od12 an12 : Option Addr} {sl0 sl1 sl2 sl4 sl5 sl7 sl9 sl6 sl8 sl10 sl3 sl11 sl12 : Array (Option Value)} {oc0 kV0 dc0 pm0 cd0 ct0 oc1 kV1 dc1 pm1 cd1 ct1 oc2 kV2 dc2 pm2 cd2 ct2 oc4 kV4 dc4 pm4 cd4 ct4 oc5 kV5 dc5 pm5 cd5 ct5 oc7 kV7 dc7 pm7 cd7 ct7 oc9 kV9 dc9 pm9 cd9 ct9 oc6 kV6 dc6 pm6 cd6 ct6 oc8 kV8 dc8 pm8 cd8 ct8 oc10 kV10 dc10 pm10 cd10 ct10 oc3 kV3 dc3 pm3 cd3 ct3 oc11 kV11 dc11 pm11 cd11 ct11 oc12 kV12 dc12 pm12 cd12 ct12 : Value} (hfa : mg "law" = some (.ref fL))
  (aC1 : PySem.W.nsIn K mainGlobals "Sheet" = some (some (.ref C1)))
  (aC6 : PySem.W.nsIn K mainGlobals "BandError" = some (some (.ref C6)))
  (aC8 : PySem.W.nsIn K mainGlobals "TooMany" = some (some (.ref C8)))
  (aC12 : PySem.W.nsIn K mainGlobals "NoPlace" = some (some (.ref C12)))
  (aC13 : PySem.W.nsIn K mainGlobals "NoNumber" = some (some (.ref C13)))
  (aC14 : PySem.W.nsIn K mainGlobals "NoRate" = some (some (.ref C14)))
  (aC15 : PySem.W.nsIn K mainGlobals "NoSplit" = some (some (.ref C15)))
  (aC18 : PySem.W.nsIn K mainGlobals "Open" = some (some (.ref C18)))
  (a0 : PySem.W.findIn K (.ref C1) "__init__" = some (some (.ref f0)))
  (i0 : PySem.W.isFn K (.ref f0) = true)
  (l0 : K.lookup f0 = some ⟨oc0,od0,.func (PySem.W.fnOf "__init__" "Sheet.__init__" (L2.defArgs Q0) (L2.defBody Q0) (L2.defScope Q0) .none kV0 dc0 pm0 an0 cd0 ct0),sl0⟩)
  (c0 : PySem.W.codeIn K cd0 "Sheet.__init__" = true)
  (k0 : PySem.W.keepIn K (.ref f0) = true)
  (a1 : PySem.W.nsIn K mainGlobals "borne_by" = some (some (.ref f1)))
  (l1 : K.lookup f1 = some ⟨oc1,od1,.func (PySem.W.fnOf "borne_by" "borne_by" (L2.defArgs QV) (L2.defBody QV) (L2.defScope QV) .none kV1 dc1 pm1 an1 cd1 ct1),sl1⟩)
  (c1 : PySem.W.codeIn K cd1 "borne_by" = true)
  (k1 : PySem.W.keepIn K (.ref f1) = true)
  (a2 : PySem.W.nsIn K mainGlobals "doubled" = some (some (.ref f2)))
  (l2 : K.lookup f2 = some ⟨oc2,od2,.func (PySem.W.fnOf "doubled" "doubled" (L2.defArgs Zz) (L2.defBody Zz) (L2.defScope Zz) .none kV2 dc2 pm2 an2 cd2 ct2),sl2⟩)
  (c2 : PySem.W.codeIn K cd2 "doubled" = true)
  (k2 : PySem.W.keepIn K (.ref f2) = true)
  (a4 : PySem.W.nsIn K mainGlobals "_law_nth" = some (some (.ref f4)))
  (l4 : K.lookup f4 = some ⟨oc4,od4,.func (PySem.W.fnOf "_law_nth" "_law_nth" (L2.defArgs Z0) (L2.defBody Z0) (L2.defScope Z0) .none kV4 dc4 pm4 an4 cd4 ct4),sl4⟩)
  (c4 : PySem.W.codeIn K cd4 "_law_nth" = true)
  (k4 : PySem.W.keepIn K (.ref f4) = true)
  (a5 : PySem.W.nsIn K mainGlobals "_law_mixed" = some (some (.ref f5)))
  (l5 : K.lookup f5 = some ⟨oc5,od5,.func (PySem.W.fnOf "_law_mixed" "_law_mixed" (L2.defArgs QU) (L2.defBody QU) (L2.defScope QU) .none kV5 dc5 pm5 an5 cd5 ct5),sl5⟩)
  (c5 : PySem.W.codeIn K cd5 "_law_mixed" = true)
  (k5 : PySem.W.keepIn K (.ref f5) = true)
  (a7 : PySem.W.nsIn K mainGlobals "_law_part" = some (some (.ref f7)))
  (l7 : K.lookup f7 = some ⟨oc7,od7,.func (PySem.W.fnOf "_law_part" "_law_part" (L2.defArgs QO) (L2.defBody QO) (L2.defScope QO) .none kV7 dc7 pm7 an7 cd7 ct7),sl7⟩)
  (c7 : PySem.W.codeIn K cd7 "_law_part" = true)
  (k7 : PySem.W.keepIn K (.ref f7) = true)
  (a9 : PySem.W.nsIn K mainGlobals "_law_is_sheet" = some (some (.ref f9)))
  (l9 : K.lookup f9 = some ⟨oc9,od9,.func (PySem.W.fnOf "_law_is_sheet" "_law_is_sheet" (L2.defArgs Qw) (L2.defBody Qw) (L2.defScope Qw) .none kV9 dc9 pm9 an9 cd9 ct9),sl9⟩)
  (c9 : PySem.W.codeIn K cd9 "_law_is_sheet" = true)
  (k9 : PySem.W.keepIn K (.ref f9) = true)
  (a6 : PySem.W.nsIn K mainGlobals "_law_sheet" = some (some (.ref f6)))
  (l6 : K.lookup f6 = some ⟨oc6,od6,.func (PySem.W.fnOf "_law_sheet" "_law_sheet" (L2.defArgs QJ) (L2.defBody QJ) (L2.defScope QJ) .none kV6 dc6 pm6 an6 cd6 ct6),sl6⟩)
  (c6 : PySem.W.codeIn K cd6 "_law_sheet" = true)
  (k6 : PySem.W.keepIn K (.ref f6) = true)
  (a8 : PySem.W.nsIn K mainGlobals "_law_divided" = some (some (.ref f8)))
  (l8 : K.lookup f8 = some ⟨oc8,od8,.func (PySem.W.fnOf "_law_divided" "_law_divided" (L2.defArgs Q9) (L2.defBody Q9) (L2.defScope Q9) .none kV8 dc8 pm8 an8 cd8 ct8),sl8⟩)
  (c8 : PySem.W.codeIn K cd8 "_law_divided" = true)
  (k8 : PySem.W.keepIn K (.ref f8) = true)
  (a10 : PySem.W.nsIn K mainGlobals "_law_choice" = some (some (.ref f10)))
  (l10 : K.lookup f10 = some ⟨oc10,od10,.func (PySem.W.fnOf "_law_choice" "_law_choice" (L2.defArgs QH) (L2.defBody QH) (L2.defScope QH) .none kV10 dc10 pm10 an10 cd10 ct10),sl10⟩)
  (c10 : PySem.W.codeIn K cd10 "_law_choice" = true)
  (k10 : PySem.W.keepIn K (.ref f10) = true)
  (a3 : PySem.W.nsIn K mainGlobals "split" = some (some (.ref f3)))
  (l3 : K.lookup f3 = some ⟨oc3,od3,.func (PySem.W.fnOf "split" "split" (L2.defArgs Z3) (L2.defBody Z3) (L2.defScope Z3) .none kV3 dc3 pm3 an3 cd3 ct3),sl3⟩)
  (c3 : PySem.W.codeIn K cd3 "split" = true)
  (k3 : PySem.W.keepIn K (.ref f3) = true)
  (a11 : PySem.W.nsIn K mainGlobals "_law_told" = some (some (.ref f11)))
  (l11 : K.lookup f11 = some ⟨oc11,od11,.func (PySem.W.fnOf "_law_told" "_law_told" (L2.defArgs Zi) (L2.defBody Zi) (L2.defScope Zi) .none kV11 dc11 pm11 an11 cd11 ct11),sl11⟩)
  (c11 : PySem.W.codeIn K cd11 "_law_told" = true)
  (k11 : PySem.W.keepIn K (.ref f11) = true)
  (a12 : PySem.W.nsIn K mainGlobals "law" = some (some (.ref f12)))
  (l12 : K.lookup f12 = some ⟨oc12,od12,.func (PySem.W.fnOf "law" "law" (L2.defArgs QaP) (L2.defBody QaP) (L2.defScope QaP) .none kV12 dc12 pm12 an12 cd12 ct12),sl12⟩)
  (c12 : PySem.W.codeIn K cd12 "law" = true)
  (k12 : PySem.W.keepIn K (.ref f12) = true)
  (pg1 : PySem.W.plainGet K C1 Str.empty = true)
  (hd1 : PySem.W.hasDictIn K C1 = true)
  (po1 : PySem.W.plainOver K C1 = true)
  (sa1 : PySem.W.findIn K (.ref C1) "__setattr__" = some (some (.builtin "object.__setattr__")))
  (mk1 : PySem.W.makesIn K C1 = true)
  (kc1 : PySem.W.keepIn K (.ref C1) = true)
  (ha1 : PySem.W.findIn K (.ref C1) "__class__" = some (some (.builtin "object.__class__")))
  (hm1 : PySem.W.mroIn K C1 (.type "object") = some true)
  (na1_homes : PySem.W.findIn K (.ref C1) "homes" = some none)
  (na1_weights : PySem.W.findIn K (.ref C1) "weights" = some none)
  (na1_lines : PySem.W.findIn K (.ref C1) "lines" = some none)
  (hn0 : PySem.W.specialIn K (.builtin "object.__class__") "__get__" = some (some (.builtin "getset_descriptor.__get__")))
  (ht0 : PySem.W.takesIn K (.builtin "object.__class__") = some true)
  (ek15 : PySem.W.keepIn K (.ref C15) = true)
  (eq15 : PySem.W.excIn K C15 [.type "ValueError",.type "Exception",.type "BaseException",.type "object"] "ValueError.__new__" = true)
  (eb15 : PySem.W.subIn K (.ref C15) (.type "BaseException") = some true)
  (et15 : PySem.W.typeIn K (.ref C15) = some (.type "type"))
  (eg15 : PySem.W.findIn K (.ref C15) "__getattribute__" = some (some (.builtin "BaseException.__getattribute__")))
  (eh15 : PySem.W.findIn K (.ref C15) "__getattr__" = some none)
  (ed15 : PySem.W.hasDictIn K C15 = true)
  (ea15 : PySem.W.findIn K (.ref C15) "__class__" = some (some (.builtin "object.__class__")))
  (em15 : PySem.W.mroIn K C15 (.type "object") = some true)
  (xb6 : PySem.W.subIn K (.ref C6) (.type "BaseException") = some true)
  (xd6 : PySem.W.hasDictIn K C6 = true)
  (xt6 : PySem.W.typeIn K (.ref C6) = some (.type "type"))
  (xs6_15 : PySem.W.subIn K (.ref C15) (.ref C6) = some true)
  (ks_NoNumber_tyNoneType : PySem.W.kitOne K (.type "NoneType") (.ref C13) = some false)
  (ks_NoNumber_err15 : PySem.W.kitOne K (.ref C15) (.ref C13) = some false)
  (ks_NoPlace_tyNoneType : PySem.W.kitOne K (.type "NoneType") (.ref C12) = some false)
  (ks_NoPlace_err15 : PySem.W.kitOne K (.ref C15) (.ref C12) = some false)
  (ks_NoRate_tyNoneType : PySem.W.kitOne K (.type "NoneType") (.ref C14) = some false)
  (ks_NoRate_err15 : PySem.W.kitOne K (.ref C15) (.ref C14) = some false)
  (ks_NoSplit_tyNoneType : PySem.W.kitOne K (.type "NoneType") (.ref C15) = some false)
  (ks_NoSplit_err15 : PySem.W.kitOne K (.ref C15) (.ref C15) = some true)
  (ks_Open_tyNoneType : PySem.W.kitOne K (.type "NoneType") (.ref C18) = some false)
  (ks_Open_err15 : PySem.W.kitOne K (.ref C15) (.ref C18) = some false)
  (ks_Sheet_own1 : PySem.W.kitOne K (.ref C1) (.ref C1) = some true)
  (ks_TooMany_tyNoneType : PySem.W.kitOne K (.type "NoneType") (.ref C8) = some false)
  (ks_TooMany_err15 : PySem.W.kitOne K (.ref C15) (.ref C8) = some false)
  (ks_ValueError_err15 : PySem.W.kitOne K (.ref C15) (.type "ValueError") = some true)
  (ks_bool_err15 : PySem.W.kitOne K (.ref C15) (.type "bool") = some false)
  (ks_int_err15 : PySem.W.kitOne K (.ref C15) (.type "int") = some false)
  (ks_list_err15 : PySem.W.kitOne K (.ref C15) (.type "list") = some false)
  (z_ValueError : PySem.W.nsIn K mainGlobals "ValueError" = some none)
  (z_abs : PySem.W.nsIn K mainGlobals "abs" = some none)
  (z_all : PySem.W.nsIn K mainGlobals "all" = some none)
  (z_any : PySem.W.nsIn K mainGlobals "any" = some none)
  (z_bool : PySem.W.nsIn K mainGlobals "bool" = some none)
  (z_int : PySem.W.nsIn K mainGlobals "int" = some none)
  (z_isinstance : PySem.W.nsIn K mainGlobals "isinstance" = some none)
  (z_len : PySem.W.nsIn K mainGlobals "len" = some none)
  (z_list : PySem.W.nsIn K mainGlobals "list" = some none)
  (z_range : PySem.W.nsIn K mainGlobals "range" = some none)
  (z_sum : PySem.W.nsIn K mainGlobals "sum" = some none)
  : ∃ fd : FuncData,(∀ (s : Shared) (v : Value),BindsTo s fd ⟨[v],[]⟩ [("_law_script",v)]) ∧ ∀ base : Heap,K.In base → base.Ns mainGlobals mg → FnOk l.prog w K mg base (L2.CX l.prog w) 5 fL fd ["_law_script"] (Qhn K):=by
 have e:=hfa.symm.trans (PySem.W.mg_of X G a12)
 cases e
 have F0:=fun_mk (st:=Q0) l0 c0 k0
 have F1:=fun_mk (st:=QV) l1 c1 k1
 have F2:=fun_mk (st:=Zz) l2 c2 k2
 have F4:=fun_mk (st:=Z0) l4 c4 k4
 have F5:=fun_mk (st:=QU) l5 c5 k5
 have F7:=fun_mk (st:=QO) l7 c7 k7
 have F9:=fun_mk (st:=Qw) l9 c9 k9
 have F6:=fun_mk (st:=QJ) l6 c6 k6
 have F8:=fun_mk (st:=Q9) l8 c8 k8
 have F10:=fun_mk (st:=QH) l10 c10 k10
 have F3:=fun_mk (st:=Z3) l3 c3 k3
 have F11:=fun_mk (st:=Zi) l11 c11 k11
 have F12:=fun_mk (st:=QaP) l12 c12 k12
 have T : Txt K mg (ctL [0,C1,0,0,0,0,C6,0,C8,0,0,0,C12,C13,C14,C15,0,0,C18]) (ctL [f0,f1,f2,f3,f4,f5,f6,f7,f8,f9,f10,f11,f12]):={
  F_Sheet__init_:=⟨_,F0⟩
  F_borne_by:=⟨_,F1⟩
  g_borne_by:=PySem.W.mg_of X G a1
  F_doubled:=⟨_,F2⟩
  g_doubled:=PySem.W.mg_of X G a2
  F_law_nth:=⟨_,F4⟩
  g_law_nth:=PySem.W.mg_of X G a4
  F_law_mixed:=⟨_,F5⟩
  g_law_mixed:=PySem.W.mg_of X G a5
  F_law_part:=⟨_,F7⟩
  g_law_part:=PySem.W.mg_of X G a7
  F_law_is_sheet:=⟨_,F9⟩
  g_law_is_sheet:=PySem.W.mg_of X G a9
  F_law_sheet:=⟨_,F6⟩
  g_law_sheet:=PySem.W.mg_of X G a6
  F_law_divided:=⟨_,F8⟩
  g_law_divided:=PySem.W.mg_of X G a8
  F_law_choice:=⟨_,F10⟩
  g_law_choice:=PySem.W.mg_of X G a10
  F_split:=⟨_,F3⟩
  g_split:=PySem.W.mg_of X G a3
  F_law_told:=⟨_,F11⟩
  g_law_told:=PySem.W.mg_of X G a11
  F_law:=⟨_,F12⟩
  g_law:=PySem.W.mg_of X G a12
  g_Sheet:=PySem.W.mg_of X G aC1
  cl_1:=⟨pg1,hd1,po1,sa1⟩
  ow_1:=⟨⟨pg1,hd1,po1,sa1⟩,ha1,hn0,ht0,hm1⟩
  na_1_homes:=na1_homes
  na_1_weights:=na1_weights
  na_1_lines:=na1_lines
  mk_1:=⟨mk1,a0,i0,kc1⟩
  g_BandError:=PySem.W.mg_of X G aC6
  g_TooMany:=PySem.W.mg_of X G aC8
  g_NoPlace:=PySem.W.mg_of X G aC12
  g_NoNumber:=PySem.W.mg_of X G aC13
  g_NoRate:=PySem.W.mg_of X G aC14
  g_NoSplit:=PySem.W.mg_of X G aC15
  g_Open:=PySem.W.mg_of X G aC18
  er_NoSplit:=⟨PySem.W.mg_of X G aC15,ek15,eq15,eb15,et15⟩
  ec_NoSplit:=⟨eg15,eh15,eb15,ed15,ea15,hn0,ht0,em15⟩
  xm_NoSplit_BandError:=PySem.W.exm_ref xb6 xd6 xt6 xs6_15
  ks_NoNumber_tyNoneType:=ks_NoNumber_tyNoneType
  ks_NoNumber_err15:=ks_NoNumber_err15
  ks_NoPlace_tyNoneType:=ks_NoPlace_tyNoneType
  ks_NoPlace_err15:=ks_NoPlace_err15
  ks_NoRate_tyNoneType:=ks_NoRate_tyNoneType
  ks_NoRate_err15:=ks_NoRate_err15
  ks_NoSplit_tyNoneType:=ks_NoSplit_tyNoneType
  ks_NoSplit_err15:=ks_NoSplit_err15
  ks_Open_tyNoneType:=ks_Open_tyNoneType
  ks_Open_err15:=ks_Open_err15
  ks_Sheet_own1:=ks_Sheet_own1
  ks_TooMany_tyNoneType:=ks_TooMany_tyNoneType
  ks_TooMany_err15:=ks_TooMany_err15
  ks_ValueError_err15:=ks_ValueError_err15
  ks_bool_err15:=ks_bool_err15
  ks_int_err15:=ks_int_err15
  ks_list_err15:=ks_list_err15
  z_ValueError:=PySem.W.mg_none_of X G z_ValueError
  z_abs:=PySem.W.mg_none_of X G z_abs
  z_all:=PySem.W.mg_none_of X G z_all
  z_any:=PySem.W.mg_none_of X G z_any
  z_bool:=PySem.W.mg_none_of X G z_bool
  z_int:=PySem.W.mg_none_of X G z_int
  z_isinstance:=PySem.W.mg_none_of X G z_isinstance
  z_len:=PySem.W.mg_none_of X G z_len
  z_list:=PySem.W.mg_none_of X G z_list
  z_range:=PySem.W.mg_none_of X G z_range
  z_sum:=PySem.W.mg_none_of X G z_sum
 }
 exact ⟨_,fun s v => .of_eq rfl,fun base _ _ => (Qjy T F12).imp fun vs H Q E ⟨a,ns,e,hS,hl,k⟩ => by subst e; exact Qid hS (law_true ns hl) k⟩
theorem all_says {w : World} {K : PySem.W.Frag} {h : Heap} {mg : Str → Option Value} {fL : Addr} (X : K.In h) (G : h.Ns mainGlobals mg) (hfa : mg "law" = some (.ref fL)) (c : QfF nFx nFn K = He.valE nFn)
  : ∃ fd : FuncData,(∀ (s : Shared) (v : Value),BindsTo s fd ⟨[v],[]⟩ [("_law_script",v)]) ∧ ∀ base : Heap,K.In base → base.Ns mainGlobals mg → FnOk (PySem.Challenge.rw_bandscribe_k31_desks_split).prog w K mg base (L2.CX (PySem.Challenge.rw_bandscribe_k31_desks_split).prog w) 5 fL fd ["_law_script"] (Qhn K):=by
 obtain ⟨_,_,_,_,_,_,_,_,_,nl0,nc0⟩:=QbU c 0 (d:=nD0) rfl
 obtain ⟨_,_,_,_,_,_,_,_,_,nl1,nc1⟩:=QbU c 1 (d:=nD1) rfl
 obtain ⟨_,_,_,_,_,_,_,_,_,nl2,nc2⟩:=QbU c 2 (d:=nD2) rfl
 obtain ⟨_,_,_,_,_,_,_,_,_,nl3,nc3⟩:=QbU c 3 (d:=nD3) rfl
 obtain ⟨_,_,_,_,_,_,_,_,_,nl4,nc4⟩:=QbU c 4 (d:=nD4) rfl
 obtain ⟨_,_,_,_,_,_,_,_,_,nl5,nc5⟩:=QbU c 5 (d:=nD5) rfl
 obtain ⟨_,_,_,_,_,_,_,_,_,nl6,nc6⟩:=QbU c 6 (d:=nD6) rfl
 obtain ⟨_,_,_,_,_,_,_,_,_,nl7,nc7⟩:=QbU c 7 (d:=nD7) rfl
 obtain ⟨_,_,_,_,_,_,_,_,_,nl8,nc8⟩:=QbU c 8 (d:=nD8) rfl
 obtain ⟨_,_,_,_,_,_,_,_,_,nl9,nc9⟩:=QbU c 9 (d:=nD9) rfl
 obtain ⟨_,_,_,_,_,_,_,_,_,nl10,nc10⟩:=QbU c 10 (d:=QjE) rfl
 obtain ⟨_,_,_,_,_,_,_,_,_,nl11,nc11⟩:=QbU c 11 (d:=QjF) rfl
 obtain ⟨_,_,_,_,_,_,_,_,_,nl12,nc12⟩:=QbU c 12 (d:=QjG) rfl
 obtain ⟨nf_aC1,nf_aC6,nf_aC8,nf_aC12,nf_aC13,nf_aC14,nf_aC15,nf_aC18,nf_a0,nf_i0,nf_k0,nf_a1,nf_k1,nf_a2,nf_k2,nf_a4,nf_k4,nf_a5,nf_k5,nf_a7⟩:=(of_decide_eq_true (Qeh c 0 (f:=fun K => decide (nP0 K)) rfl) : nP0 K)
 obtain ⟨nf_k7,nf_a9,nf_k9,nf_a6,nf_k6,nf_a8,nf_k8,nf_a10,nf_k10,nf_a3,nf_k3,nf_a11,nf_k11,nf_a12,nf_k12,nf_pg1,nf_hd1,nf_po1,nf_sa1,nf_mk1⟩:=(of_decide_eq_true (Qeh c 1 (f:=fun K => decide (nP1 K)) rfl) : nP1 K)
 obtain ⟨nf_kc1,nf_ha1,nf_hm1,nf_na1_homes,nf_na1_weights,nf_na1_lines,nf_hn0,nf_ht0,nf_ek15,nf_eq15,nf_eb15,nf_et15,nf_eg15,nf_eh15,nf_ed15,nf_ea15,nf_em15,nf_xb6,nf_xd6,nf_xt6⟩:=(of_decide_eq_true (Qeh c 2 (f:=fun K => decide (nP2 K)) rfl) : nP2 K)
 obtain ⟨nf_xs6_15,nf_ks_NoNumber_tyNoneType,nf_ks_NoNumber_err15,nf_ks_NoPlace_tyNoneType,nf_ks_NoPlace_err15,nf_ks_NoRate_tyNoneType,nf_ks_NoRate_err15,nf_ks_NoSplit_tyNoneType,nf_ks_NoSplit_err15,nf_ks_Open_tyNoneType,nf_ks_Open_err15,nf_ks_Sheet_own1,nf_ks_TooMany_tyNoneType,nf_ks_TooMany_err15,nf_ks_ValueError_err15,nf_ks_bool_err15,nf_ks_int_err15,nf_ks_list_err15,nf_z_ValueError,nf_z_abs⟩:=(of_decide_eq_true (Qeh c 3 (f:=fun K => decide (nP3 K)) rfl) : nP3 K)
 obtain ⟨nf_z_all,nf_z_any,nf_z_bool,nf_z_int,nf_z_isinstance,nf_z_len,nf_z_list,nf_z_range,nf_z_sum⟩:=(of_decide_eq_true (Qeh c 4 (f:=fun K => decide (nP4 K)) rfl) : nP4 K)
 exact Qjz (l:=PySem.Challenge.rw_bandscribe_k31_desks_split) X G hfa nf_aC1 nf_aC6 nf_aC8 nf_aC12 nf_aC13 nf_aC14 nf_aC15 nf_aC18 nf_a0 nf_i0 nl0 nc0 nf_k0 nf_a1 nl1 nc1 nf_k1 nf_a2 nl2 nc2 nf_k2 nf_a4 nl3 nc3 nf_k4 nf_a5 nl4 nc4 nf_k5 nf_a7 nl5 nc5 nf_k7 nf_a9 nl6 nc6 nf_k9 nf_a6 nl7 nc7 nf_k6 nf_a8 nl8 nc8 nf_k8 nf_a10 nl9 nc9 nf_k10 nf_a3 nl10 nc10 nf_k3 nf_a11 nl11 nc11 nf_k11 nf_a12 nl12 nc12 nf_k12 nf_pg1 nf_hd1 nf_po1 nf_sa1 nf_mk1 nf_kc1 nf_ha1 nf_hm1 nf_na1_homes nf_na1_weights nf_na1_lines nf_hn0 nf_ht0 nf_ek15 nf_eq15 nf_eb15 nf_et15 nf_eg15 nf_eh15 nf_ed15 nf_ea15 nf_em15 nf_xb6 nf_xd6 nf_xt6 nf_xs6_15 nf_ks_NoNumber_tyNoneType nf_ks_NoNumber_err15 nf_ks_NoPlace_tyNoneType nf_ks_NoPlace_err15 nf_ks_NoRate_tyNoneType nf_ks_NoRate_err15 nf_ks_NoSplit_tyNoneType nf_ks_NoSplit_err15 nf_ks_Open_tyNoneType nf_ks_Open_err15 nf_ks_Sheet_own1 nf_ks_TooMany_tyNoneType nf_ks_TooMany_err15 nf_ks_ValueError_err15 nf_ks_bool_err15 nf_ks_int_err15 nf_ks_list_err15 nf_z_ValueError nf_z_abs nf_z_all nf_z_any nf_z_bool nf_z_int nf_z_isinstance nf_z_len nf_z_list nf_z_range nf_z_sum
theorem walkX {l : PySem.W.OpenLaw} {q : Program} {loose : List Str} {XP : (Str → Option Value) → Heap → Prop} {YP : World → Heap → Prop} {d : DefRec} (hn : l.most = some 63) (hdf : d.params.defaults = [])
  (F : ∀ (w : World) (mg : Str → Option Value) (fa : Addr) (h : Heap),YP w h → h.Ns mainGlobals mg → mg d.name = some (.ref fa) →
   ∃ (K : PySem.W.Frag) (fd : FuncData),K.In h ∧ (∀ (s : Shared) (u : Value),BindsTo s fd ⟨[u],[]⟩ [("_law_script",u)]) ∧ ∀ base : Heap,K.In base → base.Ns mainGlobals mg → FnOk l.prog w K mg base (L2.CX l.prog w) 5 fa fd ["_law_script"] (Qhn K)) :
  PySem.W.WalkO q loose XP YP l.row.toRowW d [] (fun f vs => PySem.call f vs):=by
 refine Att.attach_call hn hdf fun w s₀ s₁ mg mb fa o pm cd doc a vs ns G Y ho hd hcd hmg hobj hints hlen hg => ?_
 obtain ⟨K,fd,KX,hb,hF⟩:=F w mg fa _ Y G.T.g hmg
 exact law_call KX G.T.g G.T.b G.T.builtins G.T.nolimit hg hobj hints (Nat.le_trans hlen (by decide)) ⟨rfl,by decide,by decide⟩ hF hb (fun H hO hS => ⟨a,ns,rfl,hS,hlen,fun _ => rfl⟩) fun H e s' z => Qg7 z
end Lw
open PySem PySem.W PySem.Calls PyProof.Rows
set_option maxRecDepth 100000 in
set_option maxHeartbeats 0 in
theorem PySem.Challenge.cw_bandscribe_k31_desks_split_holds : PySem.Challenge.rw_bandscribe_k31_desks_split.Holds := by
 w_on; o_law
 refine HandSHeadRun.head_any (r:=OpenLaw.row PySem.Challenge.rw_bandscribe_k31_desks_split) (q:=view (OpenLaw.row PySem.Challenge.rw_bandscribe_k31_desks_split).prog [22]) (H:=Lw.nHk) (ob:=Lw.nOb) (M:=20000) (loose:=Lw.nNm) (d:=HandSHeadRun.topDef (OpenLaw.row PySem.Challenge.rw_bandscribe_k31_desks_split).prog 22) (kwd:=[]) Lw.nOb_eq
  (by kernel_rfl) (fun s => by kernel_rfl) Lw.nRun (by kernel_rfl) (by kernel_rfl) (by kernel_rfl) (by rfl) (by first | assumption | decide +kernel) (by decide +kernel) ⟨rfl,rfl,rfl,rfl,rfl,by decide +kernel⟩ ?hw ?hc
 case hw => w_witness2
 case hc =>
  refine Lw.walkX (l:=PySem.Challenge.rw_bandscribe_k31_desks_split) rfl (by kernel_rfl) ?F
  intro w mg fa h Y G hmg0
  obtain ⟨K,KX,c⟩:=Y
  have hmg : mg ("law" : PySem.Str) = some (.ref fa):=by
   have e : (HandSHeadRun.topDef (OpenLaw.row PySem.Challenge.rw_bandscribe_k31_desks_split).prog 22).name = ("law" : PySem.Str):=by kernel_rfl
   rw [← e]
   exact hmg0
  obtain ⟨fd,hb,hF⟩:=Lw.all_says KX G hmg c
  exact ⟨K,fd,KX,hb,hF⟩
#print axioms PySem.Challenge.cw_bandscribe_k31_desks_split_holds
