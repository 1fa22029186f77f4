import PyProof.Rows.All
import Wide.All
import OpenK.AllK
import Wide.FinOn
import KE.KStateDown
import KE.KTryMore
import HandS.Base
import HandS.Call
import HandS.Exc
import HandS.Words
import HandS.ExcIs
import HandS.ExcInit
import HandS.ExcField
import HandS.ClsMeth
import HandS.Head0
import HandS.Head1
import HandS.Head2
import HandS.HeadHook1
import HandS.HeadHook4
import KE.KNestM
import HandS.ForMost
import HandS.ForExc
import HandS.TupAny
import HandS.TupMul
import HandS.TupLe
import HandS.Wide
import HandS.Conv
import HandS.IsInst
import HandS.Deep
import HandS.Rev
import HandS.RevRange
import HandS.Zip
import PyProof.SeqIndex
import KE.KIndexOf
import KE.SortData
import KE.KDictKeyed
import KE.KDictDisplayH
import KE.KDictWalk
import KE.KeyNested
import PyProof.CodeObj
import KE.KLam
import HandS.SortKw
import HandS.EndBits
import HandS.Lambda
import HandS.EndTab
import HandS.Style
import KE.KTupSum
import KE.GoesMore
import KE.GoesEnum
import HandS.ExcOwn
import KE.KDictPairs
import KE.DataMinMax
import KE.GoesZip
import HandS.NoneIn
import KE.DataCmp
import PyProof.ReprRoads
import PyProof.CallStr
import HandS.Text
import KE.KIsAll
import HandS.Iter
import PyProof.StrOps2
import KE.KDictSum
import KE.KDictCopyH
import HandS.TupSets
import HandS.TupLen
import HandS.DictTup
import HandS.New
import PyProof.StrLawsTight
import HandS.Finally
import HandS.More
import KE.KSortKey
import KE.SortKeyHeap
import PyProof.FitsInt
import PyProof.StrLaws
import PySem.Challenge.RW_crossbends_k47_whole_climbs_by_ladders
set_option Elab.async false
set_option linter.all false
set_option maxRecDepth 100000
set_option maxHeartbeats 0
namespace CB
open PySem PySem.Spec PyProof.Rows L2
def valsAt (g : Addr → Option Obj) (a : Addr) : List Addr := match g a with
  | some ⟨_, _, .dict es _, _⟩ => es.toList.flatMap fun e => He.refV e.val
  | _ => []
def reachF (g : Addr → Option Obj) (a : Addr) : List Addr := a :: match g a with
  | some ⟨_, _, .func fd, _⟩ => He.refV fd.code
  | _ => []
def reachC (g : Addr → Option Obj) (a : Addr) : List Addr := a :: match g a with
  | some ⟨_, _, .func fd, _⟩ => He.refV fd.code
  | some ⟨_, _, .cls cd, _⟩ => cd.ns :: (valsAt g cd.ns).flatMap (reachF g)
  | _ => []
def reach (g : Addr → Option Obj) : List Addr := mainGlobals :: cStatics :: (valsAt g mainGlobals).flatMap (reachC g)
def isLst (o : Obj) : Bool := o.cls == .type "list"
def frL (g : Addr → Option Obj) : PySem.W.Frag := (He.frG g (reach g)).filter fun q => !isLst q.2
theorem frL_in {h : Heap} : (frL h.get?).In h := by
  intro a o e
  have key : ∀ l : List (Addr × Obj), (l.filter fun q => !isLst q.2).lookup a = some o → (a, o) ∈ l := by
    intro l
    induction l with
    | nil => intro h; cases h
    | cons p r ih =>
      intro h
      rw [List.filter_cons] at h
      split at h
      · have h2 : (match a == p.1 with | true => some p.2 | false => (r.filter fun q => !isLst q.2).lookup a) = some o := h
        cases q : (a == p.1) with
        | true =>
          rw [q] at h2
          have e : p.2 = o := Option.some.inj h2
          have e1 : a = p.1 := beq_iff_eq.mp q
          rw [e1, ← e]
          exact List.mem_cons_self
        | false =>
          rw [q] at h2
          exact List.mem_cons_of_mem _ (ih h2)
      · exact List.mem_cons_of_mem _ (ih h)
  have m := key _ e
  unfold He.frG at m
  obtain ⟨b, _, e⟩ := List.mem_filterMap.mp m
  cases hb : h.get? b with
  | none => rw [hb] at e; cases e
  | some u =>
    rw [hb] at e
    have e2 : (b, u) = (a, o) := Option.some.inj e
    injection e2 with e3 e4
    rw [← e3, ← e4]
    exact hb
theorem frL_noList (g : Addr → Option Obj) : (frL g).all (fun p => !(p.2.cls == .type "list")) = true := by
  rw [List.all_eq_true]
  intro p hp
  exact (List.mem_filter.mp hp).2
abbrev VE4 : List Value := [.type "ValueError", .type "Exception", .type "BaseException", .type "object"]
section
variable (K : PySem.W.Frag)
def gloB (x : Str) : Bool := He.eqO (PySem.W.nsIn K mainGlobals x) (some (some (.ref (He.ga K x))))
def clsB (x : Str) : Bool := gloB K x && (PySem.W.plainGet K (He.ga K x) Str.empty && (PySem.W.hasDictIn K (He.ga K x) && (PySem.W.plainOver K (He.ga K x) && He.eqO (PySem.W.findIn K (.ref (He.ga K x)) "__setattr__") (some (some (.builtin "object.__setattr__"))))))
def exB (x : Str) : Bool := gloB K x && (He.eqO (PySem.W.findIn K (.ref (He.ga K x)) "__getattribute__") (some (some (.builtin "BaseException.__getattribute__"))) && (He.eqO (PySem.W.findIn K (.ref (He.ga K x)) "__getattr__") (some none) &&
  (decide (PySem.W.subIn K (.ref (He.ga K x)) (.type "BaseException") = some true) && (PySem.W.hasDictIn K (He.ga K x) && (He.eqO (PySem.W.findIn K (.ref (He.ga K x)) "__class__") (some (some (.builtin "object.__class__"))) &&
  (He.eqO (PySem.W.specialIn K (.builtin "object.__class__") "__get__") (some (some (.builtin "getset_descriptor.__get__"))) && (decide (PySem.W.takesIn K (.builtin "object.__class__") = some true) && decide (PySem.W.mroIn K (He.ga K x) (.type "object") = some true))))))))
def oexB (C : Addr) : Bool := match K.lookup C with
  | some ⟨.type c, _, .cls cd, sl⟩ => decide (c = "type") && (match cd.mro, sl.toList with
    | .ref C' :: bm, [_, _, _, _, some (.builtin n), _] => decide (C' = C) && (decide (n = "ValueError.__new__") && (cd.hasDict && (!cd.hasDel && PySem.HandSPX.refsVE bm)))
    | _, _ => false)
  | _ => false
end
inductive Fc where
  | non (x : Str)
  | int (x : Str) (i : Int)
  | str (x z : Str)
  | own (c : Str)
  | isf (c : Str) (tab : List (Str × Bool))
  | isb (T : String) (tab : List (Str × Bool))
  | cau (o : Str) (cs : List Str)
  | clo (c : Str) (fs : List Str)
  | mkr (c : Str) (fs : List Str)
  | ini (c n : Str)
  | fld (n : Str) (cs : List Str)
def Fc.ok (K : PySem.W.Frag) : Fc → Bool
  | .non x => He.eqO (PySem.W.nsIn K mainGlobals x) (some none)
  | .int x i => (match PySem.W.nsIn K mainGlobals x with
    | some (some (.int j _)) => decide (j = i)
    | _ => false)
  | .str x z => (match PySem.W.nsIn K mainGlobals x with
    | some (some (.str y _)) => decide (y = z)
    | _ => false)
  | .own c => gloB K c && (PySem.W.excIn K (He.ga K c) VE4 "ValueError.__new__" && (PySem.W.keepIn K (.ref (He.ga K c)) && (decide (PySem.W.subIn K (.ref (He.ga K c)) (.type "BaseException") = some true) && He.eqO (some (PySem.W.typeIn K (.ref (He.ga K c)))) (some (some (.type "type"))))))
  | .isf c tab => gloB K c && (decide (PySem.W.kitOne K (.type "NoneType") (.ref (He.ga K c)) = some false) && tab.all fun p => exB K p.1 && decide (PySem.W.kitOne K (.ref (He.ga K p.1)) (.ref (He.ga K c)) = some p.2))
  | .isb T tab => decide (PySem.W.kitOne K (.type "NoneType") (.type T) = some false) && tab.all fun p => exB K p.1 && decide (PySem.W.kitOne K (.ref (He.ga K p.1)) (.type T) = some p.2)
  | .cau o cs => gloB K o && cs.all fun c => gloB K c && decide (PySem.W.exmOne K (.ref (He.ga K c)) (.ref (He.ga K o)) = some true)
  | .clo c fs => clsB K c && fs.all fun f => He.eqO (PySem.W.findIn K (.ref (He.ga K c)) f) (some none)
  | .mkr c fs => clsB K c && (PySem.W.makesIn K (He.ga K c) && (PySem.W.keepIn K (.ref (He.ga K c)) && fs.all fun f => He.eqO (PySem.W.findIn K (.ref (He.ga K c)) f) (some none)))
  | .ini c n => gloB K c && (gloB K "OrderError" && (oexB K (He.ga K c) && (He.eqO (PySem.W.findIn K (.ref (He.ga K c)) "__setattr__") (some (some (.builtin "object.__setattr__"))) && (decide (PySem.W.subIn K (.ref (He.ga K c)) (.type "BaseException") = some true) &&
    (He.eqO (some (PySem.W.typeIn K (.ref (He.ga K c)))) (some (some (.type "type"))) && (PySem.W.keepIn K (.ref (He.ga K c)) && (He.eqO (PySem.W.findIn K (.ref (He.ga K c)) n) (some none) && (PySem.W.readsIn K (He.ga K "OrderError") (.type "type") &&
    (He.eqO (PySem.W.specialIn K (.ref (He.ga K "OrderError")) "__getattribute__") (some (some (.builtin "type.__getattribute__"))) && (match PySem.W.findCls K (.ref (He.ga K "OrderError")) (.type "type") "__init__" with
      | some (.val (.builtin b)) => decide (b = "ValueError.__init__")
      | _ => false))))))))))
  | .fld n cs => cs.all fun c => gloB K c && (He.eqO (PySem.W.findIn K (.ref (He.ga K c)) "__getattribute__") (some (some (.builtin "BaseException.__getattribute__"))) && (He.eqO (PySem.W.findIn K (.ref (He.ga K c)) "__getattr__") (some none) &&
    (decide (PySem.W.subIn K (.ref (He.ga K c)) (.type "BaseException") = some true) && (PySem.W.hasDictIn K (He.ga K c) && He.eqO (PySem.W.findIn K (.ref (He.ga K c)) n) (some none)))))
def defB (K : PySem.W.Frag) (d : He.FnD) : Bool := (He.Fa.code d.at_ d.qual).ok K && (PySem.W.keepIn K (.ref (He.fAd K d.at_)) && match d.at_.2 with
  | none => gloB K d.at_.1
  | some m => gloB K d.at_.1 && (He.eqO (PySem.W.findIn K (.ref (He.ga K d.at_.1)) m) (some (some (.ref (He.ma K (He.ga K d.at_.1) m)))) && PySem.W.isFn K (.ref (He.ma K (He.ga K d.at_.1) m))))
abbrev AlC : Type := Bool × List He.FnV
def obsC (fa : List Fc) (fn : List He.FnD) (K : PySem.W.Frag) : AlC := ((fa.all fun f => f.ok K) && fn.all fun d => defB K d, fn.map fun d => He.fnObs K d.at_)
def valC (fn : List He.FnD) : AlC := (true, fn.map He.FnD.val)
def SaysC (fa : List Fc) (fn : List He.FnD) (K : PySem.W.Frag) : Prop := obsC fa fn K = valC fn ∧ K.all (fun p => !(p.2.cls == .type "list")) = true
def TabsC (tf : List He.Defn) (h : Heap) (K : PySem.W.Frag) : Prop := ∀ p ∈ tf, PySem.W.codeHdIn K (He.cT K p).1 (He.cT K p).2 = true ∧ K.lookup (He.cT K p).2 = none ∧ h.get? (He.cT K p).2 = some { cls := .none, data := .fields #[] }
abbrev AlT : Type := AlC × Bool
def tabC (tf : List He.Defn) (g : Addr → Option Obj) (K : PySem.W.Frag) : Bool := tf.all fun p => PySem.W.codeHdIn K (He.cT K p).1 (He.cT K p).2 && ((K.lookup (He.cT K p).2).isNone && (match g (He.cT K p).2 with
  | some o => He.emptyTab o
  | none => false))
theorem tabC_ok {tf : List He.Defn} {h : Heap} {K : PySem.W.Frag} (e : tabC tf h.get? K = true) : TabsC tf h K := fun p hp => by
  obtain ⟨h1, h2⟩ := He.ba (List.all_eq_true.mp e p hp)
  obtain ⟨h3, h4⟩ := He.ba h2
  refine ⟨h1, Option.isNone_iff_eq_none.mp h3, ?_⟩
  cases q : h.get? (He.cT K p).2 with
  | none => rw [q] at h4; cases h4
  | some o => rw [q] at h4; rw [He.emptyTab_eq h4]
def obsCG (fa : List Fc) (fn : List He.FnD) (tf : List He.Defn) (g : Addr → Option Obj) : AlT := (obsC fa fn (frL g), tabC tf g (frL g))
def hookC (fa : List Fc) (fn : List He.FnD) (tf : List He.Defn) : PySem.W.Hook where
  α := AlT
  obs := fun s => obsCG fa fn tf s.heap.get?
  val := fun _ => (valC fn, true)
  says := fun _ h => ∃ K : PySem.W.Frag, K.In h ∧ SaysC fa fn K ∧ TabsC tf h K
  of := fun _ s e => ⟨frL s.heap.get?, frL_in, ⟨congrArg (fun z : AlT => z.1) e, frL_noList _⟩, tabC_ok (congrArg (fun z : AlT => z.2) e)⟩
  keeps := fun _ _ _ ⟨K, hK, c, t⟩ k => ⟨K, PySem.W.Frag.In.keeps hK k, c, fun p hp => let ⟨a, b, e⟩ := t p hp; ⟨a, b, k _ _ e⟩⟩
theorem obsCG_eq {fa : List Fc} {fn : List He.FnD} {tf : List He.Defn} {g : Addr → Option Obj} {s : Shared} (h : ∀ a, g a = s.heap.get? a) : obsCG fa fn tf g = (hookC fa fn tf).obs s := by
  have e : g = s.heap.get? := funext h
  rw [e] <;> rfl
section
variable {fa : List Fc} {fn : List He.FnD} {K : PySem.W.Frag}
theorem SaysC.fact (c : SaysC fa fn K) (i : Nat) {f : Fc} (h : fa[i]? = some f := by rfl) : f.ok K = true := by
  have c1 := (He.ba (show ((fa.all fun f => f.ok K) && fn.all fun d => defB K d) = true from congrArg (fun z : AlC => z.1) c.1)).1
  exact List.all_eq_true.mp c1 f (List.mem_of_getElem? h)
theorem SaysC.def_ (c : SaysC fa fn K) (i : Nat) {d : He.FnD} (h : fn[i]? = some d := by rfl) :
    defB K d = true ∧ ∃ oc od osl kV doc pm an cdv ct, K.lookup (He.fAd K d.at_) = some ⟨oc, od, .func (PySem.W.fnOf d.name d.qual d.params d.body d.scope .none kV doc pm an cdv ct), osl⟩ ∧ PySem.W.codeIn K cdv d.qual = true := by
  have c2 := List.all_eq_true.mp (He.ba (show ((fa.all fun f => f.ok K) && fn.all fun d => defB K d) = true from congrArg (fun z : AlC => z.1) c.1)).2 d (List.mem_of_getElem? h)
  have e : fn.map (fun d => He.fnObs K d.at_) = fn.map He.FnD.val := congrArg (fun z : AlC => z.2) c.1
  have e2 : (fn.map fun d => He.fnObs K d.at_)[i]? = (fn.map He.FnD.val)[i]? := by rw [e]
  rw [List.getElem?_map, List.getElem?_map, h] at e2
  exact ⟨c2, He.fn_ok (Option.some.inj e2) (He.ba c2).1⟩
end
abbrev fD (x : Str) (st : Stmt) : He.FnD := ⟨(x, none), x, x, defArgs st, defBody st, defScope st⟩
abbrev fM (c m q : Str) (st : Stmt) : He.FnD := ⟨(c, some m), m, q, defArgs st, defBody st, defScope st⟩
def nmOf : Stmt → List Str
  | .FunctionDef (name := n) .. => [n]
  | .ClassDef (name := n) .. => [n]
  | .Assign [.Name x _] _ _ => [x]
  | _ => []
end CB

namespace CB
open PySem L2 PySem.Spec PyProof.Rows
def tH (i : Nat) : Stmt := PySem.Challenge.pw_crossbends_k47_whole_climbs_by_ladders.main.body.getD i (.Pass ⟨0, 0, 0, 0⟩)
def fnH0 : List He.FnD := [fD "is_whole" (tH 8), fD "look_at_count" (tH 9), fD "is_order" (tH 12), fD "look_at_order" (tH 13), fD "plain" (tH 14), fD "pairs_of" (tH 15), fD "code_of" (tH 16), fD "swapped" (tH 17), fD "order_by" (tH 19), fD "is_short" (tH 20), fD "is_cross" (tH 22), fD "look_at_drawing" (tH 23), fD "line_of" (tH 24), fD "ends" (tH 25), fD "word_of" (tH 26), fD "lowest_by" (tH 27), fD "ladder_goal" (tH 28), fD "ladders_of" (tH 29), fD "ladders" (tH 30), fD "climbs" (tH 31), fD "drawings" (tH 32), fD "climbed" (tH 33), fD "_law_mixed" (tH 35), fD "_law_cell" (tH 36), fD "_law_take" (tH 37), fD "_law_order" (tH 38), fD "_law_goal" (tH 39), fD "_law_ladders" (tH 40), fD "_law_lowest" (tH 41), fD "_law_whole" (tH 42)]
def fnH1 : List He.FnD := [fD "_law_are_cells" (tH 43), fD "_law_is_climb" (tH 44), fD "_law_good" (tH 45), fD "law" (tH 46), fM "Spare" "__init__" "Spare.__init__" (inClass (tH 5) 0)]
def fnH : List He.FnD := fnH0 ++ fnH1
def faH0 : List Fc := [.ini "Spare" "place", .own "BadCount", .own "BadDrawing", .own "BadOrder", .non "all", .non "bool", .non "enumerate", .non "int", .non "isinstance", .non "len", .non "list", .non "max", .non "min", .non "range", .non "reversed", .non "sorted", .non "sum", .non "tuple", .int "MOST" 5, .int "UNKNOWNS" 5]
def faH : List Fc := faH0
abbrev RH : PySem.W.OpenRow := PySem.W.OpenLaw.row PySem.Challenge.rw_crossbends_k47_whole_climbs_by_ladders
def namesH : List Str := (RH.prog.main.body.flatMap nmOf).filter fun x => x != "__name__" && x != "law"
def tfH : List He.Defn := [("word_of", none)]
abbrev hkH : PySem.W.Hook := hookC faH fnH tfH
def obH (s : PySem.W.SharedT) : AlT := obsCG faH fnH tfH (HandSHeadRun.getT s)
theorem ob_eqH (s : PySem.W.SharedT) : obH s = hkH.obs s.abs := obsCG_eq (HandSHeadRun.getT_eq s)
theorem runH (w : World) : HandSHeadRun.RunEq RH (PySem.W.view RH.prog [46]) hkH obH 20000 namesH w := by
  intro os
  kernel_rfl
end CB

namespace CB
open PySem L2

class CT where
  mg : Str → Option Value
  tb : List (Addr × Str) := []
variable [CT]
inductive D where
  | non | bl (b : Bool) | int (i : Int) | str (s : Str)
  | tup (xs : List D) | lst (xs : List D) | frz (xs : List D)
  | dic (ks : List (List Int)) (vs : List D)
  | dic2 (ks : List (List (List Int))) (vs : List D)
  | dicK (ks : List Key) (vs : List D)
  | obj (c : Str) (ns : List Str) (vs : List D)
  | box (vs : List V)
  | tp0 (xs : List D)
  | exc (c : Str) (ns : List Str) (vs : List D)

structure Xn where
  c : Str
  ns : List Str
  vs : List D

mutual
def noL : D → Bool
  | .lst _ => false
  | .dic _ _ => false
  | .dic2 _ _ => false
  | .dicK _ _ => false
  | .obj _ _ _ => false
  | .box _ => false
  | .tup xs => noLs xs
  | .tp0 xs => noLs xs
  | _ => true
def noLs : List D → Bool
  | [] => true
  | x :: xs => noL x && noLs xs
end

def dO (a : Addr) (o : Obj) : HO := .ext fun h => h.get? a = some o
abbrev Ents := List (List Int × Addr × Value)
def entI (x : List Int × Addr × Value) : DictEntry := ⟨reduceHash (Builtin.Tuple.tupleHashOf (x.1.map hashInt)), .ref x.2.1, x.2.2⟩
structure IsDic (H : Hp) (a : Addr) (o : Obj) (es : Array DictEntry) (ep : Nat) (xs : Ents) : Prop where
  nsm : (a == sysModules) = false
  ex : o.ExactDict
  dat : o.data = .dict es ep
  ents : es.toList = xs.map entI
  nd : (xs.map (·.1)).Nodup
  sz : xs.length ≤ sizeLine
  key : ∀ x ∈ xs, ∃ q, H x.2.1 = some (.frz q (.tup (x.1.map V.int))) ∧ q.dict = none
theorem IsDic.keep {H H' : Hp} {a : Addr} {o : Obj} {es : Array DictEntry} {ep : Nat} {xs : Ents} (i : IsDic H a o es ep xs) (k : ∀ b q u, H b = some (.frz q u) → H' b = some (.frz q u)) : IsDic H' a o es ep xs :=
  ⟨i.nsm, i.ex, i.dat, i.ents, i.nd, i.sz, fun x hx => let ⟨q, h1, h2⟩ := i.key x hx; ⟨q, k _ _ _ h1, h2⟩⟩

abbrev Key2 := List (List Int)
abbrev Ents2 := List (Key2 × Addr × Value)
def hash1 (t : List Int) : Int := reduceHash (Builtin.Tuple.tupleHashOf (t.map hashInt))
def hash2 (k : Key2) : Int := reduceHash (Builtin.Tuple.tupleHashOf (k.map hash1))
def entI2 (x : Key2 × Addr × Value) : DictEntry := ⟨hash2 x.1, .ref x.2.1, x.2.2⟩
def KTups (H : Hp) : Key2 → List V → Prop
  | [], [] => True
  | t :: ts, v :: vs => (∃ b q, v = .ref b ∧ H b = some (.frz q (.tup (t.map V.int))) ∧ q.dict = none) ∧ KTups H ts vs
  | _, _ => False
def IsKey2 (H : Hp) (k : Key2) (a : Addr) : Prop := ∃ q vs, H a = some (.frz q (.tup vs)) ∧ q.dict = none ∧ KTups H k vs
theorem KTups.keep {H H' : Hp} (kp : ∀ b q u, H b = some (.frz q u) → H' b = some (.frz q u)) : ∀ {k : Key2} {vs : List V}, KTups H k vs → KTups H' k vs
  | [], [], _ => trivial
  | _ :: _, _ :: _, ⟨⟨b, q, e, h, hd⟩, r⟩ => ⟨⟨b, q, e, kp _ _ _ h, hd⟩, KTups.keep kp r⟩
theorem IsKey2.keep {H H' : Hp} {k : Key2} {a : Addr} (kp : ∀ b q u, H b = some (.frz q u) → H' b = some (.frz q u)) (h : IsKey2 H k a) : IsKey2 H' k a :=
  let ⟨q, vs, h1, h2, h3⟩ := h; ⟨q, vs, kp _ _ _ h1, h2, h3.keep kp⟩
structure IsDic2 (H : Hp) (a : Addr) (o : Obj) (es : Array DictEntry) (ep : Nat) (xs : Ents2) : Prop where
  nsm : (a == sysModules) = false
  ex : o.ExactDict
  dat : o.data = .dict es ep
  ents : es.toList = xs.map entI2
  nd : (xs.map (·.1)).Nodup
  sz : xs.length ≤ sizeLine
  key : ∀ x ∈ xs, IsKey2 H x.1 x.2.1
theorem IsDic2.keep {H H' : Hp} {a : Addr} {o : Obj} {es : Array DictEntry} {ep : Nat} {xs : Ents2} (i : IsDic2 H a o es ep xs) (k : ∀ b q u, H b = some (.frz q u) → H' b = some (.frz q u)) : IsDic2 H' a o es ep xs :=
  ⟨i.nsm, i.ex, i.dat, i.ents, i.nd, i.sz, fun x hx => (i.key x hx).keep k⟩

mutual
inductive Rep (H : Hp) : D → V → List Addr → Prop
  | non : Rep H .non .non []
  | bl (b : Bool) : Rep H (.bl b) (.bl b) []
  | int (i : Int) : Rep H (.int i) (.int i) []
  | str (s : Str) : Rep H (.str s) (.str s) []
  | tup {a : Addr} {o : Obj} {vs : List V} {xs : List D} {as : List Addr} : H a = some (.frz o (.tup vs)) → o.dict = none → Reps H xs vs as → Rep H (.tup xs) (.ref a) as
  | tp0 {a : Addr} {vs : List V} {xs : List D} {as : List Addr} : H a = some (.tup vs) → Reps H xs vs as → Rep H (.tp0 xs) (.ref a) as
  | lst {a : Addr} {vs : List V} {xs : List D} {as : List Addr} : H a = some (.lst vs) → Reps H xs vs as → Rep H (.lst xs) (.ref a) (a :: as)
  | frz {a : Addr} {o : Obj} {vs : List V} {xs : List D} : H a = some (.frz o (.lst vs)) → Reps H xs vs [] → Rep H (.frz xs) (.ref a) []
  | dic {a : Addr} {o : Obj} {es : Array DictEntry} {ep : Nat} {xs : Ents} {vs : List V} {ds : List D} {as : List Addr} : H a = some (dO a o) → IsDic H a o es ep xs → Vals vs (xs.map (·.2.2)) → Reps H ds vs as → Rep H (.dic (xs.map (·.1)) ds) (.ref a) (a :: as)
  | dic2 {a : Addr} {o : Obj} {es : Array DictEntry} {ep : Nat} {xs : Ents2} {vs : List V} {ds : List D} {as : List Addr} : H a = some (dO a o) → IsDic2 H a o es ep xs → Vals vs (xs.map (·.2.2)) → Reps H ds vs as → Rep H (.dic2 (xs.map (·.1)) ds) (.ref a) (a :: as)
  | dicK {a : Addr} {kvs : List (Key × V)} {ds : List D} {as : List Addr} : H a = some (.dK kvs) → (kvs.map (·.1)).Nodup → Reps H ds (kvs.map (·.2)) as → Rep H (.dicK (kvs.map (·.1)) ds) (.ref a) (a :: as)
  | obj {a dx C : Addr} {c : Str} {ns : List Str} {fs : List V} {vs : List D} {as : List Addr} : H a = some (.ins C dx (ns.zip fs)) → H dx = some (.own a) → CT.mg c = some (.ref C) → ns.length = fs.length → Reps H vs fs as → Rep H (.obj c ns vs) (.ref a) (a :: dx :: as)
  | box {a : Addr} {vs : List V} : H a = some (.lst vs) → Rep H (.box vs) (.ref a) [a]
  | exc {a : Addr} {o : Obj} {C : Addr} {c : Str} : H a = some (.frz o (.own a)) → o.cls = .ref C → o.dict = none → (∃ vs, o.data = .fields vs) → CT.mg c = some (.ref C) → Rep H (.exc c [] []) (.ref a) []
  | excF {a dx : Addr} {o : Obj} {C : Addr} {c : Str} {ns : List Str} {fs : List V} {vs : List D} : H a = some (.frz o (.own a)) → o.cls = .ref C → o.dict = some dx → (∃ vs, o.data = .fields vs) → CT.mg c = some (.ref C) → ns ≠ [] → H dx = some (.xd (ns.zip fs)) → Reps H vs fs [] → Rep H (.exc c ns vs) (.ref a) []
inductive Reps (H : Hp) : List D → List V → List Addr → Prop
  | nil : Reps H [] [] []
  | cons {d : D} {ds : List D} {v : V} {vs : List V} {as bs : List Addr} : Rep H d v as → Reps H ds vs bs → Reps H (d :: ds) (v :: vs) (as ++ bs)
end

def isTb : HO → Bool
  | .tbl _ => true
  | _ => false
def Imm : HO → Bool
  | .tup _ => true
  | .frz _ _ => true
  | .xd _ => true
  | .tbl _ => true
  | _ => false
theorem isTb_of {o : HO} (h : Imm o = false) : isTb o = false := by
  cases o <;> first | rfl | cases h
def TabS (H : Hp) (P : Addr) (q : Str) : Prop := ∃ ps : Array Value, H P = some (.tbl ps) ∧ PySem.TriplesOk ps.toList ∧ ∀ (pos : Pos) (cv : Value), PySem.codeAmong pos ps.toList = some cv → ∃ (c : Addr) (o : Obj) (vs : Array Value) (t : Tok), cv = .ref c ∧ H c = some (.frz o (.own c)) ∧ o.data = .fields vs ∧ vs[1]? = some (.str q t)
def TabOk (H : Hp) : Prop := ∀ p ∈ CT.tb, TabS H p.1 p.2
theorem TabOk.keep {H H' : Hp} (t : TabOk H) (k : ∀ a o, H a = some o → Imm o = true → H' a = some o) : TabOk H' := fun p hp => by
  obtain ⟨ps, h1, h2, h3⟩ := t p hp
  refine ⟨ps, k _ _ h1 rfl, h2, fun pos cv hc => ?_⟩
  obtain ⟨c, o, vs, t, e1, e2, e3⟩ := h3 pos cv hc
  exact ⟨c, o, vs, t, e1, k _ _ e2 rfl, e3⟩
theorem TabOk.upd {H : Hp} {a : Addr} {o' : HO} (t : TabOk H) (h : ∀ o, H a = some o → Imm o = false) : TabOk (upd H a o') := t.keep fun b o e i => by
  by_cases q : b = a
  · subst q; rw [h o e] at i; cases i
  · rw [upd_ne q]; exact e
structure Kp (H : Hp) (a : Addr) (o : HO) : Prop where
  k : (nt : isTb o = false := by rfl) → H a = some o
  t : isTb o = true → ∃ o', H a = some o' ∧ isTb o' = true
theorem Kp.of {H : Hp} {a : Addr} {o : HO} (h : H a = some o) : Kp H a o := ⟨fun _ => h, fun q => ⟨o, h, q⟩⟩
theorem Kp.some {H : Hp} {a : Addr} {o : HO} (x : Kp H a o) : ∃ o', H a = some o' := by
  cases q : isTb o with
  | false => exact ⟨o, x.k q⟩
  | true => obtain ⟨o', h, _⟩ := x.t q; exact ⟨o', h⟩
theorem Kp.not {H : Hp} {a : Addr} {o : HO} (x : Kp H a o) (h : H a = none) : False := by
  obtain ⟨o', h'⟩ := x.some
  rw [h] at h'; cases h'
theorem Kp.upd {H : Hp} {a b : Addr} {o u : HO} (x : Kp H a o) (h : a ≠ b) : Kp (upd H b u) a o := ⟨fun nt => by rw [upd_ne h]; exact x.k nt, fun q => by
  obtain ⟨o', h', q'⟩ := x.t q
  exact ⟨o', by rw [upd_ne h]; exact h', q'⟩⟩
theorem Kp.keep {H H' : Hp} {a : Addr} {o : HO} (x : Kp H a o) (k : ∀ u, H a = .some u → H' a = .some u) : Kp H' a o := ⟨fun nt => k _ (x.k nt), fun q => by
  obtain ⟨o', h', q'⟩ := x.t q
  exact ⟨o', k _ h', q'⟩⟩
theorem Kp.imm {H : Hp} {a : Addr} {o vs : HO} (x : Kp H a o) (hv : H a = Option.some vs) (hi : Imm vs = false) (y : Imm o = true) : False := by
  cases q : isTb o with
  | false =>
    rw [x.k q] at hv
    cases hv
    rw [hi] at y; cases y
  | true =>
    obtain ⟨o', h', q'⟩ := x.t q
    rw [h'] at hv
    cases hv
    rw [isTb_of hi] at q'; cases q'
structure Ex (H H' : Hp) : Prop where
  k : ∀ a o, H a = some o → (nt : isTb o = false := by rfl) → H' a = some o
  t : ∀ a o, H a = some o → isTb o = true → ∃ o', H' a = some o' ∧ isTb o' = true
  b : TabOk H → TabOk H'
instance (H H' : Hp) : CoeFun (Ex H H') (fun _ => ∀ a o, H a = some o → (nt : isTb o = false := by rfl) → H' a = some o) := ⟨fun e => @Ex.k _ _ _ e⟩
theorem Ex.fx {H H' : Hp} (k : ∀ a o, H a = some o → Kp H' a o) (t : TabOk H') : Ex H H' := ⟨fun a o h nt => (k a o h).k nt, fun a o h q => (k a o h).t q, fun _ => t⟩
theorem Ex.kp {H H' : Hp} {a : Addr} {o : HO} (e : Ex H H') (x : Kp H a o) : Kp H' a o := ⟨fun nt => e.k _ _ (x.k nt) nt, fun q => by
  obtain ⟨o', h', q'⟩ := x.t q
  exact e.t _ _ h' q'⟩
theorem Ex.of {H H' : Hp} (k : ∀ a o, H a = some o → H' a = some o) : Ex H H' := ⟨fun a o h _ => k a o h, fun a o h q => ⟨o, k a o h, q⟩, fun t => t.keep fun a o h _ => k a o h⟩
theorem Ex.refl (H : Hp) : Ex H H := .of fun _ _ h => h
theorem Ex.trans {H H1 H2 : Hp} (a : Ex H H1) (b : Ex H1 H2) : Ex H H2 := ⟨fun x o h q => b.k x o (a.k x o h q) q, fun x o h q => by
  obtain ⟨o', h', q'⟩ := a.t x o h q
  exact b.t x o' h' q', fun t => b.b (a.b t)⟩
theorem Ex.new {H : Hp} {p : Addr} {o : HO} (h : H p = none) : Ex H (upd H p o) := .of fun a u e => by
  rw [upd_ne (ne_of_none e h)]; exact e
theorem Ex.back {H H' : Hp} {p : Addr} (e : Ex H H') (h : H' p = none) : H p = none := by
  cases h1 : H p with
  | none => rfl
  | some o =>
    cases q : isTb o with
    | false => rw [e.k p o h1 q] at h; cases h
    | true =>
      obtain ⟨o', h2, _⟩ := e.t p o h1 q
      rw [h2] at h; cases h
structure ExB (B : Addr → Prop) (H H' : Hp) : Prop where
  k : ∀ a o, H a = some o → ¬ B a → (nt : isTb o = false := by rfl) → H' a = some o
  t : ∀ a o, H a = some o → ¬ B a → isTb o = true → ∃ o', H' a = some o' ∧ isTb o' = true
  b : TabOk H → TabOk H'
theorem ExB.fx {B : Addr → Prop} {H H' : Hp} (k : ∀ a o, H a = some o → ¬ B a → Kp H' a o) (t : TabOk H') : ExB B H H' := ⟨fun a o h n nt => (k a o h n).k nt, fun a o h n q => (k a o h n).t q, fun _ => t⟩
theorem ExB.kp {B : Addr → Prop} {H H' : Hp} {a : Addr} {o : HO} (e : ExB B H H') (x : Kp H a o) (n : ¬ B a) : Kp H' a o := ⟨fun nt => e.k _ _ (x.k nt) n nt, fun q => by
  obtain ⟨o', h', q'⟩ := x.t q
  exact e.t _ _ h' n q'⟩
theorem Ex.exB {B : Addr → Prop} {H H' : Hp} (e : Ex H H') : ExB B H H' := ⟨fun a o h _ nt => e.k a o h nt, fun a o h _ q => e.t a o h q, e.b⟩
theorem ExB.imp {B B' : Addr → Prop} {H H' : Hp} (e : ExB B H H') (h : ∀ a, B a → B' a) : ExB B' H H' := ⟨fun a o z n nt => e.k a o z (fun q => n (h a q)) nt, fun a o z n q => e.t a o z (fun q => n (h a q)) q, e.b⟩
theorem ExB.ex {B : Addr → Prop} {H H1 H' : Hp} (e1 : Ex H H1) (fr : ExB B H1 H') (nb : ∀ a, B a → H a = none) : Ex H H' := ⟨fun a u h nt => fr.k a u (e1.k a u h nt) (fun z => by rw [nb a z] at h; cases h) nt, fun a u h q => by
  obtain ⟨o', h', q'⟩ := e1.t a u h q
  exact fr.t a o' h' (fun z => by rw [nb a z] at h; cases h) q', fun t => fr.b (e1.b t)⟩
theorem Ex.updN {H H' : Hp} {p : Addr} {o : HO} (e : Ex H H') (hn : H p = none) (h' : ∀ u, H' p = some u → Imm u = false) : Ex H (upd H' p o) := ⟨fun a u h nt => by
  rw [upd_ne (ne_of_none h hn)]; exact e.k a u h nt, fun a u h q => by
  rw [upd_ne (ne_of_none h hn)]; exact e.t a u h q, fun t => (e.b t).upd h'⟩
theorem imm_of {H : Hp} {p : Addr} {o : HO} (h : H p = some o) (i : Imm o = false := by rfl) : ∀ u, H p = some u → Imm u = false := fun u z => by
  rw [h] at z; cases z; exact i
theorem Ex.some {H H' : Hp} {p : Addr} {o : HO} (e : Ex H H') (h : H p = some o) : ∃ o', H' p = some o' := by
  cases q : H' p with
  | none => rw [e.back q] at h; cases h
  | some o' => exact ⟨o', rfl⟩

mutual
theorem Rep.keepT {H H' : Hp} : ∀ {d : D} {v : V} {as : List Addr}, Rep H d v as → (∀ a o, H a = some o → (a ∈ as ∨ Imm o = true) → isTb o = false → H' a = some o) → Rep H' d v as
  | _, _, _, .non, _ => .non
  | _, _, _, .bl b, _ => .bl b
  | _, _, _, .int i, _ => .int i
  | _, _, _, .str i, _ => .str i
  | _, _, _, .tup h hd r, k => .tup (k _ _ h (.inr rfl) rfl) hd (Reps.keepT r k)
  | _, _, _, .tp0 h r, k => .tp0 (k _ _ h (.inr rfl) rfl) (Reps.keepT r k)
  | _, _, _, .lst h r, k => .lst (k _ _ h (.inl (List.mem_cons_self)) rfl) (Reps.keepT r fun a o e z => k a o e (z.elim (fun m => .inl (List.mem_cons_of_mem _ m)) .inr))
  | _, _, _, .frz h r, k => .frz (k _ _ h (.inr rfl) rfl) (Reps.keepT r fun a o e z => k a o e (z.elim (fun m => .inl m) .inr))
  | _, _, _, .dic h i v r, k => .dic (k _ _ h (.inl (List.mem_cons_self)) rfl) (i.keep fun b q u e => k b _ e (.inr rfl) rfl) v (Reps.keepT r fun a o e z => k a o e (z.elim (fun m => .inl (List.mem_cons_of_mem _ m)) .inr))
  | _, _, _, .dic2 h i v r, k => .dic2 (k _ _ h (.inl (List.mem_cons_self)) rfl) (i.keep fun b q u e => k b _ e (.inr rfl) rfl) v (Reps.keepT r fun a o e z => k a o e (z.elim (fun m => .inl (List.mem_cons_of_mem _ m)) .inr))
  | _, _, _, .dicK h n r, k => .dicK (k _ _ h (.inl (List.mem_cons_self)) rfl) n (Reps.keepT r fun a o e z => k a o e (z.elim (fun m => .inl (List.mem_cons_of_mem _ m)) .inr))
  | _, _, _, .obj h d m l r, k => .obj (k _ _ h (.inl (List.mem_cons_self)) rfl) (k _ _ d (.inl (List.mem_cons_of_mem _ List.mem_cons_self)) rfl) m l (Reps.keepT r fun a o e z => k a o e (z.elim (fun m => .inl (List.mem_cons_of_mem _ (List.mem_cons_of_mem _ m))) .inr))
  | _, _, _, .box h, k => .box (k _ _ h (.inl (List.mem_cons_self)) rfl)
  | _, _, _, .exc h h1 h2 h3 h4, k => .exc (k _ _ h (.inr rfl) rfl) h1 h2 h3 h4
  | _, _, _, .excF h h1 h2 h3 h4 h5 h6 r, k => .excF (k _ _ h (.inr rfl) rfl) h1 h2 h3 h4 h5 (k _ _ h6 (.inr rfl) rfl) (Reps.keepT r fun a o e z => k a o e (z.elim (fun m => .inl m) .inr))
theorem Reps.keepT {H H' : Hp} : ∀ {ds : List D} {vs : List V} {as : List Addr}, Reps H ds vs as → (∀ a o, H a = some o → (a ∈ as ∨ Imm o = true) → isTb o = false → H' a = some o) → Reps H' ds vs as
  | _, _, _, .nil, _ => .nil
  | _, _, _, .cons r rs, k => .cons (Rep.keepT r fun a o e z => k a o e (z.elim (fun m => .inl (List.mem_append_left _ m)) .inr)) (Reps.keepT rs fun a o e z => k a o e (z.elim (fun m => .inl (List.mem_append_right _ m)) .inr))
end
theorem Rep.keep {H H' : Hp} {d : D} {v : V} {as : List Addr} (r : Rep H d v as) (k : ∀ a o, H a = some o → (a ∈ as ∨ Imm o = true) → H' a = some o) : Rep H' d v as := r.keepT fun a o h z _ => k a o h z
theorem Reps.keep {H H' : Hp} {ds : List D} {vs : List V} {as : List Addr} (r : Reps H ds vs as) (k : ∀ a o, H a = some o → (a ∈ as ∨ Imm o = true) → H' a = some o) : Reps H' ds vs as := r.keepT fun a o h z _ => k a o h z
theorem Rep.mono {H H' : Hp} {d : D} {v : V} {as : List Addr} (r : Rep H d v as) (e : Ex H H') : Rep H' d v as := r.keepT fun a o h _ q => e.k a o h q
theorem Reps.mono {H H' : Hp} {d : List D} {v : List V} {as : List Addr} (r : Reps H d v as) (e : Ex H H') : Reps H' d v as := r.keepT fun a o h _ q => e.k a o h q
mutual
theorem Rep.there {H : Hp} : ∀ {d : D} {v : V} {as : List Addr}, Rep H d v as → ∀ a ∈ as, ∃ o, H a = some o ∧ Imm o = false
  | _, _, _, .non, _, h => nomatch h
  | _, _, _, .bl b, _, h => nomatch h
  | _, _, _, .int i, _, h => nomatch h
  | _, _, _, .str i, _, h => nomatch h
  | _, _, _, .tup h _ r, a, m => Reps.there r a m
  | _, _, _, .tp0 h r, a, m => Reps.there r a m
  | _, _, _, .lst h r, a, m => by
    rcases List.mem_cons.mp m with e | m
    · subst e; exact ⟨_, h, rfl⟩
    · exact Reps.there r a m
  | _, _, _, .frz h r, _, m => nomatch m
  | _, _, _, .dic h i v r, a, m => by
    rcases List.mem_cons.mp m with e | m
    · subst e; exact ⟨_, h, rfl⟩
    · exact Reps.there r a m
  | _, _, _, .dic2 h i v r, a, m => by
    rcases List.mem_cons.mp m with e | m
    · subst e; exact ⟨_, h, rfl⟩
    · exact Reps.there r a m
  | _, _, _, .dicK h n r, a, m => by
    rcases List.mem_cons.mp m with e | m
    · subst e; exact ⟨_, h, rfl⟩
    · exact Reps.there r a m
  | _, _, _, .obj h d _ _ r, a, m => by
    rcases List.mem_cons.mp m with e | m
    · subst e; exact ⟨_, h, rfl⟩
    · rcases List.mem_cons.mp m with e | m
      · subst e; exact ⟨_, d, rfl⟩
      · exact Reps.there r a m
  | _, _, _, .box h, a, m => by
    rcases List.mem_cons.mp m with e | m
    · subst e; exact ⟨_, h, rfl⟩
    · cases m
  | _, _, _, .exc _ _ _ _ _, _, m => nomatch m
  | _, _, _, .excF _ _ _ _ _ _ _ _, _, m => nomatch m
theorem Reps.there {H : Hp} : ∀ {ds : List D} {vs : List V} {as : List Addr}, Reps H ds vs as → ∀ a ∈ as, ∃ o, H a = some o ∧ Imm o = false
  | _, _, _, .nil, _, h => nomatch h
  | _, _, _, .cons r rs, a, m => by
    rcases List.mem_append.mp m with m | m
    · exact Rep.there r a m
    · exact Reps.there rs a m
end
mutual
theorem Rep.noL {H : Hp} : ∀ {d : D} {v : V} {as : List Addr}, Rep H d v as → noL d = true → as = []
  | _, _, _, .non, _ => rfl
  | _, _, _, .bl b, _ => rfl
  | _, _, _, .int i, _ => rfl
  | _, _, _, .str i, _ => rfl
  | _, _, _, .tup h _ r, m => Reps.noL r (by simpa [CB.noL] using m)
  | _, _, _, .tp0 h r, m => Reps.noL r (by simpa [CB.noL] using m)
  | _, _, _, .lst h r, m => by simp [CB.noL] at m
  | _, _, _, .frz h r, m => rfl
  | _, _, _, .dic h i v r, m => by simp [CB.noL] at m
  | _, _, _, .dic2 _ _ _ _, m => by simp [CB.noL] at m
  | _, _, _, .dicK _ _ _, m => by simp [CB.noL] at m
  | _, _, _, .obj _ _ _ _ _, m => by simp [CB.noL] at m
  | _, _, _, .box _, m => by simp [CB.noL] at m
  | _, _, _, .exc _ _ _ _ _, _ => rfl
  | _, _, _, .excF _ _ _ _ _ _ _ _, _ => rfl
theorem Reps.noL {H : Hp} : ∀ {ds : List D} {vs : List V} {as : List Addr}, Reps H ds vs as → noLs ds = true → as = []
  | _, _, _, .nil, _ => rfl
  | _, _, _, .cons r rs, m => by
    simp only [noLs, Bool.and_eq_true] at m
    rw [Rep.noL r m.1, Reps.noL rs m.2]; rfl
end
theorem Reps.length {H : Hp} : ∀ {ds : List D} {vs : List V} {as : List Addr}, Reps H ds vs as → ds.length = vs.length
  | _, _, _, .nil => rfl
  | _, _, _, .cons _ rs => by rw [List.length_cons, List.length_cons, Reps.length rs]

inductive PR where
  | ok (f : Bool) (d : D) | ex (x : Xn) | no
def PR.bind (r : PR) (k : Bool → D → PR) : PR := match r with
  | .ok f d => k f d
  | .ex x => .ex x
  | .no => .no

inductive Sl where
  | emp | val (o : Bool) (d : D) | ref (d : D) | pin | top (xs : List D)
def Sl.get : Sl → Option D
  | .emp => none
  | .val _ d => some d
  | .ref d => some d
  | .pin => none
  | .top xs => some (.lst xs)
abbrev Env := List Sl
def Env.look (env : Env) (i : Nat) : Option D := match env[i]? with
  | some s => s.get
  | none => none
abbrev P := Env → PR

def New (H : Hp) (as : List Addr) : Prop := as.Nodup ∧ ∀ a ∈ as, H a = none
theorem New.nil (H : Hp) : New H [] := ⟨List.nodup_nil, fun _ h => nomatch h⟩
theorem New.back {H H' : Hp} {as : List Addr} (n : New H' as) (e : Ex H H') : New H as := ⟨n.1, fun a h => e.back (n.2 a h)⟩

def XR (mg : Str → Option Value) (x : Xn) (c : Value) (dx : Option Addr) (H : Hp) : Prop :=
  ∃ C, mg x.c = some (.ref C) ∧ c = .ref C ∧ ((x.ns = [] ∧ dx = none) ∨ (x.ns ≠ [] ∧ ∃ d fs as, dx = some d ∧ H d = some (.xd (x.ns.zip fs)) ∧ Reps H x.vs fs as))

theorem noMem {Q : Addr → Prop} : ∀ a ∈ ([] : List Addr), Q a := fun _ h => nomatch h
def PWant (S : Addr → Prop) (mg : Str → Option Value) (H : Hp) (Q : VK) (E : XK) : PR → Prop
  | .ok f d => ∀ v H' as, Ex H H' → Rep H' d v as → (∀ a ∈ as, S a ∨ H a = none) → (f = true → New H as) → Q v H'
  | .ex x => ∀ c dx H', Ex H H' → XR mg x c dx H' → E c dx H'
  | .no => False
theorem PWant.mono {S : Addr → Prop} {mg : Str → Option Value} {H H1 : Hp} {Q : VK} {E : XK} {r : PR} (w : PWant S mg H Q E r) (e : Ex H H1) : PWant S mg H1 Q E r := by
  cases r with
  | ok f d => exact fun v H' as e' r m n => w v H' as (e.trans e') r (fun a h => (m a h).imp_right fun z => e.back z) fun z => (n z).back e
  | ex x => exact fun c dx H' e' r => w c dx H' (e.trans e') r
  | no => exact w

structure Lens (H : Hp) (env : Env) (σ : L2.St) : Prop where
  le : env.length ≤ σ.length
  tab : TabOk H
theorem Lens.mono {H H' : Hp} {env : Env} {σ : L2.St} (l : Lens H env σ) (e : Ex H H') : Lens H' env σ := ⟨l.le, e.b l.tab⟩
theorem Lens.upd {H : Hp} {env : Env} {σ : L2.St} {a : Addr} {o o' : HO} (l : Lens H env σ) (h : H a = some o) (i : Imm o = false := by rfl) : Lens (upd H a o') env σ := ⟨l.le, l.tab.upd (imm_of h i)⟩
structure ObsEnv (S : Addr → Prop) (H : Hp) (env : Env) (σ : L2.St) : Prop where
  len : Lens H env σ
  get : ∀ i d, Env.look env i = some d → ∃ v as, σ[i]? = some (some v) ∧ Rep H d v as ∧ ∀ a ∈ as, S a
theorem ObsEnv.mono {S : Addr → Prop} {H H1 : Hp} {env : Env} {σ : L2.St} (o : ObsEnv S H env σ) (e : Ex H H1) : ObsEnv S H1 env σ := ⟨o.len.mono e, fun i d h => by
  obtain ⟨v, as, h1, h2, h3⟩ := o.get i d h
  exact ⟨v, as, h1, h2.mono e, h3⟩⟩

def SndP (X : Cx) (E : XK) (e : Expr) (p : P) : Prop := ∃ t, PE X e t ∧ ∀ (S : Addr → Prop) env σ H Q, ObsEnv S H env σ → PWant S X.mg H Q E (p env) → t σ H Q

inductive Kd where
  | new | lin | ali
def Kd.fl : Kd → Bool → Bool
  | .new, _ => true
  | .lin, g => g
  | .ali, _ => false
def KdOk (k : Kd) (H : Hp) (ops cs : List Addr) : Prop := (∀ a ∈ cs, H a = none ∨ a ∈ ops) ∧ match k with
  | .new => New H cs
  | .lin => ops.Nodup → cs.Nodup
  | .ali => True
theorem KdOk.nil {k : Kd} {H : Hp} {ops : List Addr} : KdOk k H ops [] := ⟨noMem, by cases k <;> first | exact .nil H | exact fun _ => List.nodup_nil | trivial⟩
theorem KdOk.mk1 {H : Hp} {ops cs : List Addr} (n : New H cs) : KdOk .new H ops cs := ⟨fun a h => .inl (n.2 a h), n⟩
theorem KdOk.mk2 {H : Hp} {ops cs : List Addr} (m : ∀ a ∈ cs, H a = none ∨ a ∈ ops) (n : ops.Nodup → cs.Nodup) : KdOk .lin H ops cs := ⟨m, n⟩
def gfl (f : Bool) (d : D) : Bool := f || noL d

inductive AR where
  | ok (f : Bool) (ds : List D) | ex (x : Xn) | no
def AR.bind (r : AR) (k : Bool → List D → PR) : PR := match r with
  | .ok f d => k f d
  | .ex x => .ex x
  | .no => .no
def args : List P → Env → AR
  | [], _ => .ok true []
  | p :: ps, env => match p env with
    | .ok f d => match args ps env with
      | .ok g ds => .ok (gfl f d && g) (d :: ds)
      | .ex x => .ex x
      | .no => .no
    | .ex x => .ex x
    | .no => .no
def AWant (S : Addr → Prop) (mg : Str → Option Value) (H : Hp) (Q : List V → Hp → Prop) (E : XK) : AR → Prop
  | .ok f ds => ∀ vs H' as, Ex H H' → Reps H' ds vs as → (∀ a ∈ as, S a ∨ H a = none) → (f = true → New H as) → Q vs H'
  | .ex x => ∀ c dx H', Ex H H' → XR mg x c dx H' → E c dx H'
  | .no => False
theorem AWant.mono {S : Addr → Prop} {mg : Str → Option Value} {H H1 : Hp} {Q : List V → Hp → Prop} {E : XK} {r : AR} (w : AWant S mg H Q E r) (e : Ex H H1) : AWant S mg H1 Q E r := by
  cases r with
  | ok f d => exact fun v H' as e' r m n => w v H' as (e.trans e') r (fun a h => (m a h).imp_right fun z => e.back z) fun z => (n z).back e
  | ex x => exact fun c dx H' e' r => w c dx H' (e.trans e') r
  | no => exact w
def SndA (X : Cx) (E : XK) (es : List Expr) (ps : List P) : Prop := ∃ t, PA X es t ∧ ∀ (S : Addr → Prop) env σ H Q, ObsEnv S H env σ → AWant S X.mg H Q E (args ps env) → t σ H Q

theorem New.app {H H1 : Hp} {as bs : List Addr} (e : Ex H H1) (ha : New H as) (hb : New H1 bs) (ht : ∀ a ∈ as, H1 a ≠ none) : New H (as ++ bs) := by
  refine ⟨List.nodup_append.mpr ⟨ha.1, hb.1, fun a h b h' q => ?_⟩, fun a h => ?_⟩
  · subst q; exact ht a h (hb.2 a h')
  · rcases List.mem_append.mp h with h | h
    · exact ha.2 a h
    · exact e.back (hb.2 a h)
theorem Rep.ne {H : Hp} {d : D} {v : V} {as : List Addr} (r : Rep H d v as) : ∀ a ∈ as, H a ≠ none := fun a h q => by
  obtain ⟨vs, e, _⟩ := r.there a h
  rw [e] at q; cases q
theorem Reps.ne {H : Hp} {d : List D} {v : List V} {as : List Addr} (r : Reps H d v as) : ∀ a ∈ as, H a ≠ none := fun a h q => by
  obtain ⟨vs, e, _⟩ := r.there a h
  rw [e] at q; cases q
theorem gfl_new {H H' : Hp} {f : Bool} {d : D} {v : V} {as : List Addr} (g : gfl f d = true) (r : Rep H' d v as) (n : f = true → New H as) : New H as := by
  unfold gfl at g
  cases f with
  | true => exact n rfl
  | false => rw [r.noL (by simpa using g)]; exact .nil _

section
variable {X : Cx} {E : XK}
theorem snda_nil : SndA X E [] [] := ⟨_, pa_nil, fun S env σ H Q _ w => w [] H [] (Ex.refl H) .nil noMem fun _ => .nil H⟩
theorem snda_cons {e : Expr} {es : List Expr} {p : P} {ps : List P} (h : SndP X E e p) (hs : SndA X E es ps) (hst : starEach (e :: es) X.env = (false, eval e X.env) :: starEach es X.env := by rfl) : SndA X E (e :: es) (p :: ps) := by
  obtain ⟨t, h1, h2⟩ := h
  obtain ⟨u, h3, h4⟩ := hs
  refine ⟨_, pa_cons h1 h3 hst, fun S env σ H Q o w => h2 S env σ H _ o ?_⟩
  cases hp : p env with
  | no => simp only [args, hp] at w; exact w
  | ex x => simp only [args, hp] at w; exact w
  | ok f d =>
    intro v H1 as e1 r1 m1 n1
    refine h4 S env σ H1 _ (o.mono e1) ?_
    cases hq : args ps env with
    | no => simp only [args, hp, hq] at w; exact w.elim
    | ex x => simp only [args, hp, hq] at w; exact fun c dx H' e' r => w c dx H' (e1.trans e') r
    | ok g ds =>
      simp only [args, hp, hq] at w
      intro vs H2 bs e2 r2 m2 n2
      refine w (v :: vs) H2 (as ++ bs) (e1.trans e2) (.cons (r1.mono e2) r2) (fun a h => (List.mem_append.mp h).elim (m1 a) fun h => (m2 a h).imp_right fun z => e1.back z) fun z => ?_
      rw [Bool.and_eq_true] at z
      exact New.app e1 (gfl_new z.1 r1 n1) (n2 z.2) r1.ne

def var (i : Nat) : P := fun env => match Env.look env i with
  | some d => .ok false d
  | none => .no
theorem snd_var (i : Nat) {x : Str} {pos : Pos} (hN : X.N[i]? = some x) (hv : Vis X.env.scope x) (hd : (x == ("__debug__" : Str)) = false := by decide) (hcd : (x == ("__classdict__" : Str)) = false := by decide) : SndP X E (.Name x pos) (var i) := by
  refine ⟨_, pe_var hN hv hd hcd, fun S env σ H Q o w => ?_⟩
  unfold var at w
  cases h : Env.look env i with
  | none => rw [h] at w; exact w.elim
  | some d =>
    rw [h] at w
    obtain ⟨v, as, h1, h2, h3⟩ := o.get i d h
    exact ⟨v, h1, w v H as (Ex.refl H) h2 (fun a m => .inl (h3 a m)) fun z => nomatch z⟩
def cst (d : D) : P := fun _ => .ok true d
theorem snd_int {i : Int} {j : Nat} {pos : Pos} : SndP X E (.Constant (.int i) j pos) (cst (.int i)) := ⟨_, pe_int, fun S _ _ H _ _ w => w _ H [] (Ex.refl H) (.int i) noMem fun _ => .nil H⟩
theorem snd_bl {b : Bool} {j : Nat} {pos : Pos} : SndP X E (.Constant (.bool b) j pos) (cst (.bl b)) := ⟨_, pe_bl, fun S _ _ H _ _ w => w _ H [] (Ex.refl H) (.bl b) noMem fun _ => .nil H⟩
theorem snd_non {j : Nat} {pos : Pos} : SndP X E (.Constant .none j pos) (cst .non) := ⟨_, pe_non, fun S _ _ H _ _ w => w _ H [] (Ex.refl H) .non noMem fun _ => .nil H⟩
theorem snd_gint {x : Str} {i : Int} {t : Tok} {pos : Pos} (hg : Gl X x) (hm : X.mg x = some (.int i t)) (hd : (x == ("__debug__" : Str)) = false := by decide) : SndP X E (.Name x pos) (cst (.int i)) :=
  ⟨_, pe_glob (v := .int i) hg hm ⟨t, rfl⟩ hd, fun S _ _ H _ _ w => w _ H [] (Ex.refl H) (.int i) noMem fun _ => .nil H⟩
def op2 (f : D → D → Option (Kd × D)) (a b : P) : P := fun env => (a env).bind fun fa x => (b env).bind fun fb y => match f x y with
  | some (k, d) => .ok (k.fl (gfl fa x && gfl fb y)) d
  | none => .no
def V2 (r : R2) (f : D → D → Option (Kd × D)) : Prop := ∀ H x y v w as bs k d (Q : VK), Rep H x v as → Rep H y w bs → f x y = some (k, d) → (∀ u H' cs, Ex H H' → Rep H' d u cs → KdOk k H (as ++ bs) cs → Q u H') → r v w H Q
theorem kd_new {k : Kd} {g : Bool} {H H1 : Hp} {ops cs : List Addr} (e : Ex H H1) (n : g = true → New H ops) (h : KdOk k H1 ops cs) : k.fl g = true → New H cs := fun z => by
  cases k with
  | new => exact New.back h.2 e
  | ali => cases z
  | lin =>
    have n' := n z
    exact ⟨h.2 n'.1, fun a m => (h.1 a m).elim (fun q => e.back q) fun q => n'.2 a q⟩
theorem kd_mem {k : Kd} {S : Addr → Prop} {H H1 : Hp} {ops cs : List Addr} (e : Ex H H1) (m : ∀ a ∈ ops, S a ∨ H a = none) (h : KdOk k H1 ops cs) : ∀ a ∈ cs, S a ∨ H a = none := fun a q =>
  (h.1 a q).elim (fun z => .inr (e.back z)) fun z => m a z
theorem mem_app {S : Addr → Prop} {H H1 : Hp} {as bs : List Addr} (e : Ex H H1) (m1 : ∀ a ∈ as, S a ∨ H a = none) (m2 : ∀ a ∈ bs, S a ∨ H1 a = none) : ∀ a ∈ as ++ bs, S a ∨ H a = none := fun a h =>
  (List.mem_append.mp h).elim (m1 a) fun h => (m2 a h).imp_right fun z => e.back z
theorem snd_op2G {e1 e2 e : Expr} {p1 p2 : P} {r : R2} {f : D → D → Option (Kd × D)} (mk : ∀ {ta tb}, PE X e1 ta → PE X e2 tb → PE X e (tOp r ta tb)) (hv : V2 r f) (h1 : SndP X E e1 p1) (h2 : SndP X E e2 p2) : SndP X E e (op2 f p1 p2) := by
  obtain ⟨t, h1, g1⟩ := h1
  obtain ⟨u, h2, g2⟩ := h2
  refine ⟨_, mk h1 h2, fun S env σ H Q o w => g1 S env σ H _ o ?_⟩
  unfold op2 at w
  cases hp : p1 env with
  | no => rw [hp] at w; exact w
  | ex x => rw [hp] at w; exact w
  | ok fa x =>
    intro v H1 as ex1 r1 m1 n1
    refine g2 S env σ H1 _ (o.mono ex1) ?_
    cases hq : p2 env with
    | no => rw [hp, hq] at w; exact w
    | ex x => rw [hp, hq] at w; exact fun c dx H' e' r => w c dx H' (ex1.trans e') r
    | ok fb y =>
      rw [hp, hq] at w
      intro v2 H2 bs ex2 r2 m2 n2
      simp only [PR.bind] at w
      cases hf : f x y with
      | none => rw [hf] at w; exact w.elim
      | some kd =>
        obtain ⟨k, d⟩ := kd
        rw [hf] at w
        refine hv H2 x y v v2 as bs k d Q (r1.mono ex2) r2 hf fun z H3 cs ex3 r3 kk => w z H3 cs ((ex1.trans ex2).trans ex3) r3 (kd_mem (ex1.trans ex2) (mem_app ex1 m1 m2) kk) (kd_new (ex1.trans ex2) (fun g => ?_) kk)
        rw [Bool.and_eq_true] at g
        exact New.app ex1 (gfl_new g.1 r1 n1) (gfl_new g.2 r2 n2) r1.ne
theorem snd_bin {e1 e2 : Expr} {p1 p2 : P} {op : Operator} {pos : Pos} {r : R2} {f : D → D → Option (Kd × D)} (ho : OpR X (binaryOp op) r) (hv : V2 r f) (h1 : SndP X E e1 p1) (h2 : SndP X E e2 p2) : SndP X E (.BinOp e1 op e2 pos) (op2 f p1 p2) :=
  snd_op2G (fun a b => pe_op ho a b) hv h1 h2
theorem snd_cmp {e1 e2 : Expr} {p1 p2 : P} {op : CmpOp} {pos : Pos} {r : R2} {f : D → D → Option (Kd × D)} (ho : OpR X (compareOp op) r) (hv : V2 r f) (h1 : SndP X E e1 p1) (h2 : SndP X E e2 p2) (hm : behindInMarks op e2 = false) : SndP X E (.Compare e1 [op] [e2] pos) (op2 f p1 p2) :=
  snd_op2G (fun a b => pe_cmpR ho a b hm) hv h1 h2
theorem snd_ix {e1 e2 : Expr} {p1 p2 : P} {pos : Pos} {r : R2} {f : D → D → Option (Kd × D)} (ho : IxR X r) (hv : V2 r f) (h1 : SndP X E e1 p1) (h2 : SndP X E e2 p2) (hm : PlainIx e2 := by intro _ _; rfl) : SndP X E (.Subscript e1 e2 pos) (op2 f p1 p2) :=
  snd_op2G (fun a b => pe_ix ho a b hm) hv h1 h2

def TWant (mg : Str → Option Value) (H : Hp) (Q : Bool → Hp → Prop) (E : XK) : PR → Prop
  | .ok _ (.bl b) => ∀ H', Ex H H' → Q b H'
  | .ok _ _ => False
  | .ex x => ∀ c dx H', Ex H H' → XR mg x c dx H' → E c dx H'
  | .no => False
def SndT (X : Cx) (E : XK) (e : Expr) (p : P) : Prop := ∃ t, PT X e t ∧ ∀ (S : Addr → Prop) env σ H Q, ObsEnv S H env σ → TWant X.mg H Q E (p env) → t σ H Q
theorem TWant.toP {mg : Str → Option Value} {H : Hp} {Q : Bool → Hp → Prop} {E : XK} {r : PR} {S : Addr → Prop} (w : TWant mg H Q E r) : PWant S mg H (fun x H' => ∃ k, x = V.bl k ∧ Q k H') E r := by
  cases r with
  | no => exact w
  | ex x => exact w
  | ok f d =>
    cases d with
    | bl b =>
      intro v H' as e r _ _
      cases r
      exact ⟨b, rfl, w H' e⟩
    | _ => exact (show False from w).elim
theorem sndt_val {e : Expr} {p : P} (h : SndP X E e p) (he : ∀ whole, isTrue e X.env whole = (do let v ← whole; standAt e.pos; holding [v] (truthy v)) := by intro _; rfl) : SndT X E e p := by
  obtain ⟨t, h1, h2⟩ := h
  exact ⟨_, pt_val h1 he, fun S env σ H Q o w => h2 S env σ H _ o w.toP⟩
theorem sndt_cmp {e1 e2 : Expr} {p1 p2 : P} {op : CmpOp} {pos : Pos} {r : R2} {f : D → D → Option (Kd × D)} (ho : OpR X (compareOp op) r) (hv : V2 r f) (h1 : SndP X E e1 p1) (h2 : SndP X E e2 p2) (hm : behindInMarks op e2 = false) : SndT X E (.Compare e1 [op] [e2] pos) (op2 f p1 p2) := by
  obtain ⟨t, h1, g1⟩ := h1
  obtain ⟨u, h2, g2⟩ := h2
  refine ⟨_, pt_cmpR ho h1 h2 hm, fun S env σ H Q o w => ?_⟩
  have key : SndP X E (.Compare e1 [op] [e2] pos) (op2 f p1 p2) := snd_op2G (E := E) (fun {ta tb} a b => pe_cmpR ho a b hm) hv ⟨t, h1, g1⟩ ⟨u, h2, g2⟩
  have w' := w.toP (S := S)
  refine g1 S env σ H _ o ?_
  unfold op2 at w'
  cases hp : p1 env with
  | no => rw [hp] at w'; exact w'
  | ex x => rw [hp] at w'; exact w'
  | ok fa x =>
    intro v H1 as ex1 r1 m1 n1
    refine g2 S env σ H1 _ (o.mono ex1) ?_
    cases hq : p2 env with
    | no => rw [hp, hq] at w'; exact w'
    | ex x => rw [hp, hq] at w'; exact fun c dx H' e' r => w' c dx H' (ex1.trans e') r
    | ok fb y =>
      rw [hp, hq] at w'
      intro v2 H2 bs ex2 r2 m2 n2
      simp only [PR.bind] at w'
      cases hf : f x y with
      | none => rw [hf] at w'; exact w'.elim
      | some kd =>
        obtain ⟨k, d⟩ := kd
        rw [hf] at w'
        refine hv H2 x y v v2 as bs k d _ (r1.mono ex2) r2 hf fun z H3 cs ex3 r3 kk => w' z H3 cs ((ex1.trans ex2).trans ex3) r3 (kd_mem (ex1.trans ex2) (mem_app ex1 m1 m2) kk) (kd_new (ex1.trans ex2) (fun g => ?_) kk)
        rw [Bool.and_eq_true] at g
        exact New.app ex1 (gfl_new g.1 r1 n1) (gfl_new g.2 r2 n2) r1.ne
end
end CB

namespace CB
open PySem L2 PySem.Spec PyProof.Rows
variable [CT]

section
variable {X : Cx} {pins : List (Addr × Obj)} {σ : L2.St} {H : Hp} {s : Shared}
theorem Inv.tupF {xs : List V} {its : List Value} (I : L2.Inv X pins σ H s) (r : Vals xs its) (hz : xs.length ≤ sizeLine) :
    L2.Inv X pins σ (upd H s.heap.objs.size (.frz { cls := .type "tuple", data := .seq its.toArray } (.tup xs))) { s with heap := s.heap.push { cls := .type "tuple", data := .seq its.toArray } } :=
  L2.Inv.laid (t' := s.toks) I (fun b o e => Heap.get?_push_of_some _ e) (Nat.le_refl _) ⟨Heap.get?_push_size _ rfl, hz, its, r, IsTup.new _ _⟩
end
section
variable {X : Cx}
theorem SqT.frz {K : PySem.W.Frag} {H : Hp} {a : Addr} {o : Obj} {xs : List V} (h : H a = some (.frz o (.tup xs))) : SqT K H a xs := .inl (.inr ⟨o, h⟩)
theorem SqL.frz {K : PySem.W.Frag} {H : Hp} {a : Addr} {o : Obj} {xs : List V} (h : H a = some (.frz o (.lst xs))) : SqL K H a xs := .inl (.inr ⟨o, h⟩)
def NewT (xs : List V) (H : Hp) (Q : VK) : Prop := ∀ p o, H p = none → o.dict = none → Q (.ref p) (upd H p (.frz o (.tup xs)))
def tTupF (t : TA) : TE := fun σ H Q => t σ H fun xs H1 => xs.length ≤ sizeLine ∧ NewT xs H1 Q
theorem pe_tupF {es : List Expr} {t : TA} {x1 : Nat} {pos : Pos} (h : PA X es t) : PE X (.Tuple es x1 pos) (tTupF t) := by
  refine ⟨fun pins s σ H Q I hq => ?_⟩
  refine wpAny_Tuple_spliced (thn (h.run pos pins s σ H _ I hq) fun us s1 ⟨xs, H1, I1, r, z, q⟩ => ⟨by rw [← r.length]; exact z, ?_⟩)
  have hf : H1 s1.heap.objs.size = none := I1.hok.fresh (Nat.le_refl _)
  exact ⟨.ref s1.heap.objs.size, _, Inv.tupF I1 r z, rfl, q _ _ hf rfl⟩
def rCatF (K : PySem.W.Frag) : R2 := fun x y H Q => ∃ a b xs ys, x = .ref a ∧ y = .ref b ∧ SqT K H a xs ∧ SqT K H b ys ∧ xs.length + ys.length ≤ sizeLine ∧
  (xs = [] → Q (.ref b) H) ∧ (xs ≠ [] → ys = [] → Q (.ref a) H) ∧ (xs ≠ [] → ys ≠ [] → NewT (xs ++ ys) H Q)
theorem op_catF : OpR X (binaryOp .Add) (rCatF X.K) := by
  intro pins s σ H x y v u Q I rx ry h
  obtain ⟨a, b, xs, ys, rfl, rfl, ha, hb, hz, q0, q1, q2⟩ := h
  cases rx
  cases ry
  obtain ⟨its, r1, p1, _⟩ := I.tuple ha
  obtain ⟨its2, r2, p2, _⟩ := I.tuple hb
  by_cases hx : xs = []
  · subst hx
    cases r1
    exact cat_tup0 p1 p2 ⟨.ref b, H, I, rfl, q0 rfl⟩
  · refine HT.cat_tup p1 p2 (fun z => hx (r1.nil_iff.mp z)) (fun z => ⟨.ref a, H, I, rfl, q1 hx (r2.nil_iff.mp z)⟩) (fun z => ?_) (by rw [← r1.length, ← r2.length]; exact hz)
    exact ⟨.ref s.heap.objs.size, _, Inv.tupF I (r1.append r2) (by rw [List.length_append]; exact hz), rfl, q2 hx (fun w => z (r2.nil_iff.mpr w)) _ _ (I.hok.fresh (Nat.le_refl _)) rfl⟩
def rSlF (K : PySem.W.Frag) : V → Option Int → Option Int → Hp → VK → Prop := fun x lo hi H Q => ∃ a xs, x = .ref a ∧ SqT K H a xs ∧
  (HT.sIx xs.length 0 lo = 0 ∧ HT.sIx xs.length xs.length hi = xs.length → Q (.ref a) H) ∧ (¬ (HT.sIx xs.length 0 lo = 0 ∧ HT.sIx xs.length xs.length hi = xs.length) → NewT (cutV xs lo hi) H Q)
theorem sl_tupF : SlR X (rSlF X.K) := by
  intro pins s σ H x v vl vu lo hi sl Q I rx hs pl pu h
  obtain ⟨a, xs, rfl, hx, q1, q2⟩ := h
  cases rx
  obtain ⟨its, r, ht, hz⟩ := I.tuple hx
  have hlen : its.toArray.size = xs.length := by rw [List.size_toArray]; exact r.length.symm
  refine ⟨"tuple", _, PyProof.Rows.slot_tuple_getitem.lookup, ht.typeIs, ?_⟩
  by_cases hw : HT.sIx xs.length 0 lo = 0 ∧ HT.sIx xs.length xs.length hi = xs.length
  · exact getItem_tuple_whole ht hs pl pu (by rw [hlen]; exact hw) ⟨.ref a, H, I, rfl, q1 hw⟩
  · refine HT.getItem_tuple_cut ht hs pl pu (by rw [hlen]; exact hw) ?_ (by rw [hlen]; exact hz)
    rw [hlen]
    exact ⟨.ref s.heap.objs.size, _, Inv.tupF I ((r.drop (HT.sIx xs.length 0 lo)).take (HT.sIx xs.length xs.length hi - HT.sIx xs.length 0 lo)) (Nat.le_trans (cutV_length xs lo hi) hz), rfl, q2 hw _ _ (I.hok.fresh (Nat.le_refl _)) rfl⟩
def rTupOf (K : PySem.W.Frag) : List V → Hp → VK → Prop := fun vs H Q => ∃ p xs, vs = [.ref p] ∧ ((SqL K H p xs ∧ NewT xs H Q) ∨ (SqT K H p xs ∧ Q (.ref p) H))
theorem cr_tupOf : CallR X (.type "tuple") (rTupOf X.K) := by
  intro pins s σ H xs us Q I r h
  obtain ⟨p, ys, rfl, h⟩ := h
  obtain ⟨u, rfl, ru⟩ := vals1 r
  cases ru
  rcases h with ⟨hs, q⟩ | ⟨hs, q⟩
  · obtain ⟨its, rv, pl, hz⟩ := I.list hs
    refine call_tuple_list pl.isList (fun h' hk => ?_) (by rw [List.size_toArray, ← rv.length]; exact hz)
    have I1 : L2.Inv X pins σ H { s with heap := h' } := I.kept (t' := s.toks) hk
    exact ⟨.ref h'.objs.size, _, Inv.tupF (s := { s with heap := h' }) I1 rv hz, rfl, q _ _ (I1.hok.fresh (Nat.le_refl _)) rfl⟩
  · obtain ⟨its, rv, pl, hz⟩ := I.tuple hs
    exact call_tuple_tup pl ⟨.ref p, H, I, rfl, q⟩
def tTupRgF (te : L2.St → Hp → (Int → Int → Hp → Prop) → Prop) : TE := fun σ H Q => te σ H fun a b H1 => RgOk a b ∧ NewT (rgV a b) H1 Q
theorem pe_tupRgF {e : Expr} {te : L2.St → Hp → (Int → Int → Hp → Prop) → Prop} {p pos : Pos} (hc : X.calm = true) (hg : Gl X "tuple") (hm : X.mg "tuple" = none) (he : PRg X e te) (na : starEach [e] X.env = (false, eval e X.env) :: starEach [] X.env := by rfl) : PE X (.Call (.Name "tuple" p) [e] [] pos) (tTupRgF te) := by
  refine ⟨fun pins s σ H Q I h => ?_⟩
  refine Call_ (ld_blt I hg hm boot_tuple (PyProof.Rows.callWith_type1 (args_cons (thn (he pins s σ H _ I h) fun x s1 ⟨r, a, b, t, u, v, H1, ex, hr, I1, ok, q⟩ => args_nil ?_) na) na))
  subst ex
  obtain ⟨b1, b2, b3, b4, b5⟩ := ok
  refine call_tuple_range (n := (b - a).toNat) (I1.ok.hd hc) hr (small_one b1 b2 b3 b4) (rangeSize_nat a b) b5 fun h' tk acc hk hi => ?_
  have I2 : L2.Inv X pins σ H1 { s1 with heap := h', toks := tk } := I1.kept hk
  have I3 := Inv.tupF (s := { s1 with heap := h', toks := tk }) I2 (vals_rg hi) (by rw [rgV_length, sizeLine_eq]; omega)
  rw [Array.toArray_toList] at I3
  exact ⟨.ref h'.objs.size, _, I3, rfl, q _ _ (I2.hok.fresh (Nat.le_refl _)) rfl⟩
end
end CB

namespace CB
open PySem L2 PySem.Spec PyProof.Rows
variable [CT]

theorem Reps.append {H : Hp} : ∀ {xs ys : List D} {vs ws : List V} {as bs : List Addr}, Reps H xs vs as → Reps H ys ws bs → Reps H (xs ++ ys) (vs ++ ws) (as ++ bs)
  | _, _, _, _, _, _, .nil, s => s
  | _, _, _, _, _, _, .cons (as := a) (bs := b) r rs, s => by
    rw [List.append_assoc]
    exact .cons r (Reps.append rs s)
theorem Reps.get {H : Hp} : ∀ {xs : List D} {vs : List V} {as : List Addr} {i : Nat} {d : D}, Reps H xs vs as → xs[i]? = some d → ∃ v bs cs es, vs[i]? = some v ∧ Rep H d v bs ∧ as = cs ++ bs ++ es
  | _, _, _, _, _, .nil, h => by simp at h
  | _, _, _, 0, _, .cons (as := a) (bs := b) r rs, h => by
    simp at h; subst h
    exact ⟨_, a, [], b, rfl, r, by simp⟩
  | _, _, _, i + 1, _, .cons (as := a) (bs := b) r rs, h => by
    obtain ⟨v, bs, cs, es, h1, h2, h3⟩ := Reps.get (i := i) rs (by simpa using h)
    exact ⟨v, bs, a ++ cs, es, by simpa using h1, h2, by rw [h3]; simp [List.append_assoc]⟩
theorem Reps.take {H : Hp} : ∀ {xs : List D} {vs : List V} {as : List Addr} (n : Nat), Reps H xs vs as → ∃ bs cs, Reps H (xs.take n) (vs.take n) bs ∧ as = bs ++ cs
  | _, _, as, 0, r => ⟨[], as, by simpa using Reps.nil, rfl⟩
  | _, _, _, _ + 1, .nil => ⟨[], [], by simpa using Reps.nil, rfl⟩
  | _, _, _, n + 1, .cons (as := a) (bs := b) r rs => by
    obtain ⟨bs, cs, h1, h2⟩ := Reps.take n rs
    exact ⟨a ++ bs, cs, .cons r h1, by rw [h2, List.append_assoc]⟩
theorem Reps.drop {H : Hp} : ∀ {xs : List D} {vs : List V} {as : List Addr} (n : Nat), Reps H xs vs as → ∃ bs cs, Reps H (xs.drop n) (vs.drop n) bs ∧ as = cs ++ bs
  | _, _, as, 0, r => ⟨as, [], r, rfl⟩
  | _, _, _, _ + 1, .nil => ⟨[], [], .nil, rfl⟩
  | _, _, _, n + 1, .cons (as := a) (bs := b) r rs => by
    obtain ⟨bs, cs, h1, h2⟩ := Reps.drop n rs
    exact ⟨bs, a ++ cs, h1, by rw [h2, List.append_assoc]⟩
def toInts : List D → Option (List Int)
  | [] => some []
  | .int i :: r => match toInts r with
    | some l => some (i :: l)
    | none => none
  | _ :: _ => none
theorem toInts_eq : ∀ {xs : List D} {ns : List Int}, toInts xs = some ns → xs = ns.map D.int
  | [], ns, h => by simp [toInts] at h; subst h; rfl
  | x :: xs, ns, h => by
    cases x <;> simp only [toInts] at h <;> try cases h
    rename_i i
    cases e : toInts xs with
    | none => rw [e] at h; cases h
    | some l =>
      rw [e] at h; cases h
      rw [toInts_eq e]; rfl
theorem Reps.ints {H : Hp} : ∀ {ns : List Int} {vs : List V} {as : List Addr}, Reps H (ns.map D.int) vs as → vs = ns.map V.int ∧ as = []
  | [], _, _, .nil => ⟨rfl, rfl⟩
  | n :: ns, _, _, .cons r rs => by
    obtain ⟨h1, h2⟩ := Reps.ints rs
    cases r
    rw [h1, h2]; exact ⟨rfl, rfl⟩
theorem reps_ints (H : Hp) : ∀ (ns : List Int), Reps H (ns.map D.int) (ns.map V.int) []
  | [] => .nil
  | n :: ns => .cons (as := []) (bs := []) (.int n) (reps_ints H ns)
def toBls : List D → Option (List Bool)
  | [] => some []
  | .bl i :: r => match toBls r with
    | some l => some (i :: l)
    | none => none
  | _ :: _ => none
theorem Reps.bls {H : Hp} : ∀ {xs : List D} {ns : List Bool} {vs : List V} {as : List Addr}, toBls xs = some ns → Reps H xs vs as → vs = ns.map V.bl
  | [], ns, _, _, h, .nil => by simp [toBls] at h; subst h; rfl
  | x :: xs, ns, _, _, h, .cons r rs => by
    cases x <;> simp only [toBls] at h <;> try cases h
    cases e : toBls xs with
    | none => rw [e] at h; cases h
    | some l =>
      rw [e] at h; cases h
      rw [Reps.bls e rs]; cases r; rfl

def szOk (n : Nat) : Bool := Nat.ble n 1000000
theorem szOk_le {n : Nat} (h : szOk n = true) : n ≤ sizeLine := by
  have h' : n ≤ 1000000 := Nat.le_of_ble_eq_true h
  rw [sizeLine_eq]; omega
theorem szOk_lt {n : Nat} (h : szOk n = true) : n < sizeLine := by
  have h' : n ≤ 1000000 := Nat.le_of_ble_eq_true h
  rw [sizeLine_eq]; omega
def dAdd : D → D → Option (Kd × D)
  | .int i, .int j => some (.new, .int (i + j))
  | .str a, .str b => if szOk (a.length + b.length) then some (.new, .str (a ++ b)) else none
  | .lst xs, .lst ys => if szOk (xs.length + ys.length) then some (if noLs xs && noLs ys then .new else .lin, .lst (xs ++ ys)) else none
  | .tup xs, .tup ys => if szOk (xs.length + ys.length) then some (if noLs xs && noLs ys then .new else .lin, .tup (xs ++ ys)) else none
  | _, _ => none
def rAddA (K : PySem.W.Frag) : R2 := fun x y H Q => rI0 (fun i j => .int (i + j)) x y H Q ∨ (∃ i j, x = .str i ∧ y = .str j ∧ i.length + j.length ≤ sizeLine ∧ Q (.str (i ++ j)) H) ∨ rCat x y H Q ∨ rCatF K x y H Q
theorem op_addA {X : Cx} : OpR X (binaryOp .Add) (rAddA X.K) := op_add.or (op_add_str.or (op_cat.or op_catF))
theorem nodup_mid {p : Addr} {as bs : List Addr} {a b : Addr} (h : ((a :: as) ++ (b :: bs)).Nodup) (hp : p ∉ as ++ bs) : (p :: (as ++ bs)).Nodup := by
  refine List.nodup_cons.mpr ⟨hp, ?_⟩
  have h1 : (as ++ (b :: bs)).Nodup := (List.nodup_cons.mp h).2
  exact h1.sublist (List.Sublist.append (List.Sublist.refl as) (List.sublist_cons_self b bs))
theorem Rep.newT {H : Hp} {p : Addr} {o : Obj} {xs : List D} {vs : List V} {as : List Addr} (hp : H p = none) (hd : o.dict = none) (r : Reps H xs vs as) : Rep (upd H p (.frz o (.tup vs))) (.tup xs) (.ref p) as := .tup upd_same hd (r.mono (Ex.new hp))
theorem Rep.newL {H : Hp} {p : Addr} {xs : List D} {vs : List V} {as : List Addr} (hp : H p = none) (r : Reps H xs vs as) : Rep (upd H p (.lst vs)) (.lst xs) (.ref p) (p :: as) := .lst upd_same (r.mono (Ex.new hp))
theorem v_add (K : PySem.W.Frag) : V2 (rAddA K) dAdd := by
  intro H x y v w as bs k d Q r1 r2 hf hq
  cases r1 with
  | int i =>
    cases r2 with
    | int j => simp only [dAdd, Option.some.injEq, Prod.mk.injEq] at hf; obtain ⟨rfl, rfl⟩ := hf; exact .inl ⟨i, j, rfl, rfl, hq _ H [] (Ex.refl H) (.int _) KdOk.nil⟩
    | _ => simp [dAdd] at hf
  | str i =>
    cases r2 with
    | str j =>
      simp only [dAdd] at hf
      split at hf
      · rename_i hz
        simp only [Option.some.injEq, Prod.mk.injEq] at hf; obtain ⟨rfl, rfl⟩ := hf
        exact .inr (.inl ⟨i, j, rfl, rfl, szOk_le hz, hq _ H [] (Ex.refl H) (.str _) KdOk.nil⟩)
      · cases hf
    | _ => simp [dAdd] at hf
  | @lst a vs xs as' h1 s1 =>
    cases r2 with
    | @lst b ws ys bs' h2 s2 =>
      simp only [dAdd] at hf
      split at hf
      · rename_i hz
        simp only [Option.some.injEq, Prod.mk.injEq] at hf; obtain ⟨rfl, rfl⟩ := hf
        have l1 := s1.length
        have l2 := s2.length
        refine .inr (.inr (.inl ⟨a, b, vs, ws, rfl, rfl, h1, h2, by rw [← l1, ← l2]; exact szOk_le hz, fun p hp => ?_⟩))
        have hpn : p ∉ as' ++ bs' := fun m => (List.mem_append.mp m).elim (fun z => s1.ne p z hp) fun z => s2.ne p z hp
        refine hq _ _ (p :: (as' ++ bs')) (Ex.new hp) (.newL hp (s1.append s2)) ?_
        split
        · rename_i hn
          rw [Bool.and_eq_true] at hn
          rw [s1.noL hn.1, s2.noL hn.2]
          exact .mk1 ⟨by simp, fun c hc => by simp at hc; rw [hc]; exact hp⟩
        · refine .mk2 (fun c hc => ?_) fun hnd => nodup_mid hnd hpn
          rcases List.mem_cons.mp hc with e | hc
          · rw [e]; exact .inl hp
          · refine .inr ?_
            rcases List.mem_append.mp hc with z | z
            · exact List.mem_append_left _ (List.mem_cons_of_mem _ z)
            · exact List.mem_append_right _ (List.mem_cons_of_mem _ z)
      · cases hf
    | _ => simp [dAdd] at hf
  | @tup a o vs xs _ h1 d1 s1 =>
    cases r2 with
    | @tup b o2 ws ys _ h2 d2 s2 =>
      simp only [dAdd] at hf
      split at hf
      · rename_i hz
        simp only [Option.some.injEq, Prod.mk.injEq] at hf; obtain ⟨rfl, rfl⟩ := hf
        have l1 := s1.length
        have l2 := s2.length
        have kk : ∀ {k : Kd}, k = (if (noLs xs && noLs ys) = true then Kd.new else Kd.lin) → KdOk k H (as ++ bs) (as ++ bs) := fun {k} e => by
          subst e
          split
          · rename_i hn
            rw [Bool.and_eq_true] at hn
            rw [s1.noL hn.1, s2.noL hn.2]
            exact KdOk.nil
          · exact .mk2 (fun c hc => .inr hc) fun hnd => hnd
        refine .inr (.inr (.inr ⟨a, b, vs, ws, rfl, rfl, SqT.frz h1, SqT.frz h2, by rw [← l1, ← l2]; exact szOk_le hz, fun e => ?_, fun e1 e2 => ?_, fun _ _ p o hp hd => ?_⟩))
        · subst e
          cases s1
          exact hq _ H bs (Ex.refl H) (by simpa using Rep.tup h2 d2 s2) (kk rfl)
        · subst e2
          cases s2
          have : KdOk (if (noLs xs && noLs []) = true then Kd.new else Kd.lin) H (as ++ []) as := by simpa using kk rfl
          exact hq _ H as (Ex.refl H) (by simpa using Rep.tup h1 d1 s1) this
        · exact hq _ _ (as ++ bs) (Ex.new hp) (.newT hp hd (s1.append s2)) (kk rfl)
      · cases hf
    | _ => simp [dAdd] at hf
  | _ => simp [dAdd] at hf

theorem v_int {C : Int → Int → Prop} {g : Int → Int → Int} {r : R2} {f : D → D → Option (Kd × D)} (hr : ∀ i j H Q, C i j → Q (.int (g i j)) H → r (.int i) (.int j) H Q)
    (hf : ∀ x y k d, f x y = some (k, d) → ∃ i j, x = .int i ∧ y = .int j ∧ C i j ∧ k = .new ∧ d = .int (g i j)) : V2 r f := by
  intro H x y v w as bs k d Q r1 r2 e hq
  obtain ⟨i, j, rfl, rfl, hc, rfl, rfl⟩ := hf _ _ _ _ e
  cases r1
  cases r2
  exact hr i j H Q hc (hq _ H [] (Ex.refl H) (.int _) KdOk.nil)
theorem v_intB {C : Int → Int → Prop} {g : Int → Int → Bool} {r : R2} {f : D → D → Option (Kd × D)} (hr : ∀ i j H Q, C i j → Q (.bl (g i j)) H → r (.int i) (.int j) H Q)
    (hf : ∀ x y k d, f x y = some (k, d) → ∃ i j, x = .int i ∧ y = .int j ∧ C i j ∧ k = .new ∧ d = .bl (g i j)) : V2 r f := by
  intro H x y v w as bs k d Q r1 r2 e hq
  obtain ⟨i, j, rfl, rfl, hc, rfl, rfl⟩ := hf _ _ _ _ e
  cases r1
  cases r2
  exact hr i j H Q hc (hq _ H [] (Ex.refl H) (.bl _) KdOk.nil)
def dSub : D → D → Option (Kd × D)
  | .int i, .int j => some (.new, .int (i - j))
  | _, _ => none
theorem v_sub : V2 (rI0 fun i j => .int (i - j)) dSub := v_int (C := fun _ _ => True) (g := fun i j => i - j) (fun i j H Q _ q => ⟨i, j, rfl, rfl, q⟩) fun x y k d e => by
  cases x <;> cases y <;> simp only [dSub] at e <;> cases e
  exact ⟨_, _, rfl, rfl, True.intro, rfl, rfl⟩
def mulOk (i j : Int) : Bool := decide (i.natAbs < 18446744073709551616) || decide (j.natAbs < 18446744073709551616) || decide (i.natAbs.log2 + j.natAbs.log2 < 1000000)
def dMul : D → D → Option (Kd × D)
  | .int i, .int j => if mulOk i j then some (.new, .int (i * j)) else none
  | _, _ => none
def rMulA : R2 := fun x y H Q => rI CMul (fun i j => .int (i * j)) x y H Q ∨ rI CMulW (fun i j => .int (i * j)) x y H Q
theorem op_mulA {X : Cx} : OpR X (binaryOp .Mult) rMulA := op_mul.or op_mulW
theorem v_mul : V2 rMulA dMul := v_int (C := fun i j => mulOk i j = true) (g := fun i j => i * j) (fun i j H Q hc q => by
    unfold mulOk at hc
    simp only [Bool.or_eq_true, decide_eq_true_eq] at hc
    rcases hc with (hc | hc) | hc
    · exact .inl ⟨i, j, rfl, rfl, .inl ⟨by omega, by omega⟩, q⟩
    · exact .inl ⟨i, j, rfl, rfl, .inr ⟨by omega, by omega⟩, q⟩
    · exact .inr ⟨i, j, rfl, rfl, hc, q⟩) fun x y k d e => by
  cases x <;> cases y <;> simp only [dMul] at e <;> try cases e
  split at e
  · rename_i h; cases e; exact ⟨_, _, rfl, rfl, h, rfl, rfl⟩
  · cases e
def dDiv : D → D → Option (Kd × D)
  | .int i, .int j => if decide (0 < j) && decide (j.natAbs.log2 < 9000) then some (.new, .int (i / j)) else none
  | _, _ => none
theorem v_div : V2 (rI CDivW fun i j => .int (i / j)) dDiv := v_int (C := CDivW) (g := fun i j => i / j) (fun i j H Q hc q => ⟨i, j, rfl, rfl, hc, q⟩) fun x y k d e => by
  cases x <;> cases y <;> simp only [dDiv] at e <;> try cases e
  split at e
  · rename_i h; cases e; simp only [Bool.and_eq_true, decide_eq_true_eq] at h; exact ⟨_, _, rfl, rfl, h, rfl, rfl⟩
  · cases e
def dMod : D → D → Option (Kd × D)
  | .int i, .int j => if decide (0 < j) then some (.new, .int (i % j)) else none
  | _, _ => none
theorem v_mod : V2 (rI (fun _ j => 0 < j) fun i j => .int (i % j)) dMod := v_int (C := fun _ j => 0 < j) (g := fun i j => i % j) (fun i j H Q hc q => ⟨i, j, rfl, rfl, hc, q⟩) fun x y k d e => by
  cases x <;> cases y <;> simp only [dMod] at e <;> try cases e
  split at e
  · rename_i h; cases e; exact ⟨_, _, rfl, rfl, of_decide_eq_true h, rfl, rfl⟩
  · cases e
def dPow : D → D → Option (Kd × D)
  | .int i, .int j => if decide (0 ≤ j) && decide (j ≤ 1000000) && decide (i.natAbs < 18446744073709551616) then some (.new, .int (i ^ j.toNat)) else none
  | _, _ => none
theorem v_pow : V2 (rI CPow fun i j => .int (i ^ j.toNat)) dPow := v_int (C := CPow) (g := fun i j => i ^ j.toNat) (fun i j H Q hc q => ⟨i, j, rfl, rfl, hc, q⟩) fun x y k d e => by
  cases x <;> cases y <;> simp only [dPow] at e <;> try cases e
  split at e
  · rename_i h; cases e; simp only [Bool.and_eq_true, decide_eq_true_eq] at h; exact ⟨_, _, rfl, rfl, ⟨h.1.1, h.1.2, h.2⟩, rfl, rfl⟩
  · cases e

def dLt : D → D → Option (Kd × D)
  | .int i, .int j => some (.new, .bl (decide (i < j)))
  | _, _ => none
def dLe : D → D → Option (Kd × D)
  | .int i, .int j => some (.new, .bl (decide (i ≤ j)))
  | _, _ => none
def dGt : D → D → Option (Kd × D)
  | .int i, .int j => some (.new, .bl (decide (j < i)))
  | _, _ => none
def dGe : D → D → Option (Kd × D)
  | .int i, .int j => some (.new, .bl (decide (j ≤ i)))
  | _, _ => none
theorem v_lt : V2 (rI0 fun i j => .bl (decide (i < j))) dLt := v_intB (C := fun _ _ => True) (g := fun i j => decide (i < j)) (fun i j H Q _ q => ⟨i, j, rfl, rfl, q⟩) fun x y k d e => by
  cases x <;> cases y <;> simp only [dLt] at e <;> cases e
  exact ⟨_, _, rfl, rfl, True.intro, rfl, rfl⟩
theorem v_le : V2 (rI0 fun i j => .bl (decide (i ≤ j))) dLe := v_intB (C := fun _ _ => True) (g := fun i j => decide (i ≤ j)) (fun i j H Q _ q => ⟨i, j, rfl, rfl, q⟩) fun x y k d e => by
  cases x <;> cases y <;> simp only [dLe] at e <;> cases e
  exact ⟨_, _, rfl, rfl, True.intro, rfl, rfl⟩
theorem v_gt : V2 (rI0 fun i j => .bl (decide (j < i))) dGt := v_intB (C := fun _ _ => True) (g := fun i j => decide (j < i)) (fun i j H Q _ q => ⟨i, j, rfl, rfl, q⟩) fun x y k d e => by
  cases x <;> cases y <;> simp only [dGt] at e <;> cases e
  exact ⟨_, _, rfl, rfl, True.intro, rfl, rfl⟩
theorem v_ge : V2 (rI0 fun i j => .bl (decide (j ≤ i))) dGe := v_intB (C := fun _ _ => True) (g := fun i j => decide (j ≤ i)) (fun i j H Q _ q => ⟨i, j, rfl, rfl, q⟩) fun x y k d e => by
  cases x <;> cases y <;> simp only [dGe] at e <;> cases e
  exact ⟨_, _, rfl, rfl, True.intro, rfl, rfl⟩

mutual
def dat : D → PyData
  | .non => .none
  | .bl b => .bool b
  | .int i => .int i
  | .str s => .str s
  | .tup xs => .tuple (dats xs)
  | .tp0 xs => .tuple (dats xs)
  | .lst xs => .list (dats xs)
  | .frz xs => .list (dats xs)
  | .dic _ _ => .dict []
  | .dic2 _ _ => .dict []
  | .dicK _ _ => .dict []
  | .obj _ _ _ => .dict []
  | .box _ => .dict []
  | .exc _ _ _ => .dict []
def dats : List D → List PyData
  | [] => []
  | x :: xs => dat x :: dats xs
end
mutual
theorem Rep.dp {K : PySem.W.Frag} {H : Hp} : ∀ {d : D} {v : V} {as : List Addr}, Rep H d v as → (dat d).canLay0 = true → Dp K H v (dat d)
  | _, _, _, .non, _ => .non
  | _, _, _, .bl b, _ => .bl b
  | _, _, _, .int i, _ => .int i
  | _, _, _, .str i, _ => .str i
  | _, _, _, .tup h _ r, c => .tup (SqT.frz h) (Reps.dp r (by simpa [dat, PyData.canLay0] using c))
  | _, _, _, .tp0 h r, c => .tup (.inl (.inl h)) (Reps.dp r (by simpa [dat, PyData.canLay0] using c))
  | _, _, _, .lst h r, c => .lst (SqL.of h) (Reps.dp r (by simpa [dat, PyData.canLay0] using c))
  | _, _, _, .frz h r, c => .lst (SqL.frz h) (Reps.dp r (by simpa [dat, PyData.canLay0] using c))
  | _, _, _, .dic _ _ _ _, c => by simp [dat, PyData.canLay0] at c
  | _, _, _, .dic2 _ _ _ _, c => by simp [dat, PyData.canLay0] at c
  | _, _, _, .dicK _ _ _, c => by simp [dat, PyData.canLay0] at c
  | _, _, _, .obj _ _ _ _ _, c => by simp [dat, PyData.canLay0] at c
  | _, _, _, .box _, c => by simp [dat, PyData.canLay0] at c
  | _, _, _, .exc _ _ _ _ _, c => by simp [dat, PyData.canLay0] at c
  | _, _, _, .excF _ _ _ _ _ _ _ _, c => by simp [dat, PyData.canLay0] at c
theorem Reps.dp {K : PySem.W.Frag} {H : Hp} : ∀ {ds : List D} {vs : List V} {as : List Addr}, Reps H ds vs as → PyData.canLayAll0 (dats ds) = true → DpAll K H vs (dats ds)
  | _, _, _, .nil, _ => .nil
  | _, _, _, .cons r rs, c => by
    simp only [dats, PyData.canLayAll0, Bool.and_eq_true] at c
    exact .cons (Rep.dp r c.1) (Reps.dp rs c.2)
end
theorem lay_of {x : PyData} (h : SeqAt.shaped x = true) : x.canLay0 = true := by
  unfold SeqAt.shaped at h
  rw [Bool.and_eq_true] at h
  exact h.1
def eqOk (x : D) : Bool := SeqAt.shaped (dat x)
def dEq (x y : D) : Option (Kd × D) := if eqOk x && eqOk y then some (.new, .bl (PyData.eqv (dat x) (dat y))) else none
def dNe (x y : D) : Option (Kd × D) := if eqOk x && eqOk y then some (.new, .bl (!PyData.eqv (dat x) (dat y))) else none
theorem v_eq (K : PySem.W.Frag) : V2 (rEqD K) dEq := by
  intro H x y v w as bs k d Q r1 r2 hf hq
  unfold dEq at hf
  split at hf
  · rename_i h
    cases hf
    rw [Bool.and_eq_true] at h
    exact ⟨dat x, dat y, r1.dp (lay_of h.1), r2.dp (lay_of h.2), h.1, h.2, hq _ H [] (Ex.refl H) (.bl _) KdOk.nil⟩
  · cases hf
theorem v_ne (K : PySem.W.Frag) : V2 (rNeD K) dNe := by
  intro H x y v w as bs k d Q r1 r2 hf hq
  unfold dNe at hf
  split at hf
  · rename_i h
    cases hf
    rw [Bool.and_eq_true] at h
    exact ⟨dat x, dat y, r1.dp (lay_of h.1), r2.dp (lay_of h.2), h.1, h.2, hq _ H [] (Ex.refl H) (.bl _) KdOk.nil⟩
  · cases hf
def isNon : D → Bool
  | .non => true
  | _ => false
def dIsNot (x y : D) : Option (Kd × D) := match y with
  | .non => some (.new, .bl (!isNon x))
  | _ => none
theorem Rep.isNon {H : Hp} {d : D} {v : V} {as : List Addr} (r : Rep H d v as) : decide (v = V.non) = CB.isNon d := by cases r <;> simp [CB.isNon]
theorem v_isnot : V2 (fun x y H Q => y = .non ∧ Q (.bl (!decide (x = .non))) H) dIsNot := by
  intro H x y v w as bs k d Q r1 r2 hf hq
  cases r2 <;> simp only [dIsNot] at hf <;> cases hf
  refine ⟨rfl, ?_⟩
  rw [r1.isNon]
  exact hq _ H [] (Ex.refl H) (.bl _) KdOk.nil

def dIx : D → D → Option (Kd × D)
  | .lst xs, .int i => match atI xs i with
    | some d => some (if noL d then .new else .lin, d)
    | none => none
  | .frz xs, .int i => match atI xs i with
    | some d => some (if noL d then .new else .lin, d)
    | none => none
  | .tup xs, .int i => match atI xs i with
    | some d => some (if noL d then .new else .lin, d)
    | none => none
  | .str z, .int i => match atI z.cps.toList i with
    | some c => if szOk z.length then some (.new, .str ⟨#[c]⟩) else none
    | none => none
  | _, _ => none
theorem Reps.atI {H : Hp} {xs : List D} {vs : List V} {as : List Addr} {i : Int} {d : D} (r : Reps H xs vs as) (h : L2.atI xs i = some d) : ∃ v bs cs es, L2.atI vs i = some v ∧ Rep H d v bs ∧ as = cs ++ bs ++ es := by
  unfold L2.atI at h ⊢
  rw [r.length] at h
  cases e : ixN vs.length i with
  | none => rw [e] at h; cases h
  | some j =>
    rw [e] at h
    exact r.get h
theorem kd_sub {H : Hp} {d : D} {v : V} {as bs cs es : List Addr} (r : Rep H d v bs) (e : as = cs ++ bs ++ es) (more : List Addr) : KdOk (if noL d = true then Kd.new else Kd.lin) H (more ++ as) bs := by
  split
  · rename_i h; rw [r.noL h]; exact KdOk.nil
  · refine .mk2 (fun a ha => .inr ?_) fun hn => ?_
    · rw [e]
      exact List.mem_append_right _ (List.mem_append_left _ (List.mem_append_right _ ha))
    · rw [e] at hn
      have h1 : (cs ++ bs ++ es).Nodup := (List.nodup_append.mp hn).2.1
      have h2 := (List.nodup_append.mp h1).1
      exact (List.nodup_append.mp h2).2.1
theorem v_ix (K : PySem.W.Frag) : V2 (rIx K) dIx := by
  intro H x y v w as bs k d Q r1 r2 hf hq
  cases r2 with
  | int i =>
    cases r1 with
    | @lst a vs xs as' h1 s1 =>
      simp only [dIx] at hf
      split at hf
      · rename_i d' hd
        cases hf
        obtain ⟨v, bs, cs, es, e1, e2, e3⟩ := s1.atI hd
        refine .inl ⟨a, vs, i, v, rfl, rfl, SqL.of h1, e1, hq _ H bs (Ex.refl H) e2 ?_⟩
        have := kd_sub e2 e3 [a]
        simpa using this
      · cases hf
    | @frz a o vs xs h1 s1 =>
      simp only [dIx] at hf
      split at hf
      · rename_i d' hd
        cases hf
        obtain ⟨v, bs, cs, es, e1, e2, e3⟩ := s1.atI hd
        refine .inl ⟨a, vs, i, v, rfl, rfl, SqL.frz h1, e1, hq _ H bs (Ex.refl H) e2 ?_⟩
        have := kd_sub e2 e3 []
        simpa using this
      · cases hf
    | @tup a o vs xs _ h1 d1 s1 =>
      simp only [dIx] at hf
      split at hf
      · rename_i d' hd
        cases hf
        obtain ⟨v, bs, cs, es, e1, e2, e3⟩ := s1.atI hd
        refine .inr (.inl ⟨a, vs, i, v, rfl, rfl, SqT.frz h1, e1, hq _ H bs (Ex.refl H) e2 ?_⟩)
        have := kd_sub e2 e3 []
        simpa using this
      · cases hf
    | str z =>
      simp only [dIx] at hf
      split at hf
      · rename_i c hc
        split at hf
        · rename_i hz
          cases hf
          exact .inr (.inr ⟨z, i, c, rfl, rfl, szOk_le hz, hc, hq _ H [] (Ex.refl H) (.str _) KdOk.nil⟩)
        · cases hf
      · cases hf
    | _ => simp [dIx] at hf
  | _ => cases r1 <;> simp [dIx] at hf
end CB

namespace CB
open PySem L2 PySem.Spec PyProof.Rows
variable [CT]

section
variable {X : Cx} {E : XK}
def andP (a b : P) : P := fun env => (a env).bind fun _ x => match x with
  | .bl true => b env
  | .bl false => .ok true (.bl false)
  | _ => .no
def orP (a b : P) : P := fun env => (a env).bind fun _ x => match x with
  | .bl true => .ok true (.bl true)
  | .bl false => b env
  | _ => .no
def notP (a : P) : P := fun env => (a env).bind fun _ x => match x with
  | .bl b => .ok true (.bl (!b))
  | _ => .no
theorem snd_and {e1 e2 : Expr} {rest : List Expr} {p1 p2 : P} {pos : Pos} (h1 : SndP X E e1 p1) (h2 : SndP X E (.BoolOp .And (e2 :: rest) pos) p2) : SndP X E (.BoolOp .And (e1 :: e2 :: rest) pos) (andP p1 p2) := by
  obtain ⟨t, g1, s1⟩ := h1
  obtain ⟨u, g2, s2⟩ := h2
  refine ⟨_, pe_and g1 g2, fun S env σ H Q o w => s1 S env σ H _ o ?_⟩
  unfold andP at w
  cases hp : p1 env with
  | no => rw [hp] at w; exact w
  | ex x => rw [hp] at w; exact w
  | ok f d =>
    rw [hp] at w
    intro v H1 as e r _ _
    cases r with
    | bl b =>
      refine ⟨b, rfl, ?_⟩
      cases b with
      | true => exact iteT (s2 S env σ H1 Q (o.mono e) (PWant.mono w e))
      | false => exact iteF (w (.bl false) H1 [] e (.bl false) noMem fun _ => .nil H)
    | _ => exact (show False from w).elim
theorem snd_one {e1 : Expr} {op : BoolOp} {p1 : P} {pos : Pos} (h1 : SndP X E e1 p1) : SndP X E (.BoolOp op [e1] pos) p1 := by
  obtain ⟨t, g1, s1⟩ := h1
  exact ⟨_, pe_one g1, s1⟩
theorem snd_not {e1 : Expr} {p1 : P} {pos : Pos} (h1 : SndP X E e1 p1) : SndP X E (.UnaryOp .Not e1 pos) (notP p1) := by
  obtain ⟨t, g1, s1⟩ := h1
  refine ⟨_, pe_not g1, fun S env σ H Q o w => s1 S env σ H _ o ?_⟩
  unfold notP at w
  cases hp : p1 env with
  | no => rw [hp] at w; exact w
  | ex x => rw [hp] at w; exact w
  | ok f d =>
    rw [hp] at w
    intro v H1 as e r _ _
    cases r with
    | bl b => exact ⟨b, rfl, w (.bl (!b)) H1 [] e (.bl _) noMem fun _ => .nil H⟩
    | _ => exact (show False from w).elim
def SndW (X : Cx) (E : XK) (e : Expr) (p : P) : Prop := ∃ t, PW X e t ∧ ∀ (S : Addr → Prop) env σ H Q, ObsEnv S H env σ → TWant X.mg H Q E (p env) → t σ H Q
theorem SndW.t {e : Expr} {p : P} (h : SndW X E e p) : SndT X E e p := let ⟨t, a, b⟩ := h; ⟨t, a.pt, b⟩
theorem TWant.mono {mg : Str → Option Value} {H H1 : Hp} {Q : Bool → Hp → Prop} {r : PR} (w : TWant mg H Q E r) (e : Ex H H1) : TWant mg H1 Q E r := by
  cases r with
  | ok f d =>
    cases d with
    | bl b => exact fun H' e' => w H' (e.trans e')
    | _ => exact w
  | ex x => exact fun c dx H' e' r => w c dx H' (e.trans e') r
  | no => exact w
theorem sndw_and1 {e1 : Expr} {p1 : P} {pos : Pos} (h1 : SndT X E e1 p1) : SndW X E (.BoolOp .And [e1] pos) p1 := let ⟨_, g1, s1⟩ := h1; ⟨_, pw_and1 g1, s1⟩
theorem sndw_or1 {e1 : Expr} {p1 : P} {pos : Pos} (h1 : SndT X E e1 p1) : SndW X E (.BoolOp .Or [e1] pos) p1 := let ⟨_, g1, s1⟩ := h1; ⟨_, pw_or1 g1, s1⟩
theorem sndw_and {e1 e2 : Expr} {rest : List Expr} {p1 p2 : P} {pos : Pos} (h1 : SndT X E e1 p1) (h2 : SndW X E (.BoolOp .And (e2 :: rest) pos) p2) : SndW X E (.BoolOp .And (e1 :: e2 :: rest) pos) (andP p1 p2) := by
  obtain ⟨t, g1, s1⟩ := h1
  obtain ⟨u, g2, s2⟩ := h2
  refine ⟨_, pw_and g1 g2, fun S env σ H Q o w => s1 S env σ H _ o ?_⟩
  unfold andP at w
  cases hp : p1 env with
  | no => rw [hp] at w; exact w
  | ex x => rw [hp] at w; exact w
  | ok f d =>
    rw [hp] at w
    cases d with
    | bl b =>
      intro H1 e
      cases b with
      | true => exact iteT (s2 S env σ H1 Q (o.mono e) (TWant.mono w e))
      | false => exact iteF (w H1 e)
    | _ => exact (show False from w).elim
theorem sndw_or {e1 e2 : Expr} {rest : List Expr} {p1 p2 : P} {pos : Pos} (h1 : SndT X E e1 p1) (h2 : SndW X E (.BoolOp .Or (e2 :: rest) pos) p2) : SndW X E (.BoolOp .Or (e1 :: e2 :: rest) pos) (orP p1 p2) := by
  obtain ⟨t, g1, s1⟩ := h1
  obtain ⟨u, g2, s2⟩ := h2
  refine ⟨_, pw_or g1 g2, fun S env σ H Q o w => s1 S env σ H _ o ?_⟩
  unfold orP at w
  cases hp : p1 env with
  | no => rw [hp] at w; exact w
  | ex x => rw [hp] at w; exact w
  | ok f d =>
    rw [hp] at w
    cases d with
    | bl b =>
      intro H1 e
      cases b with
      | true => exact iteT (w H1 e)
      | false => exact iteF (s2 S env σ H1 Q (o.mono e) (TWant.mono w e))
    | _ => exact (show False from w).elim
theorem sndt_not {e1 : Expr} {p1 : P} {pos : Pos} (h1 : SndT X E e1 p1) : SndT X E (.UnaryOp .Not e1 pos) (notP p1) := by
  obtain ⟨t, g1, s1⟩ := h1
  refine ⟨_, pt_not g1, fun S env σ H Q o w => s1 S env σ H _ o ?_⟩
  unfold notP at w
  cases hp : p1 env with
  | no => rw [hp] at w; exact w
  | ex x => rw [hp] at w; exact w
  | ok f d =>
    rw [hp] at w
    cases d with
    | bl b => exact fun H1 e => w H1 e
    | _ => exact (show False from w).elim

def cutA {α : Type} (xs : List α) (lo hi : Option Int) : List α := (xs.drop (HT.sIx xs.length 0 lo)).take (HT.sIx xs.length xs.length hi - HT.sIx xs.length 0 lo)
def cutK (xs : List D) (lo hi : Option Int) : Kd := if noLs xs then .new else .lin
def dSl : D → Option Int → Option Int → Option (Kd × D)
  | .lst xs, lo, hi => some (cutK xs lo hi, .lst (cutA xs lo hi))
  | .tup xs, lo, hi => some (cutK xs lo hi, .tup (cutA xs lo hi))
  | .str s, lo, hi => if szOk s.length then some (.new, .str (cutS s lo hi)) else none
  | _, _, _ => none
def slEnd (f : Bool) (x : D) (l u : Option Int) : PR := match dSl x l u with
  | some (k, d) => .ok (k.fl (gfl f x)) d
  | none => .no
def slHi (f : Bool) (x : D) (l : Option Int) (hi : Option P) (env : Env) : PR := match hi with
  | none => slEnd f x l none
  | some q => (q env).bind fun _ z => match z with
    | .int j => slEnd f x l (some j)
    | _ => .no
def sliceP (a : P) (lo hi : Option P) : P := fun env => (a env).bind fun f x => match lo with
  | none => slHi f x none hi env
  | some q => (q env).bind fun _ y => match y with
    | .int i => slHi f x (some i) hi env
    | _ => .no
def rSlAll (K : PySem.W.Frag) : V → Option Int → Option Int → Hp → VK → Prop := fun x lo hi H Q => rSlL K x lo hi H Q ∨ rSlF K x lo hi H Q ∨ rSlS x lo hi H Q
end
end CB

namespace CB
open PySem L2 PySem.Spec PyProof.Rows
variable [CT]

section
variable {X : Cx} {E : XK}
theorem Reps.cut {H : Hp} {xs : List D} {vs : List V} {as : List Addr} (r : Reps H xs vs as) (lo hi : Option Int) : ∃ bs cs es, Reps H (cutA xs lo hi) (cutV vs lo hi) bs ∧ as = cs ++ bs ++ es := by
  unfold cutA cutV
  rw [r.length]
  obtain ⟨bs, cs, h1, h2⟩ := r.drop (HT.sIx vs.length 0 lo)
  obtain ⟨bs', cs', h3, h4⟩ := h1.take (HT.sIx vs.length vs.length hi - HT.sIx vs.length 0 lo)
  exact ⟨bs', cs, cs', h3, by rw [h2, h4]; simp [List.append_assoc]⟩
theorem noLs_take : ∀ (xs : List D) (n : Nat), noLs xs = true → noLs (xs.take n) = true
  | _, 0, _ => by simp [noLs]
  | [], _ + 1, h => by simpa using h
  | x :: xs, n + 1, h => by simp only [noLs, List.take_succ_cons, Bool.and_eq_true] at h ⊢; exact ⟨h.1, noLs_take xs n h.2⟩
theorem noLs_drop : ∀ (xs : List D) (n : Nat), noLs xs = true → noLs (xs.drop n) = true
  | _, 0, h => h
  | [], _ + 1, h => by simpa using h
  | x :: xs, n + 1, h => by simp only [noLs, List.drop_succ_cons, Bool.and_eq_true] at h ⊢; exact noLs_drop xs n h.2
theorem noLs_cut {xs : List D} (lo hi : Option Int) (h : noLs xs = true) : noLs (cutA xs lo hi) = true := noLs_take _ _ (noLs_drop _ _ h)
theorem nodup_sub {as bs cs es : List Addr} (e : as = cs ++ bs ++ es) (h : as.Nodup) : bs.Nodup := by
  rw [e] at h
  exact (List.nodup_append.mp (List.nodup_append.mp h).1).2.1
theorem mem_sub {as bs cs es : List Addr} (e : as = cs ++ bs ++ es) {a : Addr} (h : a ∈ bs) : a ∈ as := by
  rw [e]; exact List.mem_append_left _ (List.mem_append_right _ h)
theorem v_sl (K : PySem.W.Frag) {H : Hp} {x d : D} {v : V} {as : List Addr} {lo hi : Option Int} {k : Kd} {Q : VK} (r : Rep H x v as) (hf : dSl x lo hi = some (k, d)) (hq : ∀ u H' cs, Ex H H' → Rep H' d u cs → KdOk k H as cs → Q u H') : rSlAll K v lo hi H Q := by
  cases r with
  | @lst a vs xs as' h1 s1 =>
    simp only [dSl, Option.some.injEq, Prod.mk.injEq] at hf; obtain ⟨rfl, rfl⟩ := hf
    obtain ⟨bs, cs, es, r2, e2⟩ := s1.cut lo hi
    refine .inl ⟨a, vs, rfl, SqL.of h1, fun p hp => hq _ _ (p :: bs) (Ex.new hp) (.newL hp r2) ?_⟩
    unfold cutK
    split
    · rename_i hn
      rw [r2.noL (noLs_cut lo hi hn)]
      exact .mk1 ⟨by simp, fun c hc => by simp at hc; rw [hc]; exact hp⟩
    · refine .mk2 (fun c hc => ?_) fun hnd => List.nodup_cons.mpr ⟨fun m => s1.ne p (mem_sub e2 m) hp, nodup_sub e2 (List.nodup_cons.mp hnd).2⟩
      rcases List.mem_cons.mp hc with e | hc
      · rw [e]; exact .inl hp
      · exact .inr (List.mem_cons_of_mem _ (mem_sub e2 hc))
  | @tup a o vs xs _ h1 d1 s1 =>
    simp only [dSl, Option.some.injEq, Prod.mk.injEq] at hf; obtain ⟨rfl, rfl⟩ := hf
    obtain ⟨bs, cs, es, r2, e2⟩ := s1.cut lo hi
    have kk : KdOk (cutK xs lo hi) H as bs := by
      unfold cutK
      split
      · rename_i hn
        rw [r2.noL (noLs_cut lo hi hn)]
        exact KdOk.nil
      · exact .mk2 (fun c hc => .inr (mem_sub e2 hc)) fun hnd => nodup_sub e2 hnd
    refine .inr (.inl ⟨a, vs, rfl, SqT.frz h1, fun hw => ?_, fun _ p o hp hd => hq _ _ bs (Ex.new hp) (.newT hp hd r2) kk⟩)
    have e1 : cutV vs lo hi = vs := by
      unfold cutV
      rw [hw.1, hw.2]
      simp
    rw [e1] at r2
    exact hq _ H bs (Ex.refl H) (.tup h1 d1 r2) kk
  | str s =>
    simp only [dSl] at hf
    split at hf
    · rename_i hz
      cases hf
      exact .inr (.inr ⟨s, rfl, szOk_le hz, hq _ H [] (Ex.refl H) (.str _) KdOk.nil⟩)
    · cases hf
  | _ => simp [dSl] at hf
def SndO (X : Cx) (E : XK) (e : Option Expr) (q : Option P) : Prop := ∃ t, PO X e t ∧ ∀ (S : Addr → Prop) env σ H (R : Option Int → Hp → Prop), ObsEnv S H env σ → (match q with
    | none => R none H
    | some p => match p env with
      | .ok _ (.int i) => ∀ H', Ex H H' → R (some i) H'
      | .ok _ _ => False
      | .ex x => ∀ c dx H', Ex H H' → XR X.mg x c dx H' → E c dx H'
      | .no => False) → t σ H R
theorem sndo_none : SndO X E none none := ⟨_, po_none, fun S _ _ H R _ h => h⟩
theorem sndo_some {e : Expr} {p : P} (h : SndP X E e p) : SndO X E (some e) (some p) := by
  obtain ⟨t, h1, h2⟩ := h
  refine ⟨_, po_some h1, fun S env σ H R o w => h2 S env σ H _ o ?_⟩
  simp only at w
  cases hp : p env with
  | no => rw [hp] at w; exact w
  | ex x => rw [hp] at w; exact w
  | ok f d =>
    rw [hp] at w
    intro v H' as e r _ _
    cases r with
    | int i => exact ⟨i, rfl, w H' e⟩
    | _ => exact (show False from w).elim
theorem snd_slice {e : Expr} {lo hi : Option Expr} {p : P} {pl ph : Option P} {p2 pos : Pos} (he : SndP X E e p) (hl : SndO X E lo pl) (hh : SndO X E hi ph) : SndP X E (.Subscript e (.Slice lo hi none p2) pos) (sliceP p pl ph) := by
  obtain ⟨t, h1, h2⟩ := he
  obtain ⟨tl, l1, l2⟩ := hl
  obtain ⟨th, u1, u2⟩ := hh
  refine ⟨_, pe_slice (r := rSlAll X.K) (sl_list.or (sl_tupF.or sl_str)) h1 l1 u1, fun S env σ H Q o w => h2 S env σ H _ o ?_⟩
  unfold sliceP at w
  cases hp : p env with
  | no => rw [hp] at w; exact w
  | ex x => rw [hp] at w; exact w
  | ok f x =>
    rw [hp] at w
    intro v H1 as e1 r1 m1 n1
    have fin : ∀ (l u : Option Int) (H3 : Hp), Ex H1 H3 → PWant S X.mg H Q E (slEnd f x l u) → rSlAll X.K v l u H3 Q := by
      intro l u H3 e3 w
      unfold slEnd at w
      cases hs : dSl x l u with
      | none => rw [hs] at w; exact w.elim
      | some kd =>
        obtain ⟨k, d⟩ := kd
        rw [hs] at w
        refine v_sl X.K (r1.mono e3) hs fun z H4 cs e4 r4 kk => w z H4 cs ((e1.trans e3).trans e4) r4 (kd_mem (e1.trans e3) m1 kk) (kd_new (e1.trans e3) (fun g => gfl_new g r1 n1) kk)
    have upper : ∀ (l : Option Int) (H2 : Hp), Ex H1 H2 → PWant S X.mg H Q E (slHi f x l ph env) → th σ H2 fun u H3 => rSlAll X.K v l u H3 Q := by
      intro l H2 e2 w
      refine u2 S env σ H2 _ (o.mono (e1.trans e2)) ?_
      unfold slHi at w
      cases ph with
      | none => exact fin l none H2 e2 w
      | some q =>
        simp only at w ⊢
        cases hq : q env with
        | no => rw [hq] at w; exact w
        | ex x => rw [hq] at w; exact fun c dx H' e' r => w c dx H' ((e1.trans e2).trans e') r
        | ok f2 z =>
          rw [hq] at w
          cases z with
          | int j => exact fun H3 e3 => fin l (some j) H3 (e2.trans e3) w
          | _ => exact (show False from w).elim
    refine l2 S env σ H1 _ (o.mono e1) ?_
    cases pl with
    | none => exact upper none H1 (Ex.refl H1) w
    | some q =>
      simp only at w ⊢
      cases hq : q env with
      | no => rw [hq] at w; exact w
      | ex x => rw [hq] at w; exact fun c dx H' e' r => w c dx H' (e1.trans e') r
      | ok f2 z =>
        rw [hq] at w
        cases z with
        | int i => exact fun H2 e2 => upper (some i) H2 e2 w
        | _ => exact (show False from w).elim

def VN (r : List V → Hp → VK → Prop) (f : List D → Option (Kd × D)) : Prop := ∀ H ds vs as k d (Q : VK), Reps H ds vs as → f ds = some (k, d) → (∀ u H' cs, Ex H H' → Rep H' d u cs → KdOk k H as cs → Q u H') → r vs H Q
def opN (f : List D → Option (Kd × D)) (ps : List P) : P := fun env => (args ps env).bind fun g ds => match f ds with
  | some (k, d) => .ok (k.fl g) d
  | none => .no
theorem snd_opN {e : Expr} {es : List Expr} {ps : List P} {r : List V → Hp → VK → Prop} {f : List D → Option (Kd × D)} (mk : ∀ {t}, PA X es t → PE X e (tCB r t)) (hv : VN r f) (h : SndA X E es ps) : SndP X E e (opN f ps) := by
  obtain ⟨t, h1, h2⟩ := h
  refine ⟨_, mk h1, fun S env σ H Q o w => h2 S env σ H _ o ?_⟩
  unfold opN at w
  cases hp : args ps env with
  | no => rw [hp] at w; exact w
  | ex x => rw [hp] at w; exact w
  | ok g ds =>
    rw [hp] at w
    intro vs H1 as e1 r1 m1 n1
    simp only [AR.bind] at w
    cases hf : f ds with
    | none => rw [hf] at w; exact w.elim
    | some kd =>
      obtain ⟨k, d⟩ := kd
      rw [hf] at w
      exact hv H1 ds vs as k d Q r1 hf fun z H2 cs e2 r2 kk => w z H2 cs (e1.trans e2) r2 (kd_mem e1 m1 kk) (kd_new e1 n1 kk)
def dTup (ds : List D) : Option (Kd × D) := if szOk ds.length then some (.lin, .tup ds) else none
def dLst (ds : List D) : Option (Kd × D) := if szOk ds.length then some (.lin, .lst ds) else none
theorem v_tup : VN (fun xs H1 Q => xs.length ≤ sizeLine ∧ NewT xs H1 Q) dTup := by
  intro H ds vs as k d Q r hf hq
  unfold dTup at hf
  split at hf
  · rename_i hz
    cases hf
    refine ⟨by rw [← r.length]; exact szOk_le hz, fun p o hp hd => hq _ _ as (Ex.new hp) (.newT hp hd r) (.mk2 (fun a h => .inr h) fun hn => hn)⟩
  · cases hf
theorem v_lst : VN (fun xs H1 Q => xs.length ≤ sizeLine ∧ ∀ p, H1 p = none → Q (.ref p) (upd H1 p (.lst xs))) dLst := by
  intro H ds vs as k d Q r hf hq
  unfold dLst at hf
  split at hf
  · rename_i hz
    cases hf
    refine ⟨by rw [← r.length]; exact szOk_le hz, fun p hp => hq _ _ (p :: as) (Ex.new hp) (.newL hp r) (.mk2 (fun a h => ?_) fun hn => List.nodup_cons.mpr ⟨fun m => r.ne p m hp, hn⟩)⟩
    rcases List.mem_cons.mp h with e | h
    · rw [e]; exact .inl hp
    · exact .inr h
  · cases hf
theorem snd_tup {es : List Expr} {ps : List P} {k : Nat} {pos : Pos} (h : SndA X E es ps) : SndP X E (.Tuple es k pos) (opN dTup ps) := snd_opN (fun a => pe_tupF a) v_tup h
theorem snd_lst {es : List Expr} {ps : List P} {pos : Pos} (h : SndA X E es ps) : SndP X E (.List es pos) (opN dLst ps) := snd_opN (fun a => pe_lst a) v_lst h
theorem snd_b {x : Str} {id : String} {e : Expr} {es : List Expr} {ps : List P} {p pos : Pos} {r : List V → Hp → VK → Prop} {f : List D → Option (Kd × D)} (hc : CallR X (.builtin id) r) (hv : VN r f) (hg : Gl X x) (hm : X.mg x = none) (hb : bootBuiltins x = some (.builtin id)) (h : SndA X E (e :: es) ps)
    (hn : x ≠ "__name__" := by decide) (hdb : (x == ("__debug__" : Str)) = false := by decide) (he : starEach (e :: es) X.env = (false, eval e X.env) :: starEach es X.env := by rfl) (hpl : (backTo pos (starEach es X.env)).any (·.1) = false := by rfl) :
    SndP X E (.Call (.Name x p) (e :: es) [] pos) (opN f ps) := snd_opN (fun a => pe_callB hc hg hm hb a hn hdb he hpl) hv h
theorem snd_ty {x : Str} {T : String} {e : Expr} {es : List Expr} {ps : List P} {p pos : Pos} {r : List V → Hp → VK → Prop} {f : List D → Option (Kd × D)} (hc : CallR X (.type T) r) (hv : VN r f) (hg : Gl X x) (hm : X.mg x = none) (hb : bootBuiltins x = some (.type T)) (h : SndA X E (e :: es) ps)
    (hn : x ≠ "__name__" := by decide) (hdb : (x == ("__debug__" : Str)) = false := by decide) (he : starEach (e :: es) X.env = (false, eval e X.env) :: starEach es X.env := by rfl) (hpl : (backTo pos (starEach es X.env)).any (·.1) = false := by rfl) :
    SndP X E (.Call (.Name x p) (e :: es) [] pos) (opN f ps) := snd_opN (fun a => pe_callTy hc hg hm hb a hn hdb he hpl) hv h

def dLen : List D → Option (Kd × D)
  | [.lst xs] => some (.new, .int xs.length)
  | [.tup xs] => some (.new, .int xs.length)
  | [.frz xs] => some (.new, .int xs.length)
  | [.str s] => if szOk s.length then some (.new, .int s.length) else none
  | _ => none
theorem Reps.one {H : Hp} {d : D} {vs : List V} {as : List Addr} (r : Reps H [d] vs as) : ∃ v, vs = [v] ∧ Rep H d v as := by
  cases r with
  | cons r rs => cases rs; exact ⟨_, rfl, by simpa using r⟩
theorem Reps.two {H : Hp} {d e : D} {vs : List V} {as : List Addr} (r : Reps H [d, e] vs as) : ∃ v w bs cs, vs = [v, w] ∧ Rep H d v bs ∧ Rep H e w cs ∧ as = bs ++ cs := by
  cases r with
  | cons r rs =>
    obtain ⟨w, e, r2⟩ := rs.one
    subst e
    exact ⟨_, w, _, _, rfl, r, r2, rfl⟩
theorem v_len (K : PySem.W.Frag) : VN (fun xs H Q => ∃ x n, xs = [x] ∧ LenV K x H n ∧ Q (.int n) H) dLen := by
  intro H ds vs as k d Q r hf hq
  match ds, hf with
  | [.lst xs], hf =>
    cases hf
    obtain ⟨v, rfl, r1⟩ := r.one
    cases r1 with
    | lst h s => exact ⟨_, _, rfl, .inl ⟨_, SqL.of h, rfl⟩, by rw [← s.length]; exact hq _ H [] (Ex.refl H) (.int _) KdOk.nil⟩
  | [.tup xs], hf =>
    cases hf
    obtain ⟨v, rfl, r1⟩ := r.one
    cases r1 with
    | tup h _ s => exact ⟨_, _, rfl, .inr ⟨_, SqT.frz h, rfl⟩, by rw [← s.length]; exact hq _ H [] (Ex.refl H) (.int _) KdOk.nil⟩
  | [.frz xs], hf =>
    cases hf
    obtain ⟨v, rfl, r1⟩ := r.one
    cases r1 with
    | frz h s => exact ⟨_, _, rfl, .inl ⟨_, SqL.frz h, rfl⟩, by rw [← s.length]; exact hq _ H [] (Ex.refl H) (.int _) KdOk.nil⟩
  | [.str s], hf =>
    simp only [dLen] at hf
    split at hf
    · rename_i hz
      cases hf
      obtain ⟨v, rfl, r1⟩ := r.one
      cases r1
      exact ⟨_, _, rfl, ⟨szOk_le hz, rfl⟩, hq _ H [] (Ex.refl H) (.int _) KdOk.nil⟩
    · cases hf
def dAll : List D → Option (Kd × D)
  | [.lst xs] => match toBls xs with
    | some bs => some (.new, .bl (bs.all id))
    | none => none
  | _ => none
theorem v_all (K : PySem.W.Frag) : VN (rAll K) dAll := by
  intro H ds vs as k d Q r hf hq
  match ds, hf with
  | [.lst xs], hf =>
    simp only [dAll] at hf
    split at hf
    · rename_i bs hb
      cases hf
      obtain ⟨v, rfl, r1⟩ := r.one
      cases r1 with
      | lst h s =>
        have e := Reps.bls hb s
        exact ⟨_, bs, rfl, by rw [← e]; exact SqL.of h, hq _ H [] (Ex.refl H) (.bl _) KdOk.nil⟩
    · cases hf
def dMax2 : List D → Option (Kd × D)
  | [.int i, .int j] => some (.new, .int (if j > i then j else i))
  | _ => none
def dMin2 : List D → Option (Kd × D)
  | [.int i, .int j] => some (.new, .int (if j < i then j else i))
  | _ => none
theorem v_max2 : VN (fun xs H Q => ∃ i j, xs = [.int i, .int j] ∧ Q (.int (if j > i then j else i)) H) dMax2 := by
  intro H ds vs as k d Q r hf hq
  match ds, hf with
  | [.int i, .int j], hf =>
    cases hf
    obtain ⟨v, w, _, _, rfl, r1, r2, _⟩ := r.two
    cases r1; cases r2
    exact ⟨i, j, rfl, hq _ H [] (Ex.refl H) (.int _) KdOk.nil⟩
theorem v_min2 : VN (fun xs H Q => ∃ i j, xs = [.int i, .int j] ∧ Q (.int (if j < i then j else i)) H) dMin2 := by
  intro H ds vs as k d Q r hf hq
  match ds, hf with
  | [.int i, .int j], hf =>
    cases hf
    obtain ⟨v, w, _, _, rfl, r1, r2, _⟩ := r.two
    cases r1; cases r2
    exact ⟨i, j, rfl, hq _ H [] (Ex.refl H) (.int _) KdOk.nil⟩
def dListOf : List D → Option (Kd × D)
  | [.lst xs] => some (if noLs xs then .new else .lin, .lst xs)
  | [.frz xs] => some (if noLs xs then .new else .lin, .lst xs)
  | [.tup xs] => some (if noLs xs then .new else .lin, .lst xs)
  | _ => none
theorem kd_new1 {H : Hp} {p : Addr} {xs : List D} {vs : List V} {as : List Addr} (hp : H p = none) (r : Reps H xs vs as) (more : List Addr) : KdOk (if noLs xs = true then Kd.new else Kd.lin) H (more ++ as) (p :: as) := by
  split
  · rename_i h
    rw [r.noL h]
    exact .mk1 ⟨by simp, fun c hc => by simp at hc; rw [hc]; exact hp⟩
  · refine .mk2 (fun a h => ?_) fun hn => List.nodup_cons.mpr ⟨fun m => r.ne p m hp, (List.nodup_append.mp hn).2.1⟩
    rcases List.mem_cons.mp h with e | h
    · rw [e]; exact .inl hp
    · exact .inr (List.mem_append_right _ h)
theorem kd_same {H : Hp} {xs : List D} {vs : List V} {as : List Addr} (r : Reps H xs vs as) (more : List Addr) : KdOk (if noLs xs = true then Kd.new else Kd.lin) H (more ++ as) as := by
  split
  · rename_i h
    rw [r.noL h]
    exact KdOk.nil
  · exact .mk2 (fun a h => .inr (List.mem_append_right _ h)) fun hn => (List.nodup_append.mp hn).2.1
theorem v_listOf (K : PySem.W.Frag) : VN (fun xs H Q => ∃ p ys, xs = [.ref p] ∧ (SqL K H p ys ∨ SqT K H p ys) ∧ ∀ l, H l = none → Q (.ref l) (upd H l (.lst ys))) dListOf := by
  intro H ds vs as k d Q r hf hq
  match ds, hf with
  | [.lst xs], hf =>
    cases hf
    obtain ⟨v, rfl, r1⟩ := r.one
    cases r1 with
    | @lst a vs _ as' h s => exact ⟨_, _, rfl, .inl (SqL.of h), fun l hl => hq _ _ (l :: as') (Ex.new hl) (.newL hl s) (kd_new1 hl s [a])⟩
  | [.frz xs], hf =>
    cases hf
    obtain ⟨v, rfl, r1⟩ := r.one
    cases r1 with
    | frz h s => exact ⟨_, _, rfl, .inl (SqL.frz h), fun l hl => hq _ _ [l] (Ex.new hl) (.newL hl s) (kd_new1 hl s [])⟩
  | [.tup xs], hf =>
    cases hf
    obtain ⟨v, rfl, r1⟩ := r.one
    cases r1 with
    | tup h _ s => exact ⟨_, _, rfl, .inr (SqT.frz h), fun l hl => hq _ _ (l :: as) (Ex.new hl) (.newL hl s) (kd_new1 hl s [])⟩
def dTupOf : List D → Option (Kd × D)
  | [.lst xs] => some (if noLs xs then .new else .lin, .tup xs)
  | [.tup xs] => some (if noLs xs then .new else .lin, .tup xs)
  | _ => none
theorem v_tupOf (K : PySem.W.Frag) : VN (rTupOf K) dTupOf := by
  intro H ds vs as k d Q r hf hq
  match ds, hf with
  | [.lst xs], hf =>
    cases hf
    obtain ⟨v, rfl, r1⟩ := r.one
    cases r1 with
    | @lst a vs _ as' h s => exact ⟨_, _, rfl, .inl ⟨SqL.of h, fun p o hp hd => hq _ _ as' (Ex.new hp) (.newT hp hd s) (kd_same s [a])⟩⟩
  | [.tup xs], hf =>
    cases hf
    obtain ⟨v, rfl, r1⟩ := r.one
    cases r1 with
    | tup h hd s => exact ⟨_, _, rfl, .inr ⟨SqT.frz h, hq _ H as (Ex.refl H) (.tup h hd s) (kd_same s [])⟩⟩
def tyN : D → Option String
  | .non => some "NoneType"
  | .bl _ => some "bool"
  | .int _ => some "int"
  | .str _ => some "str"
  | .tup _ => some "tuple"
  | .lst _ => some "list"
  | .frz _ => some "list"
  | _ => none
def isT (T : String) (d : D) : Option (Kd × D) := match tyN d with
  | some t => match kitB t T with
    | some b => some (.new, .bl b)
    | none => none
  | none => none
theorem Rep.tyx {K : PySem.W.Frag} {H : Hp} {d : D} {v : V} {as : List Addr} {t : String} (r : Rep H d v as) (h : tyN d = some t) : TyX K H v (.type t) := by
  cases r <;> simp only [tyN, Option.some.injEq] at h <;> first | subst h | cases h
  · exact .base .non
  · exact .base (.bl _)
  · exact .base (.int _)
  · exact .base (.str _)
  · rename_i h _ _; exact .fTuple h
  · rename_i h _; exact .base (.lst h)
  · rename_i h _; exact .base (.frz h)
def op1 (f : D → Option (Kd × D)) (a : P) : P := fun env => (a env).bind fun fa x => match f x with
  | some (k, d) => .ok (k.fl (gfl fa x)) d
  | none => .no
theorem snd_isT {e : Expr} {p : P} {T : String} {x : Str} {p1 p2 pos : Pos} (h : SndP X E e p) (hg : Gl X "isinstance") (hm : X.mg "isinstance" = none) (hg2 : Gl X x) (hm2 : X.mg x = none) (hb : bootBuiltins x = some (.type T))
    (hn : x ≠ "__name__" := by decide) (hdb : (x == ("__debug__" : Str)) = false := by decide) (he : starEach [e, .Name x p2] X.env = (false, eval e X.env) :: starEach [.Name x p2] X.env := by rfl) (he2 : starEach [.Name x p2] X.env = (false, eval (.Name x p2) X.env) :: starEach [] X.env := by rfl)
    (hpl : (backTo pos (starEach [.Name x p2] X.env)).any (·.1) = false := by rfl) :
    SndP X E (.Call (.Name "isinstance" p1) [e, .Name x p2] [] pos) (op1 (isT T) p) := by
  obtain ⟨t, h1, h2⟩ := h
  refine ⟨_, pe_callB call_isi hg hm (by decide +kernel) (pa_cons h1 (pa_cons (pe_bltn (v := .ty T) hg2 hm2 hb rfl hn hdb) pa_nil he2) he) (by decide) (by decide) he hpl, fun S env σ H Q o w => h2 S env σ H _ o ?_⟩
  unfold op1 at w
  cases hp : p env with
  | no => rw [hp] at w; exact w
  | ex x => rw [hp] at w; exact w
  | ok f d =>
    rw [hp] at w
    intro v H1 as e1 r1 _ _
    simp only [PR.bind, isT] at w
    cases ht : tyN d with
    | none => rw [ht] at w; exact w.elim
    | some t =>
      rw [ht] at w
      simp only at w
      cases hk : kitB t T with
      | none => rw [hk] at w; exact w.elim
      | some b =>
        rw [hk] at w
        exact ⟨v, .ty T, .type t, .type T, b, rfl, .ty T, r1.tyx ht, kit_ty hk, w _ H1 [] e1 (.bl b) noMem fun _ => .nil H⟩
end
end CB

namespace CB
open PySem L2 PySem.Spec PyProof.Rows
variable [CT]

inductive IR where
  | ok (f : Bool) (ds : List D) | ex (x : Xn) | no
abbrev I := Env → IR
def Holds (fx : Addr → HO → Prop) (H : Hp) : Prop := ∀ a o, fx a o → Kp H a o
structure Serves (J : It) (fx : Addr → HO → Prop) (ds : List D) (cD : Nat → List D) (cV : Nat → List V) : Prop where
  go : ∀ i H, i < ds.length → Holds fx H → J.go i H
  yld : ∀ i H x H', Holds fx H → J.yld i H x H' → ∀ d, ds[i]? = some d → Ex H H' ∧ ∀ as, Reps H (cD i) (cV i) as → Rep H' d x as
  stop : ∀ i H, ds.length ≤ i → Holds fx H → J.stop i H
  nol : ∀ i d, ds[i]? = some d → noL d = true → noLs (cD i) = true
def IWant (S : Addr → Prop) (mg : Str → Option Value) (H : Hp) (R : It → Hp → Prop) (E : XK) : IR → Prop
  | .ok f ds => ∀ J H' fx cD cV, Ex H H' → Serves J fx ds cD cV → Holds fx H' → (∀ i, i < ds.length → ∃ as, Reps H' (cD i) (cV i) as ∧ ∀ a ∈ as, S a ∨ H a = none) →
      (f = true → ∀ a o, fx a o → H a = none ∨ Imm o = true) → (∀ a o, fx a o → S a ∨ H a = none ∨ Imm o = true) → R J H'
  | .ex x => ∀ c dx H', Ex H H' → XR mg x c dx H' → E c dx H'
  | .no => False
def SndI (X : Cx) (E : XK) (tg iter : Expr) (ι : I) : Prop := ∃ wi, PI X tg iter wi ∧ ∀ (S : Addr → Prop) env σ H R, ObsEnv S H env σ → IWant S X.mg H R E (ι env) → wi σ H R

section
variable {X : Cx} {E : XK} {tg : Expr}
def iSeqF (K : PySem.W.Frag) (tl : TE) : TI := fun σ H R => tl σ H fun x H1 => ∃ a, x = .ref a ∧ ((∃ xs, SqL K H1 a xs ∧ R (Itl K a) H1) ∨ (∃ xs, SqT K H1 a xs ∧ R (Itt K a) H1))
theorem pi_seqF {l : Expr} {tl : TE} (hl : PE X l tl) : PI X tg l (iSeqF X.K tl) := by
  refine ⟨fun pins s σ H R I h => ?_⟩
  refine thn (hl.run pins s σ H _ I h) fun v s1 ⟨x, H1, I1, r1, q1⟩ => ?_
  obtain ⟨a, e, q⟩ := q1
  subst e
  cases r1
  have fp : ∀ b ∈ [s1.heap.objs.size], FpOk X pins H1 b := fun b hb => by
    have e : b = s1.heap.objs.size := by simpa using hb
    subst e
    exact I1.fpOk (Nat.le_refl _) (I1.hok.fresh (Nat.le_refl _))
  rcases q with ⟨xs, hq, q⟩ | ⟨xs, hq, q⟩
  · obtain ⟨its, rv, p, hz⟩ := I1.list hq
    refine wpAny_pyIter_list p.isList ?_
    exact ⟨s1.heap.objs.size, [s1.heap.objs.size], _, _, H1, rfl, I1.kept (t' := s1.toks) fun b o e => Heap.get?_push_of_some _ e, turn_list a _, ⟨_, Heap.get?_push_size _ rfl, rfl, rfl⟩, fp, q⟩
  · obtain ⟨its, rv, p, hz⟩ := I1.tuple hq
    refine wpAny_pyIter_tuple (show s1.heap.IsTuple a its.toArray from p) ?_
    exact ⟨s1.heap.objs.size, [s1.heap.objs.size], _, _, H1, rfl, I1.kept (t' := s1.toks) fun b o e => Heap.get?_push_of_some _ e, turn_tuple a _, ⟨_, Heap.get?_push_size _ rfl, rfl, rfl⟩, fp, q⟩
theorem serves_list {K : PySem.W.Frag} {H : Hp} {a : Addr} {xs : List D} {vs : List V} {as : List Addr} (r : Reps H xs vs as) : Serves (Itl K a) (fun b o => b = a ∧ o = .lst vs) xs (fun i => (xs[i]?).toList) (fun i => (vs[i]?).toList) where
  go := fun i H hi hf => by
    have hl := r.length
    exact ⟨vs, vs[i]'(by omega), SqL.of (hf a _ ⟨rfl, rfl⟩).k, by simp⟩
  yld := fun i H x H' hf hy d hd => by
    obtain ⟨e, hy⟩ := hy
    subst e
    have := hy vs (SqL.of (hf a _ ⟨rfl, rfl⟩).k)
    refine ⟨Ex.refl _, fun as ra => ?_⟩
    simp only [hd, this, Option.toList] at ra
    obtain ⟨v, ev, rv⟩ := ra.one
    cases ev
    exact rv
  stop := fun i H hi hf => ⟨vs, SqL.of (hf a _ ⟨rfl, rfl⟩).k, by have hl := r.length; omega⟩
  nol := fun i d h hn => by simp only [h, Option.toList, noLs, hn, Bool.and_true]
theorem serves_frz {K : PySem.W.Frag} {H : Hp} {a : Addr} {o : Obj} {xs : List D} {vs : List V} {as : List Addr} (r : Reps H xs vs as) : Serves (Itl K a) (fun b u => b = a ∧ u = .frz o (.lst vs)) xs (fun i => (xs[i]?).toList) (fun i => (vs[i]?).toList) where
  go := fun i H hi hf => by
    have hl := r.length
    exact ⟨vs, vs[i]'(by omega), SqL.frz (hf a _ ⟨rfl, rfl⟩).k, by simp⟩
  yld := fun i H x H' hf hy d hd => by
    obtain ⟨e, hy⟩ := hy
    subst e
    have := hy vs (SqL.frz (hf a _ ⟨rfl, rfl⟩).k)
    refine ⟨Ex.refl _, fun as ra => ?_⟩
    simp only [hd, this, Option.toList] at ra
    obtain ⟨v, ev, rv⟩ := ra.one
    cases ev
    exact rv
  stop := fun i H hi hf => ⟨vs, SqL.frz (hf a _ ⟨rfl, rfl⟩).k, by have hl := r.length; omega⟩
  nol := fun i d h hn => by simp only [h, Option.toList, noLs, hn, Bool.and_true]
theorem serves_tup {K : PySem.W.Frag} {H : Hp} {a : Addr} {o : Obj} {xs : List D} {vs : List V} {as : List Addr} (r : Reps H xs vs as) : Serves (Itt K a) (fun b u => b = a ∧ u = .frz o (.tup vs)) xs (fun i => (xs[i]?).toList) (fun i => (vs[i]?).toList) where
  go := fun i H hi hf => by
    have hl := r.length
    exact ⟨vs, vs[i]'(by omega), SqT.frz (hf a _ ⟨rfl, rfl⟩).k, by simp⟩
  yld := fun i H x H' hf hy d hd => by
    obtain ⟨e, hy⟩ := hy
    subst e
    have := hy vs (SqT.frz (hf a _ ⟨rfl, rfl⟩).k)
    refine ⟨Ex.refl _, fun as ra => ?_⟩
    simp only [hd, this, Option.toList] at ra
    obtain ⟨v, ev, rv⟩ := ra.one
    cases ev
    exact rv
  stop := fun i H hi hf => ⟨vs, SqT.frz (hf a _ ⟨rfl, rfl⟩).k, by have hl := r.length; omega⟩
  nol := fun i d h hn => by simp only [h, Option.toList, noLs, hn, Bool.and_true]
theorem reps_each {S : Addr → Prop} {H H' : Hp} {xs : List D} {vs : List V} {as : List Addr} (r : Reps H' xs vs as) (m : ∀ a ∈ as, S a ∨ H a = none) : ∀ i, i < xs.length → ∃ bs, Reps H' (xs[i]?).toList (vs[i]?).toList bs ∧ ∀ a ∈ bs, S a ∨ H a = none := fun i hi => by
  have e : xs[i]? = some xs[i] := by simp
  obtain ⟨v, bs, cs, es, h1, h2, h3⟩ := r.get e
  refine ⟨bs, ?_, fun a h => m a (mem_sub h3 h)⟩
  rw [e, h1]
  have : Reps H' [xs[i]] [v] (bs ++ []) := .cons h2 .nil
  simpa using this
def iseq (p : P) : I := fun env => match p env with
  | .ok f (.lst xs) => .ok f xs
  | .ok _ (.frz xs) => .ok true xs
  | .ok _ (.tup xs) => .ok true xs
  | .ok _ _ => .no
  | .ex x => .ex x
  | .no => .no
theorem iseq_ok {S : Addr → Prop} {mg : Str → Option Value} {H H1 : Hp} {R : It → Hp → Prop} {K : PySem.W.Frag} {f : Bool} {d : D} {v : V} {as : List Addr} (e1 : Ex H H1) (r1 : Rep H1 d v as) (m1 : ∀ a ∈ as, S a ∨ H a = none) (n1 : f = true → New H as)
    (w : IWant S mg H R E (match (PR.ok f d) with
      | .ok f (.lst xs) => .ok f xs
      | .ok _ (.frz xs) => .ok true xs
      | .ok _ (.tup xs) => .ok true xs
      | .ok _ _ => .no
      | .ex x => .ex x
      | .no => .no)) : ∃ a, v = .ref a ∧ ((∃ xs, SqL K H1 a xs ∧ R (Itl K a) H1) ∨ (∃ xs, SqT K H1 a xs ∧ R (Itt K a) H1)) := by
  cases r1 with
  | @lst a vs xs as' h s =>
    refine ⟨a, rfl, .inl ⟨vs, SqL.of h, w _ H1 _ _ _ e1 (serves_list s) (fun b o ⟨z1, z2⟩ => by subst z1 z2; exact .of h) (reps_each s fun b hb => m1 b (List.mem_cons_of_mem _ hb)) (fun z b o ⟨z1, _⟩ => ?_) fun b o ⟨z1, _⟩ => ?_⟩⟩
    · subst z1; exact .inl ((n1 z).2 _ List.mem_cons_self)
    · subst z1; exact (m1 _ List.mem_cons_self).imp id .inl
  | @frz a ob vs xs h s =>
    refine ⟨a, rfl, .inl ⟨vs, SqL.frz h, w _ H1 (fun b u => b = a ∧ u = .frz ob (.lst vs)) _ _ e1 (serves_frz s) (fun b o ⟨z1, z2⟩ => by subst z1 z2; exact .of h) (reps_each s m1) (fun z b o ⟨_, z2⟩ => ?_) fun b o ⟨_, z2⟩ => ?_⟩⟩
    · subst z2; exact .inr rfl
    · subst z2; exact .inr (.inr rfl)
  | @tup a ob vs xs _ h hd' s =>
    refine ⟨a, rfl, .inr ⟨vs, SqT.frz h, w _ H1 (fun b u => b = a ∧ u = .frz ob (.tup vs)) _ _ e1 (serves_tup s) (fun b o ⟨z1, z2⟩ => by subst z1 z2; exact .of h) (reps_each s m1) (fun z b o ⟨_, z2⟩ => ?_) fun b o ⟨_, z2⟩ => ?_⟩⟩
    · subst z2; exact .inr rfl
    · subst z2; exact .inr (.inr rfl)
  | _ => exact (show False from w).elim
theorem sndi_seq {e : Expr} {p : P} (h : SndP X E e p) : SndI X E tg e (iseq p) := by
  obtain ⟨t, h1, h2⟩ := h
  refine ⟨_, pi_seqF h1, fun S env σ H R o w => h2 S env σ H _ o ?_⟩
  unfold iseq at w
  cases hp : p env with
  | no => rw [hp] at w; exact w
  | ex x => rw [hp] at w; exact w
  | ok f d =>
    rw [hp] at w
    intro v H1 as e1 r1 m1 n1
    exact iseq_ok e1 r1 m1 n1 w

def rgD (lo : Int) (n : Nat) : List D := (List.range n).map fun (k : Nat) => D.int (lo + k)
theorem rgD_length (lo : Int) (n : Nat) : (rgD lo n).length = n := by simp [rgD]
theorem rgD_get {lo : Int} {n i : Nat} {d : D} (h : (rgD lo n)[i]? = some d) : d = .int (lo + i) := by
  simp only [rgD, List.getElem?_map] at h
  cases e : (List.range n)[i]? with
  | none => rw [e] at h; cases h
  | some k =>
    rw [e] at h
    have := List.getElem?_range (n := n) (i := i)
    cases h
    have hk : k = i := by
      have h1 := (List.getElem?_eq_some_iff.mp e)
      obtain ⟨h1, h2⟩ := h1
      rw [List.getElem_range] at h2
      exact h2.symm
    rw [hk]
theorem serves_range (lo : Int) (n : Nat) : Serves (Itr lo n) (fun _ _ => False) (rgD lo n) (fun _ => []) (fun _ => []) where
  go := fun i H hi _ => by rw [rgD_length] at hi; exact hi
  yld := fun i H x H' _ hy d hd => by
    obtain ⟨e1, e2⟩ := hy
    subst e1 e2
    refine ⟨Ex.refl _, fun as r => ?_⟩
    cases r
    rw [rgD_get hd]
    exact .int _
  stop := fun i H hi _ => by rw [rgD_length] at hi; exact hi
  nol := fun _ _ _ _ => rfl
def rgSz (i : Int) : Bool := decide (-4611686018427387904 ≤ i) && decide (i < 4611686018427387904)
def irange1 (p : P) : I := fun env => match p env with
  | .ok _ (.int j) => if rgSz j then .ok true (rgD 0 j.toNat) else .no
  | .ok _ _ => .no
  | .ex x => .ex x
  | .no => .no
theorem sndi_range1 {e : Expr} {p : P} {p1 pos : Pos} (h : SndP X E e p) (hg : Gl X "range") (hm : X.mg "range" = none) (hs : starEach [e] X.env = [(false, eval e X.env)] := by rfl) : SndI X E tg (.Call (.Name "range" p1) [e] [] pos) (irange1 p) := by
  obtain ⟨t, h1, h2⟩ := h
  refine ⟨_, pi_range1 hg hm (pa_cons h1 pa_nil hs) hs, fun S env σ H R o w => h2 S env σ H _ o ?_⟩
  unfold irange1 at w
  cases hp : p env with
  | no => rw [hp] at w; exact w
  | ex x => rw [hp] at w; exact w
  | ok f d =>
    rw [hp] at w
    intro v H1 as e1 r1 _ _
    cases r1 with
    | int j =>
      simp only at w
      split at w
      · rename_i hz
        unfold rgSz at hz
        simp only [Bool.and_eq_true, decide_eq_true_eq] at hz
        exact ⟨j, rfl, by omega, by omega, w _ H1 _ _ _ e1 (serves_range 0 j.toNat) (fun a o z => z.elim) (fun i hi => ⟨[], .nil, noMem⟩) (fun _ a o z => z.elim) fun a o z => z.elim⟩
      · exact w.elim
    | _ => exact (show False from w).elim
def irange2 (p q : P) : I := fun env => match p env with
  | .ok _ (.int i) => match q env with
    | .ok _ (.int j) => if rgSz i && rgSz j then .ok true (rgD i (j - i).toNat) else .no
    | .ok _ _ => .no
    | .ex x => .ex x
    | .no => .no
  | .ok _ _ => .no
  | .ex x => .ex x
  | .no => .no
theorem sndi_range2 {e e2 : Expr} {p q : P} {p1 pos : Pos} (h : SndP X E e p) (h' : SndP X E e2 q) (hg : Gl X "range") (hm : X.mg "range" = none) (hs : starEach [e, e2] X.env = [(false, eval e X.env), (false, eval e2 X.env)] := by rfl) (hs2 : starEach [e2] X.env = [(false, eval e2 X.env)] := by rfl) : SndI X E tg (.Call (.Name "range" p1) [e, e2] [] pos) (irange2 p q) := by
  obtain ⟨t, h1, h2⟩ := h
  obtain ⟨u, g1, g2⟩ := h'
  refine ⟨_, pi_range2 hg hm (pa_cons h1 (pa_cons g1 pa_nil hs2) (by rw [hs, hs2])) hs hs2, fun S env σ H R o w => h2 S env σ H _ o ?_⟩
  unfold irange2 at w
  cases hp : p env with
  | no => rw [hp] at w; exact w
  | ex x => rw [hp] at w; exact w
  | ok f d =>
    rw [hp] at w
    intro v H1 as e1 r1 _ _
    cases r1 with
    | int i =>
      refine g2 S env σ H1 _ (o.mono e1) ?_
      simp only at w
      cases hq : q env with
      | no => rw [hq] at w; exact w
      | ex x => rw [hq] at w; exact fun c dx H' e' r => w c dx H' (e1.trans e') r
      | ok f2 d2 =>
        rw [hq] at w
        intro v2 H2 bs e2 r2 _ _
        cases r2 with
        | int j =>
          simp only at w
          split at w
          · rename_i hz
            unfold rgSz at hz
            simp only [Bool.and_eq_true, decide_eq_true_eq] at hz
            exact ⟨i, j, rfl, ⟨by omega, by omega, by omega, by omega⟩, w _ H2 _ _ _ (e1.trans e2) (serves_range i (j - i).toNat) (fun a o z => z.elim) (fun i hi => ⟨[], .nil, noMem⟩) (fun _ a o z => z.elim) fun a o z => z.elim⟩
          · exact w.elim
        | _ => exact (show False from w).elim
    | _ => exact (show False from w).elim

inductive Tgt where
  | nm (i : Nat) | tp (is : List Nat)
def setAll (env : Env) : List Nat → List D → Option Env
  | [], [] => some env
  | i :: is, d :: ds => setAll (env.set i (.val false d)) is ds
  | _, _ => none
def bindT : Tgt → D → Env → Option Env
  | .nm i, d, env => some (env.set i (.val false d))
  | .tp is, .tup ds, env => setAll env is ds
  | .tp is, .tp0 ds, env => setAll env is ds
  | _, _, _ => none
def setV (σ : L2.St) : List Nat → List V → L2.St
  | i :: is, v :: vs => setV (σ.set i (some v)) is vs
  | _, _ => σ
def slotsOf : Tgt → List Nat
  | .nm i => [i]
  | .tp is => is
theorem look_set {env : Env} {i j : Nat} {s : Sl} {d : D} (h : Env.look (env.set i s) j = some d) : (j = i ∧ s.get = some d) ∨ (j ≠ i ∧ Env.look env j = some d) := by
  unfold Env.look at h ⊢
  by_cases e : j = i
  · subst e
    by_cases hl : j < env.length
    · rw [List.getElem?_set_self hl] at h
      exact .inl ⟨rfl, h⟩
    · rw [List.getElem?_eq_none (by simpa using hl)] at h
      cases h
  · rw [List.getElem?_set_ne (Ne.symm e)] at h
    exact .inr ⟨e, h⟩
theorem look_lt {env : Env} {i : Nat} {d : D} (h : Env.look env i = some d) : i < env.length := by
  unfold Env.look at h
  by_cases hl : i < env.length
  · exact hl
  · rw [List.getElem?_eq_none (by simpa using hl)] at h; cases h
theorem Lens.set {H : Hp} {env : Env} {σ : L2.St} {i : Nat} {s : Sl} {v : Option V} (h : Lens H env σ) : Lens H (env.set i s) (σ.set i v) := ⟨by
  have := h.le; rw [List.length_set, List.length_set]; exact this, h.tab⟩
theorem ObsEnv.set {S : Addr → Prop} {H : Hp} {env : Env} {σ : L2.St} {i : Nat} {b : Bool} {d : D} {v : V} {as : List Addr} (o : ObsEnv S H env σ) (r : Rep H d v as) (m : ∀ a ∈ as, S a) : ObsEnv S H (env.set i (.val b d)) (σ.set i (some v)) := ⟨o.len.set, fun j d' h => by
  have hj := look_lt h
  rw [List.length_set] at hj
  have hjσ : j < σ.length := Nat.lt_of_lt_of_le hj o.len.le
  rcases look_set h with ⟨e, hg⟩ | ⟨e, hg⟩
  · subst e
    have e2 : d = d' := Option.some.inj hg
    subst e2
    exact ⟨v, as, by rw [List.getElem?_set_self hjσ], r, m⟩
  · obtain ⟨v', as', h1, h2⟩ := o.get j d' hg
    exact ⟨v', as', by rw [List.getElem?_set_ne (Ne.symm e)]; exact h1, h2⟩⟩
theorem ObsEnv.setAll {S : Addr → Prop} {H : Hp} : ∀ {is : List Nat} {ds : List D} {vs : List V} {as : List Addr} {env env' : Env} {σ : L2.St}, ObsEnv S H env σ → Reps H ds vs as → (∀ a ∈ as, S a) → CB.setAll env is ds = some env' → ObsEnv S H env' (setV σ is vs)
  | [], [], _, _, _, _, _, o, .nil, _, h => by cases h; exact o
  | i :: is, d :: ds, _, _, env, env', σ, o, .cons r rs, m, h => by
    simp only [CB.setAll] at h
    exact ObsEnv.setAll (is := is) (ds := ds) (o.set r fun a q => m a (List.mem_append_left _ q)) rs (fun a q => m a (List.mem_append_right _ q)) h
  | [], _ :: _, _, _, _, _, _, _, _, _, h => by simp [CB.setAll] at h
  | _ :: _, [], _, _, _, _, _, _, _, _, h => by simp [CB.setAll] at h
theorem setAll_len : ∀ {is : List Nat} {ds : List D} {env env' : Env}, setAll env is ds = some env' → is.length = ds.length
  | [], [], _, _, _ => rfl
  | i :: is, d :: ds, env, env', h => by simp only [setAll] at h; rw [List.length_cons, List.length_cons, setAll_len h]
  | [], _ :: _, _, _, h => by simp [setAll] at h
  | _ :: _, [], _, _, h => by simp [setAll] at h
def tgV : Tgt → V → Hp → L2.St → L2.St → Prop
  | .nm i, v, _, σ, σ' => σ' = σ.set i (some v)
  | .tp is, v, H, σ, σ' => ∃ a vs, v = .ref a ∧ ((∃ o, H a = some (.frz o (.tup vs))) ∨ H a = some (.tup vs)) ∧ σ' = setV σ is vs
def Fits : Tgt → D → Prop
  | .nm _, _ => True
  | .tp is, .tup ds => is.length = ds.length
  | .tp is, .tp0 ds => is.length = ds.length
  | _, _ => False
def SndG (X : Cx) (tg : Expr) (τ : Tgt) : Prop := ∃ g, PG X tg g ∧ ∀ (v : V) (σ : L2.St) (H : Hp) (d : D) (as : List Addr) (Q : L2.St → Hp → Prop), Rep H d v as → Fits τ d → (∀ σ', tgV τ v H σ σ' → Q σ' H) → g v σ H Q
theorem sndg_nm {i : Nat} {x : Str} {pos : Pos} (hN : X.N.Nodup) (hi : X.N[i]? = some x) (hx : Loc X.env.scope x) (hf : X.fn x = true ∨ X.env.scope.names.lookup x = some .local := by first | exact .inl rfl | exact .inr rfl | assumption) : SndG X (.Name x pos) (.nm i) :=
  ⟨_, pg_name hN hi hx hf, fun v σ H d as Q _ _ q => q _ rfl⟩
def SndGs (X : Cx) (ts : List Expr) (is : List Nat) : Prop := ∃ g, PGs X ts g ∧ ∀ (vs : List V) (σ : L2.St) (H : Hp) (Q : L2.St → Hp → Prop), vs.length = is.length → Q (setV σ is vs) H → g vs σ H Q
theorem sndgs_nil : SndGs X [] [] := ⟨_, pgs_nil, fun vs σ H Q hl q => by
  have e : vs = [] := List.length_eq_zero_iff.mp hl
  subst e
  exact ⟨rfl, q⟩⟩
theorem sndgs_cons {i : Nat} {x : Str} {pos : Pos} {ts : List Expr} {is : List Nat} (hN : X.N.Nodup) (hi : X.N[i]? = some x) (hx : Loc X.env.scope x) (h : SndGs X ts is) (hf : X.fn x = true ∨ X.env.scope.names.lookup x = some .local := by first | exact .inl rfl | exact .inr rfl | assumption)
    (hs : (assignEach (.Name x pos :: ts) X.env).map (·.2) = assign (.Name x pos) X.env :: (assignEach ts X.env).map (·.2) := by rfl) : SndGs X (.Name x pos :: ts) (i :: is) := by
  obtain ⟨g, h1, h2⟩ := h
  refine ⟨_, pgs_cons (pg_name hN hi hx hf) h1 hs, fun vs σ H Q hl q => ?_⟩
  cases vs with
  | nil => simp at hl
  | cons v vs => exact ⟨v, vs, rfl, h2 vs _ H Q (by simpa using hl) q⟩
theorem sndg_tp {ts : List Expr} {is : List Nat} {k : Nat} {pos : Pos} (hc : X.calm = true) (h : SndGs X ts is) (hn : (assignEach ts X.env).length = is.length := by rfl) (hst : (assignEach ts X.env).findIdx? (·.1) = none := by rfl) : SndG X (.Tuple ts k pos) (.tp is) := by
  obtain ⟨g, h1, h2⟩ := h
  refine ⟨_, pg_tup hc h1 hn hst, fun v σ H d as Q r hl q => ?_⟩
  cases r with
  | @tup a o vs xs _ ha hd s =>
    have e : is.length = xs.length := hl
    exact ⟨a, vs, rfl, SqT.frz ha, by rw [← s.length, e], h2 vs σ H Q (by rw [← s.length, e]) (q _ ⟨a, vs, rfl, .inl ⟨o, ha⟩, rfl⟩)⟩
  | @tp0 a vs xs _ ha s =>
    have e : is.length = xs.length := hl
    exact ⟨a, vs, rfl, .inl (.inl ha), by rw [← s.length, e], h2 vs σ H Q (by rw [← s.length, e]) (q _ ⟨a, vs, rfl, .inr ha, rfl⟩)⟩
  | _ => exact (show False from hl).elim
theorem bindT_ok {S : Addr → Prop} {H : Hp} {env env' : Env} {σ σ' : L2.St} {τ : Tgt} {d : D} {v : V} {as : List Addr} (o : ObsEnv S H env σ) (r : Rep H d v as) (m : ∀ a ∈ as, S a) (h : bindT τ d env = some env') (hg : tgV τ v H σ σ') : ObsEnv S H env' σ' := by
  cases τ with
  | nm i =>
    cases h
    have e : σ' = σ.set i (some v) := hg
    subst e
    exact o.set r m
  | tp is =>
    obtain ⟨a, vs, e1, e2, e3⟩ := hg
    subst e1 e3
    cases r with
    | tup ha hd s =>
      rcases e2 with ⟨o', e2⟩ | e2 <;> rw [ha] at e2 <;> cases e2
      exact o.setAll s m h
    | tp0 ha s =>
      rcases e2 with ⟨o', e2⟩ | e2 <;> rw [ha] at e2 <;> cases e2
      exact o.setAll s m h
    | lst ha s => simp [bindT] at h
    | frz ha s => simp [bindT] at h
    | exc _ _ _ _ _ => simp [bindT] at h
    | excF _ _ _ _ _ _ _ _ => simp [bindT] at h
    | dic _ _ _ _ => simp [bindT] at h
    | dic2 _ _ _ _ => simp [bindT] at h
    | dicK _ _ _ => simp [bindT] at h
    | obj _ _ _ _ _ => simp [bindT] at h
    | box _ => simp [bindT] at h
theorem bindT_fits {τ : Tgt} {d : D} {env env' : Env} (h : bindT τ d env = some env') : Fits τ d := by
  cases τ with
  | nm i => exact True.intro
  | tp is => cases d <;> simp only [bindT] at h <;> first | exact setAll_len h | cases h
end
end CB

namespace CB
open PySem L2 PySem.Spec PyProof.Rows
variable [CT]

def wipeE (env : Env) : List Nat → Env
  | [] => env
  | v :: vs => (wipeE env vs).set v .emp
theorem wipeE_length (env : Env) : ∀ vs : List Nat, (wipeE env vs).length = env.length
  | [] => rfl
  | v :: vs => by unfold wipeE; rw [List.length_set, wipeE_length env vs]
theorem wipeE_look {env : Env} {i : Nat} {d : D} : ∀ {vs : List Nat}, Env.look (wipeE env vs) i = some d → Env.look env i = some d ∧ i ∉ vs
  | [], h => ⟨h, by simp⟩
  | v :: vs, h => by
    unfold wipeE at h
    rcases look_set h with ⟨_, h⟩ | ⟨e, h⟩
    · simp [Sl.get] at h
    · obtain ⟨h1, h2⟩ := wipeE_look h
      exact ⟨h1, by simp only [List.mem_cons, not_or]; exact ⟨e, h2⟩⟩
theorem wipe_get {σ : L2.St} {i : Nat} : ∀ {vs : List Nat}, i ∉ vs → (wipe σ vs)[i]? = σ[i]?
  | [], _ => rfl
  | v :: vs, h => by
    simp only [List.mem_cons, not_or] at h
    unfold wipe
    rw [List.getElem?_set_ne (Ne.symm h.1), wipe_get h.2]
theorem ObsEnv.wipe {S : Addr → Prop} {H : Hp} {env : Env} {σ : L2.St} (o : ObsEnv S H env σ) (vs : List Nat) : ObsEnv S H (wipeE env vs) (L2.wipe σ vs) := by
  refine ⟨?_, fun i d h => ?_⟩
  · exact ⟨by have := o.len.le; rw [wipeE_length, wipe_length]; exact this, o.len.tab⟩
  · obtain ⟨h1, h2⟩ := wipeE_look h
    obtain ⟨v, as, h3, h4⟩ := o.get i d h1
    exact ⟨v, as, by rw [wipe_get h2]; exact h3, h4⟩
theorem wipe_set {i : Nat} {x : Option V} : ∀ {vs : List Nat} {σ : L2.St}, i ∈ vs → L2.wipe (σ.set i x) vs = L2.wipe σ vs
  | v :: vs, σ, h => by
    unfold L2.wipe
    by_cases hi : i ∈ vs
    · rw [wipe_set hi]
    · have e : i = v := by simpa [hi] using h
      subst e
      have : ∀ {us : List Nat} {σ : L2.St}, i ∉ us → L2.wipe (σ.set i x) us = (L2.wipe σ us).set i x := by
        intro us
        induction us with
        | nil => intro σ _; rfl
        | cons u us ih =>
          intro σ h
          simp only [List.mem_cons, not_or] at h
          unfold L2.wipe
          rw [ih h.2, List.set_comm _ _ h.1]
      rw [this hi, List.set_set]
theorem wipe_setV : ∀ {is : List Nat} {vs : List V} {us : List Nat} {σ : L2.St}, (∀ i ∈ is, i ∈ us) → L2.wipe (setV σ is vs) us = L2.wipe σ us
  | [], _, _, _, _ => rfl
  | i :: is, [], _, _, _ => rfl
  | i :: is, v :: vs, us, σ, h => by
    unfold setV
    rw [wipe_setV fun j hj => h j (List.mem_cons_of_mem _ hj), wipe_set (h i List.mem_cons_self)]
theorem wipe_wipe (σ : L2.St) (vs : List Nat) : L2.wipe (L2.wipe σ vs) vs = L2.wipe σ vs := by
  have : ∀ (us : List Nat), (∀ u ∈ us, u ∈ vs) → ∀ σ : L2.St, L2.wipe (L2.wipe σ us) vs = L2.wipe σ vs := by
    intro us
    induction us with
    | nil => intro _ σ; rfl
    | cons u us ih =>
      intro h σ
      show L2.wipe ((L2.wipe σ us).set u none) vs = _
      rw [wipe_set (h u List.mem_cons_self), ih fun w hw => h w (List.mem_cons_of_mem _ hw)]
  exact this vs (fun _ h => h) σ
theorem tgV_wipe {τ : Tgt} {v : V} {H : Hp} {σ σ' : L2.St} {vs : List Nat} (h : tgV τ v H σ σ') (hs : ∀ i ∈ slotsOf τ, i ∈ vs) : L2.wipe σ' vs = L2.wipe σ vs := by
  cases τ with
  | nm i =>
    have e : σ' = σ.set i (some v) := h
    subst e
    exact wipe_set (hs i (by simp [slotsOf]))
  | tp is =>
    obtain ⟨a, ws, _, _, e⟩ := h
    subst e
    exact wipe_setV hs

def compL (τ : Tgt) (t el : P) (env : Env) : List D → AR
  | [] => .ok true []
  | x :: xs => match bindT τ x env with
    | none => .no
    | some env1 => match t env1 with
      | .ok _ (.bl true) => match el env1 with
        | .ok f d => match compL τ t el env xs with
          | .ok g ds => .ok (gfl f d && g) (d :: ds)
          | _ => .no
        | _ => .no
      | .ok _ (.bl false) => compL τ t el env xs
      | _ => .no
def comp (vs : List Nat) (τ : Tgt) (ι : I) (t el : P) : P := fun env => match ι env with
  | .ok _ ds => if szOk ds.length then (match compL τ t el (wipeE env vs) ds with
    | .ok g ys => .ok g (.lst ys)
    | _ => .no) else .no
  | .ex x => .ex x
  | .no => .no
def yesP : P := fun _ => .ok true (.bl true)
section
variable {X : Cx} {E : XK}
def SndTs (X : Cx) (ifs : List Expr) (p : P) : Prop := ∃ t, PTs X ifs t ∧ ∀ (S : Addr → Prop) env σ H Q, ObsEnv S H env σ → TWant X.mg H Q E0 (p env) → t σ H Q
theorem sndts_nil : SndTs X [] yesP := ⟨_, pts_nil, fun S env σ H Q _ w => w H (Ex.refl H)⟩
theorem sndts_one {c : Expr} {p : P} (h : SndT X E0 c p) : SndTs X [c] p := let ⟨t, a, b⟩ := h; ⟨t, pts_one a, b⟩

theorem comp_loop {S : Addr → Prop} {mg : Str → Option Value} {g : TG} {tt : TT} {te : TE} {vs : List Nat} {σ : L2.St} {H1 : Hp} {Dl : Addr} {Q : VK} {J : It} {fx : Addr → HO → Prop} {ds : List D} {cD : Nat → List D} {cV : Nat → List V} {τ : Tgt} {t el : P} {env : Env} {gf : Bool} {ys : List D}
    (o : ObsEnv S H1 env σ) (hS : ∀ a, S a → H1 a ≠ none) (hDl : H1 Dl = none) (sv : Serves J fx ds cD cV) (hfx : Holds fx H1) (hc : ∀ i, i < ds.length → ∃ as, Reps H1 (cD i) (cV i) as ∧ ∀ a ∈ as, S a)
    (hτ : ∀ i ∈ slotsOf τ, i ∈ vs) (hz : szOk ds.length = true)
    (hg : ∀ (v : V) (σ : L2.St) (H : Hp) (d : D) (as : List Addr) (Q : L2.St → Hp → Prop), Rep H d v as → Fits τ d → (∀ σ', tgV τ v H σ σ' → Q σ' H) → g v σ H Q)
    (ht : ∀ (S : Addr → Prop) env σ H Q, ObsEnv S H env σ → TWant mg H Q E0 (t env) → tt σ H Q) (he : ∀ (S : Addr → Prop) env σ H Q, ObsEnv S H env σ → PWant S mg H Q E0 (el env) → te σ H Q)
    (hr : compL τ t el (wipeE env vs) ds = .ok gf ys)
    (hq : ∀ H' ws as, Ex H1 H' → H' Dl = some (.lst ws) → Reps H' ys ws as → (∀ a ∈ as, S a ∨ H1 a = none) → Dl ∉ as → (gf = true → New H1 as) → Q (.ref Dl) H') :
    ∃ W : Nat → Nat → Hp → Prop, (∃ m, W 0 m (upd H1 Dl (.lst []))) ∧ ∀ i m H, W i m H →
      (J.stop i H ∧ Q (.ref Dl) H) ∨ (J.go i H ∧ ∃ Nx : Hp → Prop, (∀ H', Nx H' → ∃ m', m' < m ∧ W (i + 1) m' H') ∧ ∀ x H', J.yld i H x H' → g x (wipe σ vs) H' fun σ2 H2 => wipe σ2 vs = wipe σ vs ∧ tt σ2 H2 fun b H3 =>
        if b = true then te σ2 H3 fun y H4 => ∃ acc, H4 Dl = some (.lst acc) ∧ acc.length < sizeLine ∧ Nx (upd H4 Dl (.lst (acc ++ [y]))) else Nx H3) := by
  refine ⟨fun i m H => m = ds.length - i ∧ i ≤ ds.length ∧ ∃ (accD : List D) (accV : List V) (accA : List Addr) (g2 : Bool) (rest : List D), Ex H1 H ∧ H Dl = some (.lst accV) ∧ Reps H accD accV accA ∧ (∀ a ∈ accA, S a ∨ H1 a = none) ∧ Dl ∉ accA ∧ accD.length ≤ i ∧
      compL τ t el (wipeE env vs) (ds.drop i) = .ok g2 rest ∧ ys = accD ++ rest ∧ (gf = true → g2 = true ∧ New H1 accA),
    ⟨ds.length, by simp, Nat.zero_le _, [], [], [], gf, ys, Ex.new hDl, upd_same, .nil, noMem, by simp, Nat.le_refl _, by simpa using hr, rfl, fun z => ⟨z, .nil _⟩⟩, ?_⟩
  rintro i m H' ⟨rfl, hi, accD, accV, accA, g2, rest, e1, hD, ra, ma, na, hlen, hrest, hys, hfl⟩
  have hfx' : Holds fx H' := fun a u h => e1.kp (hfx a u h)
  by_cases hlt : i < ds.length
  · refine .inr ⟨sv.go i H' hlt hfx', fun H'' => (fun i m H => m = ds.length - i ∧ i ≤ ds.length ∧ ∃ (accD : List D) (accV : List V) (accA : List Addr) (g2 : Bool) (rest : List D), Ex H1 H ∧ H Dl = some (.lst accV) ∧ Reps H accD accV accA ∧ (∀ a ∈ accA, S a ∨ H1 a = none) ∧ Dl ∉ accA ∧ accD.length ≤ i ∧
      compL τ t el (wipeE env vs) (ds.drop i) = .ok g2 rest ∧ ys = accD ++ rest ∧ (gf = true → g2 = true ∧ New H1 accA)) (i + 1) (ds.length - (i + 1)) H'', fun H'' w => ⟨_, by omega, w⟩, fun x H2 hy => ?_⟩
    have hdi : ds[i]? = some ds[i] := by simp
    obtain ⟨e2, ry⟩ := sv.yld i H' x H2 hfx' hy ds[i] hdi
    obtain ⟨as, rc, mc⟩ := hc i hlt
    have rx := ry as (rc.mono e1)
    rw [List.drop_eq_getElem_cons hlt] at hrest
    simp only [compL] at hrest
    cases hb : bindT τ ds[i] (wipeE env vs) with
    | none => rw [hb] at hrest; cases hrest
    | some env1 =>
      rw [hb] at hrest
      refine hg x (wipe σ vs) H2 ds[i] as _ rx (bindT_fits hb) fun σ' hσ' => ⟨?_, ?_⟩
      · rw [tgV_wipe hσ' hτ, wipe_wipe]
      have oW : ObsEnv S H2 (wipeE env vs) (wipe σ vs) := (o.wipe vs).mono (e1.trans e2)
      have o2 := bindT_ok oW rx mc hb hσ'
      simp only at hrest
      refine ht S env1 σ' H2 _ o2 ?_
      cases htv : t env1 with
      | no => rw [htv] at hrest; cases hrest
      | ex z => rw [htv] at hrest; cases hrest
      | ok ft dt =>
        rw [htv] at hrest
        cases dt with
        | bl b =>
          intro H3 e3
          cases b with
          | false =>
            refine iteF ⟨rfl, hlt, accD, accV, accA, g2, rest, (e1.trans e2).trans e3, e3 _ _ (e2 _ _ hD), (ra.mono e2).mono e3, ma, na, by omega, hrest, hys, hfl⟩
          | true =>
            refine iteT (he S env1 σ' H3 _ (o2.mono e3) ?_)
            simp only at hrest
            cases hev : el env1 with
            | no => rw [hev] at hrest; cases hrest
            | ex z => rw [hev] at hrest; cases hrest
            | ok f d =>
              rw [hev] at hrest
              simp only at hrest
              cases hre : compL τ t el (wipeE env vs) (ds.drop (i + 1)) with
              | no => rw [hre] at hrest; cases hrest
              | ex z => rw [hre] at hrest; cases hrest
              | ok g3 rest3 =>
                rw [hre] at hrest
                simp only [AR.ok.injEq] at hrest
                obtain ⟨eg, er⟩ := hrest
                intro y H4 bs e4 r4 m4 n4
                have hD4 : H4 Dl = some (.lst accV) := e4 _ _ (e3 _ _ (e2 _ _ hD))
                have e14 : Ex H1 H4 := ((e1.trans e2).trans e3).trans e4
                have ra4 : Reps H4 accD accV accA := ((ra.mono e2).mono e3).mono e4
                have hlA := ra4.length
                have nDb : Dl ∉ bs := fun h => by
                  rcases m4 Dl h with z | z
                  · exact hS Dl z hDl
                  · have := e3 _ _ (e2 _ _ hD)
                    rw [this] at z; cases z
                have kp : ∀ {d : D} {v : V} {cs : List Addr}, Rep H4 d v cs → Dl ∉ cs → Rep (upd H4 Dl (.lst (accV ++ [y]))) d v cs := fun {d v cs} r h => r.keep fun a u ha hz => by
                  have ne : a ≠ Dl := by
                    rintro rfl
                    rcases hz with z | z
                    · exact h z
                    · rw [hD4] at ha; cases ha; cases z
                  rw [upd_ne ne]; exact ha
                have kps : ∀ {d : List D} {v : List V} {cs : List Addr}, Reps H4 d v cs → Dl ∉ cs → Reps (upd H4 Dl (.lst (accV ++ [y]))) d v cs := fun {d v cs} r h => r.keep fun a u ha hz => by
                  have ne : a ≠ Dl := by
                    rintro rfl
                    rcases hz with z | z
                    · exact h z
                    · rw [hD4] at ha; cases ha; cases z
                  rw [upd_ne ne]; exact ha
                refine ⟨accV, hD4, ?_, rfl, hlt, accD ++ [d], accV ++ [y], accA ++ (bs ++ []), g3, rest3, ?_, upd_same, (kps ra4 na).append (.cons (kp r4 nDb) .nil), ?_, ?_, ?_, hre, ?_, ?_⟩
                · rw [← hlA]
                  have := szOk_lt hz
                  omega
                · exact e14.updN hDl (imm_of hD4)
                · intro a ha
                  rw [List.append_nil] at ha
                  rcases List.mem_append.mp ha with z | z
                  · exact ma a z
                  · exact (m4 a z).imp_right fun q => ((e1.trans e2).trans e3).back q
                · rw [List.append_nil]
                  exact fun h => (List.mem_append.mp h).elim na nDb
                · rw [List.length_append]; simp; omega
                · rw [hys, ← er]; simp
                · intro z
                  obtain ⟨z1, z2⟩ := hfl z
                  rw [← eg, Bool.and_eq_true] at z1
                  refine ⟨z1.2, ?_⟩
                  rw [List.append_nil]
                  have nb : New H3 bs := gfl_new z1.1 r4 n4
                  exact New.app ((e1.trans e2).trans e3) z2 nb ((ra.mono e2).mono e3).ne
        | _ => cases hrest
  · have e : i = ds.length := by omega
    subst e
    refine .inl ⟨sv.stop _ H' (Nat.le_refl _) hfx', ?_⟩
    simp only [List.drop_length, compL] at hrest
    cases hrest
    rw [List.append_nil] at hys
    subst hys
    exact hq H' accV accA e1 hD ra ma na fun z => (hfl z).2

def cE (mg : Str → Option Value) (E : XK) (p : P) : TE := fun σ H Q => ∃ S env, ObsEnv S H env σ ∧ PWant S mg H Q E (p env)
def cTs (mg : Str → Option Value) (p : P) : TT := fun σ H Q => ∃ S env, ObsEnv S H env σ ∧ TWant mg H Q E0 (p env)
def cG (τ : Tgt) : TG := fun v σ H Q => ∃ d as, Rep H d v as ∧ Fits τ d ∧ ∀ σ', tgV τ v H σ σ' → Q σ' H
theorem SndP.c {e : Expr} {p : P} (h : SndP X E e p) : PE X e (cE X.mg E p) := by
  obtain ⟨t, h1, h2⟩ := h
  exact ⟨fun pins s σ H Q I ⟨S, env, o, w⟩ => h1.run pins s σ H Q I (h2 S env σ H Q o w)⟩
theorem SndTs.c {ifs : List Expr} {p : P} (h : SndTs X ifs p) : PTs X ifs (cTs X.mg p) := by
  obtain ⟨t, h1, h2⟩ := h
  exact ⟨fun pins s σ H Q I ⟨S, env, o, w⟩ => h1.run pins s σ H Q I (h2 S env σ H Q o w)⟩
theorem SndG.c {tg : Expr} {τ : Tgt} (h : SndG X tg τ) : PG X tg (cG τ) := by
  obtain ⟨g, h1, h2⟩ := h
  exact ⟨fun pins s σ H v u Q I r ⟨d, as, r1, f1, q⟩ => h1.run pins s σ H v u Q I r (h2 v σ H d as Q r1 f1 q)⟩
abbrev Blk (X : Cx) (scope : Scope) (φ : Cx → Prop) : Prop := ∀ (s : Shared) (H : Hp) (C : Addr) (cl : List (Str × Addr)) (fp : List Addr), φ (X.blk s H scope (compEnvC scope cl C X.env) fp)
theorem comp_read {iter tg : Expr} {ι : I} {τ : Tgt} {t el : P} {vs : List Nat} (hi : SndI X E tg iter ι) (hτ : ∀ i ∈ slotsOf τ, i ∈ vs) :
    ∃ wi, PI X tg iter wi ∧ ∀ (S : Addr → Prop) env σ H Q, ObsEnv S H env σ → PWant S X.mg H Q E (comp vs τ ι t el env) → tLc wi (cG τ) (cTs X.mg t) (cE X.mg E0 el) vs σ H Q := by
  obtain ⟨wi, h1, h2⟩ := hi
  refine ⟨wi, h1, fun S env σ H Q o w => h2 S env σ H _ o ?_⟩
  unfold comp at w
  cases hι : ι env with
  | no => rw [hι] at w; exact w
  | ex x => rw [hι] at w; exact w
  | ok f ds =>
    rw [hι] at w
    simp only at w
    intro J H1 fx cD cV e1 sv hfx hc _ _ Dl hDl
    split at w
    · rename_i hz
      cases hr : compL τ t el (wipeE env vs) ds with
      | no => rw [hr] at w; exact w.elim
      | ex x => rw [hr] at w; exact w.elim
      | ok g ys =>
        rw [hr] at w
        have o2 : ObsEnv (fun a => (S a ∨ H a = none) ∧ H1 a ≠ none) H1 env σ := ⟨o.len.mono e1, fun i d h => by
          obtain ⟨v, as, a1, a2, a3⟩ := (o.mono e1).get i d h
          exact ⟨v, as, a1, a2, fun a m => ⟨.inl (a3 a m), a2.ne a m⟩⟩⟩
        refine comp_loop (mg := X.mg) (S := fun a => (S a ∨ H a = none) ∧ H1 a ≠ none) o2 (fun a z => z.2) hDl sv hfx (fun i hi => ?_) hτ hz (fun v σ H d as Q r f q => ⟨d, as, r, f, q⟩) (fun S env σ H Q o w => ⟨S, env, o, w⟩) (fun S env σ H Q o w => ⟨S, env, o, w⟩) hr fun H' ws as e2 hD rs ms nD nw => ?_
        · obtain ⟨as, a1, a2⟩ := hc i hi
          exact ⟨as, a1, fun a m => ⟨a2 a m, a1.ne a m⟩⟩
        · refine w (.ref Dl) H' (Dl :: as) (e1.trans e2) (.lst hD rs) (fun a m => ?_) fun z => ?_
          · rcases List.mem_cons.mp m with q | m
            · rw [q]; exact .inr (e1.back hDl)
            · rcases ms a m with q | q
              · exact q.1
              · exact .inr (e1.back q)
          · have n := nw z
            refine ⟨List.nodup_cons.mpr ⟨nD, n.1⟩, fun a m => ?_⟩
            rcases List.mem_cons.mp m with q | m
            · rw [q]; exact e1.back hDl
            · exact e1.back (n.2 a m)
    · exact w.elim
theorem snd_comp {elt tg iter : Expr} {ifs : List Expr} {scope : Scope} {own : List (Str × Nat)} {pos : Pos} {ι : I} {τ : Tgt} {t el : P} (hc : X.calm = true) (hN : X.N.Nodup) (hi : SndI X E tg iter ι) (ok : BlkOk X.N X.env.scope scope own)
    (hg : Blk X scope fun Y => SndG Y tg τ) (ht : Blk X scope fun Y => SndTs Y ifs t) (he : Blk X scope fun Y => SndP Y E0 elt el) (hτ : ∀ i ∈ slotsOf τ, i ∈ own.map (·.2) := by decide) (hs : ∀ x, foldedSetIterable iter X.env x = pure x := by intro _; rfl) :
    SndP X E (.ListComp elt [⟨tg, iter, ifs, 0⟩] scope pos) (comp (own.map (·.2)) τ ι t el) := by
  obtain ⟨wi, h1, h2⟩ := comp_read (t := t) (el := el) hi hτ
  exact ⟨_, pe_lc hc hN h1 ok (fun s H C cl fp => (hg s H C cl fp).c) (fun s H C cl fp => (ht s H C cl fp).c) (fun s H C cl fp => (he s H C cl fp).c) hs, h2⟩
end
end CB

namespace CB
open PySem L2 PySem.Spec PyProof.Rows
variable [CT]

structure RoomG (k : Nat) (A : Around) : Prop extends Room k A where
  gd : A.guards = some []
omit [CT] in
theorem RoomG.mono {i k : Nat} {A : Around} (r : RoomG k A) (h : i ≤ k) : RoomG i A := ⟨r.toRoom.mono h, r.gd⟩
omit [CT] in
theorem RoomG.deeper {k : Nat} {A : Around} (r : RoomG (k + 1) A) (en : PySem.Env) : RoomG k (A.deeper en) := ⟨r.toRoom.deeper en, r.gd⟩
structure FnOkG (P' : Program) (w : World) (K : PySem.W.Frag) (mg : Str → Option Value) (base : Heap) (CX : CXT) (k : Nat) (f : Addr) (fd : FuncData) (pn : List Str) (sp : Sp) : Prop where
  len : ∀ xs H Q E, sp xs H Q E → xs.length = pn.length
  run : ∀ {A : Around} {out : List PySem.Env} {s : Shared} {H : Hp} {ar : Args} {ws : List Value} {xs : List V} {Q : VK} {E : XK}, RoomG k A → Env0 P' w K mg base A out s H → BindsTo s fd ar (pn.zip ws) → Vals xs ws → sp xs H Q E → codeAny (model P' w) A (.call (.ref f) ar) (CR CX out P' w H s Q E) s
omit [CT] in
theorem FnOkG.imp {P' : Program} {w : World} {K : PySem.W.Frag} {mg : Str → Option Value} {base : Heap} {CX : CXT} {k : Nat} {f : Addr} {fd : FuncData} {pn : List Str} {sp sp' : Sp} (F : FnOkG P' w K mg base CX k f fd pn sp) (h : ∀ xs H Q E, sp' xs H Q E → sp xs H Q E) : FnOkG P' w K mg base CX k f fd pn sp' :=
  ⟨fun xs H Q E q => F.len xs H Q E (h xs H Q E q), fun a b c d e => F.run a b c d (h _ _ _ _ e)⟩
section
variable {X : Cx} {CX : CXT} {k : Nat} {f : Addr} {fd : FuncData} {pn : List Str} {sp : Sp} {x : Str} {p pos : Pos} {e : Expr} {es : List Expr} {t : TA}
omit [CT] in
theorem callG_ok {E : XK} {pins : List (Addr × Obj)} {σ : L2.St} {H : Hp} {s : Shared} {Q : VK} {ws : List Value} {xs : List V} (F : FnOkG X.prog X.w X.K X.mg X.base CX k f fd pn sp) (hr : RoomG k X.A) (hb : Binds X.K fd pn []) (hx : ∀ z s', CX X.stack H s E z s' → X.xe z s')
    (I : L2.Inv X pins σ H s) (r : Vals xs ws) (h : sp xs H Q E) : wpAny (model X.prog X.w) X.A (call (.ref f) ws) (EP X pins σ Q) X.xe s := by
  have hl : (ws ++ []).length = pn.length := by rw [List.append_nil, ← r.length]; exact F.len _ _ _ _ h
  have bd := hb s ws I.kIn hl
  rw [List.append_nil] at bd
  refine wpAny_call (codeAny_mono (F.run hr I.env0 bd r h) fun rr s' hq => ?_)
  rcases rr with z | fl
  · exact hx z s' hq
  · cases fl <;> first | exact I.after hq | exact hq.elim
omit [CT] in
theorem pe_callG {E : XK} (F : FnOkG X.prog X.w X.K X.mg X.base CX k f fd pn sp) (hr : RoomG k X.A) (hg : Gl X x) (hm : X.mg x = some (.ref f)) (hk : PySem.W.keepIn X.K (.ref f) = true) (hb : Binds X.K fd pn []) (hx : Passes CX X E) (ha : PA X (e :: es) t)
    (hdb : (x == ("__debug__" : Str)) = false) (he : starEach (e :: es) X.env = (false, eval e X.env) :: starEach es X.env) (hpl : (backTo pos (starEach es X.env)).any (·.1) = false) : PE X (.Call (.Name x p) (e :: es) [] pos) (tCall sp [] E t) :=
  ⟨fun pins s σ H Q I h => wpAny_Call_Name_kw (ld_glob I hg hm (PySem.W.callWith_K (h₀ := X.base) I.ok.mod.kin hk (thn (ha.run pos pins s σ H _ I h) fun us s1 ⟨vs, H1, I1, r, q⟩ => ⟨I1.kIn, callG_ok F hr hb (fun z s' => hx pins σ H1 s1 z s' I1) I1 r ((congrArg (fun z => sp z H1 Q E) (List.append_nil vs)).mp q)⟩) he hpl) hdb)⟩
omit [CT] in
theorem okXG {P' : Program} {w : World} {K : PySem.W.Frag} {mg : Str → Option Value} {base : Heap} {qual : Str} {st : Stmt} {NN : List Str} (F : Fun K x qual st f fd) (S : FnScope NN pn (defScope st)) (len : ∀ xs H Q E, sp xs H Q E → xs.length = pn.length)
    (hbody : ∀ (cdv : Value) (A : Around) (out : List PySem.Env) (s : Shared) (H : Hp) (xs : List V) (Q : VK) (E : XK), RoomG k (A.deeper (envOfC qual (defScope st) s.heap.objs.size f cdv)) → sp xs H Q E →
      ∃ t, PSs (cxOf (L2.CX P' w) P' w K mg base NN qual (defScope st) f cdv A out s H E) (defBody st) t ∧ t { rt := Q, nx := fun _ H' => Q .non H' } (L2.start NN xs) H) : FnOkG P' w K mg base (L2.CX P' w) (k + 1) f fd pn sp := by
  obtain ⟨_, _, _, _, _, _, cdv, _, _, rfl, lk, hcd⟩ := F.ex
  refine ⟨len, fun {A out s H ar ws xs Q E} room e0 bnd rel want => ?_⟩
  have kin : K.In s.heap := e0.mod.kin.keeps fun b o z => (e0.bs b o z).1
  refine codeAny_call_function room.depth (kin _ _ lk) rfl S.co S.gen rfl (PySem.W.codeRec_of kin hcd) (bnd _ _ _ _ (wpAny_newFunctionEnv_cells S.kind (fun y hy => (S.par y.1 (List.of_mem_zip hy).1).imp id fun q => ⟨q, PySem.W.cellsFrom_some _ _ _ (.inl q)⟩) fun en he s1 ic => ?_))
  subst he
  refine ⟨(e0.mod.nolimit.keeps fun b o z => (e0.bs b o z).1).keeps ic.toInCall.keep, codeAny_func ?_⟩
  obtain ⟨t, ht, hq⟩ := hbody cdv A out s H xs Q E (room.deeper _) want
  refine wpAny_mono (ht.run [] s1 (L2.start NN xs) H _ (inv_start S room.hd e0 (len _ _ _ _ want) rel ic) hq) (fun fl s' hs => ?_) fun z s' hs => hs
  cases fl with
  | ret u => exact let ⟨v, _, H', J, rv, q⟩ := hs; ⟨v, H', J.os, J.bare, J.base, J.hok, rv, q⟩
  | next => exact let ⟨_, H', J, q⟩ := hs; ⟨.non, H', J.os, J.bare, J.base, J.hok, rfl, q⟩
  | brk => exact let ⟨_, _, _, q⟩ := hs; q.elim
  | cont => exact let ⟨_, _, _, q⟩ := hs; q.elim
end

def spF (n : Nat) (mg : Str → Option Value) (F : List D → PR) : Sp := fun vs H Q E => vs.length = n ∧ TabOk H ∧ ∃ ds as, Reps H ds vs as ∧ PWant (fun a => a ∈ as) mg H Q E (F ds)
def callP (F : List D → PR) (ps : List P) : P := fun env => (args ps env).bind fun _ ds => F ds
theorem args_len : ∀ {ps : List P} {env : Env} {g : Bool} {ds : List D}, args ps env = .ok g ds → ds.length = ps.length
  | [], _, _, _, h => by cases h; rfl
  | p :: ps, env, g, ds, h => by
    simp only [args] at h
    split at h
    · split at h
      · rename_i e; cases h; rw [List.length_cons, List.length_cons, args_len e]
      · cases h
      · cases h
    · cases h
    · cases h
section
variable {X : Cx} {E : XK}
theorem spF_of {S : Addr → Prop} {n : Nat} {H H1 : Hp} {Q : VK} {F : List D → PR} {ds : List D} {vs : List V} {as : List Addr} (tb : TabOk H) (e1 : Ex H H1) (r : Reps H1 ds vs as) (m : ∀ a ∈ as, S a ∨ H a = none) (hn : ds.length = n) (w : PWant S X.mg H Q E (F ds)) : spF n X.mg F (vs ++ []) H1 Q E := by
  rw [List.append_nil]
  refine ⟨by rw [← r.length]; exact hn, e1.b tb, ds, as, r, ?_⟩
  cases hF : F ds with
  | no => rw [hF] at w; exact w
  | ex x => rw [hF] at w; exact fun c dx H' e' r => w c dx H' (e1.trans e') r
  | ok f d =>
    rw [hF] at w
    exact fun v H' cs e' r' m' n' => w v H' cs (e1.trans e') r' (fun a h => (m' a h).elim (m a) fun z => .inr (e1.back z)) fun z => (n' z).back e1
variable {CX : CXT} {k n : Nat} {f : Addr} {fd : FuncData} {pn : List Str} {F : List D → PR} {x : Str} {p pos : Pos} {e : Expr} {es : List Expr} {ps : List P}
theorem snd_call (G : FnOkG X.prog X.w X.K X.mg X.base CX k f fd pn (spF n X.mg F)) (hr : RoomG k X.A) (hg : Gl X x) (hm : X.mg x = some (.ref f)) (hk : PySem.W.keepIn X.K (.ref f) = true) (hb : Binds X.K fd pn []) (hx : Passes CX X E) (h : SndA X E (e :: es) ps) (hn : ps.length = n := by rfl)
    (hdb : (x == ("__debug__" : Str)) = false := by decide) (he : starEach (e :: es) X.env = (false, eval e X.env) :: starEach es X.env := by rfl) (hpl : (backTo pos (starEach es X.env)).any (·.1) = false := by rfl) : SndP X E (.Call (.Name x p) (e :: es) [] pos) (callP F ps) := by
  obtain ⟨t, h1, h2⟩ := h
  refine ⟨_, pe_callG G hr hg hm hk hb hx h1 hdb he hpl, fun S env σ H Q o w => h2 S env σ H _ o ?_⟩
  unfold callP at w
  cases hp : args ps env with
  | no => rw [hp] at w; exact w
  | ex x => rw [hp] at w; exact w
  | ok g ds =>
    rw [hp] at w
    intro vs H1 as e1 r1 m1 _
    exact spF_of o.len.tab e1 r1 m1 (by rw [args_len hp, hn]) w
end

inductive Lb where
  | slot (i : Nat) | tmp (j : Nat)
  deriving DecidableEq
abbrev Lab := Addr → Option Lb
def Held (φ : Lab) (H : Hp) (M : Addr → Prop) (l : Lb) (o : Bool) (d : D) (v : V) : Prop := ∃ as, Rep H d v as ∧ (∀ a ∈ as, M a) ∧ (∀ a ∈ as, φ a = if o = true then some l else none) ∧ (o = true → as.Nodup)
def Helds (φ : Lab) (H : Hp) (M : Addr → Prop) (l : Lb) : List D → List V → Prop
  | [], [] => True
  | d :: ds, v :: vs => Held φ H M l false d v ∧ Helds φ H M l ds vs
  | _, _ => False
theorem Helds.map {φ φ' : Lab} {H H' : Hp} {M M' : Addr → Prop} {l l' : Lb} (k : ∀ d v, Held φ H M l false d v → Held φ' H' M' l' false d v) : ∀ {ds : List D} {vs : List V}, Helds φ H M l ds vs → Helds φ' H' M' l' ds vs
  | [], [], _ => trivial
  | _ :: _, _ :: _, ⟨h, r⟩ => ⟨k _ _ h, r.map k⟩
theorem Helds.reps {φ : Lab} {H : Hp} {M : Addr → Prop} {l : Lb} : ∀ {ds : List D} {vs : List V}, Helds φ H M l ds vs → ∃ as, Reps H ds vs as ∧ ∀ a ∈ as, M a ∧ φ a = none
  | [], [], _ => ⟨[], .nil, fun a h => nomatch h⟩
  | _ :: _, _ :: _, ⟨⟨as, h1, h2, h3, _⟩, r⟩ => let ⟨bs, g1, g2⟩ := r.reps; ⟨as ++ bs, .cons h1 g1, fun a ha => (List.mem_append.mp ha).elim (fun z => ⟨h2 a z, h3 a z⟩) (g2 a)⟩
theorem Helds.mapR {φ φ' : Lab} {H H' : Hp} {M M' : Addr → Prop} {l l' : Lb} {T : Addr → Prop} (k : ∀ d v as, Rep H d v as → (∀ a ∈ as, T a) → Held φ H M l false d v → Held φ' H' M' l' false d v) : ∀ {ds : List D} {vs : List V} {as : List Addr}, Reps H ds vs as → (∀ a ∈ as, T a) → Helds φ H M l ds vs → Helds φ' H' M' l' ds vs
  | _, _, _, .nil, _, _ => trivial
  | _, _, _, .cons r rs, m, ⟨h, q⟩ => ⟨k _ _ _ r (fun a ha => m a (List.mem_append_left _ ha)) h, Helds.mapR k rs (fun a ha => m a (List.mem_append_right _ ha)) q⟩
theorem top_rep {φ : Lab} {H : Hp} {M : Addr → Prop} {i : Nat} {xs : List D} {v : V} {vs : List V} (h : Held φ H M (.slot i) true (.box vs) v) (hs : Helds φ H M (.slot i) xs vs) : ∃ a as, v = .ref a ∧ H a = some (.lst vs) ∧ M a ∧ φ a = some (.slot i) ∧ Reps H xs vs as ∧ (∀ b ∈ as, M b ∧ φ b = none) ∧ Rep H (.lst xs) v (a :: as) := by
  obtain ⟨bs, r, m, l, _⟩ := h
  obtain ⟨as, g1, g2⟩ := hs.reps
  cases r with
  | @box a _ ha => exact ⟨a, as, rfl, ha, m a List.mem_cons_self, l a List.mem_cons_self, g1, g2, .lst ha g1⟩
theorem top_lab {φ : Lab} {H : Hp} {M : Addr → Prop} {i : Nat} {xs : List D} {v : V} {vs : List V} (h : Held φ H M (.slot i) true (.box vs) v) (hs : Helds φ H M (.slot i) xs vs) : ∃ as, Rep H (.lst xs) v as ∧ ∀ b ∈ as, M b ∧ (φ b = none ∨ φ b = some (.slot i)) := by
  obtain ⟨a, as, _, _, h1, h2, _, h3, r⟩ := top_rep h hs
  exact ⟨a :: as, r, fun b hb => (List.mem_cons.mp hb).elim (fun z => by subst z; exact ⟨h1, .inr h2⟩) fun z => ⟨(h3 b z).1, .inl (h3 b z).2⟩⟩
def SlOk (pin : Nat → Option V) (φ : Lab) (H : Hp) (M : Addr → Prop) (i : Nat) (s : Sl) (w : Option (Option V)) : Prop := match s with
  | .emp => True
  | .val o d => ∃ v, w = some (some v) ∧ Held φ H M (.slot i) o d v
  | .ref d => ∃ v, w = some (some v) ∧ pin i = some v ∧ Held φ H M (.slot i) true d v
  | .pin => ∃ v, w = some (some v) ∧ pin i = some v
  | .top xs => ∃ v vs, w = some (some v) ∧ Held φ H M (.slot i) true (.box vs) v ∧ Helds φ H M (.slot i) xs vs
abbrev Tmp := Bool × D × V
structure Good (M N : Addr → Prop) (fx : Addr → HO → Prop) (pin : Nat → Option V) (φ : Lab) (H : Hp) (env : Env) (σ : L2.St) (ts : List Tmp) : Prop where
  len : Lens H env σ
  fix : ∀ a o, fx a o → Kp H a o ∧ φ a = none
  own : ∀ a, φ a ≠ none → N a ∧ ∃ o, H a = some o ∧ Imm o = false
  free : ∀ p, (∀ o, ¬ fx p o) → N p ∧ M p
  slot : ∀ i s, env[i]? = some s → SlOk pin φ H M i s σ[i]?
  tmp : ∀ j t, ts[j]? = some t → Held φ H M (.tmp j) t.1 t.2.1 t.2.2
section
variable {M N : Addr → Prop} {fx : Addr → HO → Prop} {pin : Nat → Option V} {φ φ' : Lab} {H H' : Hp} {env : Env} {σ : L2.St} {ts : List Tmp}
theorem Held.obs {l : Lb} {o : Bool} {d : D} {v : V} (h : Held φ H M l o d v) : ∃ as, Rep H d v as ∧ ∀ a ∈ as, M a := let ⟨as, a, b, _⟩ := h; ⟨as, a, b⟩
theorem Good.obs (g : Good M N fx pin φ H env σ ts) : ObsEnv M H env σ := ⟨g.len, fun i d h => by
  unfold Env.look at h
  cases e : env[i]? with
  | none => rw [e] at h; cases h
  | some s =>
    rw [e] at h
    have k := g.slot i s e
    cases s with
    | emp => cases h
    | pin => cases h
    | val o d' =>
      cases h
      obtain ⟨v, h1, h2⟩ := k
      obtain ⟨as, h3, h4⟩ := h2.obs
      exact ⟨v, as, h1, h3, h4⟩
    | ref d' =>
      cases h
      obtain ⟨v, h1, _, h2⟩ := k
      obtain ⟨as, h3, h4⟩ := h2.obs
      exact ⟨v, as, h1, h3, h4⟩
    | top xs =>
      cases h
      obtain ⟨v, vs, h1, h2, h3⟩ := k
      obtain ⟨as, r, m⟩ := top_lab h2 h3
      exact ⟨v, as, h1, r, fun b hb => (m b hb).1⟩⟩
theorem Held.keep {l l' : Lb} {o : Bool} {d : D} {v : V} (h : Held φ H M l o d v) (k : ∀ as, Rep H d v as → (∀ a ∈ as, φ a = if o = true then some l else none) → Rep H' d v as ∧ ∀ a ∈ as, φ' a = if o = true then some l' else none) : Held φ' H' M l' o d v := by
  obtain ⟨as, h1, h2, h3, h4⟩ := h
  obtain ⟨k1, k2⟩ := k as h1 h3
  exact ⟨as, k1, h2, k2, h4⟩
theorem SlOk.keep {i : Nat} {s : Sl} {w : Option (Option V)} (h : SlOk pin φ H M i s w) (k : ∀ o d v, Held φ H M (.slot i) o d v → Held φ' H' M (.slot i) o d v) : SlOk pin φ' H' M i s w := by
  cases s with
  | emp => trivial
  | pin => exact h
  | val o d => obtain ⟨v, h1, h2⟩ := h; exact ⟨v, h1, k _ _ _ h2⟩
  | ref d => obtain ⟨v, h1, h0, h2⟩ := h; exact ⟨v, h1, h0, k _ _ _ h2⟩
  | top xs => obtain ⟨v, vs, h1, h2, h3⟩ := h; exact ⟨v, vs, h1, k _ _ _ h2, h3.map fun _ _ q => k _ _ _ q⟩
theorem Good.ext (g : Good M N fx pin φ H env σ ts) (e : Ex H H') : Good M N fx pin φ H' env σ ts where
  len := g.len.mono e
  fix := fun a o h => ⟨e.kp (g.fix a o h).1, (g.fix a o h).2⟩
  own := fun a h => let ⟨h1, vs, h2, h3⟩ := g.own a h; ⟨h1, vs, e.k a _ h2 (isTb_of h3), h3⟩
  free := g.free
  slot := fun i s h => (g.slot i s h).keep fun o d v k => k.keep fun as r q => ⟨r.mono e, q⟩
  tmp := fun j t h => (g.tmp j t h).keep fun as r q => ⟨r.mono e, q⟩
def lbl (φ : Lab) (as : List Addr) (l : Lb) : Lab := fun a => if a ∈ as then some l else φ a
theorem Good.lab_none (g : Good M N fx pin φ H env σ ts) {a : Addr} (h : H a = none) : φ a = none := by
  cases e : φ a with
  | none => rfl
  | some l =>
    obtain ⟨_, vs, q, _⟩ := g.own a (by rw [e]; exact fun z => nomatch z)
    rw [h] at q; cases q
theorem Good.fresh (g : Good M N fx pin φ H env σ ts) {p : Addr} (h : H p = none) : N p ∧ M p := g.free p fun o z => (g.fix p o z).1.not h
theorem Good.push (g : Good M N fx pin φ H env σ ts) (e : Ex H H') {d : D} {v : V} {as : List Addr} (r : Rep H' d v as) (n : New H as) : Good M N fx pin (lbl φ as (.tmp ts.length)) H' env σ (ts ++ [(true, d, v)]) := by
  have g' := g.ext e
  have out : ∀ {a : Addr}, φ a ≠ none → a ∉ as := fun {a} h z => h (g.lab_none (n.2 a z))
  have kp : ∀ {l : Lb} {o : Bool} {d : D} {v : V}, Held φ H M l o d v → Held (lbl φ as (.tmp ts.length)) H' M l o d v := fun {l o d v} k => k.keep fun bs rb q => ⟨rb.mono e, fun a ha => by
    have : a ∉ as := fun z => by
      obtain ⟨vs, x, _⟩ := rb.there a ha
      rw [n.2 a z] at x; cases x
    unfold lbl
    rw [if_neg this]
    exact q a ha⟩
  refine ⟨g'.len, fun a o h => ⟨(g'.fix a o h).1, ?_⟩, fun a h => ?_, g.free, fun i s h => (g.slot i s h).keep fun o d v k => kp k, fun j t h => ?_⟩
  · have : a ∉ as := fun z => (g.fix a o h).1.not (n.2 a z)
    unfold lbl
    rw [if_neg this]
    exact (g.fix a o h).2
  · by_cases z : a ∈ as
    · exact ⟨(g.fresh (n.2 a z)).1, r.there a z⟩
    · unfold lbl at h
      rw [if_neg z] at h
      exact g'.own a h
  · by_cases hj : j < ts.length
    · rw [List.getElem?_append_left hj] at h
      exact kp (g.tmp j t h)
    · have hj' : j = ts.length := by
        have := (List.getElem?_eq_some_iff.mp h).1
        simp at this; omega
      subst hj'
      simp at h
      subst h
      refine ⟨as, r, fun a ha => (g.fresh (n.2 a ha)).2, fun a ha => ?_, fun _ => n.1⟩
      unfold lbl
      rw [if_pos ha]; rfl
def demS : Sl → Sl
  | .emp => .emp
  | .val _ d => .val false d
  | .ref d => .val false d
  | .pin => .pin
  | .top xs => .val false (.lst xs)
def demK : List Nat → Env → Env
  | [], env => env
  | k :: ks, env => demK ks (match env[k]? with
    | some s => env.set k (demS s)
    | none => env)
def unl (φ : Lab) (k : Nat) : Lab := fun a => if φ a = some (.slot k) then none else φ a
theorem Held.unl {l : Lb} {o : Bool} {d : D} {v : V} {k : Nat} (h : Held φ H M l o d v) (hl : l ≠ .slot k) : Held (CB.unl φ k) H M l o d v := h.keep fun as r q => ⟨r, fun a ha => by
  unfold CB.unl
  rw [q a ha]
  cases o with
  | true => simp [hl]
  | false => simp⟩
theorem Held.dem {k : Nat} {o : Bool} {d : D} {v : V} (h : Held φ H M (.slot k) o d v) : Held (CB.unl φ k) H M (.slot k) false d v := let ⟨as, a, b, c, _⟩ := h; ⟨as, a, b, fun x hx => by
  unfold CB.unl
  rw [c x hx]
  cases o <;> simp, fun z => nomatch z⟩
theorem Good.dem1 (g : Good M N fx pin φ H env σ ts) {k : Nat} {s0 : Sl} (e0 : env[k]? = some s0) : Good M N fx pin (unl φ k) H (env.set k (demS s0)) σ ts where
  len := by exact ⟨by have := g.len.le; rw [List.length_set]; exact this, g.len.tab⟩
  fix := fun a o h => ⟨(g.fix a o h).1, by unfold unl; rw [(g.fix a o h).2]; simp⟩
  own := fun a h => g.own a fun z => h (by unfold unl; rw [z]; simp)
  free := g.free
  slot := fun i s h => by
    by_cases hi : i = k
    · subst hi
      have hl : i < env.length := (List.getElem?_eq_some_iff.mp e0).1
      rw [List.getElem?_set_self hl] at h
      cases h
      have q := g.slot i s0 e0
      cases s0 with
      | emp => trivial
      | pin => exact q
      | val o d => obtain ⟨v, h1, h2⟩ := q; exact ⟨v, h1, h2.dem⟩
      | ref d => obtain ⟨v, h1, _, h2⟩ := q; exact ⟨v, h1, h2.dem⟩
      | top xs =>
        obtain ⟨v, vs, h1, h2, h3⟩ := q
        obtain ⟨as, r, m⟩ := top_lab h2 h3
        exact ⟨v, h1, as, r, fun b hb => (m b hb).1, fun b hb => by
          show unl φ i b = none
          unfold unl
          rcases (m b hb).2 with z | z <;> rw [z] <;> simp, fun z => nomatch z⟩
    · rw [List.getElem?_set_ne (Ne.symm hi)] at h
      exact (g.slot i s h).keep fun o d v q => q.unl fun z => hi (by cases z; rfl)
  tmp := fun j t h => (g.tmp j t h).unl fun z => nomatch z
theorem Good.dem0 (g : Good M N fx pin φ H env σ ts) {k : Nat} (e0 : env[k]? = none) : Good M N fx pin (unl φ k) H env σ ts where
  len := g.len
  fix := fun a o h => ⟨(g.fix a o h).1, by unfold unl; rw [(g.fix a o h).2]; simp⟩
  own := fun a h => g.own a fun z => h (by unfold unl; rw [z]; simp)
  free := g.free
  slot := fun i s h => (g.slot i s h).keep fun o d v q => q.unl fun z => by cases z; rw [e0] at h; cases h
  tmp := fun j t h => (g.tmp j t h).unl fun z => nomatch z
theorem Good.demK : ∀ (ks : List Nat) {φ : Lab} {env : Env}, Good M N fx pin φ H env σ ts → ∃ φ', Good M N fx pin φ' H (demK ks env) σ ts ∧ (∀ a, φ a = none → φ' a = none) ∧ ∀ k ∈ ks, ∀ a, φ a = some (.slot k) → φ' a = none
  | [], φ, env, g => ⟨φ, g, fun _ h => h, fun k h => nomatch h⟩
  | k :: ks, φ, env, g => by
    have key : ∃ φ', Good M N fx pin φ' H (CB.demK (k :: ks) env) σ ts ∧ (∀ a, unl φ k a = none → φ' a = none) ∧ ∀ j ∈ ks, ∀ a, unl φ k a = some (.slot j) → φ' a = none := by
      cases e0 : env[k]? with
      | none =>
        obtain ⟨φ', g', h1, h2⟩ := Good.demK ks (g.dem0 e0)
        exact ⟨φ', by simp only [CB.demK, e0]; exact g', h1, h2⟩
      | some s0 =>
        obtain ⟨φ', g', h1, h2⟩ := Good.demK ks (g.dem1 e0)
        exact ⟨φ', by simp only [CB.demK, e0]; exact g', h1, h2⟩
    obtain ⟨φ', g', h1, h2⟩ := key
    refine ⟨φ', g', fun a ha => h1 a (by unfold unl; rw [ha]; simp), fun j hj a ha => ?_⟩
    by_cases hjk : j = k
    · subst hjk
      exact h1 a (by unfold unl; rw [ha]; simp)
    · rcases List.mem_cons.mp hj with z | z
      · exact absurd z hjk
      · exact h2 j z a (by unfold unl; rw [ha]; simp [hjk])
def hid : Sl → Sl
  | .val true d => if noL d then .val true d else .emp
  | .ref d => if noL d then .ref d else .emp
  | .top _ => .emp
  | s => s
def hide (ks : List Nat) : Nat → Env → Env
  | _, [] => []
  | i, s :: env => (if ks.contains i then s else hid s) :: hide ks (i + 1) env
theorem hide_len (ks : List Nat) : ∀ (i : Nat) (env : Env), (hide ks i env).length = env.length
  | _, [] => rfl
  | i, s :: env => by simp only [hide, List.length_cons, hide_len ks (i + 1) env]
theorem hide_get (ks : List Nat) : ∀ (n : Nat) (env : Env) (i : Nat), (hide ks n env)[i]? = (env[i]?).map fun s => if ks.contains (n + i) then s else hid s
  | _, [], i => by simp [hide]
  | n, s :: env, 0 => by simp [hide]
  | n, s :: env, i + 1 => by
    simp only [hide, List.getElem?_cons_succ, hide_get ks (n + 1) env i]
    rw [show n + 1 + i = n + (i + 1) by omega]
theorem Good.obsK (g : Good M N fx pin φ H env σ ts) (ks : List Nat) : ObsEnv (fun a => M a ∧ (φ a = none ∨ ∃ k ∈ ks, φ a = some (.slot k))) H (hide ks 0 env) σ := ⟨by exact ⟨by have := g.len.le; rw [hide_len]; exact this, g.len.tab⟩, fun i d h => by
  unfold Env.look at h
  rw [hide_get] at h
  cases e : env[i]? with
  | none => rw [e] at h; cases h
  | some s =>
    rw [e] at h
    have k := g.slot i s e
    have main : ∀ {o d' v}, σ[i]? = some (some v) → Held φ H M (.slot i) o d' v → (o = true → ks.contains i = true ∨ noL d' = true) → d' = d → ∃ v as, σ[i]? = some (some v) ∧ Rep H d v as ∧ ∀ a ∈ as, M a ∧ (φ a = none ∨ ∃ k ∈ ks, φ a = some (.slot k)) := by
      rintro o d' v hv ⟨as, h1, h2, h3, h4⟩ hk rfl
      refine ⟨v, as, hv, h1, fun a ha => ⟨h2 a ha, ?_⟩⟩
      cases o with
      | false => exact .inl (h3 a ha)
      | true =>
        rcases hk rfl with z | z
        · exact .inr ⟨i, by simpa using z, h3 a ha⟩
        · rw [h1.noL z] at ha; cases ha
    simp only [Option.map_some, Nat.zero_add] at h
    cases s with
    | emp => simp only [hid] at h; split at h <;> cases h
    | pin => simp only [hid] at h; split at h <;> cases h
    | val o d' =>
      obtain ⟨v, h1, h2⟩ := k
      by_cases hc : ks.contains i = true
      · rw [if_pos hc] at h; cases h
        exact main h1 h2 (fun _ => .inl hc) rfl
      · rw [if_neg hc] at h
        cases o with
        | false => cases h; exact main h1 h2 (fun z => nomatch z) rfl
        | true =>
          simp only [hid] at h
          by_cases hn : noL d' = true
          · rw [if_pos hn] at h; cases h
            exact main h1 h2 (fun _ => .inr hn) rfl
          · rw [if_neg hn] at h; cases h
    | ref d' =>
      obtain ⟨v, h1, _, h2⟩ := k
      by_cases hc : ks.contains i = true
      · rw [if_pos hc] at h; cases h
        exact main h1 h2 (fun _ => .inl hc) rfl
      · rw [if_neg hc] at h
        simp only [hid] at h
        by_cases hn : noL d' = true
        · rw [if_pos hn] at h; cases h
          exact main h1 h2 (fun _ => .inr hn) rfl
        · rw [if_neg hn] at h; cases h
    | top xs =>
      obtain ⟨v, vs, h1, h2, h3⟩ := k
      by_cases hc : ks.contains i = true
      · rw [if_pos hc] at h; cases h
        obtain ⟨as, r, m⟩ := top_lab h2 h3
        exact ⟨v, as, h1, r, fun b hb => ⟨(m b hb).1, (m b hb).2.imp_right fun z => ⟨i, by simpa using hc, z⟩⟩⟩
      · rw [if_neg hc] at h
        simp only [hid] at h
        cases h⟩
theorem Good.pushS (g : Good M N fx pin φ H env σ ts) (e : Ex H H') {d : D} {v : V} {as : List Addr} (r : Rep H' d v as) (m : ∀ a ∈ as, M a ∨ H a = none) (ha : ∀ a ∈ as, φ a = none) : Good M N fx pin φ H' env σ (ts ++ [(false, d, v)]) := by
  have g' := g.ext e
  refine ⟨g'.len, g'.fix, g'.own, g'.free, g'.slot, fun j t h => ?_⟩
  by_cases hj : j < ts.length
  · rw [List.getElem?_append_left hj] at h
    exact g'.tmp j t h
  · have hj' : j = ts.length := by
      have := (List.getElem?_eq_some_iff.mp h).1
      simp at this; omega
    subst hj'
    simp at h
    subst h
    exact ⟨as, r, fun a q => (m a q).elim id fun z => (g.fresh z).2, fun a q => ha a q, fun z => nomatch z⟩
theorem Good.drop1 {t : Tmp} (g : Good M N fx pin φ H env σ (ts ++ [t])) : Good M N fx pin φ H env σ ts :=
  ⟨g.len, g.fix, g.own, g.free, g.slot, fun j u h => g.tmp j u (by rw [List.getElem?_append_left (List.getElem?_eq_some_iff.mp h).1]; exact h)⟩
end

inductive GR where
  | ok (o : Bool) (d : D) (env : Env) | ex (x : Xn) (env : Env) | no
abbrev GE := Env → GR
def lift (ks : List Nat) (p : P) : GE := fun env => match p env with
  | .ok f d => if gfl f d then .ok true d env else match p (hide ks 0 env) with
    | .ok _ d2 => .ok false d2 (demK ks env)
    | _ => .no
  | .ex x => .ex x env
  | .no => .no
inductive SR where
  | nx (env : Env) | rt (o : Bool) (d : D) (env : Env) | ex (x : Xn) (env : Env) | no
abbrev SM := Env → SR
section
variable (M N : Addr → Prop) (fx : Addr → HO → Prop) (pin : Nat → Option V) (mg : Str → Option Value) (σ : L2.St) (ts : List Tmp) (E : XK)
def GWant (Q : VK) : GR → Prop
  | .ok o d env => ∀ φ H v, Good M N fx pin φ H env σ (ts ++ [(o, d, v)]) → Q v H
  | .ex x env => ∀ φ H c dx, Good M N fx pin φ H env σ ts → XR mg x c dx H → E c dx H
  | .no => False
def SWant (K : Ends) : SR → Prop
  | .nx env => ∀ φ H σ', Good M N fx pin φ H env σ' ts → K.nx σ' H
  | .rt o d env => ∀ φ H σ' v, Good M N fx pin φ H env σ' (ts ++ [(o, d, v)]) → K.rt v H
  | .ex x env => ∀ φ H σ' c dx, Good M N fx pin φ H env σ' ts → XR mg x c dx H → E c dx H
  | .no => False
end
def SndE (X : Cx) (E : XK) (e : Expr) (m : GE) : Prop := ∃ t, PE X e t ∧ ∀ M N fx pin φ H env σ ts Q, Good M N fx pin φ H env σ ts → GWant M N fx pin X.mg σ ts E Q (m env) → t σ H Q
def SndS (X : Cx) (E : XK) (st : Stmt) (m : SM) : Prop := ∃ t, PS X st t ∧ ∀ M N fx pin φ H env σ ts K, Good M N fx pin φ H env σ ts → SWant M N fx pin X.mg ts E K (m env) → t K σ H
def SndB (X : Cx) (E : XK) (sts : List Stmt) (m : SM) : Prop := ∃ t, PSs X sts t ∧ ∀ M N fx pin φ H env σ ts K, Good M N fx pin φ H env σ ts → SWant M N fx pin X.mg ts E K (m env) → t K σ H
section
variable {X : Cx} {E : XK}
theorem lift_read {t : TE} {p : P} (ks : List Nat) (h : ∀ (S : Addr → Prop) env σ H Q, ObsEnv S H env σ → PWant S X.mg H Q E (p env) → t σ H Q) :
    ∀ M N fx pin φ H env σ ts Q, Good M N fx pin φ H env σ ts → GWant M N fx pin X.mg σ ts E Q (lift ks p env) → t σ H Q := by
  intro M N fx pin φ H env σ ts Q g w
  unfold lift at w
  cases hp : p env with
  | no => rw [hp] at w; exact w.elim
  | ex x =>
    refine h M env σ H Q g.obs ?_
    rw [hp] at w ⊢; exact fun c dx H' e r => w φ H' c dx (g.ext e) r
  | ok f d =>
    rw [hp] at w
    simp only at w
    split at w
    · rename_i hg
      refine h M env σ H Q g.obs ?_
      rw [hp]
      intro v H' as e r m n
      exact w _ H' v (g.push e r (gfl_new hg r n))
    · cases hp2 : p (hide ks 0 env) with
      | no => rw [hp2] at w; exact w.elim
      | ex x => rw [hp2] at w; exact w.elim
      | ok f2 d2 =>
        rw [hp2] at w
        simp only at w
        refine h _ _ σ H Q (g.obsK ks) ?_
        rw [hp2]
        intro v H' as e r m n
        obtain ⟨φ', g', k1, k2⟩ := g.demK ks
        refine w φ' H' v (g'.pushS e r (fun a ha => (m a ha).imp (fun z => z.1) id) fun a ha => ?_)
        rcases m a ha with ⟨_, z | ⟨k, hk, z⟩⟩ | z
        · exact k1 a z
        · exact k2 k hk a z
        · exact k1 a (g.lab_none z)
theorem snde_pure {e : Expr} {p : P} (ks : List Nat) (h : SndP X E e p) : SndE X E e (lift ks p) := by
  obtain ⟨t, h1, h2⟩ := h
  exact ⟨t, h1, lift_read ks h2⟩
def retS (m : GE) : SM := fun env => match m env with
  | .ok o d env' => .rt o d env'
  | .ex x env' => .ex x env'
  | .no => .no
theorem snds_ret {e : Expr} {m : GE} {pos : Pos} (h : SndE X E e m) : SndS X E (.Return (some e) pos) (retS m) := by
  obtain ⟨t, h1, h2⟩ := h
  refine ⟨_, ps_ret h1, fun M N fx pin φ H env σ ts K g w => h2 M N fx pin φ H env σ ts _ g ?_⟩
  unfold retS at w
  cases hm : m env with
  | no => rw [hm] at w; exact w
  | ex x env' => rw [hm] at w; exact fun φ' H' c dx g' r => w φ' H' σ c dx g' r
  | ok o d env' => rw [hm] at w; exact fun φ' H' v g' => w φ' H' σ v g'
def dropS (m : GE) : SM := fun env => match m env with
  | .ok _ _ env' => .nx env'
  | .ex x env' => .ex x env'
  | .no => .no
theorem snds_expr {e : Expr} {m : GE} {pos : Pos} (h : SndE X E e m) (hs : swapsWith e none pos.line X.env = pure false := by rfl) : SndS X E (.Expr e pos) (dropS m) := by
  obtain ⟨t, h1, h2⟩ := h
  refine ⟨_, ps_expr h1 hs, fun M N fx pin φ H env σ ts K g w => h2 M N fx pin φ H env σ ts _ g ?_⟩
  unfold dropS at w
  cases hm : m env with
  | no => rw [hm] at w; exact w
  | ex x env' => rw [hm] at w; exact fun φ' H' c dx g' r => w φ' H' σ c dx g' r
  | ok o d env' => rw [hm] at w; exact fun φ' H' v g' => w φ' H' σ g'.drop1
def toSlot (φ : Lab) (j i : Nat) : Lab := fun a => if φ a = some (.tmp j) then some (.slot i) else if φ a = some (.slot i) then none else φ a
theorem Good.store {M N : Addr → Prop} {fx : Addr → HO → Prop} {pin : Nat → Option V} {φ : Lab} {H : Hp} {env : Env} {σ : L2.St} {ts : List Tmp} {o : Bool} {d : D} {v : V} {i : Nat} (g : Good M N fx pin φ H env σ (ts ++ [(o, d, v)])) :
    Good M N fx pin (toSlot φ ts.length i) H (env.set i (.val o d)) (σ.set i (some v)) ts := by
  have hlast : Held φ H M (.tmp ts.length) o d v := g.tmp ts.length (o, d, v) (by simp)
  have oth : ∀ {l : Lb} {o : Bool} {d : D} {v : V}, l ≠ .tmp ts.length → l ≠ .slot i → Held φ H M l o d v → Held (toSlot φ ts.length i) H M l o d v := fun {l o d v} h1 h2 k => k.keep fun as r q => ⟨r, fun a ha => by
    unfold toSlot
    rw [q a ha]
    cases o with
    | true => simp [h1, h2]
    | false => simp⟩
  refine ⟨g.len.set, fun a u h => ⟨(g.fix a u h).1, ?_⟩, fun a h => ?_, g.free, fun k s h => ?_, fun j t h => ?_⟩
  · unfold toSlot
    rw [(g.fix a u h).2]; simp
  · refine g.own a fun z => h ?_
    unfold toSlot
    rw [z]; simp
  · by_cases hk : k = i
    · subst hk
      have hlen : k < env.length := by
        have := (List.getElem?_eq_some_iff.mp h).1
        rwa [List.length_set] at this
      rw [List.getElem?_set_self hlen] at h
      cases h
      refine ⟨v, by rw [List.getElem?_set_self (Nat.lt_of_lt_of_le hlen g.len.le)], hlast.keep fun as r q => ⟨r, fun a ha => ?_⟩⟩
      unfold toSlot
      rw [q a ha]
      cases o with
      | true => simp
      | false => simp
    · rw [List.getElem?_set_ne (Ne.symm hk)] at h
      rw [List.getElem?_set_ne (Ne.symm hk)]
      exact (g.slot k s h).keep fun o d v q => oth (fun z => nomatch z) (fun z => hk (by cases z; rfl)) q
  · have hj : j < ts.length := (List.getElem?_eq_some_iff.mp h).1
    exact oth (fun z => by cases z; exact absurd hj (Nat.lt_irrefl _)) (fun z => nomatch z) (g.tmp j t (by rw [List.getElem?_append_left hj]; exact h))
def asgS (i : Nat) (m : GE) : SM := fun env => match m env with
  | .ok o d env' => .nx (env'.set i (.val o d))
  | .ex x env' => .ex x env'
  | .no => .no
theorem asg_read {t : TE} {m : GE} (i : Nat) (h : ∀ M N fx pin φ H env σ ts Q, Good M N fx pin φ H env σ ts → GWant M N fx pin X.mg σ ts E Q (m env) → t σ H Q) :
    ∀ M N fx pin φ H env σ ts K, Good M N fx pin φ H env σ ts → SWant M N fx pin X.mg ts E K (asgS i m env) → tAsg t (gName i) K σ H := by
  intro M N fx pin φ H env σ ts K g w
  refine h M N fx pin φ H env σ ts _ g ?_
  unfold asgS at w
  cases hm : m env with
  | no => rw [hm] at w; exact w
  | ex x env' => rw [hm] at w; exact fun φ' H' c dx g' r => w φ' H' σ c dx g' r
  | ok o d env' =>
    rw [hm] at w
    intro φ' H' v g'
    exact w _ H' _ g'.store
theorem snds_set {i : Nat} {x : Str} {e : Expr} {m : GE} {pos pos' : Pos} (h : SndE X E e m) (hN : X.N.Nodup) (hi : X.N[i]? = some x) (hx : Loc X.env.scope x) (hs : swapsWith e (some (.Name x pos')) pos.line X.env = pure false := by rfl) (hf : X.fn x = true ∨ X.env.scope.names.lookup x = some .local := by first | exact .inl rfl | exact .inr rfl | assumption) :
    SndS X E (.Assign [.Name x pos'] e pos) (asgS i m) := by
  obtain ⟨t, h1, h2⟩ := h
  exact ⟨_, ps_set hN hi hx h1 hs hf, asg_read i h2⟩
theorem snds_setC (ks : List Nat) {i : Nat} {y : Str} {py : Pos} {elt tg iter : Expr} {ifs : List Expr} {scope : Scope} {own : List (Str × Nat)} {pos spos : Pos} {ι : I} {τ : Tgt} {t el : P} (hc : X.calm = true) (hN : X.N.Nodup) (hy : X.N[i]? = some y) (hyl : X.env.scope.names.lookup y = some .local)
    (hsw : swapsWith (.ListComp elt [⟨tg, iter, ifs, 0⟩] scope pos) (some (.Name y py)) spos.line X.env = pure true) (hi : SndI X E tg iter ι) (ok : BlkOk X.N X.env.scope scope own)
    (hg : Blk X scope fun Y => SndG Y tg τ) (ht : Blk X scope fun Y => SndTs Y ifs t) (he : Blk X scope fun Y => SndP Y E0 elt el) (hτ : ∀ i ∈ slotsOf τ, i ∈ own.map (·.2) := by decide) (hs : ∀ x, foldedSetIterable iter X.env x = pure x := by intro _; rfl) :
    SndS X E (.Assign [.Name y py] (.ListComp elt [⟨tg, iter, ifs, 0⟩] scope pos) spos) (asgS i (lift ks (comp (own.map (·.2)) τ ι t el))) := by
  obtain ⟨wi, h1, h2⟩ := comp_read (t := t) (el := el) hi hτ
  exact ⟨_, ps_setLc hc hN hy hyl hsw h1 ok (fun s H C cl fp => (hg s H C cl fp).c) (fun s H C cl fp => (ht s H C cl fp).c) (fun s H C cl fp => (he s H C cl fp).c) hs, asg_read i (lift_read ks h2)⟩
def passS : SM := fun env => .nx env
def seqS (m n : SM) : SM := fun env => match m env with
  | .nx env' => n env'
  | .rt o d env' => .rt o d env'
  | .ex x env' => .ex x env'
  | .no => .no
theorem sndb_one {st : Stmt} {m : SM} (h : SndS X E st m) : SndB X E [st] m := let ⟨t, a, b⟩ := h; ⟨t, pss_one a, b⟩
theorem sndb_nil : SndB X E [] passS := ⟨_, pss_nil, fun _ _ _ _ φ H env σ _ _ g w => w φ H σ g⟩
theorem sndb_cons {st : Stmt} {sts : List Stmt} {m n : SM} (h : SndS X E st m) (hs : SndB X E sts n) : SndB X E (st :: sts) (seqS m n) := by
  obtain ⟨t, h1, h2⟩ := h
  obtain ⟨u, g1, g2⟩ := hs
  refine ⟨_, pss_cons h1 g1, fun M N fx pin φ H env σ ts K g w => h2 M N fx pin φ H env σ ts _ g ?_⟩
  unfold seqS at w
  cases hm : m env with
  | no => rw [hm] at w; exact w
  | ex x env' => rw [hm] at w; exact w
  | rt o d env' => rw [hm] at w; exact w
  | nx env' => rw [hm] at w; exact fun φ' H' σ' g' => g2 M N fx pin φ' H' env' σ' ts K g' w
def ifS (p : P) (m n : SM) : SM := fun env => match p env with
  | .ok _ (.bl true) => m env
  | .ok _ (.bl false) => n env
  | .ok _ _ => .no
  | .ex x => .ex x env
  | .no => .no
theorem snds_if {c : Expr} {a b : List Stmt} {p : P} {m n : SM} {pos : Pos} (hc : SndT X E c p) (ha : SndB X E a m) (hb : SndB X E b n) : SndS X E (.If c a b pos) (ifS p m n) := by
  obtain ⟨t, c1, c2⟩ := hc
  obtain ⟨u, a1, a2⟩ := ha
  obtain ⟨z, b1, b2⟩ := hb
  refine ⟨_, ps_if c1 a1 b1, fun M N fx pin φ H env σ ts K g w => c2 M env σ H _ g.obs ?_⟩
  unfold ifS at w
  cases hp : p env with
  | no => rw [hp] at w; exact w
  | ex x => rw [hp] at w; exact fun c dx H' e r => w φ H' σ c dx (g.ext e) r
  | ok f d =>
    rw [hp] at w
    cases d with
    | bl b =>
      intro H1 e
      cases b with
      | true => exact iteT (a2 M N fx pin φ H1 env σ ts K (g.ext e) w)
      | false => exact iteF (b2 M N fx pin φ H1 env σ ts K (g.ext e) w)
    | _ => exact (show False from w).elim

def startE (n : Nat) (ds : List D) : Env := ds.map (.val false) ++ List.replicate (n - ds.length) .emp
def fnP (n : Nat) (m : SM) (ds : List D) : PR := match m (startE n ds) with
  | .nx _ => .ok true .non
  | .rt o d _ => .ok o d
  | .ex x _ => .ex x
  | .no => .no
theorem start_slot {H : Hp} : ∀ {ds : List D} {vs : List V} {as : List Addr}, Reps H ds vs as → ∀ (i : Nat) (d : D), ds[i]? = some d → ∃ v bs, vs[i]? = some v ∧ Rep H d v bs ∧ ∀ a ∈ bs, a ∈ as := fun r i d h => by
  obtain ⟨v, bs, cs, es, h1, h2, h3⟩ := r.get h
  exact ⟨v, bs, h1, h2, fun a m => mem_sub h3 m⟩
theorem Good.start {H : Hp} {ds : List D} {vs : List V} {as : List Addr} {n : Nat} {NN : List Str} (tb : TabOk H) (r : Reps H ds vs as) (hn : NN.length = n) (hk : ds.length ≤ n) :
    Good (fun a => a ∈ as ∨ H a = none) (fun a => H a = none) (fun a o => H a = some o) (fun _ => none) (fun _ => none) H (startE n ds) (L2.start NN vs) [] where
  len := ⟨by
    unfold startE L2.start
    rw [List.length_append, List.length_map, List.length_replicate, List.length_append, List.length_map, List.length_replicate, hn, r.length]
    omega, tb⟩
  fix := fun a o h => ⟨.of h, rfl⟩
  own := fun a h => absurd rfl h
  free := fun p h => by
    have : H p = none := by
      cases e : H p with
      | none => rfl
      | some o => exact absurd e (h o)
    exact ⟨this, .inr this⟩
  slot := fun i s h => by
    unfold startE at h
    by_cases hi : i < ds.length
    · rw [List.getElem?_append_left (by simpa using hi), List.getElem?_map] at h
      have e : ds[i]? = some ds[i] := by simp
      rw [e] at h
      cases h
      obtain ⟨v, bs, h1, h2, h3⟩ := start_slot r i _ e
      refine ⟨v, ?_, bs, h2, fun a m => .inl (h3 a m), fun _ _ => rfl, fun z => nomatch z⟩
      unfold L2.start
      have hv : i < vs.length := (List.getElem?_eq_some_iff.mp h1).1
      rw [List.getElem?_append_left (by simpa using hv), List.getElem?_map, h1]; rfl
    · rw [List.getElem?_append_right (by simpa using hi)] at h
      rw [List.getElem?_replicate] at h
      split at h <;> cases h
      trivial
  tmp := fun j t h => by simp at h
theorem fn_ok {P' : Program} {w : World} {K : PySem.W.Frag} {mg : Str → Option Value} {base : Heap} {x qual : Str} {st : Stmt} {f : Addr} {fd : FuncData} {NN ps : List Str} {k n : Nat} {m : SM} (F : Fun K x qual st f fd) (S : FnScope NN ps (defScope st)) (hn : NN.length = n) (hk : ps.length ≤ n)
    (hb : ∀ (cdv : Value) (A : Around) (outer : List PySem.Env) (s : Shared) (H : Hp) (E : XK), RoomG k (A.deeper (envOfC qual (defScope st) s.heap.objs.size f cdv)) → SndB (cxOf (L2.CX P' w) P' w K mg base NN qual (defScope st) f cdv A outer s H E) E (defBody st) m) :
    FnOkG P' w K mg base (L2.CX P' w) (k + 1) f fd ps (spF ps.length mg (fnP n m)) := by
  refine okXG F S (fun vs H Q E h => h.1) (fun cdv A outer s H vs Q E hr h => ?_)
  obtain ⟨hl, tb, ds, as, r, w⟩ := h
  obtain ⟨t, h1, h2⟩ := hb cdv A outer s H E hr
  refine ⟨t, h1, h2 _ _ _ _ _ H _ _ [] _ (Good.start (NN := NN) tb r hn (by rw [r.length, hl]; exact hk)) ?_⟩
  unfold fnP at w
  cases hm : m (startE n ds) with
  | no => rw [hm] at w; exact w
  | ex x env' => rw [hm] at w; exact fun φ' H' σ' c dx g' r' => w c dx H' (.fx (fun a o h => (g'.fix a o h).1) g'.len.tab) r'
  | nx env' => rw [hm] at w; exact fun φ' H' σ' g' => w .non H' [] (.fx (fun a o h => (g'.fix a o h).1) g'.len.tab) .non noMem fun _ => .nil H
  | rt o d env' =>
    rw [hm] at w
    intro φ' H' σ' v g'
    obtain ⟨bs, r1, r2, r3, r4⟩ := g'.tmp 0 (o, d, v) (by simp)
    refine w v H' bs (.fx (fun a o h => (g'.fix a o h).1) g'.len.tab) r1 r2 fun z => ⟨r4 z, fun a ha => ?_⟩
    have z' : o = true := z
    have := r3 a ha
    rw [z'] at this
    exact (g'.own a (by rw [this]; exact fun q => nomatch q)).1
end
end CB

namespace CB
open PySem L2 PySem.Spec PyProof.Rows
variable [CT]

def isIns {α : Type} (le : α → α → Bool) (a : α) : List α → List α
  | [] => [a]
  | b :: r => if le a b then a :: b :: r else b :: isIns le a r
def isort {α : Type} (le : α → α → Bool) : List α → List α
  | [] => []
  | a :: r => isIns le a (isort le r)
section
variable {α : Type} {le : α → α → Bool}
theorem isIns_perm (a : α) : ∀ l : List α, (isIns le a l).Perm (a :: l)
  | [] => List.Perm.refl _
  | b :: r => by
    unfold isIns
    split
    · exact List.Perm.refl _
    · exact (List.Perm.cons b (isIns_perm a r)).trans (List.Perm.swap a b r)
theorem isort_perm : ∀ l : List α, (isort le l).Perm l
  | [] => List.Perm.refl _
  | a :: r => (isIns_perm a _).trans (List.Perm.cons a (isort_perm r))
theorem isIns_pw (h : PySem.W.TotalLe le) (a : α) : ∀ {l : List α}, l.Pairwise (fun x y => le x y = true) → (isIns le a l).Pairwise (fun x y => le x y = true)
  | [], _ => by simp [isIns]
  | b :: r, hp => by
    unfold isIns
    obtain ⟨h1, h2⟩ := List.pairwise_cons.mp hp
    split
    · rename_i hab
      refine List.pairwise_cons.mpr ⟨fun c hc => ?_, hp⟩
      rcases List.mem_cons.mp hc with e | hc
      · rw [e]; exact hab
      · exact h.trans _ _ _ hab (h1 c hc)
    · rename_i hab
      refine List.pairwise_cons.mpr ⟨fun c hc => ?_, isIns_pw h a h2⟩
      rcases List.mem_cons.mp ((isIns_perm a r).mem_iff.mp hc) with e | hc
      · rw [e]; exact (h.total a b).resolve_left hab
      · exact h1 c hc
theorem isort_pw (h : PySem.W.TotalLe le) : ∀ l : List α, (isort le l).Pairwise (fun x y => le x y = true)
  | [] => .nil
  | a :: r => isIns_pw h a (isort_pw h r)
theorem isIns_filter (h : PySem.W.TotalLe le) (c a : α) : ∀ l : List α, (isIns le a l).filter (PySem.W.sameRank le c) = (a :: l).filter (PySem.W.sameRank le c)
  | [] => rfl
  | b :: r => by
    unfold isIns
    split
    · rfl
    · rename_i hab
      have ih := isIns_filter h c a r
      rw [List.filter_cons, ih, List.filter_cons, List.filter_cons, List.filter_cons]
      by_cases h1 : PySem.W.sameRank le c a = true
      · by_cases h2 : PySem.W.sameRank le c b = true
        · exfalso
          unfold PySem.W.sameRank at h1 h2
          rw [Bool.and_eq_true] at h1 h2
          exact hab (h.trans _ _ _ h1.2 h2.1)
        · rw [if_neg h2, if_neg h2]
      · rw [if_neg h1, if_neg h1]
theorem isort_filter (h : PySem.W.TotalLe le) (c : α) : ∀ l : List α, (isort le l).filter (PySem.W.sameRank le c) = l.filter (PySem.W.sameRank le c)
  | [] => rfl
  | a :: r => by
    unfold isort
    rw [isIns_filter h, List.filter_cons, List.filter_cons, isort_filter h c r]
theorem isort_eq (h : PySem.W.TotalLe le) (l : List α) : l.mergeSort le = isort le l := (PySem.W.sort_unique h (isort_pw h l) fun c => isort_filter h c l).symm
end
def leI (i j : Int) : Bool := decide (i ≤ j)
section
variable {X : Cx} {E : XK}
theorem collect_tup {prog : Program} {w : World} {A : Around} {E : Value → Shared → Prop} {s : Shared} {l : Addr} {vs : List Value} {Q : List Value → Shared → Prop} (hl : s.heap.IsTuple l vs.toArray)
    (h : Q vs { s with heap := (s.heap.push (seqObj "list" #[] 0)).update s.heap.objs.size (Obj.mapSeq (· ++ vs.toArray)) }) (hsz : vs.length ≤ sizeLine) : wpAny (model prog w) A (collect (.ref l)) Q E s := by
  obtain ⟨o, ho, hc, n, hd⟩ := id hl
  unfold collect
  refine wpAny_bind (wpAny_runValue (codeAny_builtin entry_proto_collect' ?_))
  show wpAny _ _ (do again (.builtin "list.__iadd__" ⟨[← newList [], .ref l], []⟩)) _ _ s
  refine wpAny_bind (wpAny_newList (wpAny_pure ⟨Code.quiet_builtin _ (by decide +kernel), codeAny_builtin entry_list_iadd' ?_⟩))
  show wpAny _ _ (Builtin.List.listExtendWith (.ref s.heap.objs.size) (.ref l) (.ref s.heap.objs.size)) _ _ { s with heap := s.heap.push (seqObj "list" #[] 0) }
  unfold Builtin.List.listExtendWith
  have ho' : (s.heap.push (seqObj "list" #[] 0)).get? l = some o := Heap.get?_push_of_some _ ho
  refine wpAny_bind (wpAny_typeOf (T := "tuple") ⟨o, ho', hc⟩ ?_)
  have ht : (Value.type "tuple" == Value.type "tuple") = true := by rfl
  rw [if_pos (by rw [ht]; simp)]
  refine wpAny_bind (listItems_at ho' hd ?_)
  refine wpAny_bind (listItems_at (xs := #[]) (n := 0) (Heap.get?_push_size _ rfl) rfl ?_)
  rw [if_neg (by simp)]
  refine wpAny_bind (listUpdate_at (xs := #[]) (n := 0) (Heap.get?_push_size _ rfl) rfl ?_ (Nat.zero_le _) (by show (#[] ++ vs.toArray).size ≤ sizeLine + 1; simp only [Array.size_append, List.size_toArray, List.length_nil]; omega))
  refine wpAny_pure ?_
  show wpAny (model prog w) A (do
      let o ← load s.heap.objs.size
      match o.data with
      | .seq xs _ => pure xs.toList
      | _ => unsupported "internal:collect") Q E { s with heap := (s.heap.push (seqObj "list" #[] 0)).update s.heap.objs.size (Obj.mapSeq (· ++ vs.toArray)) }
  refine wpAny_bind (wpAny_load (get?_update_seq (Heap.get?_push_size _ rfl) _) ?_)
  show wpAny _ _ (pure ((#[] : Array Value) ++ vs.toArray).toList) Q E _
  rw [show ((#[] : Array Value) ++ vs.toArray).toList = vs by simp]
  exact wpAny_pure h
end
end CB

namespace CB
open PySem L2 PySem.Spec PyProof.Rows
variable [CT]

abbrev Row := List (D × V × List Addr)
def Row.ds (b : Row) : List D := b.map (·.1)
def Row.vs (b : Row) : List V := b.map (·.2.1)
def Row.as (b : Row) : List Addr := (b.map (·.2.2)).flatten
theorem Reps.row {H : Hp} : ∀ {ds : List D} {vs : List V} {as : List Addr}, Reps H ds vs as → ∃ b : Row, b.ds = ds ∧ b.vs = vs ∧ b.as = as ∧ ∀ x ∈ b, Rep H x.1 x.2.1 x.2.2
  | _, _, _, .nil => ⟨[], rfl, rfl, rfl, fun _ h => nomatch h⟩
  | _, _, _, .cons (d := d) (v := v) (as := as) r rs => by
    obtain ⟨b, h1, h2, h3, h4⟩ := Reps.row rs
    refine ⟨(d, v, as) :: b, ?_, ?_, ?_, fun x h => ?_⟩
    · simp only [Row.ds] at h1 ⊢; rw [List.map_cons, h1]
    · simp only [Row.vs] at h2 ⊢; rw [List.map_cons, h2]
    · simp only [Row.as] at h3 ⊢; rw [List.map_cons, List.flatten_cons, h3]
    · rcases List.mem_cons.mp h with e | h
      · subst e; exact r
      · exact h4 x h
theorem reps_row {H : Hp} : ∀ (b : Row), (∀ x ∈ b, Rep H x.1 x.2.1 x.2.2) → Reps H b.ds b.vs b.as
  | [], _ => .nil
  | x :: b, h => by
    have := Reps.cons (h x List.mem_cons_self) (reps_row b fun y hy => h y (List.mem_cons_of_mem _ hy))
    exact this
theorem Row.as_perm {b c : Row} (h : b.Perm c) : b.as.Perm c.as := (h.map _).flatten
def leD (rev : Bool) (x y : D) : Bool := PySem.W.dataLe rev dat x y
theorem leD_total (rev : Bool) : PySem.W.TotalLe (leD rev) := PySem.W.sortLe_total _ rev _
def alikeB (ds : List PyData) : Bool := ds.all fun d => ds.all fun d' => PySem.W.alike d d'
def sortB (ds : List PyData) : Bool := (ds.all fun d => match d with | .tuple (_ :: _) => true | _ => false) || (ds.all fun d => match d with | .none => false | .tuple _ => false | _ => true)
def depB (ds : List PyData) : Bool := ds.all fun d => decide (d.depth ≤ 60) && d.canLay0
theorem alikeB_ok {ds : List PyData} (h : alikeB ds = true) : PySem.W.AllAlike ds := fun d hd d' hd' => List.all_eq_true.mp (List.all_eq_true.mp h d hd) d' hd'
theorem sortB_ok {ds : List PyData} (h : sortB ds = true) : PySem.W.Sortable ds := by
  unfold sortB at h
  rw [Bool.or_eq_true] at h
  rcases h with h | h
  · refine .inl fun d hd => ?_
    have := List.all_eq_true.mp h d hd
    split at this
    · exact ⟨_, _, rfl⟩
    · cases this
  · refine .inr fun d hd => ?_
    have := List.all_eq_true.mp h d hd
    split at this
    · cases this
    · cases this
    · rename_i h1 h2
      exact ⟨fun e => h1 e, fun xs e => h2 xs e⟩
def rSortG (K : PySem.W.Frag) (rev : Bool) : List V → Hp → VK → Prop := fun ws H Q => ∃ (a : Addr) (b : Row), ws = [.ref a] ∧ (SqL K H a b.vs ∨ SqT K H a b.vs) ∧ (∀ x ∈ b, Rep H x.1 x.2.1 x.2.2) ∧ PySem.W.AllAlike (b.map fun x => dat x.1) ∧ PySem.W.Sortable (b.map fun x => dat x.1) ∧ (∀ x ∈ b, (dat x.1).depth ≤ 60 ∧ (dat x.1).canLay0 = true) ∧ b.length ≤ sizeLine ∧
  ∀ p, H p = none → Q (.ref p) (upd H p (.lst (Row.vs (b.mergeSort (PySem.W.dataLe rev fun x => dat x.1)))))
section
variable {X : Cx} {E : XK}
theorem eachIs_vals : ∀ {b : Row} {us : List Value}, Vals b.vs us → PySem.W.EachIs (fun u (x : D × V × List Addr) => RelV x.2.1 u) us b
  | [], _, .nil => .nil
  | x :: b, _, .cons r rs => .cons r (eachIs_vals rs)
theorem vals_eachIs : ∀ {b : Row} {us : List Value}, PySem.W.EachIs (fun u (x : D × V × List Addr) => RelV x.2.1 u) us b → Vals b.vs us
  | _, _, .nil => .nil
  | _, _, .cons r rs => .cons r (vals_eachIs rs)
theorem eachIs_reads {pins : List (Addr × Obj)} {σ : L2.St} {H : Hp} {s : Shared} (I : L2.Inv X pins σ H s) : ∀ {b : Row} {us : List Value}, (∀ x ∈ b, Rep H x.1 x.2.1 x.2.2 ∧ (dat x.1).canLay0 = true) → Vals b.vs us → PySem.W.EachIs (fun u (x : D × V × List Addr) => ∃ as, Reads s.heap u (dat x.1) as) us b
  | [], _, _, .nil => .nil
  | x :: b, _, h, .cons r rs => .cons (Dp.reads I _ _ _ ((h x List.mem_cons_self).1.dp (h x List.mem_cons_self).2) r) (eachIs_reads I (fun y hy => h y (List.mem_cons_of_mem _ hy)) rs)
theorem sorted_of_tup {prog : Program} {w : World} {A : Around} {E : Value → Shared → Prop} {s : Shared} {l : Addr} {vs : List Value} {kw : List (Str × Value)} {Q : Value → Shared → Prop} (hl : s.heap.IsTuple l vs.toArray) (hL : vs.length ≤ sizeLine) (ha1 : argsOk "sorted" ⟨[.ref l], kw⟩) (ha2 : ∀ x, argsOk "list.sort" ⟨[.ref x], kw⟩)
    (body : ∀ E' : Value → Shared → Prop, wpAny (model prog w) A.in1.in1 (Builtin.«list.sort» ⟨[.ref (s.heap.objs.size + 1)], kw⟩) (fun f s' => f = .done (.ret .none) ∧ Q (.ref (s.heap.objs.size + 1)) s') E' { s with heap := PySem.W.copyHeap s.heap vs }) :
    wpAny (model prog w) A (call (.builtin "sorted") [.ref l] kw) Q E s := by
  refine call_function_entry_kw kind_sorted plain_sorted entry_sorted ha1 ?_
  unfold Builtin.«sorted»
  refine wpAny_bind (m := checkCount "sorted" 1 1 _) (wpAny_pure ?_)
  refine wpAny_bind (collect_tup hl ?_ hL)
  refine wpAny_bind (wpAny_newList ?_ hL)
  have hsz : ((s.heap.push (seqObj "list" #[] 0)).update s.heap.objs.size (Obj.mapSeq (· ++ vs.toArray))).objs.size = s.heap.objs.size + 1 := by
    rw [Heap.size_update, size_push']
  show wpAny _ _ _ _ _ { s with heap := PySem.W.copyHeap s.heap vs }
  rw [hsz]
  refine wpAny_bind (wpAny_holding (wpAny_call_entry_kw slot_list_sort ⟨_, PySem.W.copyHeap_at s.heap vs, rfl⟩ entry_list_sort ?body (ha2 _)))
  case body =>
    show wpAny (model prog w) A.in1.in1 (Builtin.«list.sort» ⟨[.ref (s.heap.objs.size + 1)], kw⟩) _ _ _
    refine wpAny_mono (body _) (fun f s' hf => ?_) fun _ _ e => e
    obtain ⟨rfl, hq⟩ := hf
    exact ⟨_, rfl, wpAny_pure ⟨_, rfl, hq⟩⟩
theorem sorted_go {rev : Bool} {kw : List (Str × Value)} (hkw : (kw = [] ∧ rev = false) ∨ kw = [(Str.ofString "reverse", .bool rev)]) (hu : X.A.units + 64 < cLine) {pins : List (Addr × Obj)} {s : Shared} {σ : L2.St} {H : Hp} {ws : List V} {us : List Value} {Q : VK} (I : L2.Inv X pins σ H s) (r : Vals ws us) (h : rSortG X.K rev ws H Q) :
    wpAny (model X.prog X.w) X.A (call (.builtin "sorted") us kw) (EP X pins σ Q) X.xe s := by
  obtain ⟨a, b, rfl, hs, hr, hal, hso, hd, hL, q⟩ := h
  rw [Vals.ref1 r]
  obtain ⟨its, rv, hseq, hz⟩ : ∃ its, Vals b.vs its ∧ (s.heap.IsList a its.toArray ∨ s.heap.IsTuple a its.toArray) ∧ b.vs.length ≤ sizeLine := by
    rcases hs with hs | hs
    · obtain ⟨its, rv, hl, hz⟩ := I.list hs
      exact ⟨its, rv, .inl hl.isList, hz⟩
    · obtain ⟨its, rv, hl, hz⟩ := I.tuple hs
      exact ⟨its, rv, .inr hl, hz⟩
  have e := eachIs_vals rv
  have er := eachIs_reads I (fun x hx => ⟨hr x hx, (hd x hx).2⟩) rv
  have er' : PySem.W.EachIs (fun v (x : D × V × List Addr) => ∃ as, Reads (PySem.W.sortingHeap (PySem.W.copyHeap s.heap its) (s.heap.objs.size + 1) its) v (dat x.1) as) its b := er.mono fun _ _ ⟨as, z⟩ => ⟨as, PyProof.Rows.Reads.keeps (fun _ _ => PySem.W.sorting_copy_old) z⟩
  have hun : ∀ d, d ∈ b.map (fun x => dat x.1) → X.A.in1.in1.units + d.depth < cLine := fun d h => by
    obtain ⟨x, hx, rfl⟩ := List.mem_map.mp h
    have := (hd x hx).1
    show X.A.units + 1 + 1 + _ < _
    omega
  have SA := PySem.W.SortsAt.data (prog := X.prog) (w := X.w) (A := X.A.in1.in1) (s := { s with heap := PySem.W.sortingHeap (PySem.W.copyHeap s.heap its) (s.heap.objs.size + 1) its }) (PySem.W.each_map (R := fun v d => ∃ as, Reads (PySem.W.sortingHeap (PySem.W.copyHeap s.heap its) (s.heap.objs.size + 1) its) v d as) (fun x : D × V × List Addr => dat x.1) er') hal hso hun
  have hLi : its.length ≤ sizeLine := by rw [e.length]; exact hL
  have fin : ∀ out, out.length = b.length → PySem.W.EachIs (fun u (x : D × V × List Addr) => RelV x.2.1 u) out (b.mergeSort (PySem.W.dataLe rev fun x => dat x.1)) → EP X pins σ Q (.ref (s.heap.objs.size + 1)) { s with heap := PyProof.Rows.sortedAll s.heap its (List.toArray out) } := fun out ho eo => by
    obtain ⟨ep, he'⟩ := PyProof.Rows.sortedAll_at s.heap its out.toArray
    have rv' := vals_eachIs eo
    refine ⟨.ref _, upd H (s.heap.objs.size + 1) (.lst (Row.vs (b.mergeSort (PySem.W.dataLe rev fun x => dat x.1)))), I.laid (t' := s.toks) (fun _ _ => PyProof.Rows.sortedAll_old) (Nat.le_succ _) ⟨?_, out, ep, rv', he'⟩, rfl, q _ (I.hok.fresh (Nat.le_succ _))⟩
    rw [rv'.length, ho]; exact hL
  have out1 := PySem.W.sortVals_data rev e er' hal
  have out2 : (PySem.W.sortVals (PySem.W.dataKind (PySem.W.sortingHeap (PySem.W.copyHeap s.heap its) (s.heap.objs.size + 1) its) (b.map fun x => dat x.1)) rev its its).length = b.length := by rw [PySem.W.sortVals_length rev rfl]; exact e.length
  rcases hkw with ⟨rfl, rfl⟩ | rfl
  · rcases hseq with hl | hl
    · exact PySem.W.sorted_vals hl SA hLi (fin _ out2 out1)
    · exact sorted_of_tup hl hLi (args_sorted1 _) (fun _ => args_list_sort _) fun _ => PySem.W.list_sort_vals (s := { s with heap := PySem.W.copyHeap s.heap its }) (PySem.W.copyHeap_at s.heap its) SA hLi ⟨rfl, fin _ out2 out1⟩
  · rcases hseq with hl | hl
    · exact PySem.W.sorted_rev_vals hl SA hLi (fin _ out2 out1)
    · exact sorted_of_tup hl hLi (args_sorted_rev _ _) (fun _ => args_list_sort_rev _ _) fun _ => PySem.W.list_sort_rev_vals (s := { s with heap := PySem.W.copyHeap s.heap its }) (PySem.W.copyHeap_at s.heap its) SA hLi ⟨rfl, fin _ out2 out1⟩
theorem cr_sortG (hu : X.A.units + 64 < cLine) : CallR X (.builtin "sorted") (rSortG X.K false) := by
  intro pins s σ H xs us Q I r h
  exact sorted_go (rev := false) (.inl ⟨rfl, rfl⟩) hu I r h
def seqOf : D → Option (List D)
  | .lst xs => some xs
  | .frz xs => some xs
  | .tup xs => some xs
  | _ => none
def sortOk (xs : List D) : Bool := alikeB (dats xs) && sortB (dats xs) && depB (dats xs) && szOk xs.length
def dSortR (rev : Bool) : List D → Option (Kd × D)
  | [d] => match seqOf d with
    | some xs => match toInts xs with
      | some ns => if szOk xs.length then some (.new, .lst ((if rev then (isort (fun i j => leI j i) ns) else isort leI ns).map D.int)) else none
      | none => if sortOk xs then some (if noLs xs then .new else .lin, .lst (isort (leD rev) xs)) else none
    | none => none
  | _ => none
omit [CT] in
theorem noLs_ints : ∀ ns : List Int, noLs (ns.map D.int) = true
  | [] => rfl
  | _ :: ns => by simp only [List.map_cons, noLs, Bool.and_eq_true]; exact ⟨rfl, noLs_ints ns⟩
theorem dats_map : ∀ xs : List D, dats xs = xs.map dat
  | [] => rfl
  | x :: xs => by simp [dats, dats_map xs]
theorem Rep.seq {H : Hp} {d : D} {v : V} {as : List Addr} {xs : List D} {K : PySem.W.Frag} (r : Rep H d v as) (h : seqOf d = some xs) : ∃ a vs bs, v = .ref a ∧ (SqL K H a vs ∨ SqT K H a vs) ∧ Reps H xs vs bs ∧ ∃ pre, as = pre ++ bs := by
  cases r with
  | @lst a vs xs as' h1 s => cases h; exact ⟨a, vs, as', rfl, .inl (SqL.of h1), s, [a], rfl⟩
  | @frz a o vs xs h1 s => cases h; exact ⟨a, vs, [], rfl, .inl (SqL.frz h1), s, [], rfl⟩
  | @tup a o vs xs _ h1 _ s => cases h; exact ⟨a, vs, as, rfl, .inr (SqT.frz h1), s, [], rfl⟩
  | _ => cases h
theorem row_sort (rev : Bool) (b : Row) : Row.ds (b.mergeSort (PySem.W.dataLe rev fun x => dat x.1)) = isort (leD rev) b.ds := by
  unfold Row.ds
  rw [← isort_eq (leD_total rev)]
  exact PySem.W.sort_maps (fun x : D × V × List Addr => x.1) fun _ _ _ _ => rfl
theorem v_sortR (K : PySem.W.Frag) (rev : Bool) : VN (rSortG K rev) (dSortR rev) := by
  intro H ds vs as k d Q r hf hq
  match ds, hf with
  | [x], hf =>
    obtain ⟨v, rfl, r1⟩ := r.one
    simp only [dSortR] at hf
    cases hx : seqOf x with
    | none => rw [hx] at hf; cases hf
    | some xs =>
      rw [hx] at hf
      obtain ⟨a, vs, bs, rfl, hs, rs, pre, hpre⟩ := r1.seq (K := K) hx
      obtain ⟨b, h1, h2, h3, h4⟩ := rs.row
      have hbd : b.map (fun x => dat x.1) = dats xs := by
        rw [dats_map, ← h1]; simp [Row.ds, List.map_map, Function.comp_def]
      have hbl : b.length = xs.length := by rw [← h1]; simp [Row.ds]
      have hperm : (b.mergeSort (PySem.W.dataLe rev fun x => dat x.1)).Perm b := List.mergeSort_perm _ _
      have rep' : ∀ x ∈ b.mergeSort (PySem.W.dataLe rev fun x => dat x.1), Rep H x.1 x.2.1 x.2.2 := fun y hy => h4 y (hperm.mem_iff.mp hy)
      have fin : ∀ (p : Addr) (kk : Kd), H p = none → kk = (if noLs xs then Kd.new else Kd.lin) → (∀ u H' cs, Ex H H' → Rep H' (.lst (isort (leD rev) xs)) u cs → KdOk kk H as cs → Q u H') → Q (.ref p) (upd H p (.lst (Row.vs (b.mergeSort (PySem.W.dataLe rev fun x => dat x.1))))) := by
        intro p kk hp hk hq
        have rr := reps_row _ rep'
        rw [row_sort rev b, h1] at rr
        have pa : (Row.as (b.mergeSort (PySem.W.dataLe rev fun x => dat x.1))).Perm bs := by rw [← h3]; exact Row.as_perm hperm
        refine hq _ _ (p :: Row.as (b.mergeSort (PySem.W.dataLe rev fun x => dat x.1))) (Ex.new hp) (.newL hp rr) ?_
        subst hk
        split
        · rename_i hn
          have : bs = [] := rs.noL hn
          rw [this] at pa
          rw [pa.eq_nil]
          exact .mk1 ⟨by simp, fun c hc => by simp at hc; rw [hc]; exact hp⟩
        · refine .mk2 (fun c hc => ?_) fun hn => List.nodup_cons.mpr ⟨fun m => rr.ne p m hp, pa.nodup_iff.mpr ?_⟩
          · rcases List.mem_cons.mp hc with e | hc
            · rw [e]; exact .inl hp
            · exact .inr (by rw [hpre]; exact List.mem_append_right _ (pa.mem_iff.mp hc))
          · rw [hpre] at hn
            exact (List.nodup_append.mp hn).2.1
      simp only at hf
      cases hi : toInts xs with
      | some ns =>
        rw [hi] at hf
        simp only at hf
        split at hf
        · rename_i hz
          cases hf
          have hxs := toInts_eq hi
          have hnl : noLs xs = true := by rw [hxs]; exact noLs_ints ns
          have mem_int : ∀ x ∈ b, ∃ i, x.1 = D.int i := fun y hy => by
            have : y.1 ∈ xs := by rw [← h1]; exact List.mem_map.mpr ⟨y, hy, rfl⟩
            rw [hxs] at this
            obtain ⟨i, _, e⟩ := List.mem_map.mp this
            exact ⟨i, e.symm⟩
          refine ⟨a, b, rfl, by rw [h2]; exact hs, h4, fun d hd d' hd' => ?_, .inr fun d hd => ?_, fun y hy => ?_, by rw [hbl]; exact szOk_le hz, fun p hp => fin p .new hp (by rw [hnl]; rfl) fun u H' cs e1 r' kk => hq u H' cs e1 ?_ kk⟩
          · obtain ⟨y, hy, rfl⟩ := List.mem_map.mp hd
            obtain ⟨z, hz', rfl⟩ := List.mem_map.mp hd'
            obtain ⟨i, e⟩ := mem_int y hy
            obtain ⟨j, e'⟩ := mem_int z hz'
            rw [e, e']; rfl
          · obtain ⟨y, hy, rfl⟩ := List.mem_map.mp hd
            obtain ⟨i, e⟩ := mem_int y hy
            rw [e]
            exact ⟨fun z => (nomatch z), fun xs z => (nomatch z)⟩
          · obtain ⟨i, e⟩ := mem_int y hy
            rw [e]; exact ⟨by simp [dat, PyData.depth], by simp [dat, PyData.canLay0]⟩
          · -- the sorted trees are the sorted numbers
            have key : isort (leD rev) xs = (if rev = true then isort (fun i j => leI j i) ns else isort leI ns).map D.int := by
              rw [hxs]
              have mm : ∀ (le : Int → Int → Bool), (∀ i j, leD rev (.int i) (.int j) = le i j) → ∀ l : List Int, isort (leD rev) (l.map D.int) = (isort le l).map D.int := by
                intro le hle l
                have ins : ∀ (i : Int) (l : List Int), isIns (leD rev) (.int i) (l.map D.int) = (isIns le i l).map D.int := by
                  intro i l
                  induction l with
                  | nil => rfl
                  | cons j l ih =>
                    simp only [List.map_cons, isIns, hle]
                    split
                    · rfl
                    · simp [ih]
                induction l with
                | nil => rfl
                | cons i l ih => simp only [List.map_cons, isort, ih, ins]
              cases rev with
              | false =>
                simp only [Bool.false_eq_true, if_false]
                refine mm leI (fun i j => ?_) ns
                show PySem.W.dataLe false (fun b : Int => PyData.int b) i j = _
                rw [PySem.W.dataLe_int (fun b : Int => b)]; rfl
              | true =>
                simp only [if_true]
                refine mm (fun i j => leI j i) (fun i j => ?_) ns
                show PySem.W.dataLe true (fun b : Int => PyData.int b) i j = _
                rw [PySem.W.dataGe_int (fun b : Int => b)]; rfl
            rw [← key]; exact r'
        · cases hf
      | none =>
        rw [hi] at hf
        simp only at hf
        split at hf
        · rename_i hz
          cases hf
          unfold sortOk at hz
          simp only [Bool.and_eq_true] at hz
          obtain ⟨⟨⟨z1, z2⟩, z3⟩, z4⟩ := hz
          refine ⟨a, b, rfl, by rw [h2]; exact hs, h4, by rw [hbd]; exact alikeB_ok z1, by rw [hbd]; exact sortB_ok z2, fun y hy => ?_, by rw [hbl]; exact szOk_le z4, fun p hp => fin p _ hp rfl hq⟩
          have : dat y.1 ∈ dats xs := by rw [← hbd]; exact List.mem_map.mpr ⟨y, hy, rfl⟩
          have q := List.all_eq_true.mp z3 _ this
          rw [Bool.and_eq_true] at q
          exact ⟨of_decide_eq_true q.1, q.2⟩
        · cases hf
end
end CB

namespace CB
open PySem L2 PySem.Spec PyProof.Rows
variable [CT]

section
variable {X : Cx} {E : XK}
def rgOkB (i j : Int) : Bool := rgSz i && rgSz j && decide ((j - i).toNat ≤ 1000000)
theorem rgOkB_ok {i j : Int} (h : rgOkB i j = true) : RgOk i j := by
  unfold rgOkB rgSz at h
  simp only [Bool.and_eq_true, decide_eq_true_eq] at h
  exact ⟨by omega, by omega, by omega, by omega, by omega⟩
theorem rgV_rgD (H : Hp) (i j : Int) : Reps H (rgD i (j - i).toNat) (rgV i j) [] := by
  unfold rgD rgV
  have : ∀ l : List Nat, Reps H (l.map fun (k : Nat) => D.int (i + k)) (l.map fun (k : Nat) => V.int (i + k)) [] := by
    intro l
    induction l with
    | nil => exact .nil
    | cons n l ih => exact .cons (as := []) (bs := []) (.int _) ih
  exact this _
def rg1 (p : P) : Env → Option (Int × Int) := fun env => match p env with
  | .ok _ (.int j) => some (0, j)
  | _ => none
def SndR (X : Cx) (E : XK) (e : Expr) (q : Env → Option (Int × Int)) : Prop := ∃ t, PRg X e t ∧ ∀ (S : Addr → Prop) env σ H (R : Int → Int → Hp → Prop) i j, ObsEnv S H env σ → q env = some (i, j) → (∀ H', Ex H H' → R i j H') → t σ H R
theorem sndr_1 {e : Expr} {p : P} {p1 pos : Pos} (h : SndP X E e p) (hg : Gl X "range") (hm : X.mg "range" = none) (na : starEach [e] X.env = (false, eval e X.env) :: starEach [] X.env := by rfl) : SndR X E (.Call (.Name "range" p1) [e] [] pos) (rg1 p) := by
  obtain ⟨t, h1, h2⟩ := h
  refine ⟨_, prg_1 hg hm h1 na, fun S env σ H R i j o hq hR => h2 S env σ H _ o ?_⟩
  unfold rg1 at hq
  split at hq
  · rename_i f j' hp
    cases hq
    rw [hp]
    intro v H' as e r _ _
    cases r
    exact ⟨_, rfl, hR H' e⟩
  · cases hq
def lstRg (q : Env → Option (Int × Int)) : P := fun env => match q env with
  | some (i, j) => if rgOkB i j then .ok true (.lst (rgD i (j - i).toNat)) else .no
  | none => .no
def tupRg (q : Env → Option (Int × Int)) : P := fun env => match q env with
  | some (i, j) => if rgOkB i j then .ok true (.tup (rgD i (j - i).toNat)) else .no
  | none => .no
theorem snd_lstRg {e : Expr} {q : Env → Option (Int × Int)} {p pos : Pos} (hc : X.calm = true) (h : SndR X E e q) (hg : Gl X "list") (hm : X.mg "list" = none) (na : starEach [e] X.env = (false, eval e X.env) :: starEach [] X.env := by rfl) : SndP X E (.Call (.Name "list" p) [e] [] pos) (lstRg q) := by
  obtain ⟨t, h1, h2⟩ := h
  refine ⟨_, pe_listRg hc hg hm h1 na, fun S env σ H Q o w => ?_⟩
  unfold lstRg at w
  cases hq : q env with
  | none => rw [hq] at w; exact w.elim
  | some ij =>
    obtain ⟨i, j⟩ := ij
    rw [hq] at w
    simp only at w
    split at w
    · rename_i hz
      refine h2 S env σ H _ i j o hq fun H' e => ⟨rgOkB_ok hz, fun p hp => w _ _ [p] (e.trans (Ex.new hp)) (.newL hp (rgV_rgD H' i j)) (fun a m => ?_) fun _ => ⟨by simp, fun a m => ?_⟩⟩
      · simp at m; rw [m]; exact .inr (e.back hp)
      · simp at m; rw [m]; exact e.back hp
    · exact w.elim
theorem snd_tupRg {e : Expr} {q : Env → Option (Int × Int)} {p pos : Pos} (hc : X.calm = true) (h : SndR X E e q) (hg : Gl X "tuple") (hm : X.mg "tuple" = none) (na : starEach [e] X.env = (false, eval e X.env) :: starEach [] X.env := by rfl) : SndP X E (.Call (.Name "tuple" p) [e] [] pos) (tupRg q) := by
  obtain ⟨t, h1, h2⟩ := h
  refine ⟨_, pe_tupRgF hc hg hm h1 na, fun S env σ H Q o w => ?_⟩
  unfold tupRg at w
  cases hq : q env with
  | none => rw [hq] at w; exact w.elim
  | some ij =>
    obtain ⟨i, j⟩ := ij
    rw [hq] at w
    simp only at w
    split at w
    · rename_i hz
      exact h2 S env σ H _ i j o hq fun H' e => ⟨rgOkB_ok hz, fun p ob hp hd => w _ _ [] (e.trans (Ex.new hp)) (.newT hp hd (rgV_rgD H' i j)) noMem fun _ => .nil H⟩
    · exact w.elim
end
end CB

namespace CB
open PySem L2 PySem.Spec PyProof.Rows
variable [CT]

def Sl.put : Sl → D → Sl
  | .emp, _ => .emp
  | .val _ _, d => .val true d
  | .ref _, d => .ref d
  | .pin, _ => .emp
  | .top _, d => .val true d
def Sl.mine : Sl → Option D
  | .val true d => some d
  | .ref d => some d
  | _ => none
section
variable {M N : Addr → Prop} {fx : Addr → HO → Prop} {pin : Nat → Option V} {φ φ' : Lab} {H H' : Hp} {env : Env} {σ : L2.St} {ts us : List Tmp}
theorem SlOk.mine {i : Nat} {s : Sl} {w : Option (Option V)} {d : D} (h : SlOk pin φ H M i s w) (e : s.mine = some d) : ∃ v, w = some (some v) ∧ Held φ H M (.slot i) true d v ∧ ((∃ d, s = .ref d) → pin i = some v) := by
  cases s with
  | emp => cases e
  | pin => cases e
  | val o d' =>
    cases o with
    | false => cases e
    | true => cases e; obtain ⟨v, h1, h2⟩ := h; exact ⟨v, h1, h2, fun ⟨d, z⟩ => nomatch z⟩
  | ref d' => cases e; obtain ⟨v, h1, h0, h2⟩ := h; exact ⟨v, h1, h2, fun _ => h0⟩
  | top xs => cases e
theorem SlOk.put {i : Nat} {s : Sl} {v : V} {d d' : D} (e : s.mine = some d) (hp : (∃ d, s = .ref d) → pin i = some v) (h : Held φ H M (.slot i) true d' v) : SlOk pin φ H M i (s.put d') (some (some v)) := by
  cases s with
  | emp => trivial
  | pin => trivial
  | val o d' => exact ⟨v, rfl, h⟩
  | ref d' => exact ⟨v, rfl, hp ⟨_, rfl⟩, h⟩
  | top xs => cases e
theorem Good.drops (g : Good M N fx pin φ H env σ (ts ++ us)) : Good M N fx pin φ H env σ ts :=
  ⟨g.len, g.fix, g.own, g.free, g.slot, fun j u h => g.tmp j u (by rw [List.getElem?_append_left (List.getElem?_eq_some_iff.mp h).1]; exact h)⟩
def mutL (φ : Lab) (bs : List Addr) (n i : Nat) : Lab := fun b => if b ∈ bs then some (.tmp n) else if φ b = some (.tmp n) then some (.slot i) else φ b
theorem Good.mut (g : Good M N fx pin φ H env σ (ts ++ us)) {i : Nat} {s : Sl} {d0 d' : D} {a : Addr} {o0 o1 : HO} {as bs : List Addr} {rs : Option (D × V)} (hs : env[i]? = some s) (hm : s.mine = some d0) (hv : σ[i]? = some (some (.ref a)))
    (hpin : (∃ d, s = .ref d) → pin i = some (.ref a)) (ha : φ a = some (.slot i)) (hH : H a = some o0)
    (r' : Rep (upd H a o1) d' (.ref a) as) (n' : as.Nodup) (m' : ∀ b ∈ as, b ∉ bs ∧ M b ∧ (φ b = some (.slot i) ∨ φ b = some (.tmp ts.length)))
    (hr : ∀ d w, rs = some (d, w) → Rep H d w bs) (hn : bs.Nodup) (hb : ∀ b ∈ bs, b ≠ a ∧ M b ∧ φ b = some (.slot i)) (i0 : Imm o0 = false := by rfl) (i1 : Imm o1 = false := by rfl) :
    Good M N fx pin (mutL φ bs ts.length i) (upd H a o1) (env.set i (s.put d')) σ (ts ++ (rs.map fun p => (true, p.1, p.2)).toList) := by
  have hab : a ∉ bs := fun z => (hb a z).1 rfl
  have oth : ∀ {l : Lb} {o : Bool} {d : D} {v : V}, l ≠ .slot i → l ≠ .tmp ts.length → Held φ H M l o d v → Held (mutL φ bs ts.length i) (upd H a o1) M l o d v := fun {l o d v} h1 h2 k => k.keep fun cs r q => by
    have nq : ∀ c ∈ cs, φ c ≠ some (.slot i) ∧ φ c ≠ some (.tmp ts.length) := fun c hc => by
      rw [q c hc]
      cases o with
      | true => simp [h1, h2]
      | false => simp
    refine ⟨r.keep fun c u hcu hci => ?_, fun c hc => ?_⟩
    · have : c ≠ a := fun z => by
        subst z
        rcases hci with z | z
        · exact (nq _ z).1 ha
        · rw [hH] at hcu; cases hcu; rw [i0] at z; cases z
      rw [upd_ne this]; exact hcu
    · unfold mutL
      rw [if_neg fun z => (nq c hc).1 (hb c z).2.2, if_neg (nq c hc).2]
      exact q c hc
  refine ⟨?_, fun c o h => ?_, fun c h => ?_, g.free, fun k s' h => ?_, fun j t h => ?_⟩
  · exact ⟨by have := g.len.le; rw [List.length_set]; exact this, g.len.tab.upd (imm_of hH i0)⟩
  · obtain ⟨f1, f2⟩ := g.fix c o h
    have hca : c ≠ a := fun z => by rw [z, ha] at f2; cases f2
    refine ⟨f1.upd hca, ?_⟩
    unfold mutL
    rw [if_neg (fun z => by rw [(hb c z).2.2] at f2; cases f2), f2]; simp
  · have hc : φ c ≠ none := fun z => h (by
      unfold mutL
      rw [if_neg (fun y => by rw [(hb c y).2.2] at z; cases z), z]; simp)
    obtain ⟨h1, ws, h2, h3⟩ := g.own c hc
    refine ⟨h1, ?_⟩
    by_cases hca : c = a
    · subst hca; exact ⟨_, upd_same, i1⟩
    · exact ⟨ws, by rw [upd_ne hca]; exact h2, h3⟩
  · by_cases hk : k = i
    · subst hk
      have hl : k < env.length := (List.getElem?_eq_some_iff.mp hs).1
      rw [List.getElem?_set_self hl] at h
      cases h
      rw [hv]
      refine SlOk.put hm hpin ⟨as, r', fun b q => (m' b q).2.1, fun b q => ?_, fun _ => n'⟩
      unfold mutL
      rw [if_neg (m' b q).1]
      rcases (m' b q).2.2 with z | z
      · rw [z]; simp
      · rw [z]; simp
    · rw [List.getElem?_set_ne (Ne.symm hk)] at h
      exact (g.slot k s' h).keep fun o d v q => oth (fun z => hk (by cases z; rfl)) (fun z => nomatch z) q
  · by_cases hj : j < ts.length
    · rw [List.getElem?_append_left hj] at h
      exact oth (fun z => nomatch z) (fun z => by cases z; exact absurd hj (Nat.lt_irrefl _)) (g.tmp j t (by rw [List.getElem?_append_left hj]; exact h))
    · have hj' : j = ts.length := by
        have := (List.getElem?_eq_some_iff.mp h).1
        cases rs <;> simp at this <;> omega
      subst hj'
      cases rs with
      | none => simp at h
      | some p =>
        simp at h
        subst h
        refine ⟨bs, (hr p.1 p.2 rfl).keep fun c u hcu hci => ?_, fun b q => (hb b q).2.1, fun b q => ?_, fun _ => hn⟩
        · have : c ≠ a := fun z => by
            subst z
            rcases hci with z | z
            · exact hab z
            · rw [hH] at hcu; cases hcu; rw [i0] at z; cases z
          rw [upd_ne this]; exact hcu
        · unfold mutL
          rw [if_pos q]; rfl
end
end CB

namespace CB
open PySem L2 PySem.Spec PyProof.Rows
variable [CT]

inductive GA where
  | ex (m : GE) | vr (i : Nat)
inductive U where
  | t (o : Bool) (d : D) | v (i : Nat)
inductive GAR where
  | ok (us : List U) (env : Env) | ex (x : Xn) (env : Env) | no
def argsG : List GA → Env → GAR
  | [], env => .ok [] env
  | .ex m :: as, env => match m env with
    | .ok o d env1 => match argsG as env1 with
      | .ok us env2 => .ok (.t o d :: us) env2
      | r => r
    | .ex x e => .ex x e
    | .no => .no
  | .vr i :: as, env => match Env.look env i with
    | some _ => match argsG as env with
      | .ok us env2 => .ok (.v i :: us) env2
      | r => r
    | none => .no
inductive Vm (σ : L2.St) : List U → List V → List Tmp → Prop
  | nil : Vm σ [] [] []
  | t {o : Bool} {d : D} {v : V} {us : List U} {vs : List V} {ws : List Tmp} : Vm σ us vs ws → Vm σ (.t o d :: us) (v :: vs) ((o, d, v) :: ws)
  | v {i : Nat} {v : V} {us : List U} {vs : List V} {ws : List Tmp} : σ[i]? = some (some v) → Vm σ us vs ws → Vm σ (.v i :: us) (v :: vs) ws
section
variable (M N : Addr → Prop) (fx : Addr → HO → Prop) (pin : Nat → Option V) (mg : Str → Option Value) (σ : L2.St) (ts : List Tmp) (E : XK)
def GAWant (Q : List V → Hp → Prop) : GAR → Prop
  | .ok us env => ∀ φ H vs ws, Vm σ us vs ws → Good M N fx pin φ H env σ (ts ++ ws) → Q vs H
  | .ex x env => ∀ φ H c dx, Good M N fx pin φ H env σ ts → XR mg x c dx H → E c dx H
  | .no => False
end
def SndAG (X : Cx) (E : XK) (es : List Expr) (ms : List GA) : Prop := ∃ t, PA X es t ∧ ∀ M N fx pin φ H env σ ts Q, Good M N fx pin φ H env σ ts → GAWant M N fx pin X.mg σ ts E Q (argsG ms env) → t σ H Q
def valsU (env : Env) : List U → Option (List D)
  | [] => some []
  | .t _ d :: us => (valsU env us).map (d :: ·)
  | .v i :: us => match Env.look env i with
    | some d => (valsU env us).map (d :: ·)
    | none => none
section
variable {M N : Addr → Prop} {fx : Addr → HO → Prop} {pin : Nat → Option V} {φ φ' : Lab} {H H' : Hp} {env : Env} {σ : L2.St} {ts us : List Tmp}
theorem Good.slotRep (g : Good M N fx pin φ H env σ ts) {i : Nat} {d : D} {v : V} (h : Env.look env i = some d) (hv : σ[i]? = some (some v)) : ∃ as, Rep H d v as := by
  obtain ⟨w, as, h1, h2, _⟩ := g.obs.get i d h
  rw [hv] at h1; cases h1
  exact ⟨as, h2⟩
theorem Vm.reps {us : List U} {vs : List V} {ws : List Tmp} (h : Vm σ us vs ws) : ∀ {ts : List Tmp} {ds : List D}, Good M N fx pin φ H env σ (ts ++ ws) → valsU env us = some ds → ∃ as, Reps H ds vs as := by
  induction h with
  | nil => intro ts ds g e; cases e; exact ⟨[], .nil⟩
  | @t o d v us vs ws hv ih =>
    intro ts ds g e
    simp only [valsU] at e
    cases e2 : valsU env us with
    | none => rw [e2] at e; cases e
    | some es =>
      rw [e2] at e; cases e
      obtain ⟨bs, rb⟩ := ih (ts := ts ++ [(o, d, v)]) (by simpa using g) e2
      obtain ⟨as, ra, _⟩ := g.tmp ts.length (o, d, v) (by simp)
      exact ⟨as ++ bs, .cons ra rb⟩
  | @v i v us vs ws hi hv ih =>
    intro ts ds g e
    simp only [valsU] at e
    cases e1 : Env.look env i with
    | none => rw [e1] at e; cases e
    | some d =>
      rw [e1] at e
      simp only at e
      cases e2 : valsU env us with
      | none => rw [e2] at e; cases e
      | some es =>
        rw [e2] at e; cases e
        obtain ⟨bs, rb⟩ := ih g e2
        obtain ⟨as, ra⟩ := g.slotRep e1 hi
        exact ⟨as ++ bs, .cons ra rb⟩
end
section
variable {X : Cx} {E : XK}
theorem sndag_nil : SndAG X E [] [] := ⟨_, pa_nil, fun M N fx pin φ H env σ ts Q g w => w φ H [] [] .nil (by simpa using g)⟩
theorem sndag_ex {e : Expr} {es : List Expr} {m : GE} {ms : List GA} (h : SndE X E e m) (hs : SndAG X E es ms) (hst : starEach (e :: es) X.env = (false, eval e X.env) :: starEach es X.env := by rfl) : SndAG X E (e :: es) (.ex m :: ms) := by
  obtain ⟨t, h1, h2⟩ := h
  obtain ⟨u, g1, g2⟩ := hs
  refine ⟨_, pa_cons h1 g1 hst, fun M N fx pin φ H env σ ts Q g w => h2 M N fx pin φ H env σ ts _ g ?_⟩
  simp only [argsG] at w
  cases hm : m env with
  | no => rw [hm] at w; exact w
  | ex x e => rw [hm] at w; exact w
  | ok o d env1 =>
    rw [hm] at w
    intro φ1 H1 v gg
    refine g2 M N fx pin φ1 H1 env1 σ _ _ gg ?_
    simp only at w
    cases ha : argsG ms env1 with
    | no => rw [ha] at w; exact w
    | ex x e => rw [ha] at w; exact fun φ' H' c dx g' r => w φ' H' c dx g'.drop1 r
    | ok us env2 =>
      rw [ha] at w
      exact fun φ' H' vs ws hv g' => w φ' H' (v :: vs) _ (.t hv) (by simpa using g')
theorem sndag_vr (i : Nat) {x : Str} {pos : Pos} {es : List Expr} {ms : List GA} (hN : X.N[i]? = some x) (hv : Vis X.env.scope x) (hs : SndAG X E es ms) (hst : starEach (.Name x pos :: es) X.env = (false, eval (.Name x pos) X.env) :: starEach es X.env := by rfl) (hd : (x == ("__debug__" : Str)) = false := by decide) (hcd : (x == ("__classdict__" : Str)) = false := by decide) :
    SndAG X E (.Name x pos :: es) (.vr i :: ms) := by
  obtain ⟨u, g1, g2⟩ := hs
  refine ⟨_, pa_cons (pe_var hN hv hd hcd) g1 hst, fun M N fx pin φ H env σ ts Q g w => ?_⟩
  simp only [argsG] at w
  cases hl : Env.look env i with
  | none => rw [hl] at w; exact w.elim
  | some d =>
    rw [hl] at w
    simp only at w
    obtain ⟨v, as, h1, _⟩ := g.obs.get i d hl
    refine ⟨v, h1, g2 M N fx pin φ H env σ ts _ g ?_⟩
    cases ha : argsG ms env with
    | no => rw [ha] at w; exact w
    | ex x e => rw [ha] at w; exact w
    | ok us env2 =>
      rw [ha] at w
      exact fun φ' H' vs ws hv g' => w φ' H' (v :: vs) ws (.v h1 hv) g'
def opNG (f : List D → Option (Kd × D)) (ms : List GA) : GE := fun env => match argsG ms env with
  | .ok us env1 => match valsU env1 us with
    | some ds => match f ds with
      | some (k, d) => if gfl (k.fl (noLs ds)) d then .ok true d env1 else .no
      | none => .no
    | none => .no
  | .ex x e => .ex x e
  | .no => .no
theorem opNG_read {r : List V → Hp → VK → Prop} {f : List D → Option (Kd × D)} (hv : VN r f) (ms : List GA) {M N : Addr → Prop} {fx : Addr → HO → Prop} {pin : Nat → Option V} {env : Env} {σ : L2.St} {ts : List Tmp} {Q : VK} (w : GWant M N fx pin X.mg σ ts E Q (opNG f ms env)) :
    GAWant M N fx pin X.mg σ ts E (fun vs H => r vs H Q) (argsG ms env) := by
  unfold opNG at w
  cases ha : argsG ms env with
  | no => rw [ha] at w; exact w
  | ex x e => rw [ha] at w; exact w
  | ok us env1 =>
    rw [ha] at w
    intro φ H vs ws hvm g
    simp only at w
    cases e1 : valsU env1 us with
    | none => rw [e1] at w; exact w.elim
    | some ds =>
      rw [e1] at w
      simp only at w
      cases e2 : f ds with
      | none => rw [e2] at w; exact w.elim
      | some kd =>
        obtain ⟨k, d⟩ := kd
        rw [e2] at w
        simp only at w
        split at w
        · rename_i hg
          obtain ⟨as, ra⟩ := hvm.reps g e1
          refine hv H ds vs as k d Q ra e2 fun u H' cs e r ko => w _ H' u (g.drops.push e r (gfl_new hg r (kd_new (Ex.refl H) (fun z => ?_) ko)))
          rw [ra.noL z]; exact .nil H
        · exact w.elim
def opf (f : D → D → Option (Kd × D)) : List D → Option (Kd × D)
  | [x, y] => f x y
  | _ => none
def SndGA (X : Cx) (E : XK) (e : Expr) (m : GA) : Prop := ∃ t, PE X e t ∧ ∀ M N fx pin φ H env σ ts (Q : VK), Good M N fx pin φ H env σ ts → GAWant M N fx pin X.mg σ ts E (fun vs H => ∃ v, vs = [v] ∧ Q v H) (argsG [m] env) → t σ H Q
theorem sndga_ex {e : Expr} {m : GE} (h : SndE X E e m) : SndGA X E e (.ex m) := by
  obtain ⟨t, h1, h2⟩ := h
  refine ⟨t, h1, fun M N fx pin φ H env σ ts Q g w => h2 M N fx pin φ H env σ ts Q g ?_⟩
  simp only [argsG] at w
  cases hm : m env with
  | no => rw [hm] at w; exact w
  | ex x e => rw [hm] at w; exact w
  | ok o d env1 =>
    rw [hm] at w
    intro φ1 H1 v gg
    obtain ⟨v', e, q⟩ := w φ1 H1 [v] [(o, d, v)] (.t .nil) gg
    cases e; exact q
theorem two_read {e1 e2 : Expr} {m1 m2 : GA} (h1 : SndGA X E e1 m1) (h2 : SndGA X E e2 m2) : ∃ ta tb, PE X e1 ta ∧ PE X e2 tb ∧ ∀ M N fx pin φ H env σ ts (R : V → V → Hp → Prop), Good M N fx pin φ H env σ ts → GAWant M N fx pin X.mg σ ts E (fun vs H => ∃ v w, vs = [v, w] ∧ R v w H) (argsG [m1, m2] env) → ta σ H fun x H1 => tb σ H1 fun y H2 => R x y H2 := by
  obtain ⟨ta, a1, a2⟩ := h1
  obtain ⟨tb, b1, b2⟩ := h2
  refine ⟨ta, tb, a1, b1, fun M N fx pin φ H env σ ts R g w => a2 M N fx pin φ H env σ ts _ g ?_⟩
  cases m1 with
  | ex m =>
    simp only [argsG] at w ⊢
    cases hm : m env with
    | no => rw [hm] at w; exact w
    | ex x e => rw [hm] at w; exact w
    | ok o d env1 =>
      rw [hm] at w
      simp only at w ⊢
      intro φ1 H1 vs ws hvm g1
      cases hvm with
      | @t _ _ v _ vs' ws' hvm =>
        cases hvm
        refine ⟨v, rfl, b2 M N fx pin φ1 H1 env1 σ (ts ++ [(o, d, v)]) _ g1 ?_⟩
        change GAWant M N fx pin X.mg σ ts E _ (match argsG [m2] env1 with | .ok us env2 => GAR.ok (.t o d :: us) env2 | r => r) at w
        cases ha : argsG [m2] env1 with
        | no => rw [ha] at w; exact w
        | ex x e => rw [ha] at w; exact fun φ' H' c dx g' r => w φ' H' c dx g'.drop1 r
        | ok us env2 =>
          rw [ha] at w
          intro φ2 H2 vs2 ws2 hv2 g2
          obtain ⟨v1, w1, e, q⟩ := w φ2 H2 (v :: vs2) _ (.t hv2) (by simpa using g2)
          cases e
          exact ⟨w1, rfl, q⟩
  | vr i =>
    simp only [argsG] at w ⊢
    cases hl : Env.look env i with
    | none => rw [hl] at w; exact w
    | some d0 =>
      rw [hl] at w
      simp only at w ⊢
      intro φ1 H1 vs ws hvm g1
      cases hvm with
      | @v _ v _ vs' ws' hi hvm =>
        cases hvm
        refine ⟨v, rfl, b2 M N fx pin φ1 H1 env σ ts _ (by simpa using g1) ?_⟩
        change GAWant M N fx pin X.mg σ ts E _ (match argsG [m2] env with | .ok us env2 => GAR.ok (.v i :: us) env2 | r => r) at w
        cases ha : argsG [m2] env with
        | no => rw [ha] at w; exact w
        | ex x e => rw [ha] at w; exact w
        | ok us env2 =>
          rw [ha] at w
          intro φ2 H2 vs2 ws2 hv2 g2
          obtain ⟨v1, w1, e, q⟩ := w φ2 H2 (v :: vs2) _ (.v hi hv2) g2
          cases e
          exact ⟨w1, rfl, q⟩
theorem vn_of_v2 {r : R2} {f : D → D → Option (Kd × D)} (hv : V2 r f) : VN (fun vs H Q => ∃ v w, vs = [v, w] ∧ r v w H Q) (opf f) := by
  intro H ds vs as k d Q rs e q
  match ds, e with
  | [x, y], e =>
    obtain ⟨v, w, bs, cs, e1, r1, r2, e2⟩ := rs.two
    subst e1 e2
    exact ⟨v, w, rfl, hv H x y v w bs cs k d Q r1 r2 e q⟩
theorem snde_op2 {e1 e2 e : Expr} {m1 m2 : GA} {r : R2} {f : D → D → Option (Kd × D)} (mk : ∀ {ta tb}, PE X e1 ta → PE X e2 tb → PE X e (tOp r ta tb)) (hv : V2 r f) (h1 : SndGA X E e1 m1) (h2 : SndGA X E e2 m2) : SndE X E e (opNG (opf f) [m1, m2]) := by
  obtain ⟨ta, tb, a1, b1, q⟩ := two_read h1 h2
  exact ⟨_, mk a1 b1, fun M N fx pin φ H env σ ts Q g w => q M N fx pin φ H env σ ts (fun x y H => r x y H Q) g (opNG_read (vn_of_v2 hv) [m1, m2] w)⟩
theorem snde_bin {e1 e2 : Expr} {m1 m2 : GA} {op : Operator} {pos : Pos} {r : R2} {f : D → D → Option (Kd × D)} (ho : OpR X (binaryOp op) r) (hv : V2 r f) (h1 : SndGA X E e1 m1) (h2 : SndGA X E e2 m2) : SndE X E (.BinOp e1 op e2 pos) (opNG (opf f) [m1, m2]) :=
  snde_op2 (fun a b => pe_op ho a b) hv h1 h2
def TGWant (M N : Addr → Prop) (fx : Addr → HO → Prop) (pin : Nat → Option V) (mg : Str → Option Value) (σ : L2.St) (ts : List Tmp) (E : XK) (Q : Bool → Hp → Prop) : GR → Prop
  | .ok _ (.bl b) env => ∀ φ H, Good M N fx pin φ H env σ ts → Q b H
  | .ok _ _ _ => False
  | .ex x env => ∀ φ H c dx, Good M N fx pin φ H env σ ts → XR mg x c dx H → E c dx H
  | .no => False
def SndTG (X : Cx) (E : XK) (e : Expr) (m : GE) : Prop := ∃ t, PT X e t ∧ ∀ M N fx pin φ H env σ ts Q, Good M N fx pin φ H env σ ts → TGWant M N fx pin X.mg σ ts E Q (m env) → t σ H Q
def mvG (i : Nat) : GE := fun env => match env[i]? with
  | some (.val true d) => .ok true d (env.set i .emp)
  | some (.val false d) => .ok (noL d) d env
  | _ => .no
theorem snde_mv (i : Nat) {x : Str} {pos : Pos} (hN : X.N[i]? = some x) (hv : Vis X.env.scope x) (hd : (x == ("__debug__" : Str)) = false := by decide) (hcd : (x == ("__classdict__" : Str)) = false := by decide) : SndE X E (.Name x pos) (mvG i) := by
  refine ⟨_, pe_var hN hv hd hcd, fun M N fx pin φ H env σ ts Q g w => ?_⟩
  unfold mvG at w
  cases he : env[i]? with
  | none => rw [he] at w; exact w.elim
  | some s =>
    rw [he] at w
    have hs := g.slot i s he
    cases s with
    | emp => exact w.elim
    | pin => exact w.elim
    | top xs => exact w.elim
    | ref d => exact w.elim
    | val o d =>
      obtain ⟨v, h1, h2⟩ := hs
      cases o with
      | false =>
        refine ⟨v, h1, w φ H v ⟨g.len, g.fix, g.own, g.free, g.slot, fun j t h => ?_⟩⟩
        by_cases hj : j < ts.length
        · rw [List.getElem?_append_left hj] at h
          exact g.tmp j t h
        · have hj' : j = ts.length := by
            have := (List.getElem?_eq_some_iff.mp h).1
            simp at this; omega
          subst hj'
          simp at h
          subst h
          obtain ⟨as, r, m, q, n⟩ := h2
          cases hn : noL d with
          | false => exact ⟨as, r, m, fun a ha => q a ha, fun z => by cases z⟩
          | true =>
            have := r.noL hn
            subst this
            exact ⟨[], r, m, noMem, fun _ => List.nodup_nil⟩
      | true =>
        simp only at w
        refine ⟨v, h1, w (fun a => if φ a = some (.slot i) then some (.tmp ts.length) else φ a) H v ?_⟩
        have oth : ∀ {l : Lb} {o : Bool} {d : D} {v : V}, l ≠ .slot i → Held φ H M l o d v → Held (fun a => if φ a = some (.slot i) then some (.tmp ts.length) else φ a) H M l o d v := fun {l o d v} hl k => k.keep fun as r q => ⟨r, fun a ha => by
          show (if φ a = some (.slot i) then some (.tmp ts.length) else φ a) = _
          rw [q a ha]
          cases o with
          | true => simp [hl]
          | false => simp⟩
        refine ⟨by exact ⟨by have := g.len.le; rw [List.length_set]; exact this, g.len.tab⟩, fun a o h => ⟨(g.fix a o h).1, by show (if φ a = some (.slot i) then some (.tmp ts.length) else φ a) = _; rw [(g.fix a o h).2]; simp⟩, fun a h => g.own a fun z => h (by show (if φ a = some (.slot i) then some (.tmp ts.length) else φ a) = _; rw [z]; simp), g.free, fun k s h => ?_, fun j t h => ?_⟩
        · by_cases hk : k = i
          · subst hk
            have hl : k < env.length := (List.getElem?_eq_some_iff.mp he).1
            rw [List.getElem?_set_self hl] at h
            cases h; trivial
          · rw [List.getElem?_set_ne (Ne.symm hk)] at h
            exact (g.slot k s h).keep fun o d v q => oth (fun z => hk (by cases z; rfl)) q
        · by_cases hj : j < ts.length
          · rw [List.getElem?_append_left hj] at h
            exact oth (fun z => nomatch z) (g.tmp j t h)
          · have hj' : j = ts.length := by
              have := (List.getElem?_eq_some_iff.mp h).1
              simp at this; omega
            subst hj'
            simp at h
            subst h
            obtain ⟨as, r, m, q, n⟩ := h2
            exact ⟨as, r, m, fun a ha => by show (if φ a = some (.slot i) then some (.tmp ts.length) else φ a) = _; rw [q a ha]; simp, n⟩
end
end CB

namespace CB
open PySem L2 PySem.Spec PyProof.Rows
variable [CT]

section
variable {X : Cx} {E : XK}
variable {M N : Addr → Prop} {fx : Addr → HO → Prop} {pin : Nat → Option V} {φ φ' : Lab} {H H' : Hp} {env : Env} {σ : L2.St} {ts us : List Tmp}
def myLst (env : Env) (i : Nat) : Option (Sl × List D) := match env[i]? with
  | some s => match s.mine with
    | some (.lst xs) => some (s, xs)
    | _ => none
  | none => none
theorem myLst_ok (g : Good M N fx pin φ H env σ ts) {i : Nat} {s : Sl} {xs : List D} (h : myLst env i = some (s, xs)) :
    ∃ a vs as, env[i]? = some s ∧ s.mine = some (.lst xs) ∧ σ[i]? = some (some (.ref a)) ∧ ((∃ d, s = .ref d) → pin i = some (.ref a)) ∧ φ a = some (.slot i) ∧ H a = some (.lst vs) ∧ M a ∧ Reps H xs vs as ∧ (a :: as).Nodup ∧ ∀ b ∈ as, M b ∧ φ b = some (.slot i) := by
  unfold myLst at h
  cases e : env[i]? with
  | none => rw [e] at h; cases h
  | some s' =>
    rw [e] at h
    simp only at h
    cases e2 : s'.mine with
    | none => rw [e2] at h; cases h
    | some d =>
      rw [e2] at h
      cases d <;> cases h
      obtain ⟨v, h1, h2, h3⟩ := (g.slot i s e).mine e2
      obtain ⟨as, r, m, q, n⟩ := h2
      cases r with
      | @lst a vs xs as' ha rs =>
        exact ⟨a, vs, as', rfl, e2, h1, h3, q a List.mem_cons_self, ha, m a List.mem_cons_self, rs, n rfl, fun b hb => ⟨m b (List.mem_cons_of_mem _ hb), q b (List.mem_cons_of_mem _ hb)⟩⟩
theorem Reps.upd {xs : List D} {vs ws : List V} {as : List Addr} {a : Addr} {ws' : List V} (r : Reps H xs vs as) (ha : H a = some (.lst ws)) (n : a ∉ as) : Reps (L2.upd H a (.lst ws')) xs vs as := r.keep fun c o hc hi => by
  have : c ≠ a := fun z => by
    subst z
    rcases hi with z | z
    · exact n z
    · rw [ha] at hc; cases hc; cases z
  rw [upd_ne this]; exact hc
theorem tyV_list {K : PySem.W.Frag} {a : Addr} {vs : List V} (h : H a = some (.lst vs)) : tyV K "list" (.ref a) H := .inl ⟨rfl, vs, SqL.of h⟩
def appendG (i : Nat) (m : GE) : GE := fun env => match Env.look env i with
  | some (.lst _) => match m env with
    | .ok o d env1 => match myLst env1 i with
      | some (s, xs) => if (o || noL d) && szOk xs.length then .ok true .non (env1.set i (s.put (.lst (xs ++ [d])))) else .no
      | none => .no
    | .ex x e => .ex x e
    | .no => .no
  | _ => .no
theorem look_lst (g : Good M N fx pin φ H env σ ts) {i : Nat} {xs : List D} (h : Env.look env i = some (.lst xs)) : ∃ a vs, σ[i]? = some (some (.ref a)) ∧ H a = some (.lst vs) := by
  obtain ⟨v, as, h1, h2, _⟩ := g.obs.get i _ h
  cases h2 with
  | @lst a vs xs as' ha rs => exact ⟨a, vs, h1, ha⟩
theorem nodup_snoc {as bs : List Addr} (ha : as.Nodup) (hb : bs.Nodup) (h : ∀ a ∈ as, a ∉ bs) : (as ++ bs).Nodup := List.nodup_append.mpr ⟨ha, hb, fun a x b y e => h a x (e ▸ y)⟩
theorem own_tmp {o : Bool} {d : D} {v : V} (g : Good M N fx pin φ H env σ (ts ++ [(o, d, v)])) (h : (o || noL d) = true) : ∃ as, Rep H d v as ∧ as.Nodup ∧ ∀ a ∈ as, M a ∧ φ a = some (.tmp ts.length) := by
  obtain ⟨as, r, m, q, n⟩ := g.tmp ts.length (o, d, v) (by simp)
  cases o with
  | true => exact ⟨as, r, n rfl, fun a ha => ⟨m a ha, q a ha⟩⟩
  | false =>
    have z := r.noL (by simpa using h)
    subst z
    exact ⟨[], r, List.nodup_nil, noMem⟩
theorem snde_append {i : Nat} {x : Str} {e : Expr} {m : GE} {p apos cpos : Pos} (hN : X.N[i]? = some x) (hvx : Vis X.env.scope x) (h : SndE X E e m)
    (hbase : attributeBase (.Name x p) ("append" : Str) X.env (eval (.Name x p) X.env) = eval (.Name x p) X.env := by rfl)
    (hfew : ((backTo cpos (starEach [e] X.env)).all (fun x => !x.1) && (backToKw cpos (keywordEach [] X.env)).all (fun x => x.1.isSome)
      && decide (([e] : List Expr).length + ([] : List Keyword).length + (if ([] : List Keyword).isEmpty then 0 else 1) < 30)) = true := by rfl)
    (hline : (apos.endLine == cpos.line) = true := by rfl) (hs : starEach [e] X.env = (false, eval e X.env) :: starEach [] X.env := by rfl) (hplain : (backTo cpos (starEach [] X.env)).any (·.1) = false := by rfl)
    (hd : (x == ("__debug__" : Str)) = false := by decide) (hcd : (x == ("__classdict__" : Str)) = false := by decide) :
    SndE X E (.Call (.Attribute (.Name x p) ("append" : Str) apos) [e] [] cpos) (appendG i m) := by
  obtain ⟨t, h1, h2⟩ := h
  refine ⟨_, pe_bm PySem.F.plainAttrs_list PySem.F.slot_list_append PySem.F.type_list_append mt_append (pe_var hN hvx hd hcd) (pa_cons h1 pa_nil hs) hbase hfew hline hs hplain, fun M N fx pin φ H env σ ts Q g w => ?_⟩
  unfold appendG at w
  split at w
  · rename_i xs0 hl
    obtain ⟨a0, vs0, k1, k2⟩ := look_lst g hl
    refine ⟨.ref a0, k1, tyV_list k2, h2 M N fx pin φ H env σ ts _ g ?_⟩
    cases hm : m env with
    | no => rw [hm] at w; exact w
    | ex x e => rw [hm] at w; exact w
    | ok o d env1 =>
      rw [hm] at w
      simp only at w
      intro φ1 H1 v g1
      split at w
      · rename_i s xs hy
        split at w
        · rename_i hz
          simp only [Bool.and_eq_true] at hz
          obtain ⟨a, vs, as, e1, e2, e3, e4, e5, e6, e7, e8, e9, e10⟩ := myLst_ok g1 hy
          rw [k1] at e3; cases e3
          obtain ⟨bs, b1, b2, b3⟩ := own_tmp g1 hz.1
          have hab : a0 ∉ bs := fun z => by have := (b3 _ z).2; rw [e5] at this; cases this
          have has : a0 ∉ as := (List.nodup_cons.mp e9).1
          have disj : ∀ b ∈ as, b ∉ bs := fun b hb hb2 => by have := (b3 _ hb2).2; rw [(e10 b hb).2] at this; cases this
          refine ⟨a0, vs, v, rfl, rfl, e6, szOk_lt (by rw [← e8.length]; exact hz.2), w _ _ _ (g1.mut (us := [(o, d, v)]) (bs := []) (rs := some (.non, .non)) (as := a0 :: (as ++ bs)) e1 e2 k1 e4 e5 e6 (.lst upd_same ?_) ?_ (fun b hb => ⟨by simp, ?_⟩) (fun d w e => by cases e; exact .non) List.nodup_nil fun b z => nomatch z)⟩
          · have : Reps H1 [d] [v] (bs ++ []) := .cons b1 .nil
            rw [List.append_nil] at this
            exact (e8.append this).upd e6 fun z => (List.mem_append.mp z).elim has hab
          · exact List.nodup_cons.mpr ⟨fun z => (List.mem_append.mp z).elim has hab, nodup_snoc (List.nodup_cons.mp e9).2 b2 disj⟩
          · rcases List.mem_cons.mp hb with z | z
            · subst z; exact ⟨e7, .inl e5⟩
            · rcases List.mem_append.mp z with z | z
              · exact ⟨(e10 b z).1, .inl (e10 b z).2⟩
              · exact ⟨(b3 b z).1, .inr (b3 b z).2⟩
        · exact w.elim
      · exact w.elim
  · exact w.elim
def popG (i : Nat) (m : GE) : GE := fun env => match Env.look env i with
  | some (.lst _) => match m env with
    | .ok _ (.int k) env1 => match myLst env1 i with
      | some (s, xs) => match ixN xs.length k with
        | some j => match xs[j]? with
          | some y => if szOk xs.length then .ok true y (env1.set i (s.put (.lst (xs.eraseIdx j)))) else .no
          | none => .no
        | none => .no
      | none => .no
    | .ok _ _ _ => .no
    | .ex x e => .ex x e
    | .no => .no
  | _ => .no
theorem Reps.erase {H : Hp} : ∀ {xs : List D} {vs : List V} {as : List Addr} {j : Nat} {d : D}, Reps H xs vs as → xs[j]? = some d → ∃ v bs cs es, vs[j]? = some v ∧ Rep H d v bs ∧ as = cs ++ bs ++ es ∧ Reps H (xs.eraseIdx j) (vs.eraseIdx j) (cs ++ es)
  | _, _, _, 0, _, .cons (as := as) (bs := bs) r rs, h => by
    cases h
    exact ⟨_, as, [], bs, rfl, r, by simp, by simpa using rs⟩
  | _, _, _, j + 1, d, .cons (as := as) (bs := bs) r rs, h => by
    obtain ⟨v, ys, cs, es, h1, h2, h3, h4⟩ := Reps.erase (j := j) rs (by simpa using h)
    exact ⟨v, ys, as ++ cs, es, by simpa using h1, h2, by rw [h3]; simp [List.append_assoc], by
      have := Reps.cons r h4
      simpa [List.append_assoc] using this⟩
theorem popG_core {i : Nat} {s : Sl} {xs : List D} {j : Nat} {y : D} {o : Bool} {dk : D} {vk : V} (g1 : Good M N fx pin φ H env σ (ts ++ us)) (hy : myLst env i = some (s, xs)) (hj : xs[j]? = some y) :
    ∃ a vs v, σ[i]? = some (some (.ref a)) ∧ H a = some (.lst vs) ∧ vs.length = xs.length ∧ vs[j]? = some v ∧ ∃ φ', Good M N fx pin φ' (upd H a (.lst (vs.eraseIdx j))) (env.set i (s.put (.lst (xs.eraseIdx j)))) σ (ts ++ [(true, y, v)]) := by
  obtain ⟨a, vs, as, e1, e2, e3, e4, e5, e6, e7, e8, e9, e10⟩ := myLst_ok g1 hy
  obtain ⟨v, bs, cs, es, h1, h2, h3, h4⟩ := e8.erase hj
  have hno := (List.nodup_cons.mp e9)
  have sub : ∀ b, b ∈ cs ++ es → b ∈ as := fun b hb => by rw [h3]; simp only [List.mem_append] at hb ⊢; rcases hb with z | z <;> simp [z]
  have subb : ∀ b, b ∈ bs → b ∈ as := fun b hb => by rw [h3]; simp [hb]
  have nd := hno.2
  rw [h3] at nd
  have nd1 : bs.Nodup := (List.nodup_append.mp (List.nodup_append.mp nd).1).2.1
  have nd2 : (cs ++ es).Nodup := by
    refine nd.sublist ?_
    exact List.Sublist.append (List.sublist_append_left cs bs) (List.Sublist.refl es)
  have disj : ∀ b ∈ cs ++ es, b ∉ bs := fun b hb hb2 => by
    have n2 := List.nodup_append.mp nd
    have n1 := List.nodup_append.mp n2.1
    rcases List.mem_append.mp hb with z | z
    · exact n1.2.2 b z b hb2 rfl
    · exact n2.2.2 b (List.mem_append_right _ hb2) b z rfl
  refine ⟨a, vs, v, e3, e6, e8.length.symm, h1, _, g1.mut (bs := bs) (rs := some (y, v)) (as := a :: (cs ++ es)) e1 e2 e3 e4 e5 e6 (.lst upd_same (h4.upd e6 fun z => hno.1 (sub _ z))) (List.nodup_cons.mpr ⟨fun z => hno.1 (sub _ z), nd2⟩) (fun b hb => ?_) (fun d w e => by cases e; exact h2) nd1 fun b hb => ⟨fun z => hno.1 (z ▸ subb b hb), (e10 b (subb b hb)).1, (e10 b (subb b hb)).2⟩⟩
  rcases List.mem_cons.mp hb with z | z
  · subst z; exact ⟨fun z => hno.1 (subb _ z), e7, .inl e5⟩
  · exact ⟨disj b z, (e10 b (sub b z)).1, .inl (e10 b (sub b z)).2⟩
theorem snde_pop {i : Nat} {x : Str} {e : Expr} {m : GE} {p apos cpos : Pos} (hN : X.N[i]? = some x) (hvx : Vis X.env.scope x) (h : SndE X E e m)
    (hbase : attributeBase (.Name x p) ("pop" : Str) X.env (eval (.Name x p) X.env) = eval (.Name x p) X.env := by rfl)
    (hfew : ((backTo cpos (starEach [e] X.env)).all (fun x => !x.1) && (backToKw cpos (keywordEach [] X.env)).all (fun x => x.1.isSome)
      && decide (([e] : List Expr).length + ([] : List Keyword).length + (if ([] : List Keyword).isEmpty then 0 else 1) < 30)) = true := by rfl)
    (hline : (apos.endLine == cpos.line) = true := by rfl) (hs : starEach [e] X.env = (false, eval e X.env) :: starEach [] X.env := by rfl) (hplain : (backTo cpos (starEach [] X.env)).any (·.1) = false := by rfl)
    (hd : (x == ("__debug__" : Str)) = false := by decide) (hcd : (x == ("__classdict__" : Str)) = false := by decide) :
    SndE X E (.Call (.Attribute (.Name x p) ("pop" : Str) apos) [e] [] cpos) (popG i m) := by
  obtain ⟨t, h1, h2⟩ := h
  refine ⟨_, pe_bm PySem.F.plainAttrs_list PySem.F.slot_list_pop PySem.F.type_list_pop mt_popAt (pe_var hN hvx hd hcd) (pa_cons h1 pa_nil hs) hbase hfew hline hs hplain, fun M N fx pin φ H env σ ts Q g w => ?_⟩
  unfold popG at w
  split at w
  · rename_i xs0 hl
    obtain ⟨a0, vs0, k1, k2⟩ := look_lst g hl
    refine ⟨.ref a0, k1, tyV_list k2, h2 M N fx pin φ H env σ ts _ g ?_⟩
    cases hm : m env with
    | no => rw [hm] at w; exact w
    | ex x e => rw [hm] at w; exact w
    | ok o d env1 =>
      rw [hm] at w
      intro φ1 H1 v g1
      obtain ⟨ask, rk, _⟩ := g1.tmp ts.length (o, d, v) (by simp)
      cases rk with
      | int k =>
        simp only at w
        split at w
        · rename_i s xs hy
          split at w
          · rename_i j hj
            split at w
            · rename_i y hjy
              split at w
              · rename_i hz
                obtain ⟨a, vs, vv, q1, q2, q3, q4, φ2, q5⟩ := popG_core (o := o) (dk := .int k) (vk := .int k) g1 hy hjy
                rw [k1] at q1; cases q1
                obtain ⟨s1, s2, s3, s4⟩ := ixN_seq hj
                have hz' := szOk_le hz
                have : xs.length ≤ 1000000 := by unfold szOk at hz; exact Nat.le_of_ble_eq_true hz
                exact ⟨a0, vs, k, j, vv, rfl, rfl, q2, by omega, by omega, by rw [q3]; exact s1, q4, w _ _ _ q5⟩
              · exact w.elim
            · exact w.elim
          · exact w.elim
        · exact w.elim
      | _ => exact (show False from w).elim
  · exact w.elim
def clearG (i : Nat) : GE := fun env => match myLst env i with
  | some (s, _) => .ok true .non (env.set i (s.put (.lst [])))
  | none => .no
theorem snde_clear {i : Nat} {x : Str} {p apos cpos : Pos} (hN : X.N[i]? = some x) (hvx : Vis X.env.scope x)
    (hbase : attributeBase (.Name x p) ("clear" : Str) X.env (eval (.Name x p) X.env) = eval (.Name x p) X.env := by rfl) (hline : (apos.endLine == cpos.line) = true := by rfl)
    (hd : (x == ("__debug__" : Str)) = false := by decide) (hcd : (x == ("__classdict__" : Str)) = false := by decide) :
    SndE X E (.Call (.Attribute (.Name x p) ("clear" : Str) apos) [] [] cpos) (clearG i) := by
  refine ⟨_, pe_bm0 PySem.F.plainAttrs_list PySem.F.slot_list_clear PySem.F.type_list_clear mt_clear (pe_var hN hvx hd hcd) hbase hline, fun M N fx pin φ H env σ ts Q g w => ?_⟩
  unfold clearG at w
  split at w
  · rename_i s xs hy
    obtain ⟨a, vs, as, e1, e2, e3, e4, e5, e6, e7, e8, e9, e10⟩ := myLst_ok g hy
    refine ⟨.ref a, e3, tyV_list e6, a, vs, rfl, rfl, e6, w _ _ _ (Good.mut (us := []) (by simpa using g) (bs := []) (rs := some (.non, .non)) (as := [a]) e1 e2 e3 e4 e5 e6 (.lst upd_same .nil) (by simp) (fun b hb => ⟨by simp, ?_⟩) (fun d w e => by cases e; exact .non) List.nodup_nil fun b z => nomatch z)⟩
    simp at hb; subst hb; exact ⟨e7, .inl e5⟩
  · exact w.elim
def setiS (i : Nat) (p : P) (m : GE) : SM := fun env => match m env with
  | .ok o d env1 => match p env1 with
    | .ok _ (.int k) => match myLst env1 i with
      | some (s, xs) => match ixN xs.length k with
        | some j => if o || noL d then .nx (env1.set i (s.put (.lst (xs.set j d)))) else .no
        | none => .no
      | none => .no
    | _ => .no
  | .ex x e => .ex x e
  | .no => .no
theorem Reps.set {H : Hp} : ∀ {xs : List D} {vs : List V} {as bs : List Addr} {j : Nat} {d : D} {v : V}, Reps H xs vs as → Rep H d v bs → j < xs.length → ∃ cs ys es, as = cs ++ ys ++ es ∧ Reps H (xs.set j d) (vs.set j v) (cs ++ bs ++ es)
  | _, _, _, bs, 0, d, v, .cons (as := as) (bs := zs) r rs, q, h => ⟨[], as, zs, by simp, by simpa using Reps.cons q rs⟩
  | _, _, _, bs, j + 1, d, v, .cons (as := as) (bs := zs) r rs, q, h => by
    obtain ⟨cs, ys, es, h1, h2⟩ := Reps.set (j := j) rs q (by simpa using h)
    exact ⟨as ++ cs, ys, es, by rw [h1]; simp [List.append_assoc], by
      have := Reps.cons r h2
      simpa [List.append_assoc] using this⟩
theorem snds_seti {i : Nat} {x : Str} {e ix : Expr} {m : GE} {p : P} {px ps pos : Pos} (hN : X.N[i]? = some x) (hvx : Vis X.env.scope x) (h : SndE X E e m) (hi : SndP X E ix p)
    (ha : ∀ v, assign (.Subscript (.Name x px) ix ps) X.env v = (do
      let ov ← holding [v] (eval (.Name x px) X.env)
      let iv ← holding [v, ov] (eval ix X.env)
      standAt ps
      holding [v, ov, iv] (setItem ov iv v)
      release [v, ov, iv] []) := by intro _; rfl)
    (hs : swapsWithSole [.Subscript (.Name x px) ix ps] e pos.line X.env = pure false := by rfl) (hw : swappedStores [.Subscript (.Name x px) ix ps] e X.env = pure none := by rfl)
    (h1 : (assignEach [.Subscript (.Name x px) ix ps] X.env).map (·.2) = [assign (.Subscript (.Name x px) ix ps) X.env] := by rfl)
    (hd : (x == ("__debug__" : Str)) = false := by decide) (hcd : (x == ("__classdict__" : Str)) = false := by decide) :
    SndS X E (.Assign [.Subscript (.Name x px) ix ps] e pos) (setiS i p m) := by
  obtain ⟨t, h1', h2⟩ := h
  obtain ⟨ti, i1, i2⟩ := hi
  refine ⟨_, ps_asg h1' (pg_sub (pe_var hN hvx hd hcd) i1 set_list ha) hs hw h1, fun M N fx pin φ H env σ ts K g w => h2 M N fx pin φ H env σ ts _ g ?_⟩
  unfold setiS at w
  cases hm : m env with
  | no => rw [hm] at w; exact w
  | ex x e => rw [hm] at w; exact fun φ' H' c dx g' r => w φ' H' σ c dx g' r
  | ok o d env1 =>
    rw [hm] at w
    intro φ1 H1 v g1
    simp only at w
    cases hp : p env1 with
    | no => rw [hp] at w; exact w.elim
    | ex x => rw [hp] at w; exact w.elim
    | ok f dk =>
      rw [hp] at w
      cases dk with
      | int k =>
        simp only at w
        split at w
        · rename_i s xs hy
          split at w
          · rename_i j hj
            split at w
            · rename_i hz
              obtain ⟨a, vs, as, e1, e2, e3, e4, e5, e6, e7, e8, e9, e10⟩ := myLst_ok g1 hy
              refine ⟨.ref a, e3, i2 M env1 σ H1 _ g1.obs ?_⟩
              rw [hp]
              intro vk H2 bk ex2 rk _ _
              cases rk
              have g2 := g1.ext ex2
              obtain ⟨a', vs', as', e1, e2, e3', e4, e5, e6, e7, e8, e9, e10⟩ := myLst_ok g2 hy
              rw [e3] at e3'; cases e3'
              obtain ⟨bs, b1, b2, b3⟩ := own_tmp g2 hz
              obtain ⟨s1, s2, s3, s4⟩ := ixN_seq hj
              obtain ⟨cs, ys, es, c1, c2⟩ := e8.set b1 s2
              have hno := List.nodup_cons.mp e9
              have hab : a ∉ bs := fun z => by have := (b3 _ z).2; rw [e5] at this; cases this
              have sub : ∀ b, b ∈ cs ++ es → b ∈ as' := fun b hb => by rw [c1]; simp only [List.mem_append] at hb ⊢; rcases hb with z | z <;> simp [z]
              have memb : ∀ b, b ∈ cs ++ bs ++ es → b ∈ bs ∨ b ∈ as' := fun b hb => by
                simp only [List.mem_append] at hb
                rcases hb with (z | z) | z
                · exact .inr (sub b (List.mem_append_left _ z))
                · exact .inl z
                · exact .inr (sub b (List.mem_append_right _ z))
              have disj : ∀ b ∈ as', b ∉ bs := fun b hb hb2 => by have := (b3 _ hb2).2; rw [(e10 b hb).2] at this; cases this
              have nd2 : (cs ++ es).Nodup := by
                have nd := hno.2
                rw [c1] at nd
                exact nd.sublist (List.Sublist.append (List.sublist_append_left cs ys) (List.Sublist.refl es))
              have nd3 : (cs ++ bs ++ es).Nodup := by
                have n := List.nodup_append.mp nd2
                rw [List.append_assoc]
                refine nodup_snoc n.1 (nodup_snoc b2 n.2.1 fun b hb hb2 => disj b (sub b (List.mem_append_right _ hb2)) hb) fun b hb hb2 => ?_
                rcases List.mem_append.mp hb2 with z | z
                · exact disj b (sub b (List.mem_append_left _ hb)) z
                · exact n.2.2 b hb b z rfl
              have naa : a ∉ cs ++ bs ++ es := fun z => (memb a z).elim hab hno.1
              refine ⟨a, vs', k, j, rfl, rfl, e6, by rw [← e8.length]; exact hj, ?_⟩
              have gg := g2.mut (us := [(o, d, v)]) (bs := []) (rs := none) (as := a :: (cs ++ bs ++ es)) e1 e2 e3 e4 e5 e6 (.lst upd_same (c2.upd e6 naa)) (List.nodup_cons.mpr ⟨naa, nd3⟩) (fun b hb => ⟨by simp, ?_⟩) (fun d w e => nomatch e) List.nodup_nil fun b z => nomatch z
              · exact w _ _ _ (by simpa using gg)
              · rcases List.mem_cons.mp hb with z | z
                · subst z; exact ⟨e7, .inl e5⟩
                · rcases memb b z with z | z
                  · exact ⟨(b3 b z).1, .inr (b3 b z).2⟩
                  · exact ⟨(e10 b z).1, .inl (e10 b z).2⟩
            · exact w.elim
          · exact w.elim
        · exact w.elim
      | _ => exact (show False from w).elim
end
end CB

namespace CB
open PySem L2 PySem.Spec PyProof.Rows
variable [CT]

section
variable {M N : Addr → Prop} {fx fx' : Addr → HO → Prop} {pin : Nat → Option V} {φ φ' : Lab} {H H' : Hp} {env : Env} {σ : L2.St} {ts us : List Tmp}
theorem Good.fixed (g : Good M N fx pin φ H env σ ts) (h : ∀ a o, fx' a o → Kp H a o ∧ φ a = none) : Good M N (fun a o => fx a o ∨ fx' a o) pin φ H env σ ts :=
  ⟨g.len, fun a o z => z.elim (g.fix a o) (h a o), g.own, fun p z => g.free p fun o y => z o (.inl y), g.slot, g.tmp⟩
theorem Good.unfixed (g : Good M N (fun a o => fx a o ∨ fx' a o) pin φ H env σ ts) (f : ∀ p, (∀ o, ¬ fx p o) → N p ∧ M p) : Good M N fx pin φ H env σ ts :=
  ⟨g.len, fun a o z => g.fix a o (.inl z), g.own, f, g.slot, g.tmp⟩
def shT (ds : List D) (vs : List V) : List Tmp := (ds.zip vs).map fun p => (false, p.1, p.2)
def Shd (φ : Lab) (H : Hp) (M : Addr → Prop) (us : List Tmp) : Prop := ∀ t ∈ us, t.1 = false ∧ ∃ as, Rep H t.2.1 t.2.2 as ∧ ∀ a ∈ as, M a ∧ φ a = none
theorem Good.keepT (g : Good M N fx pin φ H env σ ts) (h : Shd φ H M us) : Good M N fx pin φ H env σ (ts ++ us) :=
  ⟨g.len, g.fix, g.own, g.free, g.slot, fun j t e => by
    by_cases hj : j < ts.length
    · rw [List.getElem?_append_left hj] at e; exact g.tmp j t e
    · rw [List.getElem?_append_right (by omega)] at e
      obtain ⟨h1, as, h2, h3⟩ := h t (List.mem_of_getElem? e)
      rw [h1]
      exact ⟨as, h2, fun a q => (h3 a q).1, fun a q => (h3 a q).2, fun z => nomatch z⟩⟩
theorem Good.shd (g : Good M N fx pin φ H env σ (ts ++ us)) (h : ∀ t ∈ us, t.1 = false) : Shd φ H M us := fun t ht => by
  obtain ⟨j, hj⟩ := List.getElem?_of_mem ht
  have := g.tmp (ts.length + j) t (by rw [List.getElem?_append_right (by omega)]; simpa using hj)
  obtain ⟨as, r, m, q, _⟩ := this
  rw [h t ht] at q
  exact ⟨h t ht, as, r, fun a z => ⟨m a z, q a z⟩⟩
theorem Reps.shd {φ : Lab} {H : Hp} {M : Addr → Prop} : ∀ {ds : List D} {vs : List V} {as : List Addr}, Reps H ds vs as → (∀ a ∈ as, M a ∧ φ a = none) → Shd φ H M (shT ds vs)
  | _, _, _, .nil, _ => fun t h => by simp [shT] at h
  | _, _, _, .cons (as := as) (bs := bs) r rs, m => fun t h => by
    simp only [shT, List.zip_cons_cons, List.map_cons, List.mem_cons] at h
    rcases h with h | h
    · subst h; exact ⟨rfl, as, r, fun a q => m a (List.mem_append_left _ q)⟩
    · exact Reps.shd rs (fun a q => m a (List.mem_append_right _ q)) t h
theorem shd_reps {φ : Lab} {H : Hp} {M : Addr → Prop} : ∀ {ds : List D} {vs : List V}, ds.length = vs.length → Shd φ H M (shT ds vs) → ∃ as, Reps H ds vs as ∧ ∀ a ∈ as, M a ∧ φ a = none
  | [], [], _, _ => ⟨[], .nil, noMem⟩
  | d :: ds, v :: vs, hl, h => by
    obtain ⟨_, as, r, m⟩ := h (false, d, v) (by simp [shT])
    obtain ⟨bs, rs, ms⟩ := shd_reps (ds := ds) (vs := vs) (by simpa using hl) fun t ht => h t (by simp only [shT, List.zip_cons_cons, List.map_cons, List.mem_cons]; exact .inr ht)
    exact ⟨as ++ bs, .cons r rs, fun a q => (List.mem_append.mp q).elim (m a) (ms a)⟩
  | [], _ :: _, hl, _ => by simp at hl
  | _ :: _, [], hl, _ => by simp at hl
theorem Good.squash {t : Tmp} (g : Good M N fx pin φ H env σ (ts ++ us ++ [t])) : ∃ φ', Good M N fx pin φ' H env σ (ts ++ [t]) := by
  refine ⟨fun a => if φ a = some (.tmp (ts ++ us).length) then some (.tmp ts.length) else if φ a = some (.tmp ts.length) then none else φ a, ?_⟩
  have oth : ∀ {l : Lb} {o : Bool} {d : D} {v : V}, l ≠ .tmp (ts ++ us).length → l ≠ .tmp ts.length → Held φ H M l o d v → Held (fun a => if φ a = some (.tmp (ts ++ us).length) then some (.tmp ts.length) else if φ a = some (.tmp ts.length) then none else φ a) H M l o d v := fun {l o d v} h1 h2 k => k.keep fun as r q => ⟨r, fun a ha => by
    show (if φ a = some (.tmp (ts ++ us).length) then some (.tmp ts.length) else if φ a = some (.tmp ts.length) then none else φ a) = _
    rw [q a ha]
    cases o with
    | true => simp only [if_true, Option.some.injEq, h1, h2, if_false]
    | false => simp⟩
  refine ⟨g.len, fun a o h => ⟨(g.fix a o h).1, ?_⟩, fun a h => g.own a fun z => h ?_, g.free, fun k s h => (g.slot k s h).keep fun o d v q => oth (fun z => nomatch z) (fun z => nomatch z) q, fun j u h => ?_⟩
  · show (if φ a = some (.tmp (ts ++ us).length) then some (.tmp ts.length) else if φ a = some (.tmp ts.length) then none else φ a) = _
    rw [(g.fix a o h).2]; simp
  · show (if φ a = some (.tmp (ts ++ us).length) then some (.tmp ts.length) else if φ a = some (.tmp ts.length) then none else φ a) = _
    rw [z]; simp
  · by_cases hj : j < ts.length
    · rw [List.getElem?_append_left hj] at h
      refine oth (fun z => ?_) (fun z => ?_) (g.tmp j u (by rw [List.append_assoc, List.getElem?_append_left hj]; exact h))
      · cases z; simp at hj; omega
      · cases z; omega
    · have hj' : j = ts.length := by
        have := (List.getElem?_eq_some_iff.mp h).1
        simp at this; omega
      subst hj'
      simp at h
      subst h
      obtain ⟨as, r, m, q, n⟩ := g.tmp (ts ++ us).length t (by simp)
      refine ⟨as, r, m, fun a ha => ?_, n⟩
      show (if φ a = some (.tmp (ts ++ us).length) then some (.tmp ts.length) else if φ a = some (.tmp ts.length) then none else φ a) = _
      rw [q a ha]
      cases t.1 with
      | true => simp
      | false => simp
theorem Good.bind1 (g : Good M N fx pin φ H env σ ts) {d : D} {v : V} {as : List Addr} {i : Nat} (r : Rep H d v as) (m : ∀ a ∈ as, M a ∧ φ a = none) : Good M N fx pin (unl φ i) H (env.set i (.val false d)) (σ.set i (some v)) ts := by
  refine ⟨g.len.set, fun a u h => ⟨(g.fix a u h).1, by unfold unl; rw [(g.fix a u h).2]; simp⟩, fun a h => g.own a fun z => h (by unfold unl; rw [z]; simp), g.free, fun k s h => ?_, fun j t h => (g.tmp j t h).unl fun z => nomatch z⟩
  by_cases hk : k = i
  · subst hk
    have hlen : k < env.length := by
      have := (List.getElem?_eq_some_iff.mp h).1
      rwa [List.length_set] at this
    rw [List.getElem?_set_self hlen] at h
    cases h
    refine ⟨v, by rw [List.getElem?_set_self (Nat.lt_of_lt_of_le hlen g.len.le)], as, r, fun a q => (m a q).1, fun a q => ?_, fun z => nomatch z⟩
    unfold unl
    rw [(m a q).2]; simp
  · rw [List.getElem?_set_ne (Ne.symm hk)] at h
    rw [List.getElem?_set_ne (Ne.symm hk)]
    exact (g.slot k s h).keep fun o d v q => q.unl fun z => hk (by cases z; rfl)
theorem Good.bindAll : ∀ {is : List Nat} {ds : List D} {vs : List V} {as : List Addr} {φ : Lab} {env env' : Env} {σ : L2.St}, Good M N fx pin φ H env σ ts → Reps H ds vs as → (∀ a ∈ as, M a ∧ φ a = none) → setAll env is ds = some env' → ∃ φ', Good M N fx pin φ' H env' (setV σ is vs) ts
  | [], [], _, _, φ, _, _, _, g, .nil, _, h => by cases h; exact ⟨φ, g⟩
  | i :: is, d :: ds, _, _, φ, env, env', σ, g, .cons r rs, m, h => by
    simp only [setAll] at h
    exact Good.bindAll (is := is) (ds := ds) (g.bind1 r fun a q => m a (List.mem_append_left _ q)) rs (fun a q => ⟨(m a (List.mem_append_right _ q)).1, by unfold unl; rw [(m a (List.mem_append_right _ q)).2]; simp⟩) h
  | [], _ :: _, _, _, _, _, _, _, _, _, _, h => by simp [setAll] at h
  | _ :: _, [], _, _, _, _, _, _, _, _, _, h => by simp [setAll] at h
theorem Good.bindT (g : Good M N fx pin φ H env σ ts) {env' : Env} {σ' : L2.St} {τ : Tgt} {d : D} {v : V} {as : List Addr} (r : Rep H d v as) (m : ∀ a ∈ as, M a ∧ φ a = none) (h : CB.bindT τ d env = some env') (hg : tgV τ v H σ σ') : ∃ φ', Good M N fx pin φ' H env' σ' ts := by
  cases τ with
  | nm i =>
    cases h
    have e : σ' = σ.set i (some v) := hg
    subst e
    exact ⟨_, g.bind1 r m⟩
  | tp is =>
    obtain ⟨a, vs, e1, e2, e3⟩ := hg
    subst e1 e3
    cases r with
    | tup ha hd s =>
      rcases e2 with ⟨o', e2⟩ | e2 <;> rw [ha] at e2 <;> cases e2
      exact g.bindAll s m h
    | tp0 ha s =>
      rcases e2 with ⟨o', e2⟩ | e2 <;> rw [ha] at e2 <;> cases e2
      exact g.bindAll s m h
    | lst ha s => simp [CB.bindT] at h
    | frz ha s => simp [CB.bindT] at h
    | exc _ _ _ _ _ => simp [CB.bindT] at h
    | excF _ _ _ _ _ _ _ _ => simp [CB.bindT] at h
    | dic _ _ _ _ => simp [CB.bindT] at h
    | dic2 _ _ _ _ => simp [CB.bindT] at h
    | dicK _ _ _ => simp [CB.bindT] at h
    | obj _ _ _ _ _ => simp [CB.bindT] at h
    | box _ => simp [CB.bindT] at h
end
def loopS (τ : Tgt) (m : SM) : List D → Env → SR
  | [], env => .nx env
  | d :: ds, env => match bindT τ d env with
    | some env1 => match m env1 with
      | .nx env2 => loopS τ m ds env2
      | r => r
    | none => .no
def forS (ks : List Nat) (τ : Tgt) (ι : I) (m : SM) : SM := fun env => match ι env with
  | .ok f ds => if f && noLs ds then loopS τ m ds env else match ι (hide ks 0 env) with
    | .ok _ ds2 => loopS τ m ds2 (demK ks env)
    | _ => .no
  | .ex x => .ex x env
  | .no => .no
section
variable {X : Cx} {E : XK}
theorem loop_core {M N : Addr → Prop} {fx : Addr → HO → Prop} {pin : Nat → Option V} {φ : Lab} {H : Hp} {env : Env} {σ : L2.St} {ts us : List Tmp} {K : Ends} {τ : Tgt} {m : SM} {tb : TS} {g : TG} {J : It} {fi : Addr → HO → Prop} {ds : List D} {cD : Nat → List D} {cV : Nat → List V}
    (h2 : ∀ M N fx pin φ H env σ ts K, Good M N fx pin φ H env σ ts → SWant M N fx pin X.mg ts E K (m env) → tb K σ H)
    (hg : ∀ (v : V) (σ : L2.St) (H : Hp) (d : D) (as : List Addr) (Q : L2.St → Hp → Prop), Rep H d v as → Fits τ d → (∀ σ', tgV τ v H σ σ' → Q σ' H) → g v σ H Q)
    (sv : Serves J fi ds cD cV) (hl : ∀ i, i < ds.length → (cD i).length = (cV i).length ∧ ∀ t ∈ shT (cD i) (cV i), t ∈ us) (hus : ∀ t ∈ us, t.1 = false)
    (g0 : Good M N (fun a o => fx a o ∨ fi a o) pin φ H env σ (ts ++ us)) (gf : ∀ p, (∀ o, ¬ fx p o) → N p ∧ M p) (w : SWant M N fx pin X.mg ts E K (loopS τ m ds env)) :
    ∃ W : Nat → Nat → L2.St → Hp → Prop, (∃ m, W 0 m σ H) ∧ ∀ i m σ H, W i m σ H →
      (J.stop i H ∧ K.nx σ H) ∨ (J.go i H ∧ ∃ N : L2.St → Hp → Prop, (∀ σ' H', N σ' H' → ∃ m', m' < m ∧ W (i + 1) m' σ' H') ∧ ∀ x H', J.yld i H x H' → g x σ H' fun σ2 H2 => tb { K with nx := N, ct := N, bk := K.nx } σ2 H2) := by
  refine ⟨fun i n σ H => n = ds.length - i ∧ i ≤ ds.length ∧ ∃ φ env, Good M N (fun a o => fx a o ∨ fi a o) pin φ H env σ (ts ++ us) ∧ SWant M N fx pin X.mg ts E K (loopS τ m (ds.drop i) env), ⟨ds.length, by simp, Nat.zero_le _, φ, env, g0, by simpa using w⟩, ?_⟩
  rintro i n σ H ⟨rfl, hi, φ, env, g1, w1⟩
  have hf : Holds fi H := fun a o z => (g1.fix a o (.inr z)).1
  by_cases hlt : i < ds.length
  · obtain ⟨d, hd⟩ : ∃ d, ds[i]? = some d := ⟨ds[i], by simp⟩
    have ed : ds.drop i = d :: ds.drop (i + 1) := by
      have e2 : ds[i] = d := by
        have := List.getElem?_eq_getElem hlt
        rw [this] at hd; exact Option.some.inj hd
      rw [← e2]
      exact List.drop_eq_getElem_cons hlt
    rw [ed] at w1
    simp only [loopS] at w1
    refine .inr ⟨sv.go i H hlt hf, fun σ' H' => ∃ φ' env', Good M N (fun a o => fx a o ∨ fi a o) pin φ' H' env' σ' (ts ++ us) ∧ SWant M N fx pin X.mg ts E K (loopS τ m (ds.drop (i + 1)) env'), fun σ' H' ⟨φ', env', g', w'⟩ => ⟨ds.length - (i + 1), by omega, rfl, hlt, φ', env', g', w'⟩, fun x H' hy => ?_⟩
    obtain ⟨ex, rx⟩ := sv.yld i H x H' hf hy d hd
    obtain ⟨as, ra, ma⟩ := shd_reps (hl i hlt).1 (fun t ht => (g1.shd hus) t ((hl i hlt).2 t ht))
    have rd := rx as ra
    cases hb : bindT τ d env with
    | none => rw [hb] at w1; exact w1.elim
    | some env1 =>
      rw [hb] at w1
      simp only at w1
      refine hg x σ H' d as _ rd (bindT_fits hb) fun σ' ht => ?_
      obtain ⟨φ2, g2⟩ := (g1.ext ex).bindT rd ma hb ht
      refine h2 _ _ _ _ φ2 H' env1 σ' _ _ g2 ?_
      cases hm : m env1 with
      | no => rw [hm] at w1; exact w1
      | nx env2 => rw [hm] at w1; exact fun φ3 H3 σ3 g3 => ⟨φ3, env2, g3, w1⟩
      | ex x env2 => rw [hm] at w1; exact fun φ3 H3 σ3 c dx g3 r => w1 φ3 H3 σ3 c dx (g3.drops.unfixed gf) r
      | rt o d env2 =>
        rw [hm] at w1
        intro φ3 H3 σ3 v g3
        obtain ⟨φ4, g4⟩ := g3.squash
        exact w1 φ4 H3 σ3 v (g4.unfixed gf)
  · have e : i = ds.length := by omega
    subst e
    rw [List.drop_length] at w1
    exact .inl ⟨sv.stop _ H (Nat.le_refl _) hf, w1 φ H σ (g1.drops.unfixed gf)⟩
theorem snds_for {tg iter : Expr} {body : List Stmt} {ι : I} {τ : Tgt} {m : SM} {pos : Pos} (ks : List Nat) (hp : PassesOwn (model X.prog X.w) X.A X.env X.xe) (hc : X.calm = true) (hi : SndI X E tg iter ι) (hg : SndG X tg τ) (hb : SndB X E body m)
    (hs : ∀ x, foldedSetIterable iter X.env x = pure x := by intro _; rfl) : SndS X E (.For tg iter body [] pos) (forS ks τ ι m) := by
  obtain ⟨wi, i1, i2⟩ := hi
  obtain ⟨gg, q1, q2⟩ := hg
  obtain ⟨tb, b1, b2⟩ := hb
  refine ⟨_, ps_for hp hc i1 q1 b1 hs, fun M N fx pin φ H env σ ts K g w => ?_⟩
  unfold forS at w
  have items : ∀ {S : Addr → Prop} {H' : Hp} {φ' : Lab} {n : Nat} {cD : Nat → List D} {cV : Nat → List V}, (∀ i, i < n → ∃ as, Reps H' (cD i) (cV i) as ∧ ∀ a ∈ as, S a ∨ H a = none) → (∀ i, i < n → ∀ as, Reps H' (cD i) (cV i) as → ∀ a ∈ as, S a ∨ H a = none → M a ∧ φ' a = none) →
      Shd φ' H' M ((List.range n).flatMap fun i => shT (cD i) (cV i)) ∧ ∀ i, i < n → (cD i).length = (cV i).length ∧ ∀ t ∈ shT (cD i) (cV i), t ∈ (List.range n).flatMap fun i => shT (cD i) (cV i) := by
    intro S H' φ' n cD cV h1 h2
    refine ⟨fun t ht => ?_, fun i hi => ?_⟩
    · obtain ⟨i, hi, ht⟩ := List.mem_flatMap.mp ht
      have hi' : i < n := List.mem_range.mp hi
      obtain ⟨as, r, ma⟩ := h1 i hi'
      exact (r.shd fun a q => h2 i hi' as r a q (ma a q)) t ht
    · obtain ⟨as, r, _⟩ := h1 i hi
      exact ⟨r.length, fun t ht => List.mem_flatMap.mpr ⟨i, List.mem_range.mpr hi, ht⟩⟩
  have allf : ∀ {n : Nat} {cD : Nat → List D} {cV : Nat → List V}, ∀ t ∈ (List.range n).flatMap fun i => shT (cD i) (cV i), t.1 = false := by
    intro n cD cV t ht
    obtain ⟨i, _, ht⟩ := List.mem_flatMap.mp ht
    unfold shT at ht
    obtain ⟨p, _, e⟩ := List.mem_map.mp ht
    rw [← e]
  cases hι : ι env with
  | no => rw [hι] at w; exact w.elim
  | ex x =>
    refine i2 M env σ H _ g.obs ?_
    rw [hι] at w ⊢
    exact fun c dx H' e r => w φ H' σ c dx (g.ext e) r
  | ok f ds =>
    rw [hι] at w
    simp only at w
    split at w
    · rename_i hz
      simp only [Bool.and_eq_true] at hz
      refine i2 M env σ H _ g.obs ?_
      rw [hι]
      intro J H1 fi cD cV e1 sv hfi hcv hfr hcs
      have g1 := g.ext e1
      have nolI : ∀ i, i < ds.length → noLs (cD i) = true := fun i hi => by
        have e : ds[i]? = some ds[i] := by simp
        refine sv.nol i _ e ?_
        have : ∀ {l : List D}, noLs l = true → ∀ d ∈ l, noL d = true := by
          intro l
          induction l with
          | nil => intro _ d h; cases h
          | cons x l ih =>
            intro h d hd
            simp only [noLs, Bool.and_eq_true] at h
            rcases List.mem_cons.mp hd with z | z
            · subst z; exact h.1
            · exact ih h.2 d z
        exact this hz.2 _ (List.getElem_mem hi)
      obtain ⟨hsh, hin⟩ := items (S := M) (φ' := φ) hcv fun i hi as r a ha => by
        rw [r.noL (nolI i hi)] at ha; cases ha
      exact loop_core b2 q2 sv hin allf ((g1.keepT hsh).fixed fun a o z => ⟨hfi a o z, by
        rcases hfr hz.1 a o z with y | y
        · exact g.lab_none y
        · cases hq : φ a with
          | none => rfl
          | some l =>
            obtain ⟨_, vs, hv, hi⟩ := g1.own a (by rw [hq]; exact fun z => nomatch z)
            exact ((hfi a o z).imm hv hi y).elim⟩) g.free w
    · cases hι2 : ι (hide ks 0 env) with
      | no => rw [hι2] at w; exact w.elim
      | ex x => rw [hι2] at w; exact w.elim
      | ok f2 ds2 =>
        rw [hι2] at w
        simp only at w
        refine i2 _ _ σ H _ (g.obsK ks) ?_
        rw [hι2]
        intro J H1 fi cD cV e1 sv hfi hcv hfr hcs
        obtain ⟨φ', g', k1, k2⟩ := g.demK ks
        have g1 := g'.ext e1
        have lab : ∀ a, (M a ∧ (φ a = none ∨ ∃ k ∈ ks, φ a = some (.slot k))) ∨ H a = none → M a ∧ φ' a = none := fun a z => by
          rcases z with ⟨y1, y | ⟨k, hk, y⟩⟩ | y
          · exact ⟨y1, k1 a y⟩
          · exact ⟨y1, k2 k hk a y⟩
          · exact ⟨(g.fresh y).2, k1 a (g.lab_none y)⟩
        obtain ⟨hsh, hin⟩ := items (φ' := φ') hcv fun i hi as r a ha z => lab a z
        exact loop_core b2 q2 sv hin allf ((g1.keepT hsh).fixed fun a o z => ⟨hfi a o z, by
          rcases hcs a o z with y | y | y
          · exact (lab a (.inl y)).2
          · exact (lab a (.inr y)).2
          · cases hq : φ' a with
            | none => rfl
            | some l =>
              obtain ⟨_, vs, hv, hi⟩ := g1.own a (by rw [hq]; exact fun z => nomatch z)
              exact ((hfi a o z).imm hv hi y).elim⟩) g.free w
end
end CB

namespace CB
open PySem L2 PySem.Spec PyProof.Rows
variable [CT]

inductive RR where
  | ok (o : Bool) (d dr : D) | ex (x : Xn) (dr : D) | no
def RWant (asr : List Addr) (S : Addr → Prop) (vr : V) (mg : Str → Option Value) (H : Hp) (Q : VK) (E : XK) : RR → Prop
  | .ok o d dr => ∀ v H' as' cs, ExB (· ∈ asr) H H' → Rep H' dr vr as' → as'.Nodup → (∀ a ∈ as', a ∈ asr ∨ H a = none) → Rep H' d v cs → (o = true → cs.Nodup ∧ ∀ a ∈ cs, a ∉ as' ∧ (a ∈ asr ∨ H a = none)) → (∀ a ∈ cs, a ∉ as' ∧ (a ∈ asr ∨ H a = none ∨ S a)) → Q v H'
  | .ex x dr => ∀ c dx H' as', ExB (· ∈ asr) H H' → Rep H' dr vr as' → as'.Nodup → (∀ a ∈ as', a ∈ asr ∨ H a = none) → XR mg x c dx H' → E c dx H'
  | .no => False
def spR (n r : Nat) (mg : Str → Option Value) (F : List D → RR) : Sp := fun vs H Q E => vs.length = n ∧ TabOk H ∧ ∃ ds dr vr asr S, ds.length = n ∧ ds[r]? = some dr ∧ vs[r]? = some vr ∧ Rep H dr vr asr ∧ asr.Nodup ∧
  (∀ j, j ≠ r → ∀ d v, ds[j]? = some d → vs[j]? = some v → ∃ bs, Rep H d v bs ∧ ∀ a ∈ bs, a ∉ asr ∧ S a) ∧ RWant asr S vr mg H Q E (F ds)
def startR (n r : Nat) (ds : List D) : Env := match ds[r]? with
  | some d => (startE n ds).set r (.ref d)
  | none => startE n ds
def endR (r : Nat) (env : Env) (k : D → RR) : RR := match env[r]? with
  | some (.ref d) => k d
  | _ => .no
def fnR (n r : Nat) (m : SM) (ds : List D) : RR := match m (startR n r ds) with
  | .nx e => endR r e fun dr => .ok true .non dr
  | .rt o d e => endR r e fun dr => .ok o d dr
  | .ex x e => endR r e fun dr => .ex x dr
  | .no => .no
theorem Good.startR {H : Hp} {S : Addr → Prop} {ds : List D} {vs : List V} {n r : Nat} {NN : List Str} {dr : D} {vr : V} {asr : List Addr} (tb : TabOk H) (hn : NN.length = n) (hk : ds.length ≤ n) (hl : ds.length = vs.length) (hd : ds[r]? = some dr) (hv : vs[r]? = some vr) (rr : Rep H dr vr asr) (nr : asr.Nodup)
    (ho : ∀ j, j ≠ r → ∀ d v, ds[j]? = some d → vs[j]? = some v → ∃ bs, Rep H d v bs ∧ ∀ a ∈ bs, a ∉ asr ∧ S a) :
    Good (fun a => a ∈ asr ∨ H a = none ∨ S a) (fun a => a ∈ asr ∨ H a = none) (fun a o => H a = some o ∧ a ∉ asr) (fun i => if i = r then some vr else none) (fun a => if a ∈ asr then some (.slot r) else none) H (startR n r ds) (L2.start NN vs) [] := by
  have hlen : (startE n ds).length ≤ (L2.start NN vs).length := by
    unfold startE L2.start
    rw [List.length_append, List.length_map, List.length_replicate, List.length_append, List.length_map, List.length_replicate, hn, hl]
    omega
  have hst : ∀ (j : Nat) (v : V), vs[j]? = some v → (L2.start NN vs)[j]? = some (some v) := fun j v h => by
    unfold L2.start
    have hv : j < vs.length := (List.getElem?_eq_some_iff.mp h).1
    rw [List.getElem?_append_left (by simpa using hv), List.getElem?_map, h]; rfl
  refine ⟨?_, fun a o ⟨h1, h2⟩ => ⟨.of h1, if_neg h2⟩, fun a h => ?_, fun p h => (fun q => ⟨q, q.imp_right .inl⟩ : (p ∈ asr ∨ H p = none) → (p ∈ asr ∨ H p = none) ∧ (p ∈ asr ∨ H p = none ∨ S p)) ?_, fun i s h => ?_, fun j t h => by simp at h⟩
  · unfold CB.startR
    rw [hd]
    exact ⟨by simp only [List.length_set]; exact hlen, tb⟩
  · have : a ∈ asr := by
      by_cases z : a ∈ asr
      · exact z
      · exact absurd (if_neg z) h
    exact ⟨.inl this, rr.there a this⟩
  · by_cases z : p ∈ asr
    · exact .inl z
    · refine .inr ?_
      cases e : H p with
      | none => rfl
      | some o => exact absurd ⟨e, z⟩ (h o)
  · unfold CB.startR at h
    rw [hd] at h
    simp only at h
    by_cases hi : i = r
    · subst hi
      have hil : i < (startE n ds).length := by
        have := (List.getElem?_eq_some_iff.mp h).1
        rwa [List.length_set] at this
      rw [List.getElem?_set_self hil] at h
      cases h
      exact ⟨vr, hst i vr hv, if_pos rfl, asr, rr, fun _ q => .inl q, fun a ha => if_pos ha, fun _ => nr⟩
    · rw [List.getElem?_set_ne (Ne.symm hi)] at h
      unfold startE at h
      by_cases hid : i < ds.length
      · rw [List.getElem?_append_left (by simpa using hid), List.getElem?_map] at h
        have e : ds[i]? = some ds[i] := by simp
        rw [e] at h
        cases h
        obtain ⟨v, ev⟩ : ∃ v, vs[i]? = some v := ⟨vs[i]'(by omega), by simp⟩
        obtain ⟨bs, h1, h2⟩ := ho i hi _ v e ev
        exact ⟨v, hst i v ev, bs, h1, fun a q => .inr (.inr (h2 a q).2), fun a ha => if_neg (h2 a ha).1, fun z => nomatch z⟩
      · rw [List.getElem?_append_right (by simpa using hid)] at h
        rw [List.getElem?_replicate] at h
        split at h <;> cases h
        trivial
theorem fnr_ok {P' : Program} {w : World} {K : PySem.W.Frag} {mg : Str → Option Value} {base : Heap} {x qual : Str} {st : Stmt} {f : Addr} {fd : FuncData} {NN ps : List Str} {k n r : Nat} {m : SM} (F : Fun K x qual st f fd) (S : FnScope NN ps (defScope st)) (hn : NN.length = n) (hk : ps.length ≤ n)
    (hb : ∀ (cdv : Value) (A : Around) (outer : List PySem.Env) (s : Shared) (H : Hp) (E : XK), RoomG k (A.deeper (envOfC qual (defScope st) s.heap.objs.size f cdv)) → SndB (cxOf (L2.CX P' w) P' w K mg base NN qual (defScope st) f cdv A outer s H E) E (defBody st) m) :
    FnOkG P' w K mg base (L2.CX P' w) (k + 1) f fd ps (spR ps.length r mg (fnR n r m)) := by
  refine okXG F S (fun vs H Q E h => h.1) (fun cdv A outer s H vs Q E hr h => ?_)
  obtain ⟨hl, tb, ds, dr, vr, asr, S, h1, h2, h3, h4, h5, h6, w⟩ := h
  obtain ⟨t, b1, b2⟩ := hb cdv A outer s H E hr
  refine ⟨t, b1, b2 _ _ _ _ _ H _ _ [] _ (Good.startR (NN := NN) tb hn (by omega) (by omega) h2 h3 h4 h5 h6) ?_⟩
  have fin : ∀ {φ' : Lab} {H' : Hp} {e : Env} {σ' : L2.St} {ts : List Tmp} {k : D → RR}, Good (fun a => a ∈ asr ∨ H a = none ∨ S a) (fun a => a ∈ asr ∨ H a = none) (fun a o => H a = some o ∧ a ∉ asr) (fun i => if i = r then some vr else none) φ' H' e σ' ts → RWant asr S vr mg H Q E (endR r e k) →
      ∃ d' as', (e[r]? = some (.ref d')) ∧ Rep H' d' vr as' ∧ as'.Nodup ∧ (∀ a ∈ as', φ' a = some (.slot r)) ∧ (∀ a ∈ as', a ∈ asr ∨ H a = none) ∧ ExB (· ∈ asr) H H' := by
    intro φ' H' e σ' ts k g w
    unfold endR at w
    cases hs : e[r]? with
    | none => rw [hs] at w; exact w.elim
    | some s =>
      rw [hs] at w
      have q := g.slot r s hs
      cases s with
      | emp => exact w.elim
      | pin => exact w.elim
      | top xs => exact w.elim
      | val o d => exact w.elim
      | ref d' =>
        obtain ⟨v, e1, e2, as', r1, _, r3, r4⟩ := q
        have e2' : some vr = some v := by simpa using e2
        cases e2'
        exact ⟨d', as', rfl, r1, r4 rfl, r3, fun a ha => (g.own a (by rw [r3 a ha]; exact fun z => nomatch z)).1, .fx (fun a u hu hn => (g.fix a u ⟨hu, hn⟩).1) g.len.tab⟩
  unfold fnR at w
  cases hm : m (CB.startR n r ds) with
  | no => rw [hm] at w; exact w
  | ex x e =>
    rw [hm] at w
    intro φ' H' σ' c dx g r'
    obtain ⟨d', as', e1, e2, e3, e4, e5, e6⟩ := fin g w
    simp only [endR, e1] at w
    exact w c dx H' as' e6 e2 e3 e5 r'
  | nx e =>
    rw [hm] at w
    intro φ' H' σ' g
    obtain ⟨d', as', e1, e2, e3, e4, e5, e6⟩ := fin g w
    simp only [endR, e1] at w
    exact w .non H' as' [] e6 e2 e3 e5 .non (fun _ => ⟨List.nodup_nil, fun a h => nomatch h⟩) (fun a h => nomatch h)
  | rt o d e =>
    rw [hm] at w
    intro φ' H' σ' v g
    obtain ⟨d', as', e1, e2, e3, e4, e5, e6⟩ := fin g w
    simp only [endR, e1] at w
    obtain ⟨cs, r1, r2, r3, r4⟩ := g.tmp 0 (o, d, v) (by simp)
    refine w v H' as' cs e6 e2 e3 e5 r1 (fun z => ⟨r4 z, fun a ha => ?_⟩) (fun a ha => ⟨?_, r2 a ha⟩)
    · have z' : o = true := z
      have hl := r3 a ha
      rw [z'] at hl
      refine ⟨fun y => ?_, (g.own a (by rw [hl]; exact fun q => nomatch q)).1⟩
      have := e4 a y
      rw [hl] at this; cases this
    · intro y
      have q := e4 a y
      rw [r3 a ha] at q
      cases o <;> cases q

def othersOk (i r : Nat) : Nat → List U → Bool
  | _, [] => true
  | j, .t _ _ :: us => (j != r) && othersOk i r (j + 1) us
  | j, .v k :: us => (if j == r then k == i else k != i) && othersOk i r (j + 1) us
def othK (i : Nat) : List U → List Nat
  | [] => []
  | .t _ _ :: us => othK i us
  | .v k :: us => if k = i then othK i us else k :: othK i us
def callR (r i n : Nat) (F : List D → RR) (ms : List GA) : GE := fun env => match argsG ms env with
  | .ok us env1 => if othersOk i r 0 us && decide (us.length = n) then match valsU env1 us with
    | some ds => match env1[i]? with
      | some s => match s.mine with
        | some d0 => match ds[r]? with
          | some _ => match F ds with
            | .ok o d dr => if o || noL d then .ok true d (env1.set i (s.put dr)) else .ok false d ((demK (othK i us) env1).set i (s.put dr))
            | .ex x dr => .ex x (env1.set i (s.put dr))
            | .no => .no
          | none => .no
        | none => .no
      | none => .no
    | none => .no
    else .no
  | .ex x e => .ex x e
  | .no => .no
section
variable {M N : Addr → Prop} {fx fx' : Addr → HO → Prop} {pin : Nat → Option V} {φ φ' : Lab} {H H' : Hp} {env : Env} {σ : L2.St} {ts us : List Tmp}
theorem Vm.len {us : List U} {vs : List V} {ws : List Tmp} (h : Vm σ us vs ws) : us.length = vs.length := by
  induction h with
  | nil => rfl
  | t _ ih => simp [ih]
  | v _ _ ih => simp [ih]
theorem valsU_len {env : Env} : ∀ {us : List U} {ds : List D}, valsU env us = some ds → ds.length = us.length
  | [], ds, h => by cases h; rfl
  | .t o d :: us, ds, h => by
    simp only [valsU] at h
    cases e : valsU env us with
    | none => rw [e] at h; cases h
    | some es => rw [e] at h; cases h; simp [valsU_len e]
  | .v i :: us, ds, h => by
    simp only [valsU] at h
    cases e1 : Env.look env i with
    | none => rw [e1] at h; cases h
    | some d =>
      rw [e1] at h
      simp only at h
      cases e : valsU env us with
      | none => rw [e] at h; cases h
      | some es => rw [e] at h; cases h; simp [valsU_len e]
theorem mine_look {env : Env} {i : Nat} {s : Sl} {d : D} (h : env[i]? = some s) (hm : s.mine = some d) : Env.look env i = some d := by
  unfold Env.look
  rw [h]
  cases s with
  | emp => cases hm
  | pin => cases hm
  | top xs => cases hm
  | val o d' => cases o <;> cases hm; rfl
  | ref d' => cases hm; rfl
theorem Held.reps_of {l : Lb} {o : Bool} {d : D} {v : V} {asr : List Addr} {i : Nat} (h : Held φ H M l o d v) (hl : l ≠ .slot i) (ha : ∀ a ∈ asr, φ a = some (.slot i)) : ∃ bs, Rep H d v bs ∧ ∀ a ∈ bs, a ∉ asr := by
  obtain ⟨bs, r, _, q, _⟩ := h
  refine ⟨bs, r, fun a hb hs => ?_⟩
  have h1 := q a hb
  rw [ha a hs] at h1
  cases o with
  | true => simp at h1; exact hl h1.symm
  | false => cases h1
theorem slot_other (g : Good M N fx pin φ H env σ ts) {i k : Nat} {d : D} {v : V} {asr : List Addr} (hk : k ≠ i) (hl : Env.look env k = some d) (hv : σ[k]? = some (some v)) (ha : ∀ a ∈ asr, φ a = some (.slot i)) : ∃ bs, Rep H d v bs ∧ ∀ a ∈ bs, a ∉ asr := by
  unfold Env.look at hl
  cases e : env[k]? with
  | none => rw [e] at hl; cases hl
  | some s =>
    rw [e] at hl
    have q := g.slot k s e
    cases s with
    | emp => cases hl
    | pin => cases hl
    | val o d' =>
      cases hl
      obtain ⟨w, h1, h2⟩ := q
      rw [hv] at h1; cases h1
      exact h2.reps_of (fun z => hk (by cases z; rfl)) ha
    | ref d' =>
      cases hl
      obtain ⟨w, h1, _, h2⟩ := q
      rw [hv] at h1; cases h1
      exact h2.reps_of (fun z => hk (by cases z; rfl)) ha
    | top xs =>
      cases hl
      obtain ⟨w, vs, h1, h2, h3⟩ := q
      rw [hv] at h1; cases h1
      obtain ⟨as, r, m⟩ := top_lab h2 h3
      refine ⟨as, r, fun b hb hs => ?_⟩
      rcases (m b hb).2 with z | z
      · rw [ha b hs] at z; cases z
      · rw [ha b hs] at z; cases z; exact hk rfl
theorem slot_held (g : Good M N fx pin φ H env σ ts) {k : Nat} {d : D} (hl : Env.look env k = some d) : ∃ v as, σ[k]? = some (some v) ∧ Rep H d v as ∧ ∀ a ∈ as, M a ∧ (φ a = none ∨ φ a = some (.slot k)) := by
  unfold Env.look at hl
  have fin : ∀ {o : Bool} {v : V}, Held φ H M (.slot k) o d v → ∃ as, Rep H d v as ∧ ∀ a ∈ as, M a ∧ (φ a = none ∨ φ a = some (.slot k)) := fun {o v} ⟨as, r, q1, q2, _⟩ => ⟨as, r, fun a ha => ⟨q1 a ha, by
    have := q2 a ha
    cases o with
    | true => exact .inr this
    | false => exact .inl this⟩⟩
  cases e : env[k]? with
  | none => rw [e] at hl; cases hl
  | some s =>
    rw [e] at hl
    have q := g.slot k s e
    cases s with
    | emp => cases hl
    | pin => cases hl
    | val o d' =>
      cases hl
      obtain ⟨w, h1, h2⟩ := q
      obtain ⟨as, h3, h4⟩ := fin h2
      exact ⟨w, as, h1, h3, h4⟩
    | ref d' =>
      cases hl
      obtain ⟨w, h1, _, h2⟩ := q
      obtain ⟨as, h3, h4⟩ := fin h2
      exact ⟨w, as, h1, h3, h4⟩
    | top xs =>
      cases hl
      obtain ⟨w, vs, h1, h2, h3⟩ := q
      obtain ⟨as, r, m⟩ := top_lab h2 h3
      exact ⟨w, as, h1, r, m⟩
theorem others_reps {i r : Nat} {asr : List Addr} (ha : ∀ a ∈ asr, φ a = some (.slot i)) {us : List U} {vs : List V} {ws : List Tmp} (h : Vm σ us vs ws) : ∀ {ts : List Tmp} {ds : List D} {j0 : Nat}, Good M N fx pin φ H env σ (ts ++ ws) → valsU env us = some ds → othersOk i r j0 us = true →
    (∀ j, j0 + j ≠ r → ∀ d v, ds[j]? = some d → vs[j]? = some v → ∃ bs, Rep H d v bs ∧ ∀ a ∈ bs, a ∉ asr) ∧ (∀ j, j0 + j = r → ∀ d v, ds[j]? = some d → vs[j]? = some v → Env.look env i = some d ∧ σ[i]? = some (some v)) := by
  induction h with
  | nil => intro ts ds j0 g e _; cases e; exact ⟨fun j _ d v h => by simp at h, fun j _ d v h => by simp at h⟩
  | @t o d v us vs ws hv ih =>
    intro ts ds j0 g e ho
    simp only [valsU] at e
    simp only [othersOk, Bool.and_eq_true, bne_iff_ne] at ho
    cases e2 : valsU env us with
    | none => rw [e2] at e; cases e
    | some es =>
      rw [e2] at e; cases e
      obtain ⟨i1, i2⟩ := ih (ts := ts ++ [(o, d, v)]) (by simpa using g) e2 ho.2
      refine ⟨fun j hj d' v' hd hv' => ?_, fun j hj d' v' hd hv' => ?_⟩
      · cases j with
        | zero =>
          simp at hd hv'
          subst hd hv'
          exact (g.tmp ts.length (o, d, v) (by simp)).reps_of (fun z => nomatch z) ha
        | succ j => exact i1 j (by omega) d' v' (by simpa using hd) (by simpa using hv')
      · cases j with
        | zero => exact absurd hj ho.1
        | succ j => exact i2 j (by omega) d' v' (by simpa using hd) (by simpa using hv')
  | @v k v us vs ws hk hv ih =>
    intro ts ds j0 g e ho
    simp only [valsU] at e
    simp only [othersOk, Bool.and_eq_true] at ho
    cases e1 : Env.look env k with
    | none => rw [e1] at e; cases e
    | some d =>
      rw [e1] at e
      simp only at e
      cases e2 : valsU env us with
      | none => rw [e2] at e; cases e
      | some es =>
        rw [e2] at e; cases e
        obtain ⟨i1, i2⟩ := ih g e2 ho.2
        have ho1 := ho.1
        refine ⟨fun j hj d' v' hd hv' => ?_, fun j hj d' v' hd hv' => ?_⟩
        · cases j with
          | zero =>
            simp at hd hv'
            subst hd hv'
            have : ¬ (j0 == r) = true := by simpa using hj
            rw [if_neg this] at ho1
            exact slot_other g (by simpa using ho1) e1 hk ha
          | succ j => exact i1 j (by omega) d' v' (by simpa using hd) (by simpa using hv')
        · cases j with
          | zero =>
            simp at hd hv'
            subst hd hv'
            have : (j0 == r) = true := by simpa using hj
            rw [if_pos this] at ho1
            have : k = i := by simpa using ho1
            subst this
            exact ⟨e1, hk⟩
          | succ j => exact i2 j (by omega) d' v' (by simpa using hd) (by simpa using hv')
theorem Good.demK2 : ∀ (ks : List Nat) {φ : Lab} {env : Env}, Good M N fx pin φ H env σ ts → ∃ φ', Good M N fx pin φ' H (CB.demK ks env) σ ts ∧ (∀ a, φ' a = φ a ∨ φ' a = none) ∧ ∀ k ∈ ks, ∀ a, φ' a ≠ some (.slot k)
  | [], φ, env, g => ⟨φ, g, fun _ => .inl rfl, fun k h => nomatch h⟩
  | k :: ks, φ, env, g => by
    have key : ∃ φ', Good M N fx pin φ' H (CB.demK (k :: ks) env) σ ts ∧ (∀ a, φ' a = unl φ k a ∨ φ' a = none) ∧ ∀ j ∈ ks, ∀ a, φ' a ≠ some (.slot j) := by
      cases e0 : env[k]? with
      | none =>
        obtain ⟨φ', g', h1, h2⟩ := Good.demK2 ks (g.dem0 e0)
        exact ⟨φ', by simp only [CB.demK, e0]; exact g', h1, h2⟩
      | some s0 =>
        obtain ⟨φ', g', h1, h2⟩ := Good.demK2 ks (g.dem1 e0)
        exact ⟨φ', by simp only [CB.demK, e0]; exact g', h1, h2⟩
    obtain ⟨φ', g', h1, h2⟩ := key
    refine ⟨φ', g', fun a => ?_, fun j hj a z => ?_⟩
    · rcases h1 a with e | e
      · unfold unl at e
        split at e
        · exact .inr e
        · exact .inl e
      · exact .inr e
    · rcases List.mem_cons.mp hj with y | y
      · subst y
        rcases h1 a with e | e
        · unfold unl at e
          split at e
          · rw [z] at e; cases e
          · rename_i hne; rw [z] at e; exact hne e.symm
        · rw [z] at e; cases e
      · exact h2 j y a z
theorem demK_get : ∀ {ks : List Nat} {env : Env} {i : Nat}, i ∉ ks → (demK ks env)[i]? = env[i]?
  | [], env, i, _ => rfl
  | k :: ks, env, i, h => by
    simp only [demK]
    rw [demK_get (fun z => h (List.mem_cons_of_mem _ z))]
    cases e : env[k]? with
    | none => rfl
    | some s => simp only; rw [List.getElem?_set_ne (fun z => h (by rw [z]; exact List.mem_cons_self))]
theorem demS_get (s : Sl) : (demS s).get = s.get := by cases s <;> rfl
theorem demK_look : ∀ {ks : List Nat} {env : Env} {i : Nat}, Env.look (demK ks env) i = Env.look env i
  | [], env, i => rfl
  | k :: ks, env, i => by
    simp only [demK]
    rw [demK_look]
    cases e : env[k]? with
    | none => rfl
    | some s =>
      simp only
      unfold Env.look
      by_cases hi : k = i
      · subst hi
        have hl : k < env.length := (List.getElem?_eq_some_iff.mp e).1
        rw [List.getElem?_set_self hl, e]; exact demS_get s
      · rw [List.getElem?_set_ne hi]
theorem valsU_dem {ks : List Nat} {env : Env} : ∀ {us : List U}, valsU (demK ks env) us = valsU env us
  | [] => rfl
  | .t o d :: us => by simp only [valsU, valsU_dem]
  | .v k :: us => by simp only [valsU, valsU_dem, demK_look]
theorem othK_not {i : Nat} : ∀ {us : List U}, i ∉ othK i us
  | [] => fun h => nomatch h
  | .t _ _ :: us => othK_not (us := us)
  | .v k :: us => by
    simp only [othK]
    split
    · exact othK_not
    · rename_i h
      exact fun z => (List.mem_cons.mp z).elim (fun y => h y.symm) othK_not
theorem others_from {i r : Nat} {us : List U} {vs : List V} {ws : List Tmp} (h : Vm σ us vs ws) : ∀ {ts : List Tmp} {ds : List D} {j0 : Nat}, Good M N fx pin φ H env σ (ts ++ ws) → valsU env us = some ds → othersOk i r j0 us = true → (∀ k ∈ othK i us, ∀ a, φ a ≠ some (.slot k)) →
    ∀ j, j0 + j ≠ r → ∀ d v, ds[j]? = some d → vs[j]? = some v → ∃ bs, Rep H d v bs ∧ ∀ a ∈ bs, M a ∧ (φ a = none ∨ ∃ m, φ a = some (.tmp m) ∧ ts.length ≤ m) := by
  induction h with
  | nil => intro ts ds j0 g e _ _ j _ d v h; cases e; simp at h
  | @t o d v us vs ws hv ih =>
    intro ts ds j0 g e ho hk j hj d' v' hd hv'
    simp only [valsU] at e
    simp only [othersOk, Bool.and_eq_true, bne_iff_ne] at ho
    cases e2 : valsU env us with
    | none => rw [e2] at e; cases e
    | some es =>
      rw [e2] at e; cases e
      cases j with
      | zero =>
        simp at hd hv'
        subst hd hv'
        obtain ⟨bs, r, q1, q2, _⟩ := g.tmp ts.length (o, d, v) (by simp)
        refine ⟨bs, r, fun a ha => ⟨q1 a ha, ?_⟩⟩
        have := q2 a ha
        cases o with
        | false => exact .inl this
        | true => exact .inr ⟨_, this, Nat.le_refl _⟩
      | succ j =>
        obtain ⟨bs, r, q⟩ := ih (ts := ts ++ [(o, d, v)]) (by simpa using g) e2 ho.2 hk j (by omega) d' v' (by simpa using hd) (by simpa using hv')
        exact ⟨bs, r, fun a ha => ⟨(q a ha).1, (q a ha).2.imp_right fun ⟨m, h1, h2⟩ => ⟨m, h1, by simp at h2; omega⟩⟩⟩
  | @v k v us vs ws hk0 hv ih =>
    intro ts ds j0 g e ho hk j hj d' v' hd hv'
    simp only [valsU] at e
    simp only [othersOk, Bool.and_eq_true] at ho
    cases e1 : Env.look env k with
    | none => rw [e1] at e; cases e
    | some d =>
      rw [e1] at e
      simp only at e
      cases e2 : valsU env us with
      | none => rw [e2] at e; cases e
      | some es =>
        rw [e2] at e; cases e
        have hk2 : ∀ m ∈ othK i us, ∀ a, φ a ≠ some (.slot m) := fun m hm => hk m (by
          simp only [othK]; split
          · exact hm
          · exact List.mem_cons_of_mem _ hm)
        cases j with
        | zero =>
          simp at hd hv'
          subst hd hv'
          have : ¬ (j0 == r) = true := by simpa using hj
          have ho1 := ho.1
          rw [if_neg this] at ho1
          have hki : k ≠ i := by simpa using ho1
          obtain ⟨w, as, q1, q2, q3⟩ := slot_held g e1
          rw [hk0] at q1; cases q1
          refine ⟨as, q2, fun a ha => ⟨(q3 a ha).1, .inl ?_⟩⟩
          have hne := hk k (by simp only [othK, if_neg hki]; exact List.mem_cons_self) a
          exact (q3 a ha).2.resolve_right hne
        | succ j => exact ih g e2 ho.2 hk2 j (by omega) d' v' (by simpa using hd) (by simpa using hv')
theorem Good.called (g : Good M N fx pin φ H env σ (ts ++ us)) {i : Nat} {s : Sl} {d0 dr d : D} {vr v : V} {asr as' cs : List Addr} (hs : env[i]? = some s) (hm : s.mine = some d0) (hv : σ[i]? = some (some vr)) (hpin : (∃ d, s = .ref d) → pin i = some vr)
    (ha : ∀ a ∈ asr, M a ∧ φ a = some (.slot i)) (fr : ExB (· ∈ asr) H H') (r' : Rep H' dr vr as') (n' : as'.Nodup) (m' : ∀ a ∈ as', a ∈ asr ∨ H a = none) (r : Rep H' d v cs) (n : cs.Nodup) (m : ∀ a ∈ cs, a ∉ as' ∧ (a ∈ asr ∨ H a = none)) (x : Bool) :
    Good M N fx pin (fun a => if a ∈ as' then some (.slot i) else if a ∈ cs then some (.tmp ts.length) else if φ a = some (.slot i) then none else φ a) H' (env.set i (s.put dr)) σ (ts ++ if x then [(true, d, v)] else []) := by
  have lab : ∀ {a : Addr}, a ∈ as' ∨ a ∈ cs → φ a = some (.slot i) ∨ H a = none := fun {a} z => by
    rcases z with z | z
    · exact (m' a z).imp (fun y => (ha a y).2) id
    · exact (m a z).2.imp (fun y => (ha a y).2) id
  have oth : ∀ {l : Lb} {o : Bool} {d : D} {v : V}, l ≠ .slot i → Held φ H M l o d v → Held (fun a => if a ∈ as' then some (.slot i) else if a ∈ cs then some (.tmp ts.length) else if φ a = some (.slot i) then none else φ a) H' M l o d v := fun {l o d v} hl k => by
    refine k.keep fun bs rb q => ?_
    have nq : ∀ b ∈ bs, φ b ≠ some (.slot i) := fun b hb => by
      rw [q b hb]
      cases o with
      | true => simp [hl]
      | false => simp
    have nn : ∀ b ∈ bs, ¬ (b ∈ as' ∨ b ∈ cs) := fun b hb z => (lab z).elim (nq b hb) (rb.ne b hb)
    refine ⟨rb.keepT fun c u hcu hci nt => fr.k c u hcu (fun z => ?_) nt, fun b hb => ?_⟩
    · rcases hci with y | y
      · exact nq c y (ha c z).2
      · have := (ha c z).2
        obtain ⟨_, vs, hh, hi⟩ := g.own c (by rw [this]; exact fun z => nomatch z)
        rw [hcu] at hh; cases hh; rw [hi] at y; cases y
    · show (if b ∈ as' then some (.slot i) else if b ∈ cs then some (.tmp ts.length) else if φ b = some (.slot i) then none else φ b) = _
      rw [if_neg fun z => nn b hb (.inl z), if_neg fun z => nn b hb (.inr z), if_neg (nq b hb)]
      exact q b hb
  refine ⟨?_, fun c u h => ?_, fun c h => ?_, g.free, fun k s' h => ?_, fun j t h => ?_⟩
  · exact ⟨by have := g.len.le; rw [List.length_set]; exact this, fr.b g.len.tab⟩
  · obtain ⟨f1, f2⟩ := g.fix c u h
    have nc : ¬ (c ∈ as' ∨ c ∈ cs) := fun z => (lab z).elim (fun y => by rw [f2] at y; cases y) fun y => f1.not y
    refine ⟨fr.kp f1 (fun z => by rw [(ha c z).2] at f2; cases f2), ?_⟩
    show (if c ∈ as' then some (.slot i) else if c ∈ cs then some (.tmp ts.length) else if φ c = some (.slot i) then none else φ c) = _
    rw [if_neg fun z => nc (.inl z), if_neg fun z => nc (.inr z), f2]; simp
  · by_cases h1 : c ∈ as'
    · refine ⟨?_, r'.there c h1⟩
      rcases m' c h1 with z | z
      · exact (g.own c (by rw [(ha c z).2]; exact fun z => nomatch z)).1
      · exact (g.fresh z).1
    · by_cases h2 : c ∈ cs
      · refine ⟨?_, r.there c h2⟩
        rcases (m c h2).2 with z | z
        · exact (g.own c (by rw [(ha c z).2]; exact fun z => nomatch z)).1
        · exact (g.fresh z).1
      · have h3 : φ c ≠ some (.slot i) := fun z => h (by
          show (if c ∈ as' then some (.slot i) else if c ∈ cs then some (.tmp ts.length) else if φ c = some (.slot i) then none else φ c) = _
          rw [if_neg h1, if_neg h2, if_pos z])
        have h4 : φ c ≠ none := fun z => h (by
          show (if c ∈ as' then some (.slot i) else if c ∈ cs then some (.tmp ts.length) else if φ c = some (.slot i) then none else φ c) = _
          rw [if_neg h1, if_neg h2, if_neg h3, z])
        obtain ⟨q1, vs, q2, q3⟩ := g.own c h4
        exact ⟨q1, vs, fr.k c _ q2 (fun z => h3 (ha c z).2) (isTb_of q3), q3⟩
  · by_cases hk : k = i
    · subst hk
      have hl : k < env.length := (List.getElem?_eq_some_iff.mp hs).1
      rw [List.getElem?_set_self hl] at h
      cases h
      rw [hv]
      refine SlOk.put hm hpin ⟨as', r', fun a q => ?_, fun a q => if_pos q, fun _ => n'⟩
      exact (m' a q).elim (fun z => (ha a z).1) fun z => (g.fresh z).2
    · rw [List.getElem?_set_ne (Ne.symm hk)] at h
      exact (g.slot k s' h).keep fun o d v q => oth (fun z => hk (by cases z; rfl)) q
  · by_cases hj : j < ts.length
    · rw [List.getElem?_append_left hj] at h
      exact oth (fun z => nomatch z) (g.tmp j t (by rw [List.getElem?_append_left hj]; exact h))
    · cases x with
      | false => simp at h; exact absurd (List.getElem?_eq_some_iff.mp h).1 hj
      | true =>
        have hj' : j = ts.length := by
          have := (List.getElem?_eq_some_iff.mp h).1
          simp at this; omega
        subst hj'
        simp at h
        subst h
        refine ⟨cs, r, fun a q => (m a q).2.elim (fun z => (ha a z).1) fun z => (g.fresh z).2, fun a q => ?_, fun _ => n⟩
        show (if a ∈ as' then some (.slot i) else if a ∈ cs then some (.tmp ts.length) else if φ a = some (.slot i) then none else φ a) = _
        rw [if_neg (m a q).1, if_pos q]; rfl
theorem Good.calledS (g : Good M N fx pin φ H env σ (ts ++ us)) {i : Nat} {s : Sl} {d0 dr d : D} {vr v : V} {asr as' cs : List Addr} (hs : env[i]? = some s) (hm : s.mine = some d0) (hv : σ[i]? = some (some vr)) (hpin : (∃ d, s = .ref d) → pin i = some vr)
    (ha : ∀ a ∈ asr, M a ∧ φ a = some (.slot i)) (fr : ExB (· ∈ asr) H H') (r' : Rep H' dr vr as') (n' : as'.Nodup) (m' : ∀ a ∈ as', a ∈ asr ∨ H a = none) (r : Rep H' d v cs)
    (m : ∀ a ∈ cs, a ∉ as' ∧ (a ∈ asr ∨ H a = none ∨ (M a ∧ (φ a = none ∨ ∃ m, φ a = some (.tmp m) ∧ ts.length ≤ m)))) :
    Good M N fx pin (fun a => if a ∈ as' then some (.slot i) else if a ∈ cs ∨ φ a = some (.slot i) then none else φ a) H' (env.set i (s.put dr)) σ (ts ++ [(false, d, v)]) := by
  have oth : ∀ {l : Lb} {o : Bool} {d : D} {v : V}, l ≠ .slot i → (∀ j, l = .tmp j → j < ts.length) → (∀ k, l = .slot k → True) → Held φ H M l o d v → Held (fun a => if a ∈ as' then some (.slot i) else if a ∈ cs ∨ φ a = some (.slot i) then none else φ a) H' M l o d v := fun {l o d v} hl hj _ k => by
    refine k.keep fun bs rb q => ?_
    have nq : ∀ b ∈ bs, φ b ≠ some (.slot i) := fun b hb => by
      rw [q b hb]
      cases o with
      | true => simp [hl]
      | false => simp
    have n1 : ∀ b ∈ bs, b ∉ as' := fun b hb z => (m' b z).elim (fun y => nq b hb (ha b y).2) (rb.ne b hb)
    refine ⟨rb.keepT fun c u hcu hci nt => fr.k c u hcu (fun z => ?_) nt, fun b hb => ?_⟩
    · rcases hci with y | y
      · exact nq c y (ha c z).2
      · have := (ha c z).2
        obtain ⟨_, vs, hh, hi⟩ := g.own c (by rw [this]; exact fun z => nomatch z)
        rw [hcu] at hh; cases hh; rw [hi] at y; cases y
    · show (if b ∈ as' then some (.slot i) else if b ∈ cs ∨ φ b = some (.slot i) then none else φ b) = _
      rw [if_neg (n1 b hb)]
      by_cases hc : b ∈ cs
      · rw [if_pos (.inl hc)]
        have q0 := q b hb
        rcases (m b hc).2 with z | z | ⟨_, z | ⟨mm, z, zz⟩⟩
        · exact absurd (ha b z).2 (nq b hb)
        · exact absurd z (rb.ne b hb)
        · rw [z] at q0; exact q0
        · rw [z] at q0
          cases o with
          | false => cases q0
          | true =>
            simp at q0
            have := hj mm q0.symm
            omega
      · rw [if_neg (fun z => z.elim hc (nq b hb))]
        exact q b hb
  refine ⟨?_, fun c u h => ?_, fun c h => ?_, g.free, fun k s' h => ?_, fun j t h => ?_⟩
  · exact ⟨by have := g.len.le; rw [List.length_set]; exact this, fr.b g.len.tab⟩
  · obtain ⟨f1, f2⟩ := g.fix c u h
    have n1 : c ∉ as' := fun z => (m' c z).elim (fun y => by rw [(ha c y).2] at f2; cases f2) fun y => f1.not y
    refine ⟨fr.kp f1 (fun z => by rw [(ha c z).2] at f2; cases f2), ?_⟩
    show (if c ∈ as' then some (.slot i) else if c ∈ cs ∨ φ c = some (.slot i) then none else φ c) = _
    rw [if_neg n1]; split
    · rfl
    · exact f2
  · by_cases h1 : c ∈ as'
    · refine ⟨?_, r'.there c h1⟩
      rcases m' c h1 with z | z
      · exact (g.own c (by rw [(ha c z).2]; exact fun z => nomatch z)).1
      · exact (g.fresh z).1
    · by_cases h2 : c ∈ cs ∨ φ c = some (.slot i)
      · exact absurd (by
          show (if c ∈ as' then some (.slot i) else if c ∈ cs ∨ φ c = some (.slot i) then none else φ c) = _
          rw [if_neg h1, if_pos h2]) h
      · have h4 : φ c ≠ none := fun z => h (by
          show (if c ∈ as' then some (.slot i) else if c ∈ cs ∨ φ c = some (.slot i) then none else φ c) = _
          rw [if_neg h1, if_neg h2, z])
        obtain ⟨q1, vs, q2, q3⟩ := g.own c h4
        exact ⟨q1, vs, fr.k c _ q2 (fun z => h2 (.inr (ha c z).2)) (isTb_of q3), q3⟩
  · by_cases hk : k = i
    · subst hk
      have hl : k < env.length := (List.getElem?_eq_some_iff.mp hs).1
      rw [List.getElem?_set_self hl] at h
      cases h
      rw [hv]
      refine SlOk.put hm hpin ⟨as', r', fun a q => ?_, fun a q => if_pos q, fun _ => n'⟩
      exact (m' a q).elim (fun z => (ha a z).1) fun z => (g.fresh z).2
    · rw [List.getElem?_set_ne (Ne.symm hk)] at h
      exact (g.slot k s' h).keep fun o d v q => oth (fun z => hk (by cases z; rfl)) (fun j z => nomatch z) (fun _ _ => trivial) q
  · by_cases hj : j < ts.length
    · rw [List.getElem?_append_left hj] at h
      exact oth (fun z => nomatch z) (fun j' z => by cases z; exact hj) (fun _ _ => trivial) (g.tmp j t (by rw [List.getElem?_append_left hj]; exact h))
    · have hj' : j = ts.length := by
        have := (List.getElem?_eq_some_iff.mp h).1
        simp at this; omega
      subst hj'
      simp at h
      subst h
      refine ⟨cs, r, fun a q => ?_, fun a q => ?_, fun z => nomatch z⟩
      · rcases (m a q).2 with z | z | z
        · exact (ha a z).1
        · exact (g.fresh z).2
        · exact z.1
      · show (if a ∈ as' then some (.slot i) else if a ∈ cs ∨ φ a = some (.slot i) then none else φ a) = _
        rw [if_neg (m a q).1, if_pos (.inl q)]; rfl
end
section
variable {X : Cx} {E : XK} {CX : CXT} {k n r i : Nat} {f : Addr} {fd : FuncData} {pn : List Str} {F : List D → RR} {x : Str} {p pos : Pos} {e : Expr} {es : List Expr} {ms : List GA}
theorem snde_callR (G : FnOkG X.prog X.w X.K X.mg X.base CX k f fd pn (spR n r X.mg F)) (hr : RoomG k X.A) (hg : Gl X x) (hm : X.mg x = some (.ref f)) (hk : PySem.W.keepIn X.K (.ref f) = true) (hb : Binds X.K fd pn []) (hx : Passes CX X E) (h : SndAG X E (e :: es) ms)
    (hdb : (x == ("__debug__" : Str)) = false := by decide) (he : starEach (e :: es) X.env = (false, eval e X.env) :: starEach es X.env := by rfl) (hpl : (backTo pos (starEach es X.env)).any (·.1) = false := by rfl) : SndE X E (.Call (.Name x p) (e :: es) [] pos) (callR r i n F ms) := by
  obtain ⟨t, h1, h2⟩ := h
  refine ⟨_, pe_callG G hr hg hm hk hb hx h1 hdb he hpl, fun M N fx pin φ H env σ ts Q g w => h2 M N fx pin φ H env σ ts _ g ?_⟩
  unfold callR at w
  cases ha : argsG ms env with
  | no => rw [ha] at w; exact w
  | ex x e => rw [ha] at w; exact w
  | ok us env1 =>
    rw [ha] at w
    intro φ1 H1 vs ws hvm g1
    simp only at w
    split at w
    · rename_i hoth
      simp only [Bool.and_eq_true, decide_eq_true_eq] at hoth
      split at w
      · rename_i ds hds
        split at w
        · rename_i s hs
          split at w
          · rename_i d0 hd0
            split at w
            · rename_i dr0 hdr
              obtain ⟨vr, q1, q2, q3⟩ := (g1.slot i s hs).mine hd0
              obtain ⟨asr, r1, r2, r3, r4⟩ := q2
              have lab : ∀ a ∈ asr, φ1 a = some (.slot i) := fun a ha => r3 a ha
              obtain ⟨o1, o2⟩ := others_reps lab hvm g1 hds hoth.1
              have hlen : ds.length = vs.length := by rw [valsU_len hds, hvm.len]
              have hrl : r < ds.length := (List.getElem?_eq_some_iff.mp hdr).1
              obtain ⟨vr', hvr'⟩ : ∃ v, vs[r]? = some v := ⟨vs[r]'(by omega), by simp⟩
              obtain ⟨l1, l2⟩ := o2 r (by omega) dr0 vr' hdr hvr'
              rw [q1] at l2; cases l2
              have e0 : d0 = dr0 := by
                have := mine_look hs hd0
                rw [l1] at this; exact (Option.some.inj this).symm
              subst e0
              show spR n r X.mg F (vs ++ []) H1 Q E
              rw [List.append_nil]
              have hM : ∀ a ∈ asr, M a ∧ φ1 a = some (.slot i) := fun a ha => ⟨r2 a ha, lab a ha⟩
              have pack : ∀ S : Addr → Prop, (∀ j, j ≠ r → ∀ d v, ds[j]? = some d → vs[j]? = some v → ∃ bs, Rep H1 d v bs ∧ ∀ a ∈ bs, a ∉ asr ∧ S a) → RWant asr S vr X.mg H1 Q E (F ds) → spR n r X.mg F vs H1 Q E := fun S h1 h2 =>
                ⟨by rw [← hlen, valsU_len hds]; exact hoth.2, g1.len.tab, ds, d0, vr, asr, S, by rw [valsU_len hds]; exact hoth.2, hdr, hvr', r1, r4 rfl, h1, h2⟩
              have pack0 : RWant asr (fun _ => True) vr X.mg H1 Q E (F ds) → spR n r X.mg F vs H1 Q E := pack _ fun j hj d v hd hv => by
                obtain ⟨bs, z1, z2⟩ := o1 j (by omega) d v hd hv
                exact ⟨bs, z1, fun a ha => ⟨z2 a ha, trivial⟩⟩
              cases hF : F ds with
              | no => rw [hF] at w; exact w.elim
              | ex x dr =>
                rw [hF] at w
                refine pack0 ?_
                rw [hF]
                intro c dx H' as' fr r' n' m' xr
                have gg := g1.called (d := .non) (v := .non) (cs := []) hs hd0 q1 q3 hM fr r' n' m' .non List.nodup_nil (fun a h => nomatch h) false
                exact w _ H' c dx (by simpa using gg) xr
              | ok o d dr =>
                rw [hF] at w
                simp only at w
                split at w
                · rename_i ho
                  refine pack0 ?_
                  rw [hF]
                  intro v H' as' cs fr r' n' m' rr hc _
                  have hc2 : cs.Nodup ∧ ∀ a ∈ cs, a ∉ as' ∧ (a ∈ asr ∨ H1 a = none) := by
                    cases o with
                    | true => exact hc rfl
                    | false =>
                      have := rr.noL (by simpa using ho)
                      subst this
                      exact ⟨List.nodup_nil, fun a h => nomatch h⟩
                  have gg := g1.called hs hd0 q1 q3 hM fr r' n' m' rr hc2.1 hc2.2 true
                  exact w _ H' v gg
                · obtain ⟨φ2, g2, _, nk⟩ := g1.demK2 (othK i us)
                  have hs2 : (demK (othK i us) env1)[i]? = some s := (demK_get othK_not).trans hs
                  obtain ⟨vr2, p1, p2, p3⟩ := (g2.slot i s hs2).mine hd0
                  rw [q1] at p1; cases p1
                  obtain ⟨asr2, t1, t2, t3, t4⟩ := p2
                  have lab2 : ∀ a ∈ asr2, φ2 a = some (.slot i) := fun a ha => t3 a ha
                  have hds2 : valsU (demK (othK i us) env1) us = some ds := valsU_dem.trans hds
                  obtain ⟨o1', _⟩ := others_reps lab2 hvm g2 hds2 hoth.1
                  have o3 := others_from hvm g2 hds2 hoth.1 nk
                  refine ⟨by rw [← hlen, valsU_len hds]; exact hoth.2, g1.len.tab, ds, d0, vr, asr2, fun a => M a ∧ (φ2 a = none ∨ ∃ m, φ2 a = some (.tmp m) ∧ ts.length ≤ m), by rw [valsU_len hds]; exact hoth.2, hdr, hvr', t1, t4 rfl, fun j hj d v hd hv => ?_, ?_⟩
                  · obtain ⟨bs, z1, z2⟩ := o3 j (by omega) d v hd hv
                    refine ⟨bs, z1, fun a ha => ⟨fun y => ?_, z2 a ha⟩⟩
                    rcases (z2 a ha).2 with u | ⟨m, u, _⟩ <;> · rw [lab2 a y] at u; cases u
                  · rw [hF]
                    intro v H' as' cs fr r' n' m' rr _ hc
                    have gg := g2.calledS hs2 hd0 q1 q3 (fun a ha => ⟨t2 a ha, lab2 a ha⟩) fr r' n' m' rr hc
                    exact w _ H' v gg
            · exact w.elim
          · exact w.elim
        · exact w.elim
      · exact w.elim
    · exact w.elim
end
end CB

namespace CB
open PySem L2 PySem.Spec PyProof.Rows
variable [CT]

def Cal (P : Program) (w : World) (K : PySem.W.Frag) (mg : Str → Option Value) (base : Heap) (x : Str) (k : Nat) (pn : List Str) (sp : Sp) : Prop :=
  ∃ f fd, FnOkG P w K mg base (L2.CX P w) k f fd pn sp ∧ mg x = some (.ref f) ∧ PySem.W.keepIn K (.ref f) = true ∧ Binds K fd pn []
def Defd (K : PySem.W.Frag) (mg : Str → Option Value) (x : Str) (st : Stmt) : Prop := ∃ f fd, Fun K x x st f fd ∧ mg x = some (.ref f)
section
variable {P : Program} {w : World} {K : PySem.W.Frag} {mg : Str → Option Value} {base : Heap} {x : Str} {st : Stmt} {k n r : Nat} {NN ps : List Str} {m : SM}
theorem Defd.cal (D : Defd K mg x st) (S : FnScope NN ps (defScope st)) (hn : NN.length = n) (hk : ps.length ≤ n)
    (hb : ∀ (f : Addr) (cdv : Value) (A : Around) (outer : List PySem.Env) (s : Shared) (H : Hp) (E : XK), RoomG k (A.deeper (envOfC x (defScope st) s.heap.objs.size f cdv)) → SndB (cxOf (L2.CX P w) P w K mg base NN x (defScope st) f cdv A outer s H E) E (defBody st) m)
    (h : ∀ (kV doc pm : Value) (an : Option Addr) (cdv ct : Value) (us : List Value), us.length = ps.length → bindArgs (PySem.W.fnOf x x (defArgs st) (defBody st) (defScope st) .none kV doc pm an cdv ct) ⟨us, []⟩ = pure (ps.zip us)) :
    Cal P w K mg base x (k + 1) ps (spF ps.length mg (fnP n m)) := by
  obtain ⟨f, fd, F, hm⟩ := D
  exact ⟨f, fd, fn_ok F S hn hk (hb f), hm, F.kp, F.binds h⟩
theorem Defd.calR (D : Defd K mg x st) (r : Nat) (S : FnScope NN ps (defScope st)) (hn : NN.length = n) (hk : ps.length ≤ n)
    (hb : ∀ (f : Addr) (cdv : Value) (A : Around) (outer : List PySem.Env) (s : Shared) (H : Hp) (E : XK), RoomG k (A.deeper (envOfC x (defScope st) s.heap.objs.size f cdv)) → SndB (cxOf (L2.CX P w) P w K mg base NN x (defScope st) f cdv A outer s H E) E (defBody st) m)
    (h : ∀ (kV doc pm : Value) (an : Option Addr) (cdv ct : Value) (us : List Value), us.length = ps.length → bindArgs (PySem.W.fnOf x x (defArgs st) (defBody st) (defScope st) .none kV doc pm an cdv ct) ⟨us, []⟩ = pure (ps.zip us)) :
    Cal P w K mg base x (k + 1) ps (spR ps.length r mg (fnR n r m)) := by
  obtain ⟨f, fd, F, hm⟩ := D
  exact ⟨f, fd, fnr_ok F S hn hk (hb f), hm, F.kp, F.binds h⟩
end
section
variable {X : Cx} {E : XK} {k j n r i : Nat} {pn : List Str} {x : Str} {p pos : Pos} {e : Expr} {es : List Expr} {ps : List P} {ms : List GA}
theorem sndc {F : List D → PR} (C : Cal X.prog X.w X.K X.mg X.base x k pn (spF n X.mg F)) (hr : RoomG j X.A) (hj : k ≤ j) (hx : Passes (L2.CX X.prog X.w) X E) (hg : Gl X x) (h : SndA X E (e :: es) ps) (hn : ps.length = n := by rfl)
    (hdb : (x == ("__debug__" : Str)) = false := by decide) (he : starEach (e :: es) X.env = (false, eval e X.env) :: starEach es X.env := by rfl) (hpl : (backTo pos (starEach es X.env)).any (·.1) = false := by rfl) : SndP X E (.Call (.Name x p) (e :: es) [] pos) (callP F ps) := by
  obtain ⟨f, fd, h1, h2, h3, h4⟩ := C
  exact snd_call h1 (hr.mono hj) hg h2 h3 h4 hx h hn hdb he hpl
theorem sndeR {F : List D → RR} (C : Cal X.prog X.w X.K X.mg X.base x k pn (spR n r X.mg F)) (hr : RoomG j X.A) (hj : k ≤ j) (hx : Passes (L2.CX X.prog X.w) X E) (hg : Gl X x) (h : SndAG X E (e :: es) ms)
    (hdb : (x == ("__debug__" : Str)) = false := by decide) (he : starEach (e :: es) X.env = (false, eval e X.env) :: starEach es X.env := by rfl) (hpl : (backTo pos (starEach es X.env)).any (·.1) = false := by rfl) : SndE X E (.Call (.Name x p) (e :: es) [] pos) (callR r i n F ms) := by
  obtain ⟨f, fd, h1, h2, h3, h4⟩ := C
  exact snde_callR h1 (hr.mono hj) hg h2 h3 h4 hx h hdb he hpl
end
theorem bt_len : bootBuiltins "len" = some (.builtin "len") := by decide +kernel
theorem bt_sorted : bootBuiltins "sorted" = some (.builtin "sorted") := by decide +kernel
theorem bt_all : bootBuiltins "all" = some (.builtin "all") := by decide +kernel
theorem bt_max : bootBuiltins "max" = some (.builtin "max") := by decide +kernel
theorem bt_min : bootBuiltins "min" = some (.builtin "min") := by decide +kernel
theorem bt_sum : bootBuiltins "sum" = some (.builtin "sum") := by decide +kernel
theorem bt_list : bootBuiltins "list" = some (.type "list") := by decide +kernel
theorem bt_tuple : bootBuiltins "tuple" = some (.type "tuple") := by decide +kernel
theorem bt_int : bootBuiltins "int" = some (.type "int") := by decide +kernel
theorem bt_bool : bootBuiltins "bool" = some (.type "bool") := by decide +kernel
section
variable {X : Cx} {E : XK}
theorem sndgi {x : Str} {i : Int} {pos : Pos} (hm : ∃ t, X.mg x = some (.int i t)) (hg : Gl X x) (hd : (x == ("__debug__" : Str)) = false := by decide) : SndP X E (.Name x pos) (cst (.int i)) := let ⟨_, h⟩ := hm; snd_gint hg h hd
end
section
variable {X : Cx} {s : Shared} {H : Hp} {scope : Scope} {cl : List (Str × Addr)} {C : Addr} {env : PySem.Env} {fp : List Addr} {x : Str}
theorem look_relabel {env : PySem.Env} {k : NameKind} {x : Str} : ∀ {names : List (Str × NameKind)}, names.lookup x = some k →
    (names.map fun (n, k) => if (k == NameKind.free && env.scope.kind == .function && env.kindOf n == some .cell) then (n, NameKind.cell) else (n, k)).lookup x = some (if (k == NameKind.free && env.scope.kind == .function && env.kindOf x == some .cell) then .cell else k)
  | [], h => by cases h
  | (n, k') :: r, h => by
    have ih := @look_relabel env k x r
    simp only [List.lookup] at h
    rw [List.map_cons]
    cases e : (x == n) with
    | true =>
      rw [e] at h
      cases h
      have e' : x = n := by simpa using e
      subst e'
      simp only
      split <;> simp [List.lookup]
    | false =>
      rw [e] at h
      simp only
      split <;> simp only [List.lookup, e] <;> exact ih h
theorem rel_of {k : NameKind} (h : scope.names.lookup x = some k) (hk : (k == NameKind.free) = false) : (X.blk s H scope (compEnvC scope cl C env) fp).env.scope.names.lookup x = some k := by
  have := look_relabel (env := env) h
  rw [hk] at this
  exact this
theorem visF (h : scope.names.lookup x = some .free) : Vis (X.blk s H scope (compEnvC scope cl C env) fp).env.scope x := by
  have := look_relabel (env := env) h
  split at this
  · exact .inr (.inl this)
  · exact .inr (.inr this)
theorem visL (h : scope.names.lookup x = some .local) : Vis (X.blk s H scope (compEnvC scope cl C env) fp).env.scope x := .inl (rel_of h rfl)
theorem visC (h : scope.names.lookup x = some .cell) : Vis (X.blk s H scope (compEnvC scope cl C env) fp).env.scope x := .inr (.inl (rel_of h rfl))
theorem locL (h : scope.names.lookup x = some .local) : Loc (X.blk s H scope (compEnvC scope cl C env) fp).env.scope x := .inl (rel_of h rfl)
theorem locC (h : scope.names.lookup x = some .cell) : Loc (X.blk s H scope (compEnvC scope cl C env) fp).env.scope x := .inr (rel_of h rfl)
theorem glB (h : scope.names.lookup x = some .globalImplicit) : Gl (X.blk s H scope (compEnvC scope cl C env) fp) x := rel_of (X := X) (s := s) (H := H) (cl := cl) (C := C) (env := env) (fp := fp) h rfl
theorem fnL (h : scope.names.lookup x = some .local) : (X.blk s H scope (compEnvC scope cl C env) fp).fn x = true ∨ (X.blk s H scope (compEnvC scope cl C env) fp).env.scope.names.lookup x = some .local := .inr (rel_of h rfl)
theorem fnC (h : scope.names.lookup x = some .cell) : (X.blk s H scope (compEnvC scope cl C env) fp).fn x = true ∨ (X.blk s H scope (compEnvC scope cl C env) fp).env.scope.names.lookup x = some .local := .inl (by show (scope.names.lookup x == some .cell) = true; rw [h]; rfl)
end
def blkB (N : List Str) (sc scope : Scope) (own : List (Str × Nat)) : Bool :=
  (match scope.kind with | .function => true | _ => false) && scope.names.all (fun y => decide (scope.names.lookup y.1 = some y.2)) && own.all (fun p => decide (N[p.2]? = some p.1)) &&
  scope.names.all (fun y => (match y.2 with
    | .free => (match sc.names.lookup y.1 with
      | some .cell => true
      | some .free => true
      | _ => false)
    | .local => (own.any fun p => p.1 == y.1) || !(N.any fun z => z == y.1)
    | .cell => (own.any fun p => p.1 == y.1) || !(N.any fun z => z == y.1)
    | _ => true))
theorem blk_of (N : List Str) (sc : Scope) {scope : Scope} {own : List (Str × Nat)} (h : blkB N sc scope own = true) : BlkOk N sc scope own := by
  unfold blkB at h
  simp only [Bool.and_eq_true, List.all_eq_true] at h
  obtain ⟨⟨⟨h1, h2⟩, h3⟩, h4⟩ := h
  have ow : ∀ y : Str, ((own.any fun p => p.1 == y) || !(N.any fun z => z == y)) = true → y ∈ own.map (·.1) ∨ y ∉ N := fun y h => by
    simp only [Bool.or_eq_true, List.any_eq_true, Bool.not_eq_true', beq_iff_eq] at h
    rcases h with ⟨p, hp, e⟩ | h
    · exact .inl (List.mem_map.mpr ⟨p, hp, e⟩)
    · refine .inr fun hy => ?_
      have : (N.any fun z => z == y) = true := List.any_eq_true.mpr ⟨y, hy, by simp⟩
      rw [this] at h; cases h
  refine ⟨?_, fun y hy => of_decide_eq_true (h2 y hy), fun p hp => of_decide_eq_true (h3 p hp), fun y hy e => ?_, fun y hy e => ?_⟩
  · cases hk : scope.kind <;> rw [hk] at h1 <;> first | rfl | cases h1
  · have := h4 y hy
    rw [e] at this
    simp only at this
    split at this
    · rename_i q; exact .inl q
    · rename_i q; exact .inr q
    · cases this
  · have := h4 y hy
    rcases e with e | e <;> rw [e] at this <;> exact ow _ this
def noList (K : PySem.W.Frag) : Bool := K.all fun p => !(p.2.cls == .type "list")
omit [CT] in
theorem noList_look {K : PySem.W.Frag} (h : noList K = true) {a : Addr} {o : Obj} (e : K.lookup a = some o) : o.cls ≠ .type "list" := fun z => by
  have m : (a, o) ∈ K := by
    clear h
    induction K with
    | nil => cases e
    | cons p K ih =>
      obtain ⟨b, u⟩ := p
      simp only [List.lookup] at e
      split at e
      · rename_i q
        have : a = b := by simpa using q
        cases e; subst this; exact List.mem_cons_self
      · exact List.mem_cons_of_mem _ (ih e)
  have := List.all_eq_true.mp h _ m
  simp only [z, Bool.not_eq_true'] at this
  have q : ((Value.type "list" : Value) == .type "list") = true := by simp
  rw [q] at this; cases this
def spLaw (cs : List (Addr × Addr)) : Sp := fun vs H Q _ => ∃ (a : Addr) (ns : List Int), vs = [.ref a] ∧ ns.length ≤ 63 ∧ (∀ z ∈ ns, Builtin.Int.intBits z ≤ 1048576) ∧ (∃ o, H a = some (.frz o (.lst (ns.map V.int)))) ∧ (∀ p ∈ cs, H p.2 = some (.tbl #[])) ∧ ∀ H', Q (.bl true) H'
def TBs (cs : List (Addr × Addr)) (mg : Str → Option Value) (base : Heap) : Prop := ∀ p ∈ cs, LamX.TabB base mg p.1 p.2
omit [CT] in
theorem TBs.nil {mg : Str → Option Value} {base : Heap} : TBs [] mg base := fun _ h => nomatch h
theorem law_F {P : Program} {w : World} {K : PySem.W.Frag} {mg : Str → Option Value} {x : Str} {st : Stmt} {fa : Addr} {k : Nat} {F : List D → PR} {cs : List (Addr × Addr)} (ht : ∀ p ∈ CT.tb, ∃ c, (c, p.1) ∈ cs) (D' : Defd K mg "law" st) (hfa : mg "law" = some (.ref fa))
    (hbind : ∀ (kV doc pm : Value) (an : Option Addr) (cdv ct : Value) (s : Shared) (v : Value), BindsTo s (PySem.W.fnOf "law" "law" (defArgs st) (defBody st) (defScope st) .none kV doc pm an cdv ct) ⟨[v], []⟩ [(x, v)])
    (G : ∀ (base : Heap) (f : Addr) (fd : FuncData), TBs cs mg base → Fun K "law" "law" st f fd → FnOkG P w K mg base (L2.CX P w) k f fd [x] (spF 1 mg F))
    (hlaw : ∀ ns : List Int, ns.length ≤ 63 → (∀ z ∈ ns, Builtin.Int.intBits z ≤ 1048576) → ∃ f, F [.frz (ns.map .int)] = .ok f (.bl true)) :
    ∃ fd : FuncData, (∀ (s : Shared) (v : Value), BindsTo s fd ⟨[v], []⟩ [(x, v)]) ∧ ∀ base : Heap, K.In base → base.Ns mainGlobals mg → TBs cs mg base → FnOkG P w K mg base (L2.CX P w) k fa fd [x] (spLaw cs) := by
  obtain ⟨f, fd, hF, hm⟩ := D'
  rw [hfa] at hm
  cases hm
  refine ⟨fd, ?_, fun base _ _ tb => (G base fa fd tb hF).imp fun vs H Q E h => ?_⟩
  · obtain ⟨oc, od, kV, doc, pm, an, cdv, ct, osl, rfl, lk, hcd⟩ := hF.ex
    exact fun s v => hbind kV doc pm an cdv ct s v
  · obtain ⟨a, ns, rfl, h1, h2, ⟨o, h3⟩, h5, h4⟩ := h
    obtain ⟨b, e⟩ := hlaw ns h1 h2
    have tok : TabOk H := fun p hp => by
      obtain ⟨c, hc⟩ := ht p hp
      refine ⟨#[], h5 _ hc, True.intro, fun pos cv z => ?_⟩
      have z' : PySem.codeAmong pos [] = some cv := z
      simp [PySem.codeAmong] at z'
    refine ⟨rfl, tok, [.frz (ns.map .int)], [], .cons (as := []) (bs := []) (.frz h3 (reps_ints H ns)) .nil, ?_⟩
    rw [e]
    intro v H' as _ r _ _
    cases r
    exact h4 H'
omit [CT] in
theorem law_callG {P' : Program} {w : World} {K : PySem.W.Frag} {mg mb : Str → Option Value} {CX : CXT} {k : Nat} {fa a : Addr} {fd : FuncData} {x : Str} {sp : Sp} {s1 : Shared} {vs : List Value} {ns : List Int} {cs : List (Addr × Addr)}
    (kin : K.In s1.heap) (g1 : s1.heap.Ns mainGlobals mg) (g2 : s1.heap.Ns builtinsNs mb) (g3 : ∀ y : Str, y ≠ "__name__" → mb y = bootBuiltins y) (lim : s1.heap.NoLimit) (hgn : s1.gens = #[])
    (hT : ∀ p ∈ cs, s1.heap.get? p.2 = some { cls := .none, data := .fields #[] }) (nT : ∀ p ∈ cs, K.lookup p.2 = none) (C : ∀ p ∈ cs, PySem.W.CodeHd s1.heap p.1 p.2)
    (hbm : ∃ (bm : Addr) (ob : Obj), mg "__builtins__" = some (.ref bm) ∧ bm ≠ builtinsNs ∧ s1.heap.get? bm = some ob ∧ ob.cls = .type "module" ∧ ob.dict = some builtinsNs ∧ ob.data = .plain)
    (ha : s1.heap.get? a = some { cls := .type "list", data := .seq vs.toArray }) (hi : IntsAre vs ns) (hl : ns.length ≤ sizeLine) (hr : RoomG k callerA) (nl : noList K = true)
    (F : ∀ base : Heap, K.In base → base.Ns mainGlobals mg → TBs cs mg base → FnOkG P' w K mg base CX k fa fd [x] sp) (hbind : ∀ (s : Shared) (u : Value), BindsTo s fd ⟨[u], []⟩ [(x, u)])
    (hsp : ∀ H : Hp, (∃ o, H a = some (.frz o (.lst (ns.map V.int)))) → (∀ p ∈ cs, H p.2 = some (.tbl #[])) → sp [.ref a] H (fun v _ => v = .bl true) fun _ _ _ => False)
    (hCX : ∀ H z s', CX [] H s1 (fun _ _ _ => False) z s' → False) :
    codeAny (model P' w) callerA (.call (.ref fa) ⟨[.ref a], []⟩) (fun r s' => r = .ok (.ret (.bool true)) ∧ OldK s1.heap s'.heap ∧ s'.os = s1.os ∧ AllBare s'.gens) s1 := by
  have isT : ∀ b : Addr, b ∈ cs.map (·.2) → s1.heap.get? b = some { cls := .none, data := .fields #[] } := fun b hb => by
    obtain ⟨p, hp, e⟩ := List.mem_map.mp hb
    rw [← e]
    exact hT p hp
  have aT : a ∉ cs.map (·.2) := fun z => by
    have q := isT a z
    rw [ha] at q
    have z' : Data.seq vs.toArray _ = Data.fields #[] := congrArg Obj.data (Option.some.inj q)
    cases z'
  have memT : ∀ p ∈ cs, p.2 ∈ cs.map (·.2) := fun p hp => List.mem_map.mpr ⟨p, hp, rfl⟩
  let O : Obj := { cls := .type "list", data := .seq vs.toArray }
  let H : Hp := fun b => if b = a then some (.frz O (.lst (ns.map V.int))) else if b ∈ cs.map (·.2) then some (.tbl #[]) else none
  have Ha : H a = some (.frz O (.lst (ns.map V.int))) := if_pos rfl
  have HT : ∀ p ∈ cs, H p.2 = some (.tbl #[]) := fun p hp => (if_neg (show ¬ p.2 = a from fun z => aT (by rw [← z]; exact memT p hp))).trans (if_pos (memT p hp))
  have Hn : ∀ {b : Addr}, b ≠ a → b ∉ cs.map (·.2) → H b = none := fun q q2 => (if_neg q).trans (if_neg q2)
  have free : ∀ {b : Addr} {o : Obj}, s1.heap.get? b = some o → o.data ≠ .seq vs.toArray 0 → o.data ≠ .fields #[] → H b = none := fun {b o} q n1 n2 => by
    by_cases hb : b = a
    · subst hb; rw [ha] at q; cases q; exact (n1 rfl).elim
    · by_cases hb2 : b ∈ cs.map (·.2)
      · rw [isT b hb2] at q; cases q; exact (n2 rfl).elim
      · exact Hn hb hb2
  have inb : ∀ {b : Addr} {o : Obj}, s1.heap.get? b = some o → H b = none → (hidT s1.heap H).get? b = some o := fun q ne => hidT_get q ne
  have freeD : ∀ {b : Addr} {o : Obj} {es : Array DictEntry} {ep : Nat}, s1.heap.get? b = some o → o.data = .dict es ep → H b = none := fun {b o es ep} q d => free q (fun z => by rw [d] at z; cases z) (fun z => by rw [d] at z; cases z)
  have nsb : ∀ {b : Addr} {m : Str → Option Value}, s1.heap.Ns b m → (hidT s1.heap H).Ns b m := fun ⟨o, es, ep, q, dd, z⟩ => ⟨o, es, ep, inb q (freeD q dd), dd, z⟩
  have kb : K.In (hidT s1.heap H) := fun b o q => inb (kin b o q) (by
    by_cases hb : b = a
    · subst hb
      have := kin _ _ q
      rw [ha] at this; cases this
      exact (noList_look nl q rfl).elim
    · by_cases hb2 : b ∈ cs.map (·.2)
      · obtain ⟨p, hp, ep⟩ := List.mem_map.mp hb2
        rw [← ep, nT p hp] at q; cases q
      · exact Hn hb hb2)
  have TB : TBs cs mg (hidT s1.heap H) := fun p hp => by
    have hTp := hT p hp
    refine ⟨?_, ?_, fun z => ?_⟩
    · obtain ⟨o, us, file, tf, flags, tg, inF, text, tt, e1, r1, r2, r3, r4, r5, r6, r7, r8, hne⟩ := C p hp
      refine ⟨o, us, file, tf, flags, tg, inF, text, tt, inb e1 (free e1 (fun z => ?_) fun z => ?_), r1, r2, r3, r4, r5, r6, r7, r8, hne⟩
      · rw [r2] at z; cases z
      · rw [r2] at z
        cases z
        simp at r3
    · obtain ⟨bm, ob, b1, b2, b3, b4, b5, b6⟩ := hbm
      have nG : bm ≠ mainGlobals := fun q => by
        obtain ⟨o, es, ep, e, hd, _⟩ := g1
        rw [q, e] at b3
        cases b3
        rw [hd] at b6
        cases b6
      have nP : bm ≠ p.2 := fun q => by
        rw [q, hTp] at b3
        cases b3
        cases b6
      refine ⟨bm, ob, b1, b2, nG, nP, inb b3 (free b3 (fun z => ?_) fun z => ?_), b4, b5, b6⟩
      · rw [b6] at z; cases z
      · rw [b6] at z; cases z
    · obtain ⟨o, es, ep, e, hd, _⟩ := g1
      rw [z, hTp] at e
      cases e
      cases hd
  have hok : HOk P' w H s1.heap := fun b u q => by
    by_cases hb : b = a
    · subst hb
      rw [Ha] at q
      cases q
      exact ⟨ha, by rw [List.length_map]; exact hl, vs, _, vals_ints hi, ha⟩
    · by_cases hb2 : b ∈ cs.map (·.2)
      · have q2 : H b = some (.tbl #[]) := (if_neg hb).trans (if_pos hb2)
        rw [q2] at q; cases q
        exact isT b hb2
      · rw [Hn hb hb2] at q; cases q
  have md : Mod K mg (hidT s1.heap H) := ⟨kb, nsb g1, ⟨mb, nsb g2, g3⟩, let ⟨mc, z1, z2⟩ := lim; ⟨mc, nsb z1, z2⟩⟩
  have e0 : Env0 P' w K mg (hidT s1.heap H) callerA [] s1 H := ⟨rfl, md, fun _ _ q => of_hidT q, Nat.le_of_eq (hidT_size _ _), trivial, (fun b q => nomatch (show b ∈ ([] : List Addr) from q)), hok, .of_eq hgn⟩
  refine codeAny_mono ((F _ kb (nsb g1) TB).run (ws := [.ref a]) (xs := [.ref a]) hr e0 (hbind s1 (.ref a)) (.cons rfl .nil) (hsp H ⟨O, Ha⟩ HT)) fun r s' q => ?_
  rcases r with z | fl
  · exact (hCX H z s' q).elim
  cases fl with
  | ret u =>
    obtain ⟨v, H', os, bare, un, hok', rv, rfl⟩ := q
    cases (show u = Value.bool true from rv)
    have key : ∀ b o, b ∉ cs.map (·.2) → s1.heap.get? b = some o → s'.heap.get? b = some o := fun b o nb q => by
      by_cases hb : b = a
      · subst hb
        obtain ⟨q2, _⟩ := hok' _ _ (un.frzs _ _ _ Ha)
        rw [ha] at q; cases q
        exact q2
      · exact un.keep b o q (Hn hb nb) (fun z => nomatch (show b ∈ ([] : List Addr) from z)) (by simp)
    have grown : ∀ p ∈ cs, ∃ more : Array Value, s'.heap.get? p.2 = some { cls := .none, data := .fields more } := fun p hp => by
      obtain ⟨more, z⟩ := un.tbls p.2 #[] (HT p hp)
      exact ⟨_, hok' p.2 _ z⟩
    refine ⟨rfl, ⟨fun b o e => ?_, fun b o e => ?_⟩, os, bare⟩
    · by_cases hb : b ∈ cs.map (·.2)
      · obtain ⟨p, hp, ep⟩ := List.mem_map.mp hb
        obtain ⟨more, hm⟩ := grown p hp
        rw [← ep] at e ⊢
        rw [hT p hp] at e
        cases e
        exact .inr (.inl ⟨((C p hp).tab (hT p hp)).isCodeTable, rfl, #[], more, rfl, by rw [Array.empty_append]; exact hm⟩)
      · exact .inl (key b o hb e)
    · by_cases hb : b ∈ cs.map (·.2)
      · obtain ⟨p, hp, ep⟩ := List.mem_map.mp hb
        obtain ⟨more, hm⟩ := grown p hp
        rw [← ep]
        exact ⟨_, hm⟩
      · exact ⟨o, key b o hb e⟩
  | next => exact q.elim
  | brk => exact q.elim
  | cont => exact q.elim
end CB

namespace CB
open PySem L2 PySem.Spec PyProof.Rows
variable [CT]

def hb (ks ws : List Nat) (i : Nat) : Bool := !(ks.contains i) && !(ws.contains i)
def mask1 (ks ws : List Nat) (i : Nat) (s : Sl) : Sl := if ks.contains i then s else if ws.contains i then .emp else match s with
  | .emp => .emp
  | _ => .pin
def mask (ks ws : List Nat) : Nat → Env → Env
  | _, [] => []
  | i, s :: env => mask1 ks ws i s :: mask ks ws (i + 1) env
def un1 (ks ws : List Nat) (i : Nat) (s t : Sl) : Option Sl := if ks.contains i || ws.contains i then some t else match s with
  | .emp => some .emp
  | s => match t with
    | .pin => some s
    | _ => none
def unmask (ks ws : List Nat) : Nat → Env → Env → Option Env
  | _, [], [] => some []
  | i, s :: old, t :: new => match un1 ks ws i s t with
    | some u => match unmask ks ws (i + 1) old new with
      | some r => some (u :: r)
      | none => none
    | none => none
  | _, _, _ => none
def scopeS (ks ws : List Nat) (m : SM) : SM := fun env => match m (mask ks ws 0 env) with
  | .nx e => match unmask ks ws 0 env e with
    | some r => .nx r
    | none => .no
  | .rt o d e => match unmask ks ws 0 env e with
    | some r => .rt o d r
    | none => .no
  | .ex x e => match unmask ks ws 0 env e with
    | some r => .ex x r
    | none => .no
  | .no => .no
theorem mask_len (ks ws : List Nat) : ∀ (n : Nat) (env : Env), (mask ks ws n env).length = env.length
  | _, [] => rfl
  | n, s :: env => by simp only [mask, List.length_cons, mask_len ks ws (n + 1) env]
theorem mask_get (ks ws : List Nat) : ∀ (n : Nat) (env : Env) (i : Nat), (mask ks ws n env)[i]? = (env[i]?).map (mask1 ks ws (n + i))
  | _, [], i => by simp [mask]
  | n, s :: env, 0 => by simp [mask]
  | n, s :: env, i + 1 => by
    simp only [mask, List.getElem?_cons_succ, mask_get ks ws (n + 1) env i]
    rw [show n + 1 + i = n + (i + 1) by omega]
theorem unmask_ok (ks ws : List Nat) : ∀ {n : Nat} {old new r : Env}, unmask ks ws n old new = some r → r.length = new.length ∧ r.length = old.length ∧ ∀ i u, r[i]? = some u → ∃ s t, old[i]? = some s ∧ new[i]? = some t ∧ un1 ks ws (n + i) s t = some u
  | n, [], [], r, h => by cases h; exact ⟨rfl, rfl, fun i u h => by simp at h⟩
  | n, s :: old, t :: new, r, h => by
    simp only [unmask] at h
    cases h1 : un1 ks ws n s t with
    | none => rw [h1] at h; cases h
    | some u =>
      rw [h1] at h
      simp only at h
      cases h2 : unmask ks ws (n + 1) old new with
      | none => rw [h2] at h; cases h
      | some r' =>
        rw [h2] at h
        cases h
        obtain ⟨a, b, c⟩ := unmask_ok ks ws h2
        refine ⟨by simp [a], by simp [b], fun i v hv => ?_⟩
        cases i with
        | zero => simp at hv; subst hv; exact ⟨s, t, rfl, rfl, h1⟩
        | succ i =>
          obtain ⟨s', t', e1, e2, e3⟩ := c i v (by simpa using hv)
          exact ⟨s', t', by simpa using e1, by simpa using e2, by rw [show n + (i + 1) = n + 1 + i by omega]; exact e3⟩
  | n, [], _ :: _, r, h => by simp [unmask] at h
  | n, _ :: _, [], r, h => by simp [unmask] at h
section
variable {M N : Addr → Prop} {fx : Addr → HO → Prop} {pin : Nat → Option V} {φ : Lab} {H : Hp} {env : Env} {σ : L2.St} {ts : List Tmp} {ks ws : List Nat}
def hA (ks ws : List Nat) (φ : Lab) (a : Addr) : Bool := match φ a with
  | some (.slot i) => hb ks ws i
  | _ => false
def hφ (ks ws : List Nat) (φ : Lab) : Lab := fun a => if hA ks ws φ a then none else φ a
def hM (ks ws : List Nat) (φ : Lab) (M : Addr → Prop) : Addr → Prop := fun a => M a ∧ hA ks ws φ a = false
def hS (ks ws : List Nat) (H : Hp) (env : Env) (σ : L2.St) (a : Addr) : Prop := ∃ i s d v as, hb ks ws i = true ∧ env[i]? = some s ∧ s.get = some d ∧ σ[i]? = some (some v) ∧ Rep H d v as ∧ a ∈ as
def hF (ks ws : List Nat) (fx : Addr → HO → Prop) (φ : Lab) (H : Hp) (env : Env) (σ : L2.St) : Addr → HO → Prop := fun a o => fx a o ∨ (H a = some o ∧ (Imm o = true ∨ hS ks ws H env σ a ∨ hA ks ws φ a = true))
def hP (ks ws : List Nat) (pin : Nat → Option V) (σ : L2.St) : Nat → Option V := fun i => if hb ks ws i then (match σ[i]? with
  | some (some v) => some v
  | _ => none) else pin i
theorem hA_slot {a : Addr} {i : Nat} (h : φ a = some (.slot i)) : hA ks ws φ a = hb ks ws i := by unfold hA; rw [h]
theorem hA_none {a : Addr} (h : φ a = none) : hA ks ws φ a = false := by unfold hA; rw [h]
theorem hA_tmp {a : Addr} {j : Nat} (h : φ a = some (.tmp j)) : hA ks ws φ a = false := by unfold hA; rw [h]
theorem dO_inj {a : Addr} {o o' : Obj} {es : Array DictEntry} {ep : Nat} (hd : o.data = .dict es ep) (e : dO a o = dO a o') : o = o' := by
  have e : (fun h : Heap => h.get? a = some o) = fun h => h.get? a = some o' := by unfold dO at e; injection e
  have e2 := congrFun e { objs := Array.replicate (a + 1) o }
  have h1 : Heap.get? { objs := Array.replicate (a + 1) o } a = some o := by
    unfold Heap.get?
    rw [show (Array.replicate (a + 1) o)[a]? = some o by simp]
    obtain ⟨c, dd, da, sl⟩ := o
    cases hd
    rfl
  have h2 : Heap.get? { objs := Array.replicate (a + 1) o } a = some o' := by
    have := cast e2 h1
    exact this
  rw [h1] at h2
  exact Option.some.inj h2
theorem relV_det {v v1 : V} {u : Value} (h : L2.RelV v u) (h1 : L2.RelV v1 u) : v = v1 := by
  cases v <;> cases v1 <;> simp only [L2.RelV] at h h1 <;> first
    | rfl
    | (subst h; cases h1; done)
    | (subst h; cases h1; rfl)
    | (subst h; obtain ⟨t, e⟩ := h1; cases e; done)
    | (obtain ⟨t, e⟩ := h; subst e; cases h1; done)
    | (obtain ⟨t, e⟩ := h; obtain ⟨t', e'⟩ := h1; subst e; cases e'; done)
    | (obtain ⟨t, e⟩ := h; obtain ⟨t', e'⟩ := h1; subst e; cases e'; rfl)
theorem vals_det : ∀ {vs vs' : List V} {us : List Value}, L2.Vals vs us → L2.Vals vs' us → vs = vs'
  | _, _, _, .nil, .nil => rfl
  | _, _, _, .cons r t, .cons r' t' => by rw [relV_det r r', vals_det t t']
theorem ents_vals {xs ys : Ents} (e : xs.map entI = ys.map entI) : xs.map (·.2.2) = ys.map (·.2.2) := by
  have := congrArg (List.map fun (en : DictEntry) => en.val) e
  simpa [List.map_map, Function.comp_def, entI] using this
theorem ents_vals2 {xs ys : Ents2} (e : xs.map entI2 = ys.map entI2) : xs.map (·.2.2) = ys.map (·.2.2) := by
  have := congrArg (List.map fun (en : DictEntry) => en.val) e
  simpa [List.map_map, Function.comp_def, entI2] using this
theorem zip_inj {α β : Type} : ∀ {ns : List α} {xs ys : List β}, ns.length = xs.length → ns.length = ys.length → ns.zip xs = ns.zip ys → xs = ys
  | [], [], [], _, _, _ => rfl
  | _ :: ns, x :: xs, y :: ys, h, g, e => by
    simp only [List.zip_cons_cons, List.cons.injEq, Prod.mk.injEq, true_and] at e
    rw [e.1, zip_inj (by simpa using h) (by simpa using g) e.2]
mutual
theorem Rep.det {H : Hp} : ∀ {d : D} {v : V} {as bs : List Addr}, Rep H d v as → Rep H d v bs → as = bs
  | _, _, _, _, .non, h => by cases h; rfl
  | _, _, _, _, .bl _, h => by cases h; rfl
  | _, _, _, _, .int _, h => by cases h; rfl
  | _, _, _, _, .str _, h => by cases h; rfl
  | _, _, _, _, .tup ha hd s, h => by
    cases h with
    | tup ha' hd' s' => rw [ha] at ha'; cases ha'; exact Reps.det s s'
  | _, _, _, _, .lst ha s, h => by
    cases h with
    | lst ha' s' => rw [ha] at ha'; cases ha'; rw [Reps.det s s']
  | _, _, _, _, .tp0 ha s, h => by
    cases h with
    | tp0 ha' s' => rw [ha] at ha'; cases ha'; exact Reps.det s s'
  | _, _, _, _, .frz ha s, h => by cases h; rfl
  | _, _, _, _, .dic ha i v s, h => by
    generalize hD : D.dic _ _ = dd at h
    cases h with
    | dic ha' i' v' s' =>
      injection hD with hk hs
      subst hs
      rw [ha] at ha'
      have e := dO_inj i.dat (Option.some.inj ha')
      subst e
      have e2 := i.dat.symm.trans i'.dat
      injection e2 with e2 _
      subst e2
      have e3 := ents_vals (i.ents.symm.trans i'.ents)
      rw [← e3] at v'
      have e4 := vals_det v v'
      subst e4
      rw [Reps.det s s']
    | _ => cases hD
  | _, _, _, _, .dic2 ha i v s, h => by
    generalize hD : D.dic2 _ _ = dd at h
    cases h with
    | dic2 ha' i' v' s' =>
      injection hD with hk hs
      subst hs
      rw [ha] at ha'
      have e := dO_inj i.dat (Option.some.inj ha')
      subst e
      have e2 := i.dat.symm.trans i'.dat
      injection e2 with e2 _
      subst e2
      have e3 := ents_vals2 (i.ents.symm.trans i'.ents)
      rw [← e3] at v'
      have e4 := vals_det v v'
      subst e4
      rw [Reps.det s s']
    | _ => cases hD
  | _, _, _, _, .dicK ha n s, h => by
    generalize hD : D.dicK _ _ = dd at h
    cases h with
    | dicK ha' n' s' =>
      injection hD with hk hs
      subst hs
      rw [ha] at ha'
      injection ha' with e
      injection e with e
      subst e
      rw [Reps.det s s']
    | _ => cases hD
  | _, _, _, _, .obj ha hd hm hl s, h => by
    generalize hD : D.obj _ _ _ = dd at h
    cases h with
    | obj ha' hd' hm' hl' s' =>
      injection hD with hc hn hk
      subst hn hk
      rw [ha] at ha'
      injection ha' with e
      injection e with e1 e2 e3
      subst e2
      have ef := zip_inj hl hl' e3
      subst ef
      rw [Reps.det s s']
    | _ => cases hD
  | _, _, _, _, .box _, h => by cases h; rfl
  | _, _, _, _, .exc _ _ _ _ _, h => (Rep.noL h rfl).symm
  | _, _, _, _, .excF _ _ _ _ _ _ _ _, h => (Rep.noL h rfl).symm
theorem Reps.det {H : Hp} : ∀ {d : List D} {v : List V} {as bs : List Addr}, Reps H d v as → Reps H d v bs → as = bs
  | _, _, _, _, .nil, h => by cases h; rfl
  | _, _, _, _, .cons r rs, h => by
    cases h with
    | cons r' rs' => rw [Rep.det r r', Reps.det rs rs']
end
theorem Rep.mem_of {H : Hp} {d : D} {v : V} {as bs : List Addr} {a : Addr} (h : Rep H d v as) (h' : Rep H d v bs) (m : a ∈ as) : a ∈ bs := h.det h' ▸ m
theorem Held.seen {l : Lb} {o : Bool} {d : D} {v : V} (h : Held φ H M l o d v) (hl : ∀ i, l = .slot i → hb ks ws i = false) : Held (hφ ks ws φ) H (hM ks ws φ M) l o d v := by
  obtain ⟨as, r, m, q, n⟩ := h
  have key : ∀ a ∈ as, hA ks ws φ a = false := fun a ha => by
    have := q a ha
    cases o with
    | false => exact hA_none this
    | true =>
      have this : φ a = some l := this
      cases l with
      | slot i => rw [hA_slot this]; exact hl i rfl
      | tmp j => exact hA_tmp this
  exact ⟨as, r, fun a ha => ⟨m a ha, key a ha⟩, fun a ha => by unfold hφ; rw [key a ha]; exact q a ha, n⟩
theorem Good.masked (g : Good M N fx pin φ H env σ ts) : Good (hM ks ws φ M) N (hF ks ws fx φ H env σ) (hP ks ws pin σ) (hφ ks ws φ) H (mask ks ws 0 env) σ ts := by
  have hid_own : ∀ a, hA ks ws φ a = true → ∃ vs, H a = some vs := fun a h => by
    obtain ⟨_, vs, hv, _⟩ := g.own a (by intro z; rw [hA_none z] at h; cases h)
    exact ⟨vs, hv⟩
  refine ⟨?_, fun a o h => ?_, fun a h => ?_, fun p h => ?_, fun i s' h => ?_, fun j t h => (g.tmp j t h).seen fun i z => nomatch z⟩
  · exact ⟨by have := g.len.le; rw [mask_len]; exact this, g.len.tab⟩
  · rcases h with h | ⟨h, hh⟩
    · obtain ⟨a1, a2⟩ := g.fix a o h
      exact ⟨a1, by unfold hφ; rw [hA_none a2]; exact a2⟩
    · refine ⟨.of h, ?_⟩
      by_cases hz : hA ks ws φ a = true
      · unfold hφ; rw [if_pos hz]
      · unfold hφ; rw [if_neg hz]
        rcases hh with hi | hs | hh
        · cases e : φ a with
          | none => rfl
          | some l =>
            obtain ⟨_, vs, hv, hj⟩ := g.own a (by rw [e]; exact fun z => nomatch z)
            rw [h] at hv; cases hv; rw [hj] at hi; cases hi
        · obtain ⟨i, s, d, v, as, h1, h2, h3, h4, h5, h6⟩ := hs
          have q := g.slot i s h2
          have lab : ∀ {o : Bool} {w : V}, σ[i]? = some (some w) → Held φ H M (.slot i) o d w → φ a = none := by
            rintro o w hw ⟨bs, r, _, q, _⟩
            rw [h4] at hw; cases hw
            have : a ∈ bs := Rep.mem_of h5 r h6
            have := q a this
            cases o with
            | false => exact this
            | true =>
              have this : φ a = some (.slot i) := this
              exact absurd (by rw [hA_slot this]; exact h1) hz
          cases s with
          | emp => cases h3
          | pin => cases h3
          | val o d' => cases h3; obtain ⟨w, q1, q2⟩ := q; exact lab q1 q2
          | ref d' => cases h3; obtain ⟨w, q1, _, q2⟩ := q; exact lab q1 q2
          | top xs =>
            cases h3
            obtain ⟨w, vs, q1, q2, q3⟩ := q
            obtain ⟨bs, r, m⟩ := top_lab q2 q3
            rw [h4] at q1; cases q1
            have : a ∈ bs := Rep.mem_of h5 r h6
            rcases (m a this).2 with z | z
            · exact z
            · exact absurd (by rw [hA_slot z]; exact h1) hz
        · exact absurd hh hz
  · exact g.own a fun z => h (by unfold hφ; rw [hA_none z]; exact z)
  · have h0 := g.free p fun o z => h o (.inl z)
    refine ⟨h0.1, h0.2, ?_⟩
    cases e : hA ks ws φ p with
    | false => rfl
    | true =>
      obtain ⟨vs, hv⟩ := hid_own p e
      exact absurd (.inr ⟨hv, .inr (.inr e)⟩) (h _)
  · rw [mask_get, Nat.zero_add] at h
    cases e : env[i]? with
    | none => rw [e] at h; cases h
    | some s =>
      rw [e] at h
      have e2 : mask1 ks ws i s = s' := Option.some.inj h
      subst e2
      have q := g.slot i s e
      unfold mask1
      by_cases h1 : ks.contains i = true
      · rw [if_pos h1]
        have hv : hb ks ws i = false := by unfold hb; rw [h1]; rfl
        have pe : hP ks ws pin σ i = pin i := by unfold hP; rw [hv]; rfl
        cases s with
        | emp => trivial
        | pin => obtain ⟨v, q1, q2⟩ := q; exact ⟨v, q1, by rw [pe]; exact q2⟩
        | val o d => obtain ⟨v, q1, q2⟩ := q; exact ⟨v, q1, q2.seen fun k z => by cases z; exact hv⟩
        | ref d => obtain ⟨v, q1, q0, q2⟩ := q; exact ⟨v, q1, by rw [pe]; exact q0, q2.seen fun k z => by cases z; exact hv⟩
        | top xs => obtain ⟨v, vs, q1, q2, q3⟩ := q; exact ⟨v, vs, q1, q2.seen fun k z => by cases z; exact hv, q3.map fun _ _ q => q.seen fun k z => by cases z; exact hv⟩
      · rw [if_neg h1]
        by_cases h2 : ws.contains i = true
        · rw [if_pos h2]; trivial
        · rw [if_neg h2]
          have hv : hb ks ws i = true := by unfold hb; simp only [Bool.not_eq_true] at h1 h2; rw [h1, h2]; rfl
          have pe : ∀ v, σ[i]? = some (some v) → hP ks ws pin σ i = some v := fun v z => by unfold hP; rw [hv, if_pos rfl, z]
          cases s with
          | emp => trivial
          | pin => obtain ⟨v, q1, q2⟩ := q; exact ⟨v, q1, pe v q1⟩
          | val o d => obtain ⟨v, q1, q2⟩ := q; exact ⟨v, q1, pe v q1⟩
          | ref d => obtain ⟨v, q1, q0, q2⟩ := q; exact ⟨v, q1, pe v q1⟩
          | top xs => obtain ⟨v, vs, q1, q2, q3⟩ := q; exact ⟨v, q1, pe v q1⟩
theorem Good.unmasked {φ'' : Lab} {H'' : Hp} {e r : Env} {σ'' : L2.St} {ts' : List Tmp} (g : Good M N fx pin φ H env σ ts) (g2 : Good (hM ks ws φ M) N (hF ks ws fx φ H env σ) (hP ks ws pin σ) φ'' H'' e σ'' ts') (hu : unmask ks ws 0 env e = some r) :
    Good M N fx pin (fun a => if hA ks ws φ a then φ a else φ'' a) H'' r σ'' ts' := by
  obtain ⟨l1, l2, hget⟩ := unmask_ok ks ws hu
  have seen : ∀ {l : Lb} {o : Bool} {d : D} {v : V}, Held φ'' H'' (hM ks ws φ M) l o d v → Held (fun a => if hA ks ws φ a then φ a else φ'' a) H'' M l o d v := by
    rintro l o d v ⟨as, r, m, q, n⟩
    refine ⟨as, r, fun a ha => (m a ha).1, fun a ha => ?_, n⟩
    show (if hA ks ws φ a then φ a else φ'' a) = _
    rw [(m a ha).2]; exact q a ha
  refine ⟨?_, fun a o h => ?_, fun a h => ?_, g.free, fun i u h => ?_, fun j t h => seen (g2.tmp j t h)⟩
  · exact ⟨by have := g2.len.le; rw [l1]; exact this, g2.len.tab⟩
  · obtain ⟨a1, a2⟩ := g2.fix a o (.inl h)
    refine ⟨a1, ?_⟩
    show (if hA ks ws φ a then φ a else φ'' a) = _
    rw [hA_none (g.fix a o h).2]; exact a2
  · have h : (if hA ks ws φ a then φ a else φ'' a) ≠ none := h
    by_cases hz : hA ks ws φ a = true
    · rw [if_pos hz] at h
      obtain ⟨a1, vs, a2, a3⟩ := g.own a h
      exact ⟨a1, vs, (g2.fix a _ (.inr ⟨a2, .inr (.inr hz)⟩)).1.k (isTb_of a3), a3⟩
    · rw [if_neg hz] at h
      exact g2.own a h
  · obtain ⟨s, t, e1, e2, e3⟩ := hget i u h
    rw [Nat.zero_add] at e3
    have qs := g.slot i s e1
    have qt := g2.slot i t e2
    unfold un1 at e3
    by_cases hv : (ks.contains i || ws.contains i) = true
    · rw [if_pos hv] at e3
      cases e3
      have hv2 : hb ks ws i = false := by
        unfold hb
        rcases Bool.or_eq_true_iff.mp hv with z | z <;> rw [z] <;> simp
      have pe : hP ks ws pin σ i = pin i := by unfold hP; rw [hv2]; rfl
      cases u with
      | emp => trivial
      | pin => obtain ⟨v, q1, q2⟩ := qt; exact ⟨v, q1, by rw [← pe]; exact q2⟩
      | val o d => obtain ⟨v, q1, q2⟩ := qt; exact ⟨v, q1, seen q2⟩
      | ref d => obtain ⟨v, q1, q0, q2⟩ := qt; exact ⟨v, q1, by rw [← pe]; exact q0, seen q2⟩
      | top xs => obtain ⟨v, vs, q1, q2, q3⟩ := qt; exact ⟨v, vs, q1, seen q2, q3.map fun _ _ q => seen q⟩
    · rw [if_neg hv] at e3
      have hv2 : hb ks ws i = true := by
        unfold hb
        simp only [Bool.or_eq_true, not_or, Bool.not_eq_true] at hv
        rw [hv.1, hv.2]; rfl
      have stay : t = .pin → ∀ {v : V}, σ[i]? = some (some v) → σ''[i]? = some (some v) := fun ht v hσ => by
        subst ht
        obtain ⟨v', q1, q2⟩ := qt
        unfold hP at q2
        rw [hv2, if_pos rfl, hσ] at q2
        cases q2; exact q1
      have held0 : ∀ {o : Bool} {d : D} {v : V}, (∀ as, Rep H d v as → ∀ a ∈ as, hS ks ws H env σ a) → Held φ H M (.slot i) o d v → Held (fun a => if hA ks ws φ a then φ a else φ'' a) H'' M (.slot i) o d v := by
        rintro o d v hh ⟨as, r, m, q, n⟩
        have inS : ∀ a ∈ as, hS ks ws H env σ a := hh as r
        refine ⟨as, r.keepT fun a u hu hi nt => ?_, m, fun a ha => ?_, n⟩
        · rcases hi with z | z
          · exact (g2.fix a u (.inr ⟨hu, .inr (.inl (inS a z))⟩)).1.k nt
          · exact (g2.fix a u (.inr ⟨hu, .inl z⟩)).1.k nt
        · show (if hA ks ws φ a then φ a else φ'' a) = _
          have := q a ha
          cases o with
          | true =>
            have this : φ a = some (.slot i) := this
            rw [hA_slot this, hv2, if_pos rfl]; exact this
          | false =>
            have this : φ a = none := this
            rw [hA_none this]
            obtain ⟨vs, hvs, _⟩ := r.there a ha
            exact (g2.fix a _ (.inr ⟨hvs, .inr (.inl (inS a ha))⟩)).2
      have held : ∀ {o : Bool} {d : D} {v : V}, s.get = some d → σ[i]? = some (some v) → Held φ H M (.slot i) o d v → Held (fun a => if hA ks ws φ a then φ a else φ'' a) H'' M (.slot i) o d v := fun {o d v} hg hσ =>
        held0 fun as r a ha => ⟨i, s, d, v, as, hv2, e1, hg, hσ, r, ha⟩
      cases s with
      | emp => cases e3; trivial
      | top xs =>
        obtain ⟨v, vs, q1, q2, q3⟩ := qs
        cases t with
        | pin =>
          cases e3
          obtain ⟨a, as, ea, ha, _, _, rr, _, rl⟩ := top_rep q2 q3
          have inS : ∀ b ∈ a :: as, hS ks ws H env σ b := fun b hb => ⟨i, .top xs, .lst xs, v, a :: as, hv2, e1, rfl, q1, rl, hb⟩
          refine ⟨v, vs, stay rfl q1, held0 (fun bs r b hb => ?_) q2, q3.mapR (T := hS ks ws H env σ) (fun d v cs r m h => held0 (fun bs r2 b hb => m b (by rw [r.det r2]; exact hb)) h) rr (fun b hb => inS b (List.mem_cons_of_mem _ hb))⟩
          subst ea
          cases r with
          | box _ => exact inS b (by rw [List.mem_singleton.mp hb]; exact List.mem_cons_self)
        | _ => cases e3
      | pin =>
        obtain ⟨v, q1, q2⟩ := qs
        cases t with
        | pin => cases e3; exact ⟨v, stay rfl q1, q2⟩
        | _ => cases e3
      | val o d =>
        obtain ⟨v, q1, q2⟩ := qs
        cases t with
        | pin => cases e3; exact ⟨v, stay rfl q1, held rfl q1 q2⟩
        | _ => cases e3
      | ref d =>
        obtain ⟨v, q1, q0, q2⟩ := qs
        cases t with
        | pin => cases e3; exact ⟨v, stay rfl q1, q0, held rfl q1 q2⟩
        | _ => cases e3
end
theorem scope_want {mg : Str → Option Value} {E : XK} {M N : Addr → Prop} {fx : Addr → HO → Prop} {pin : Nat → Option V} {φ : Lab} {H : Hp} {env : Env} {σ : L2.St} {ts : List Tmp} {ks ws : List Nat} {m : SM} {K : Ends} (g : Good M N fx pin φ H env σ ts) (w : SWant M N fx pin mg ts E K (scopeS ks ws m env)) :
    SWant (hM ks ws φ M) N (hF ks ws fx φ H env σ) (hP ks ws pin σ) mg ts E K (m (mask ks ws 0 env)) := by
  unfold scopeS at w
  cases hm : m (mask ks ws 0 env) with
  | no => rw [hm] at w; exact w
  | nx e =>
    rw [hm] at w
    simp only at w
    intro φ' H' σ' g'
    cases hu : unmask ks ws 0 env e with
    | none => rw [hu] at w; exact w.elim
    | some r => rw [hu] at w; exact w _ H' σ' (g.unmasked g' hu)
  | rt o d e =>
    rw [hm] at w
    simp only at w
    intro φ' H' σ' v g'
    cases hu : unmask ks ws 0 env e with
    | none => rw [hu] at w; exact w.elim
    | some r => rw [hu] at w; exact w _ H' σ' v (g.unmasked g' hu)
  | ex x e =>
    rw [hm] at w
    simp only at w
    intro φ' H' σ' c dx g' xr
    cases hu : unmask ks ws 0 env e with
    | none => rw [hu] at w; exact w.elim
    | some r => rw [hu] at w; exact w _ H' σ' c dx (g.unmasked g' hu) xr
section
variable {X : Cx} {E : XK}
theorem sndb_scope (ks ws : List Nat) {st : List Stmt} {m : SM} (h : SndB X E st m) : SndB X E st (scopeS ks ws m) := by
  obtain ⟨t, h1, h2⟩ := h
  exact ⟨t, h1, fun M N fx pin φ H env σ ts K g w => h2 _ _ _ _ _ H _ σ ts K (g.masked (ks := ks) (ws := ws)) (scope_want g w)⟩
end
end CB

namespace CB
open PySem L2 PySem.Spec PyProof.Rows
variable [CT]

inductive ItR where
  | ok (ds : List D) (env : Env) | ex (x : Xn) (env : Env) | no
def iterS (ks : List Nat) (ι : I) (env : Env) : ItR := match ι env with
  | .ok f ds => if f && noLs ds then .ok ds env else match ι (hide ks 0 env) with
    | .ok _ ds2 => .ok ds2 (demK ks env)
    | _ => .no
  | .ex x => .ex x env
  | .no => .no
section
variable {X : Cx} {E : XK}
theorem noLs_mem : ∀ {l : List D}, noLs l = true → ∀ d ∈ l, noL d = true := by
  intro l
  induction l with
  | nil => intro _ d h; cases h
  | cons x l ih =>
    intro h d hd
    simp only [noLs, Bool.and_eq_true] at h
    rcases List.mem_cons.mp hd with z | z
    · subst z; exact h.1
    · exact ih h.2 d z
theorem iter_open {wi : TI} {ι : I} (ks : List Nat) (i2 : ∀ (S : Addr → Prop) env σ H R, ObsEnv S H env σ → IWant S X.mg H R E (ι env) → wi σ H R) {M N : Addr → Prop} {fx : Addr → HO → Prop} {pin : Nat → Option V} {φ : Lab} {H : Hp} {env : Env} {σ : L2.St} {ts : List Tmp} {R : It → Hp → Prop} (g : Good M N fx pin φ H env σ ts)
    (w : match iterS ks ι env with
      | .ok ds env' => ∀ φ' H' J fi cD cV us, Ex H H' → Good M N (fun a o => fx a o ∨ fi a o) pin φ' H' env' σ (ts ++ us) → Serves J fi ds cD cV → (∀ i, i < ds.length → (cD i).length = (cV i).length ∧ ∀ t ∈ shT (cD i) (cV i), t ∈ us) → (∀ t ∈ us, t.1 = false) → R J H'
      | .ex x env' => ∀ φ' H' c dx, Good M N fx pin φ' H' env' σ ts → XR X.mg x c dx H' → E c dx H'
      | .no => False) : wi σ H R := by
  unfold iterS at w
  have items : ∀ {S : Addr → Prop} {H' : Hp} {φ' : Lab} {n : Nat} {cD : Nat → List D} {cV : Nat → List V}, (∀ i, i < n → ∃ as, Reps H' (cD i) (cV i) as ∧ ∀ a ∈ as, S a ∨ H a = none) → (∀ i, i < n → ∀ as, Reps H' (cD i) (cV i) as → ∀ a ∈ as, S a ∨ H a = none → M a ∧ φ' a = none) →
      Shd φ' H' M ((List.range n).flatMap fun i => shT (cD i) (cV i)) ∧ ∀ i, i < n → (cD i).length = (cV i).length ∧ ∀ t ∈ shT (cD i) (cV i), t ∈ (List.range n).flatMap fun i => shT (cD i) (cV i) := by
    intro S H' φ' n cD cV h1 h2
    refine ⟨fun t ht => ?_, fun i hi => ?_⟩
    · obtain ⟨i, hi, ht⟩ := List.mem_flatMap.mp ht
      have hi' : i < n := List.mem_range.mp hi
      obtain ⟨as, r, ma⟩ := h1 i hi'
      exact (r.shd fun a q => h2 i hi' as r a q (ma a q)) t ht
    · obtain ⟨as, r, _⟩ := h1 i hi
      exact ⟨r.length, fun t ht => List.mem_flatMap.mpr ⟨i, List.mem_range.mpr hi, ht⟩⟩
  have allf : ∀ {n : Nat} {cD : Nat → List D} {cV : Nat → List V}, ∀ t ∈ (List.range n).flatMap fun i => shT (cD i) (cV i), t.1 = false := by
    intro n cD cV t ht
    obtain ⟨i, _, ht⟩ := List.mem_flatMap.mp ht
    unfold shT at ht
    obtain ⟨p, _, e⟩ := List.mem_map.mp ht
    rw [← e]
  cases hι : ι env with
  | no => rw [hι] at w; exact w.elim
  | ex x =>
    refine i2 M env σ H _ g.obs ?_
    rw [hι] at w ⊢
    exact fun c dx H' e r => w φ H' c dx (g.ext e) r
  | ok f ds =>
    rw [hι] at w
    simp only at w
    by_cases hz : (f && noLs ds) = true
    · rw [if_pos hz] at w
      simp only [Bool.and_eq_true] at hz
      refine i2 M env σ H _ g.obs ?_
      rw [hι]
      intro J H1 fi cD cV e1 sv hfi hcv hfr hcs
      have g1 := g.ext e1
      obtain ⟨hsh, hin⟩ := items (S := M) (φ' := φ) hcv fun i hi as r a ha => by
        rw [r.noL (sv.nol i _ (by simp : ds[i]? = some ds[i]) (noLs_mem hz.2 _ (List.getElem_mem hi)))] at ha; cases ha
      exact w φ H1 J fi cD cV _ e1 ((g1.keepT hsh).fixed fun a o z => ⟨hfi a o z, by
        rcases hfr hz.1 a o z with y | y
        · exact g.lab_none y
        · cases hq : φ a with
          | none => rfl
          | some l =>
            obtain ⟨_, vs, hv, hi⟩ := g1.own a (by rw [hq]; exact fun z => nomatch z)
            exact ((hfi a o z).imm hv hi y).elim⟩) sv hin allf
    · rw [if_neg hz] at w
      cases hι2 : ι (hide ks 0 env) with
      | no => rw [hι2] at w; exact w.elim
      | ex x => rw [hι2] at w; exact w.elim
      | ok f2 ds2 =>
        rw [hι2] at w
        simp only at w
        refine i2 _ _ σ H _ (g.obsK ks) ?_
        rw [hι2]
        intro J H1 fi cD cV e1 sv hfi hcv hfr hcs
        obtain ⟨φ', g', k1, k2⟩ := g.demK ks
        have g1 := g'.ext e1
        have lab : ∀ a, (M a ∧ (φ a = none ∨ ∃ k ∈ ks, φ a = some (.slot k))) ∨ H a = none → M a ∧ φ' a = none := fun a z => by
          rcases z with ⟨y1, y | ⟨k, hk, y⟩⟩ | y
          · exact ⟨y1, k1 a y⟩
          · exact ⟨y1, k2 k hk a y⟩
          · exact ⟨(g.fresh y).2, k1 a (g.lab_none y)⟩
        obtain ⟨hsh, hin⟩ := items (φ' := φ') hcv fun i hi as r a ha z => lab a z
        exact w φ' H1 J fi cD cV _ e1 ((g1.keepT hsh).fixed fun a o z => ⟨hfi a o z, by
          rcases hcs a o z with y | y | y
          · exact (lab a (.inl y)).2
          · exact (lab a (.inr y)).2
          · cases hq : φ' a with
            | none => rfl
            | some l =>
              obtain ⟨_, vs, hv, hi⟩ := g1.own a (by rw [hq]; exact fun z => nomatch z)
              exact ((hfi a o z).imm hv hi y).elim⟩) sv hin allf

end
section
variable {M N : Addr → Prop} {fx : Addr → HO → Prop} {pin : Nat → Option V} {φ : Lab} {H : Hp} {env : Env} {σ : L2.St} {ts : List Tmp}
theorem wipeE_get {env : Env} {i : Nat} {s : Sl} : ∀ {vs : List Nat}, (wipeE env vs)[i]? = some s → s = .emp ∨ (env[i]? = some s ∧ i ∉ vs)
  | [], h => .inr ⟨h, by simp⟩
  | v :: vs, h => by
    unfold wipeE at h
    by_cases hi : i = v
    · subst hi
      by_cases hl : i < (wipeE env vs).length
      · rw [List.getElem?_set_self hl] at h; cases h; exact .inl rfl
      · rw [List.getElem?_eq_none (by simpa using hl)] at h; cases h
    · rw [List.getElem?_set_ne (Ne.symm hi)] at h
      rcases wipeE_get h with z | ⟨z, y⟩
      · exact .inl z
      · exact .inr ⟨z, by simp only [List.mem_cons, not_or]; exact ⟨hi, y⟩⟩
theorem Good.wiped (g : Good M N fx pin φ H env σ ts) (vs : List Nat) : Good M N fx pin φ H (wipeE env vs) (L2.wipe σ vs) ts :=
  ⟨by exact ⟨by have := g.len.le; rw [wipeE_length, wipe_length]; exact this, g.len.tab⟩, g.fix, g.own, g.free, fun i s h => by
    rcases wipeE_get h with z | ⟨z, y⟩
    · subst z; trivial
    · rw [wipe_get y]; exact g.slot i s z, g.tmp⟩
theorem Good.unwiped {vs : List Nat} {σ2 : L2.St} (g : Good M N fx pin φ H env σ2 ts) (hw : L2.wipe σ2 vs = L2.wipe σ vs) : Good M N fx pin φ H (wipeE env vs) (L2.wipe σ vs) ts := hw ▸ g.wiped vs
theorem Good.home {vs : List Nat} (g : Good M N fx pin φ H (wipeE env vs) (L2.wipe σ vs) ts) : Good M N fx pin φ H (wipeE env vs) σ ts :=
  ⟨by exact ⟨by have := g.len.le; rw [wipe_length] at this; exact this, g.len.tab⟩, g.fix, g.own, g.free, fun i s h => by
    have q := g.slot i s h
    rcases wipeE_get h with z | ⟨_, y⟩
    · subst z; trivial
    · rw [wipe_get y] at q; exact q, g.tmp⟩
theorem Good.grow {a : Addr} {xs : List D} {o : Bool} {d : D} {v : V} (g : Good M N fx pin φ H env σ (ts ++ [(true, .lst xs, .ref a)] ++ [(o, d, v)])) (ho : (o || noL d) = true) :
    ∃ vs, H a = some (.lst vs) ∧ vs.length = xs.length ∧ ∃ φ', Good M N fx pin φ' (upd H a (.lst (vs ++ [v]))) env σ (ts ++ [(true, .lst (xs ++ [d]), .ref a)]) := by
  have hl : (ts ++ [(true, D.lst xs, V.ref a)]).length = ts.length + 1 := by simp
  obtain ⟨as, r, m, q, n⟩ := g.tmp ts.length (true, .lst xs, .ref a) (by simp)
  obtain ⟨bs, b1, b2, b3⟩ := own_tmp g ho
  rw [hl] at b3
  cases r with
  | @lst _ vs _ as' ha rs =>
    have qa : φ a = some (.tmp ts.length) := q a List.mem_cons_self
    have no := List.nodup_cons.mp (n rfl)
    have hab : a ∉ bs := fun z => by have := (b3 _ z).2; rw [qa] at this; simp at this
    have dj : ∀ b ∈ as', b ∉ bs := fun b hb hb2 => by
      have h1 := (b3 _ hb2).2
      have h2 : φ b = some (.tmp ts.length) := q b (List.mem_cons_of_mem _ hb)
      rw [h2] at h1; simp at h1
    refine ⟨vs, ha, rs.length.symm, fun b => if φ b = some (.tmp (ts.length + 1)) then some (.tmp ts.length) else φ b, ?_⟩
    have oth : ∀ {l : Lb} {o : Bool} {d : D} {v' : V}, l ≠ .tmp ts.length → l ≠ .tmp (ts.length + 1) → Held φ H M l o d v' → Held (fun b => if φ b = some (.tmp (ts.length + 1)) then some (.tmp ts.length) else φ b) (upd H a (.lst (vs ++ [v]))) M l o d v' := fun {l o d v'} h1 h2 k => k.keep fun cs r q => by
      have nq : ∀ c ∈ cs, φ c ≠ some (.tmp ts.length) ∧ φ c ≠ some (.tmp (ts.length + 1)) := fun c hc => by
        rw [q c hc]
        cases o with
        | true => exact ⟨fun z => h1 (Option.some.inj z), fun z => h2 (Option.some.inj z)⟩
        | false => simp
      refine ⟨r.keep fun c u hcu hci => ?_, fun c hc => ?_⟩
      · have : c ≠ a := fun z => by
          subst z
          rcases hci with z | z
          · exact (nq _ z).1 qa
          · rw [ha] at hcu; cases hcu; cases z
        rw [upd_ne this]; exact hcu
      · show (if φ c = some (.tmp (ts.length + 1)) then some (.tmp ts.length) else φ c) = _
        rw [if_neg (nq c hc).2]; exact q c hc
    refine ⟨g.len.upd ha, fun c o h => ?_, fun c h => ?_, g.free, fun k s h => (g.slot k s h).keep fun o d v q => ?_, fun j t h => ?_⟩
    · obtain ⟨f1, f2⟩ := g.fix c o h
      have hca : c ≠ a := fun z => by rw [z, qa] at f2; cases f2
      refine ⟨f1.upd hca, ?_⟩
      show (if φ c = some (.tmp (ts.length + 1)) then some (.tmp ts.length) else φ c) = _
      rw [f2]; simp
    · have hc : φ c ≠ none := fun z => h (by
        show (if φ c = some (.tmp (ts.length + 1)) then some (.tmp ts.length) else φ c) = _
        rw [z]; simp)
      obtain ⟨h1, ws, h2, h3⟩ := g.own c hc
      refine ⟨h1, ?_⟩
      by_cases hca : c = a
      · subst hca; exact ⟨_, upd_same, rfl⟩
      · exact ⟨ws, by rw [upd_ne hca]; exact h2, h3⟩
    · exact oth (fun z => nomatch z) (fun z => nomatch z) q
    · by_cases hj : j < ts.length
      · rw [List.getElem?_append_left hj] at h
        refine oth (fun z => ?_) (fun z => ?_) (g.tmp j t (by rw [List.append_assoc, List.getElem?_append_left hj]; exact h))
        · cases z; exact absurd hj (Nat.lt_irrefl _)
        · cases z; omega
      · have hj' : j = ts.length := by
          have := (List.getElem?_eq_some_iff.mp h).1
          simp at this; omega
        subst hj'
        simp at h
        subst h
        have one : Reps H [d] [v] bs := by
          have : Reps H [d] [v] (bs ++ []) := .cons b1 .nil
          rwa [List.append_nil] at this
        refine ⟨a :: (as' ++ bs), .lst upd_same ((rs.append one).upd ha fun z => (List.mem_append.mp z).elim no.1 hab), fun b hb => ?_, fun b hb => ?_, fun _ => List.nodup_cons.mpr ⟨fun z => (List.mem_append.mp z).elim no.1 hab, nodup_snoc no.2 b2 dj⟩⟩
        · rcases List.mem_cons.mp hb with z | z
          · subst z; exact m _ List.mem_cons_self
          · rcases List.mem_append.mp z with z | z
            · exact m b (List.mem_cons_of_mem _ z)
            · exact (b3 b z).1
        · show (if φ b = some (.tmp (ts.length + 1)) then some (.tmp ts.length) else φ b) = _
          rcases List.mem_cons.mp hb with z | z
          · subst z; rw [qa]; simp
          · rcases List.mem_append.mp z with z | z
            · rw [show φ b = some (.tmp ts.length) from q b (List.mem_cons_of_mem _ z)]; simp
            · rw [(b3 b z).2]; simp
end
def cGE (mg : Str → Option Value) (m : GE) : TE := fun σ H Q => ∃ M N fx pin φ env ts, Good M N fx pin φ H env σ ts ∧ GWant M N fx pin mg σ ts E0 Q (m env)
def cTG (mg : Str → Option Value) (m : GE) : TT := fun σ H Q => ∃ M N fx pin φ env ts, Good M N fx pin φ H env σ ts ∧ TGWant M N fx pin mg σ ts E0 Q (m env)
section
variable {X : Cx} {E : XK}
def SndTsG (X : Cx) (ifs : List Expr) (m : GE) : Prop := ∃ t, PTs X ifs t ∧ ∀ M N fx pin φ H env σ ts Q, Good M N fx pin φ H env σ ts → TGWant M N fx pin X.mg σ ts E0 Q (m env) → t σ H Q
def yesG : GE := fun env => .ok true (.bl true) env
theorem sndtsg_nil : SndTsG X [] yesG := ⟨_, pts_nil, fun M N fx pin φ H env σ ts Q g w => w φ H g⟩
def liftT (p : P) : GE := fun env => match p env with
  | .ok _ d => .ok true d env
  | .ex x => .ex x env
  | .no => .no
theorem sndtg_pure {c : Expr} {p : P} (h : SndT X E c p) : SndTG X E c (liftT p) := by
  obtain ⟨t, a, b⟩ := h
  refine ⟨t, a, fun M N fx pin φ H env σ ts Q g w => b M env σ H Q g.obs ?_⟩
  unfold liftT at w
  cases hp : p env with
  | no => rw [hp] at w; exact w
  | ex x => rw [hp] at w; exact fun c dx H' e r => w φ H' c dx (g.ext e) r
  | ok f d =>
    rw [hp] at w
    cases d with
    | bl b => exact fun H' e => w φ H' (g.ext e)
    | _ => exact (show False from w).elim
theorem SndE.c {e : Expr} {m : GE} (h : SndE X E0 e m) : PE X e (cGE X.mg m) := by
  obtain ⟨t, h1, h2⟩ := h
  exact ⟨fun pins s σ H Q I ⟨M, N, fx, pin, φ, env, ts, g, w⟩ => h1.run pins s σ H Q I (h2 M N fx pin φ H env σ ts Q g w)⟩
theorem SndTsG.c {ifs : List Expr} {m : GE} (h : SndTsG X ifs m) : PTs X ifs (cTG X.mg m) := by
  obtain ⟨t, h1, h2⟩ := h
  exact ⟨fun pins s σ H Q I ⟨M, N, fx, pin, φ, env, ts, g, w⟩ => h1.run pins s σ H Q I (h2 M N fx pin φ H env σ ts Q g w)⟩
end
end CB

namespace CB
open PySem L2 PySem.Spec PyProof.Rows
variable [CT]

section
variable {X : Cx} {E : XK} {tg : Expr}
theorem rev_get {α : Type} {l : List α} {i : Nat} (h : i < l.length) : l.reverse[i]? = l[l.length - 1 - i]? := List.getElem?_reverse h
def irevR (q : Env → Option (Int × Int)) : I := fun env => match q env with
  | some (i, j) => if rgSz i && rgSz j then .ok true (rgD i (j - i).toNat).reverse else .no
  | none => .no
theorem serves_revR (a : Int) (n : Nat) : Serves (Itc (a + (n : Int) - 1) (-1) n) (fun _ _ => False) (rgD a n).reverse (fun _ => []) (fun _ => []) where
  go := fun i H hi _ => by rw [List.length_reverse, rgD_length] at hi; exact hi
  yld := fun i H x H' _ hy d hd => by
    obtain ⟨e1, e2⟩ := hy
    subst e1 e2
    refine ⟨Ex.refl _, fun as r => ?_⟩
    cases r
    have hi : i < n := by have := (List.getElem?_eq_some_iff.mp hd).1; rwa [List.length_reverse, rgD_length] at this
    rw [rev_get (by rw [rgD_length]; exact hi)] at hd
    rw [rgD_get hd, rgD_length]
    have : a + ((n - 1 - i : Nat) : Int) = a + (n : Int) - 1 + (i : Int) * -1 := by omega
    rw [this]
    exact .int _
  stop := fun i H hi _ => by rw [List.length_reverse, rgD_length] at hi; exact hi
  nol := fun _ _ _ _ => rfl
theorem sndi_revR {e : Expr} {q : Env → Option (Int × Int)} {p1 pos : Pos} (h : SndR X E e q) (hg : Gl X "reversed") (hm : X.mg "reversed" = none) (hs : starEach [e] X.env = (false, eval e X.env) :: starEach [] X.env := by rfl) : SndI X E tg (.Call (.Name "reversed" p1) [e] [] pos) (irevR q) := by
  obtain ⟨t, h1, h2⟩ := h
  refine ⟨_, pi_revR hg hm h1 hs, fun S env σ H R o w => ?_⟩
  unfold irevR at w
  cases hq : q env with
  | none => rw [hq] at w; exact w.elim
  | some ij =>
    obtain ⟨i, j⟩ := ij
    rw [hq] at w
    simp only at w
    split at w
    · rename_i hz
      unfold rgSz at hz
      simp only [Bool.and_eq_true, decide_eq_true_eq] at hz
      exact h2 S env σ H _ i j o hq fun H' e => ⟨by omega, by omega, by omega, by omega, w _ H' _ _ _ e (serves_revR i (j - i).toNat) (fun a o z => z.elim) (fun i hi => ⟨[], .nil, noMem⟩) (fun _ a o z => z.elim) fun a o z => z.elim⟩
    · exact w.elim
theorem Reps.pair {H : Hp} {x y : D} {v w : V} {as : List Addr} (r : Reps H [x, y] [v, w] as) (T : Addr) (hT : H T = none) : Rep (L2.upd H T (.tup [v, w])) (.tp0 [x, y]) (.ref T) as := .tp0 upd_same (r.mono (Ex.new hT))
theorem enum_get {xs : List D} {i : Nat} {d : D} (h : (xs.zipIdx.map fun z => D.tp0 [.int (z.2 : Nat), z.1])[i]? = some d) : ∃ x, xs[i]? = some x ∧ d = .tp0 [.int (i : Nat), x] := by
  rw [List.getElem?_map, List.getElem?_zipIdx] at h
  cases e : xs[i]? with
  | none => rw [e] at h; cases h
  | some x => rw [e] at h; cases h; exact ⟨x, rfl, by simp⟩
def dInB (x y : D) : Option Bool := match y with
  | .lst ys => if eqOk x && eqOk (.lst ys) then some ((dats ys).any fun z => PyData.eqv z (dat x)) else none
  | .frz ys => if eqOk x && eqOk (.frz ys) then some ((dats ys).any fun z => PyData.eqv z (dat x)) else none
  | .tup ys => match x with
    | .int k => (toInts ys).map fun ns => ns.any fun n => n == k
    | _ => none
  | _ => none
def dIn (x y : D) : Option (Kd × D) := (dInB x y).map fun b => (.new, .bl b)
def dNotIn (x y : D) : Option (Kd × D) := (dInB x y).map fun b => (.new, .bl (!b))
def rInA (K : PySem.W.Frag) : R2 := fun x y H Q => rInD K x y H Q ∨ rIn K false x y H Q
def rNotInA (K : PySem.W.Frag) : R2 := fun x y H Q => rNotInD K x y H Q ∨ rIn K true x y H Q
theorem op_inA (hu : X.A.units + 65 < cLine) : OpR X (compareOp .In) (rInA X.K) := (op_inD hu).or op_in_seq
theorem op_notInA (hu : X.A.units + 65 < cLine) : OpR X (compareOp .NotIn) (rNotInA X.K) := (op_notInD hu).or op_notIn_seq
theorem in_core {K : PySem.W.Frag} {H : Hp} {x y : D} {v w : V} {as bs : List Addr} {b : Bool} (r1 : Rep H x v as) (r2 : Rep H y w bs) (h : dInB x y = some b) :
    (∃ d ds, Dp K H v d ∧ Dp K H w (.list ds) ∧ SeqAt.shaped d = true ∧ SeqAt.shaped (.list ds) = true ∧ b = ds.any fun z => PyData.eqv z d) ∨
    (∃ p xs, w = .ref p ∧ (SqL K H p xs ∨ SqT K H p xs) ∧ flatV v = true ∧ xs.all flatV = true ∧ b = inV v xs) := by
  unfold dInB at h
  have anyI : ∀ (ns : List Int) (k : Int), (ns.any fun n => n == k) = inV (.int k) (ns.map V.int) := fun ns k => by
    unfold inV
    induction ns with
    | nil => rfl
    | cons n ns ih => simp only [List.any_cons, List.map_cons, ih]; rfl
  cases y with
  | lst ys =>
    simp only at h
    split at h
    · rename_i hz
      simp only [Bool.and_eq_true] at hz
      cases h
      exact .inl ⟨dat x, dats ys, r1.dp (lay_of hz.1), r2.dp (lay_of hz.2), hz.1, hz.2, rfl⟩
    · cases h
  | frz ys =>
    simp only at h
    split at h
    · rename_i hz
      simp only [Bool.and_eq_true] at hz
      cases h
      exact .inl ⟨dat x, dats ys, r1.dp (lay_of hz.1), r2.dp (lay_of hz.2), hz.1, hz.2, rfl⟩
    · cases h
  | tup ys =>
    simp only at h
    cases x with
    | int k =>
      simp only at h
      cases hi : toInts ys with
      | none => rw [hi] at h; cases h
      | some ns =>
        rw [hi] at h
        cases h
        have e := toInts_eq hi
        subst e
        cases r1
        cases r2 with
        | @tup a o vs _ _ ha hd s =>
          obtain ⟨ev, _⟩ := s.ints
          subst ev
          refine .inr ⟨a, ns.map V.int, rfl, .inr (SqT.frz ha), rfl, ?_, anyI ns k⟩
          simp [flatV]
    | _ => cases h
  | _ => cases h
theorem v_in (K : PySem.W.Frag) : V2 (rInA K) dIn := by
  intro H x y v w as bs k d Q r1 r2 e q
  unfold dIn at e
  cases hb : dInB x y with
  | none => rw [hb] at e; cases e
  | some b =>
    rw [hb] at e
    cases e
    rcases in_core (K := K) r1 r2 hb with ⟨d, ds, h1, h2, h3, h4, h5⟩ | ⟨p, xs, h1, h2, h3, h4, h5⟩
    · subst h5; exact .inl ⟨d, ds, h1, h2, h3, h4, q _ H [] (Ex.refl H) (.bl _) .nil⟩
    · subst h5; exact .inr ⟨p, xs, h1, h2, h3, h4, q _ H [] (Ex.refl H) (.bl _) .nil⟩
theorem v_notIn (K : PySem.W.Frag) : V2 (rNotInA K) dNotIn := by
  intro H x y v w as bs k d Q r1 r2 e q
  unfold dNotIn at e
  cases hb : dInB x y with
  | none => rw [hb] at e; cases e
  | some b =>
    rw [hb] at e
    cases e
    rcases in_core (K := K) r1 r2 hb with ⟨d, ds, h1, h2, h3, h4, h5⟩ | ⟨p, xs, h1, h2, h3, h4, h5⟩
    · subst h5; exact .inl ⟨d, ds, h1, h2, h3, h4, q _ H [] (Ex.refl H) (.bl _) .nil⟩
    · subst h5; exact .inr ⟨p, xs, h1, h2, h3, h4, q _ H [] (Ex.refl H) (.bl _) .nil⟩
def dNeg : D → Option (Kd × D)
  | .int i => some (.new, .int (-i))
  | _ => none
theorem snd_neg {e : Expr} {p : P} {pos : Pos} (h : SndP X E e p) : SndP X E (.UnaryOp .USub e pos) (op1 dNeg p) := by
  obtain ⟨t, h1, h2⟩ := h
  refine ⟨_, pe_un un_neg h1, fun S env σ H Q o w => h2 S env σ H _ o ?_⟩
  unfold op1 at w
  cases hp : p env with
  | no => rw [hp] at w; exact w
  | ex x => rw [hp] at w; exact w
  | ok f d =>
    rw [hp] at w
    intro v H1 as e1 r1 m1 n1
    cases r1 with
    | int i => exact ⟨i, rfl, w _ H1 [] e1 (.int _) noMem fun _ => .nil H⟩
    | _ => exact (show False from w).elim
theorem reps_revP {H : Hp} : ∀ {xs : List D} {vs : List V} {as : List Addr}, Reps H xs vs as → ∃ bs, Reps H xs.reverse vs.reverse bs ∧ bs.Perm as
  | _, _, _, .nil => ⟨[], .nil, .refl _⟩
  | _, _, _, .cons (as := as) (bs := bs) r rs => by
    obtain ⟨cs, h1, h2⟩ := reps_revP rs
    refine ⟨cs ++ as, ?_, (List.perm_append_comm).trans (h2.append_left as)⟩
    rw [List.reverse_cons, List.reverse_cons]
    have : Reps H [_] [_] (as ++ []) := .cons r .nil
    rw [List.append_nil] at this
    exact h1.append this
end
end CB

namespace CB
open PySem L2 PySem.Spec PyProof.Rows
variable [CT]

section
variable {X : Cx} {E : XK}
def SndWG (X : Cx) (E : XK) (e : Expr) (m : GE) : Prop := ∃ t, PW X e t ∧ ∀ M N fx pin φ H env σ ts Q, Good M N fx pin φ H env σ ts → TGWant M N fx pin X.mg σ ts E Q (m env) → t σ H Q
theorem SndWG.t {e : Expr} {m : GE} (h : SndWG X E e m) : SndTG X E e m := let ⟨t, a, b⟩ := h; ⟨t, a.pt, b⟩
def loopW (c : GE) (m : SM) : Nat → Env → SR
  | 0, _ => .no
  | n + 1, env => match c env with
    | .ok _ (.bl true) e => match m e with
      | .nx e2 => loopW c m n e2
      | r => r
    | .ok _ (.bl false) e => .nx e
    | .ok _ _ _ => .no
    | .ex x e => .ex x e
    | .no => .no
def whileS (n : Nat) (c : GE) (m : SM) : SM := loopW c m n
theorem snds_while {c : Expr} {body : List Stmt} {p : GE} {m : SM} {pos : Pos} (n : Nat) (hp : PassesOwn (model X.prog X.w) X.A X.env X.xe) (hc : SndTG X E c p) (hb : SndB X E body m) : SndS X E (.While c body [] pos) (whileS n p m) := by
  obtain ⟨tc, c1, c2⟩ := hc
  obtain ⟨tb, b1, b2⟩ := hb
  refine ⟨_, ps_while hp c1 b1, fun M N fx pin φ H env σ ts K g w => ⟨fun k σ H => ∃ φ env, Good M N fx pin φ H env σ ts ∧ SWant M N fx pin X.mg ts E K (loopW p m k env), ⟨n, φ, env, g, w⟩, ?_⟩⟩
  rintro k σ H ⟨φ, env, g, w⟩
  refine c2 M N fx pin φ H env σ ts _ g ?_
  cases k with
  | zero => exact w.elim
  | succ k =>
    simp only [loopW] at w
    cases hp : p env with
    | no => rw [hp] at w; exact w
    | ex x e => rw [hp] at w; exact fun φ' H' c dx g' r => w φ' H' σ c dx g' r
    | ok f d e =>
      rw [hp] at w
      cases d with
      | bl b =>
        intro φ1 H1 g1
        cases b with
        | false => exact iteF (w φ1 H1 σ g1)
        | true =>
          refine iteT ⟨fun σ' H' => ∃ φ env, Good M N fx pin φ H' env σ' ts ∧ SWant M N fx pin X.mg ts E K (loopW p m k env), fun σ' H' h => ⟨k, Nat.lt_succ_self k, h⟩, b2 M N fx pin φ1 H1 e σ ts _ g1 ?_⟩
          simp only at w
          cases hm : m e with
          | no => rw [hm] at w; exact w
          | nx e2 => rw [hm] at w; exact fun φ' H' σ' g' => ⟨φ', e2, g', w⟩
          | rt o d e2 => rw [hm] at w; exact w
          | ex x e2 => rw [hm] at w; exact w
      | _ => exact (show False from w).elim
def parS (i j : Nat) (ms : List GA) : SM := fun env => match argsG ms env with
  | .ok us e => match valsU e us with
    | some [x, y] => if noL x && noL y then .nx ((e.set i (.val true x)).set j (.val true y)) else .no
    | _ => .no
  | .ex x e => .ex x e
  | .no => .no
theorem Good.setN {M N : Addr → Prop} {fx : Addr → HO → Prop} {pin : Nat → Option V} {φ : Lab} {H : Hp} {env : Env} {σ : L2.St} {ts : List Tmp} {i : Nat} {d : D} {v : V} (g : Good M N fx pin φ H env σ ts) (r : Rep H d v []) : Good M N fx pin (unl φ i) H (env.set i (.val true d)) (σ.set i (some v)) ts := by
  have g' := g.bind1 (i := i) r (fun a h => nomatch h)
  refine ⟨?_, g'.fix, g'.own, g'.free, fun k s h => ?_, g'.tmp⟩
  · exact g.len.set
  · by_cases hk : k = i
    · subst hk
      have hlen : k < env.length := by
        have := (List.getElem?_eq_some_iff.mp h).1
        rwa [List.length_set] at this
      rw [List.getElem?_set_self hlen] at h
      cases h
      exact ⟨v, by rw [List.getElem?_set_self (Nat.lt_of_lt_of_le hlen g.len.le)], [], r, noMem, noMem, fun _ => List.nodup_nil⟩
    · have h' := h
      rw [List.getElem?_set_ne (Ne.symm hk)] at h'
      exact g'.slot k s (by rw [List.getElem?_set_ne (Ne.symm hk)]; exact h')
theorem snds_par {i j : Nat} {x y : Str} {a b : Expr} {ms : List GA} {px py pt pos : Pos} {kt k2 : Nat} {pt2 : Pos} (hc : X.calm = true) (hN : X.N.Nodup) (hi : X.N[i]? = some x) (hj : X.N[j]? = some y) (hij : i ≠ j) (hx : X.env.scope.names.lookup x = some .local) (hy : X.env.scope.names.lookup y = some .local) (h : SndAG X E [a, b] ms)
    (hw : swappedStores [.Tuple [.Name x px, .Name y py] kt pt] (.Tuple [a, b] k2 pt2) X.env = pure (some [x, y])) (hs : swapsWithSole [.Tuple [.Name x px, .Name y py] kt pt] (.Tuple [a, b] k2 pt2) pos.line X.env = pure false := by rfl) :
    SndS X E (.Assign [.Tuple [.Name x px, .Name y py] kt pt] (.Tuple [a, b] k2 pt2) pos) (parS i j ms) := by
  obtain ⟨t, h1, h2⟩ := h
  refine ⟨_, ps_par hc hN hi hj hij hx hy h1 hw hs, fun M N fx pin φ H env σ ts K g w => h2 M N fx pin φ H env σ ts _ g ?_⟩
  unfold parS at w
  cases hm : argsG ms env with
  | no => rw [hm] at w; exact w
  | ex x e => rw [hm] at w; exact fun φ' H' c dx g' r => w φ' H' σ c dx g' r
  | ok us e' =>
    rw [hm] at w
    intro φ1 H1 vs ws hv g1
    simp only at w
    split at w
    · rename_i d1 d2 hd
      obtain ⟨as, ra⟩ := hv.reps g1 hd
      obtain ⟨v1, v2, bs, cs, e1, r1, r2, _⟩ := ra.two
      subst e1
      split at w
      · rename_i hn
        simp only [Bool.and_eq_true] at hn
        have z1 := r1.noL hn.1
        have z2 := r2.noL hn.2
        subst z1 z2
        exact ⟨v1, v2, rfl, w _ H1 _ ((g1.drops.setN (i := i) r1).setN (i := j) r2)⟩
      · exact w.elim
    · exact w.elim
theorem u65 {k : Nat} {A : Around} (r : RoomG k A) : A.units + 65 < cLine := by have := r.un; omega
def extendG (i : Nat) (m : GE) : GE := fun env => match Env.look env i with
  | some (.lst _) => match m env with
    | .ok o (.lst ys) env1 => match myLst env1 i with
      | some (s, xs) => if (o || noLs ys) && szOk (xs.length + ys.length) then .ok true .non (env1.set i (s.put (.lst (xs ++ ys)))) else .no
      | none => .no
    | .ok _ _ _ => .no
    | .ex x e => .ex x e
    | .no => .no
  | _ => .no
theorem snde_extend {i : Nat} {x : Str} {e : Expr} {m : GE} {p apos cpos : Pos} (hN : X.N[i]? = some x) (hvx : Vis X.env.scope x) (h : SndE X E e m)
    (hbase : attributeBase (.Name x p) ("extend" : Str) X.env (eval (.Name x p) X.env) = eval (.Name x p) X.env := by rfl)
    (hfew : ((backTo cpos (starEach [e] X.env)).all (fun x => !x.1) && (backToKw cpos (keywordEach [] X.env)).all (fun x => x.1.isSome)
      && decide (([e] : List Expr).length + ([] : List Keyword).length + (if ([] : List Keyword).isEmpty then 0 else 1) < 30)) = true := by rfl)
    (hline : (apos.endLine == cpos.line) = true := by rfl) (hs : starEach [e] X.env = (false, eval e X.env) :: starEach [] X.env := by rfl) (hplain : (backTo cpos (starEach [] X.env)).any (·.1) = false := by rfl)
    (hd : (x == ("__debug__" : Str)) = false := by decide) (hcd : (x == ("__classdict__" : Str)) = false := by decide) :
    SndE X E (.Call (.Attribute (.Name x p) ("extend" : Str) apos) [e] [] cpos) (extendG i m) := by
  obtain ⟨t, h1, h2⟩ := h
  refine ⟨_, pe_bm PySem.F.plainAttrs_list PySem.F.slot_list_extend PySem.F.type_list_extend mt_extend (pe_var hN hvx hd hcd) (pa_cons h1 pa_nil hs) hbase hfew hline hs hplain, fun M N fx pin φ H env σ ts Q g w => ?_⟩
  unfold extendG at w
  split at w
  · rename_i xs0 hl
    obtain ⟨a0, vs0, k1, k2⟩ := look_lst g hl
    refine ⟨.ref a0, k1, tyV_list k2, h2 M N fx pin φ H env σ ts _ g ?_⟩
    cases hm : m env with
    | no => rw [hm] at w; exact w
    | ex x e => rw [hm] at w; exact w
    | ok o d env1 =>
      rw [hm] at w
      intro φ1 H1 v g1
      cases d with
      | lst ys =>
        simp only at w
        split at w
        · rename_i s xs hy
          split at w
          · rename_i hz
            simp only [Bool.and_eq_true] at hz
            obtain ⟨a, vs, as, e1, e2, e3, e4, e5, e6, e7, e8, e9, e10⟩ := myLst_ok g1 hy
            rw [k1] at e3; cases e3
            obtain ⟨bs0, r, mm, q, n⟩ := g1.tmp ts.length (o, .lst ys, v) (by simp)
            cases r with
            | @lst b ws _ bs hb rs =>
              have own : bs.Nodup ∧ ∀ c ∈ bs, M c ∧ φ1 c = some (.tmp ts.length) := by
                cases o with
                | true => exact ⟨(List.nodup_cons.mp (n rfl)).2, fun c hc => ⟨mm c (List.mem_cons_of_mem _ hc), q c (List.mem_cons_of_mem _ hc)⟩⟩
                | false =>
                  have z : bs = [] := rs.noL (by simpa using hz.1)
                  subst z
                  exact ⟨List.nodup_nil, noMem⟩
              have hno := List.nodup_cons.mp e9
              have hab : a0 ∉ bs := fun z => by have := (own.2 _ z).2; rw [e5] at this; cases this
              have disj : ∀ c ∈ as, c ∉ bs := fun c hc hc2 => by have := (own.2 _ hc2).2; rw [(e10 c hc).2] at this; cases this
              have naa : a0 ∉ as ++ bs := fun z => (List.mem_append.mp z).elim hno.1 hab
              refine ⟨a0, b, vs, ws, rfl, rfl, e6, hb, szOk_le (by rw [← e8.length, ← rs.length]; exact hz.2), w _ _ _ (g1.mut (us := [(o, .lst ys, .ref b)]) (bs := []) (rs := some (.non, .non)) (as := a0 :: (as ++ bs)) e1 e2 k1 e4 e5 e6 (.lst upd_same ((e8.append rs).upd e6 naa)) (List.nodup_cons.mpr ⟨naa, nodup_snoc hno.2 own.1 disj⟩) (fun c hc => ⟨by simp, ?_⟩) (fun d w e => by cases e; exact .non) List.nodup_nil fun c z => nomatch z)⟩
              rcases List.mem_cons.mp hc with z | z
              · subst z; exact ⟨e7, .inl e5⟩
              · rcases List.mem_append.mp z with z | z
                · exact ⟨(e10 c z).1, .inl (e10 c z).2⟩
                · exact ⟨(own.2 c z).1, .inr (own.2 c z).2⟩
          · exact w.elim
        · exact w.elim
      | _ => exact (show False from w).elim
  · exact w.elim
end
end CB

namespace PySem
section
open PySem PySem.Spec PySem.Calls PyProof.Rows HT
variable {prog : Program} {w : World} {A : Around} {E : Value → Shared → Prop} {s : Shared}
end
end PySem
namespace CB
open PySem L2 PySem.Spec PyProof.Rows
variable [CT]
section
variable {X : Cx} {E : XK}
def rSumA (K : PySem.W.Frag) : List V → Hp → VK → Prop := fun vs H Q => ∃ (a : Addr) (ns : List Int), vs = [V.ref a] ∧ (SqL K H a (ns.map V.int) ∨ SqT K H a (ns.map V.int)) ∧ Q (.int ns.sum) H
theorem cr_sumA (hc : X.calm = true) : CallR X (.builtin "sum") (rSumA X.K) := by
  intro pins s σ H vs us Q I r h
  obtain ⟨a, ns, rfl, hs | hs, q⟩ := h
  · exact cr_sum hc pins s σ H _ us Q I r ⟨a, ns, rfl, hs, q⟩
  · obtain ⟨its, rv, hl, _⟩ := I.tuple hs
    rw [Vals.ref1 r]
    have hi := rv.ints
    obtain ⟨xs, e⟩ := hi.allInts.items
    have hn : numsOf (intItems xs).toList = ns := by rw [← e]; exact hi.numsOf
    rw [nums_intItems] at hn
    rw [e] at hl
    refine PySem.W.ktm_sumG (I.ok.hd hc) hl fun h' tk t' hk => ?_
    rw [preSum_eq, List.take_of_length_le (by simp), hn]
    exact ⟨.int _, H, I.kept hk, ⟨_, rfl⟩, q⟩
def dSumA : List D → Option (Kd × D)
  | [.lst xs] => (toInts xs).map fun ns => (.new, .int ns.sum)
  | [.tup xs] => (toInts xs).map fun ns => (.new, .int ns.sum)
  | _ => none
theorem v_sumA (K : PySem.W.Frag) : VN (rSumA K) dSumA := by
  intro H ds vs as k d Q rs e q
  match ds, e with
  | [.lst xs], e =>
    simp only [dSumA] at e
    cases hi : toInts xs with
    | none => rw [hi] at e; cases e
    | some ns =>
      rw [hi] at e
      cases e
      obtain ⟨v, ev, rv⟩ := rs.one
      subst ev
      have e2 := toInts_eq hi
      subst e2
      cases rv with
      | @lst a vs _ as' ha s =>
        obtain ⟨e3, _⟩ := s.ints
        subst e3
        exact ⟨a, ns, rfl, .inl (SqL.of ha), q _ H [] (Ex.refl H) (.int _) .nil⟩
  | [.tup xs], e =>
    simp only [dSumA] at e
    cases hi : toInts xs with
    | none => rw [hi] at e; cases e
    | some ns =>
      rw [hi] at e
      cases e
      obtain ⟨v, ev, rv⟩ := rs.one
      subst ev
      have e2 := toInts_eq hi
      subst e2
      cases rv with
      | @tup a o vs _ as' ha hd s =>
        obtain ⟨e3, _⟩ := s.ints
        subst e3
        exact ⟨a, ns, rfl, .inr (SqT.frz ha), q _ H [] (Ex.refl H) (.int _) .nil⟩
end
end CB

namespace CB
open PySem L2 PySem.Spec PyProof.Rows
variable [CT]

abbrev IG := Env → ItR
def IGWant (M N : Addr → Prop) (fx : Addr → HO → Prop) (pin : Nat → Option V) (mg : Str → Option Value) (σ : L2.St) (ts : List Tmp) (E : XK) (R : It → Hp → Prop) : ItR → Prop
  | .ok ds env' => ∀ φ' H' J fi cD cV us, Good M N (fun a o => fx a o ∨ fi a o) pin φ' H' env' σ (ts ++ us) → Serves J fi ds cD cV → (∀ i, i < ds.length → (cD i).length = (cV i).length ∧ ∀ t ∈ shT (cD i) (cV i), t ∈ us) → (∀ t ∈ us, t.1 = false) → R J H'
  | .ex x env' => ∀ φ' H' c dx, Good M N fx pin φ' H' env' σ ts → XR mg x c dx H' → E c dx H'
  | .no => False
def SndIG (X : Cx) (E : XK) (tg iter : Expr) (κ : IG) : Prop := ∃ wi, PI X tg iter wi ∧ ∀ M N fx pin φ H env σ ts R, Good M N fx pin φ H env σ ts → IGWant M N fx pin X.mg σ ts E R (κ env) → wi σ H R
section
variable {X : Cx} {E : XK} {tg : Expr}
theorem sndig_pure {iter : Expr} {ι : I} (ks : List Nat) (h : SndI X E tg iter ι) : SndIG X E tg iter (iterS ks ι) := by
  obtain ⟨wi, i1, i2⟩ := h
  refine ⟨wi, i1, fun M N fx pin φ H env σ ts R g w => iter_open ks i2 g ?_⟩
  cases hι : iterS ks ι env with
  | no => rw [hι] at w; exact w
  | ex x e => rw [hι] at w; exact w
  | ok ds env' => rw [hι] at w; exact fun φ' H' J fi cD cV us _ g' sv hl hus => w φ' H' J fi cD cV us g' sv hl hus
end
section
variable {X : Cx} {E : XK}
end
end CB

namespace CB
open PySem L2 PySem.Spec PyProof.Rows
variable [CT]
open AutoSeq1 (wpAny_loadPart')

set_option maxHeartbeats 4000000 in
theorem meets_enum_newT (l : Addr) (items : Array Value) (n : Nat) (dct : Option Addr) (sl : Array (Option Value)) :
    Meets (Builtin.«enumerate.__new__» ⟨[.type "enumerate", .ref l], []⟩) (fun _ R s => s.heap.get? l = some { cls := .type "tuple", dict := dct, data := .seq items n, slots := sl } ∧
      R (.ok (.ret (.ref (s.heap.push { cls := .type "tuple_iterator", data := .fields #[.ref l, .int 0 0] }).objs.size)))
        { s with heap := (s.heap.push { cls := .type "tuple_iterator", data := .fields #[.ref l, .int 0 0] }).push { cls := .type "enumerate", data := .fields #[.none, .bool false, .ref s.heap.objs.size, rawInt 0, .none, .none] } }) :=
  .of_wp fun prog w A R s h => by
    obtain ⟨hp, g, d, tk, os⟩ := s; obtain ⟨hl, h⟩ := h
    have hsub := sub_enumerate
    have hL : Heap.IsTuple (Shared.heap ⟨hp, g, d, tk, os⟩) l items := ⟨_, hl, rfl, n, rfl⟩
    wp_walk using wpAny_loadPart' hl
    refine wpAny_stack_any fun st => wpAny_pure ?_
    split
    · rename_i c _ _ _ _ _
      cases (c == Value.type "enumerate")
      · wp_walk using wpAny_loadPart' hl, wpAny_pyIter_tuple hL
        exact ⟨_, rfl, h⟩
      · wp_walk using wpAny_loadPart' hl, wpAny_pyIter_tuple hL
        exact ⟨_, rfl, h⟩
    · wp_walk using wpAny_loadPart' hl, wpAny_pyIter_tuple hL
      exact ⟨_, rfl, h⟩
section
variable {prog : Program} {w : World} {A : Around} {E : Value → Shared → Prop} {s : Shared}
theorem call_enum_tuple {l : Addr} {items : Array Value} {Q : Value → Shared → Prop} (hL : s.heap.IsTuple l items)
    (h : ∀ h', IsEnum h' (s.heap.objs.size + 1) s.heap.objs.size 0 .none → h'.IsTupleIter s.heap.objs.size l 0 → h'.objs.size = s.heap.objs.size + 2 →
      (∀ b o, s.heap.get? b = some o → h'.get? b = some o) → Q (.ref (s.heap.objs.size + 1)) { s with heap := h' }) :
    wpAny (model prog w) A (call (.type "enumerate") [.ref l]) Q E s := by
  obtain ⟨⟨c, dct, dt, sl⟩, hl, hc, n, hd⟩ := hL
  replace hc : c = .type "tuple" := hc
  replace hd : dt = .seq items n := hd
  subst hc hd
  refine callType_new F.called_enumerate (by decide) (F.typeCall_enumerate_1 _) (F.newCall_enumerate_1 _) (fun obj => F.args_object_init_2 obj _) F.entry_enumerate_new
    (meets_enum_newT l items n dct sl) ⟨hl, ?_⟩
  have hz : (s.heap.push { cls := .type "tuple_iterator", data := .fields #[.ref l, .int 0 0] }).objs.size = s.heap.objs.size + 1 := Heap.size_push ..
  show _ ∧ _
  rw [hz]
  have he : IsEnum ((s.heap.push { cls := .type "tuple_iterator", data := .fields #[.ref l, .int 0 0] }).push
      { cls := .type "enumerate", data := .fields #[.none, .bool false, .ref s.heap.objs.size, rawInt 0, .none, .none] }) (s.heap.objs.size + 1) s.heap.objs.size 0 .none := by
    have := Heap.get?_push_size (s.heap.push { cls := .type "tuple_iterator", data := .fields #[.ref l, .int 0 0] })
      (o := { cls := .type "enumerate", data := .fields #[.none, .bool false, .ref s.heap.objs.size, rawInt 0, .none, .none] }) rfl
    rw [hz] at this; exact this
  refine ⟨⟨_, he, rfl⟩, h _ he ⟨_, Heap.get?_push_of_some _ (Heap.get?_push_size _ rfl), rfl, rfl⟩ (by rw [Heap.size_push, hz]) fun b o x => Heap.get?_push_of_some _ (Heap.get?_push_of_some _ x)⟩
end
section
variable {prog : Program} {w : World} {A : Around} {E : Value → Shared → Prop} {s : Shared}
theorem enumT_end {e it l : Addr} {i : Nat} {items : Array Value} {old : Value} {Q : Option Value → Shared → Prop} (hh : A.handled = none)
    (he : IsEnum s.heap e it i old) (hit : s.heap.IsTupleIter it l i) (hl : s.heap.IsTuple l items) (hx : items[i]? = none)
    (hQ : ∀ h', Heap.ExtBut it s.heap h' → Q none { s with heap := h' }) : wpAny (model prog w) A (pyNext (.ref e)) Q E s := by
  have hT : s.TypeIs (.ref e) "enumerate" := ⟨_, he, rfl⟩
  unfold pyNext
  refine wpAny_bind (wpAny_attempt (wpAny_callSpecial?_slot (name := Str.ofString "__next__") hT F.slot_enumerate_next
    (wpAny_call_entry F.slot_enumerate_next hT F.entry_enumerate_next ?_ (F.args_enumerate_next_1 _))))
  show wpAny _ _ (field (.ref e) 2 >>= _) _ _ _
  refine wpAny_bind (wpAny_field he rfl (x := .ref it) rfl ?_)
  refine wpAny_bind (wpAny_nextOf_tuple_end hh hit hl hx fun h' x he' hx' => ?_)
  obtain ⟨o, ho, hc⟩ := hx'
  refine wpAny_bind (wpAny_isInstance (T := "StopIteration") (b := true) ⟨o, ho, hc⟩ isSubtype_stop ?_)
  exact wpAny_pure (hQ _ he')
end
def IteT (K : PySem.W.Frag) (a : Addr) : It :=
  ⟨fun i H => ∃ (xs : List V) (x : V), SqT K H a xs ∧ xs[i]? = some x, fun i H v H' => ∃ T x, v = .ref T ∧ H T = none ∧ H' = upd H T (.tup [.int (i : Nat), x]) ∧ ∀ xs, SqT K H a xs → xs[i]? = some x, fun i H => ∃ xs : List V, SqT K H a xs ∧ xs.length ≤ i⟩
theorem turn_enumT {P : Program} {w : World} {K : PySem.W.Frag} {elts : List Expr} {kk : Nat} {tpos : Pos} (a e it : Addr) :
    Turn P w K (.Tuple elts kk tpos) (IteT K a) [e, it] e (fun i h => (∃ old, IsEnum h e it ((i : Nat) : Int) old) ∧ h.IsTupleIter it a i ∧ e ≠ it ∧ a ≠ it ∧ e ≠ a) where
  mem := by simp
  obj := fun i h st b hb => by
    obtain ⟨⟨old, he⟩, ⟨o, ho, hc, hd⟩, _⟩ := st
    have e' : b = e ∨ b = it := by simpa using hb
    rcases e' with z | z
    · rw [z]; exact ⟨_, he, fun v q => nomatch q⟩
    · rw [z]; exact ⟨o, ho, fun v q => by rw [hd] at q; cases q⟩
  keep := fun i h h' st k => let ⟨⟨old, he⟩, hi, hne⟩ := st; ⟨⟨old, k e (by simp) _ he⟩, hi.at fun o q => k it (by simp) o q, hne⟩
  item := by
    intro X hP hw hK hc i pins s σ H E I hf st hg
    subst hP hw hK
    obtain ⟨⟨old, he⟩, hit, hne, hna, hea⟩ := st
    obtain ⟨xs, x, hq, hx⟩ := hg
    obtain ⟨its, rv, p, hz⟩ := I.tuple hq
    obtain ⟨u, hu, ru⟩ := rv.get hx
    have hel : e < s.heap.objs.size := Heap.lt_size he
    have hil : it < s.heap.objs.size := by obtain ⟨_, q, _⟩ := hit; exact Heap.lt_size q
    have hu' : its.toArray[i]? = some u := by simpa using hu
    have D := Draws.tuple (prog := X.prog) (w := X.w) (A := X.A.in1) (I.ok.hd hc) it a hna its.toArray
    have hlt : i < its.toArray.size := by
      rcases Nat.lt_or_ge i its.toArray.size with q | q
      · exact q
      · rw [Array.getElem?_eq_none q] at hu'; cases hu'
    refine wpAny_pyNext_enum_itemD D he ⟨hit, p⟩ hlt hne (by simp [hne, hea]) fun x0 h' tk hP ho hst' hT hsz hk => ?_
    have ex0 : x0 = u := by rw [hu'] at hP; exact (Option.some.inj hP).symm
    subst ex0
    refine ⟨_, rfl, wpAny_letOwnedTupleGo_enum (s := { s with heap := h', toks := tk + 1 }) ho fun h'' he' sb => ?_⟩
    have hT2 : h''.get? s.heap.objs.size = some { cls := .type "tuple", data := .seq #[.int i tk, x0] } := (sb.2 _ (Nat.ne_of_gt hel)).trans hT
    have new : ObjOk X.prog X.w (upd H s.heap.objs.size (.tup [.int (i : Nat), x])) h'' s.heap.objs.size (.tup [.int (i : Nat), x]) :=
      ⟨by show 2 ≤ sizeLine; decide, [.int i tk, x0], .cons ⟨_, rfl⟩ (.cons ru .nil), ⟨_, hT2, rfl, _, rfl⟩⟩
    have I1 : L2.Inv X pins σ (upd H s.heap.objs.size (.tup [.int (i : Nat), x])) { s with heap := h'', toks := tk + 1 } :=
      I.turnedNew (ch := [e, it]) (fun b ob hb q => (sb.2 b (fun z => hb (by simp [z]))).trans (hk b ob (fun z => hb (by simp [z])) (fun z => hb (by simp [z])) q)) hf (Nat.le_refl _) new
    refine ⟨.ref s.heap.objs.size, _, I1, rfl, ⟨_, x, rfl, I.hok.fresh (Nat.le_refl _), rfl, fun ys hy => by rw [I.tuple_inj hy hq]; exact hx⟩, ⟨⟨x0, ?_⟩, hst'.1.at fun o q => (sb.2 it (Ne.symm hne)).trans q, hne, hna, hea⟩, fun b hb => ?_⟩
    · have e1 : ((i + 1 : Nat) : Int) = (i : Int) + 1 := by omega
      rw [e1]; exact he'
    · have hb' : b < s.heap.objs.size := by
        have e' : b = e ∨ b = it := by simpa using hb
        rcases e' with z | z
        · rw [z]; exact hel
        · rw [z]; exact hil
      rw [upd_ne (Nat.ne_of_lt hb')]
      exact (hf b hb).1
  done := by
    intro X hP hw hK hc i pins s σ H E I hf st hg
    subst hP hw hK
    obtain ⟨⟨old, he⟩, hit, hne, hna, hea⟩ := st
    obtain ⟨xs, hq, hx⟩ := hg
    obtain ⟨its, rv, p, hz⟩ := I.tuple hq
    obtain ⟨f0, f1, f2, f3, f4, f5⟩ := hf it (by simp)
    have hl := rv.length
    exact enumT_end (I.ok.hd hc) he hit p (by simp; omega) fun h' eb => ⟨rfl, I.turned (t' := s.toks) (fun b o hb q => eb b o hb q) f0 f1 f3 f4 f5⟩
  self := fun A i s Q E st h => let ⟨⟨_, he⟩, _⟩ := st; wpAny_pyIter_enum he h
def iEnumA (K : PySem.W.Frag) (ta : TA) : TI := fun σ H R => ta σ H fun vs H1 => ∃ a, vs = [.ref a] ∧ ((∃ xs, SqL K H1 a xs ∧ R (Ite K a) H1) ∨ ∃ xs, SqT K H1 a xs ∧ R (IteT K a) H1)
theorem pi_enumA {X : Cx} {e : Expr} {ta : TA} {p pos tpos : Pos} {elts : List Expr} {kk : Nat} (hg : Gl X "enumerate") (hm : X.mg "enumerate" = none) (ha : PA X [e] ta) (hs : starEach [e] X.env = [(false, eval e X.env)] := by rfl) :
    PI X (.Tuple elts kk tpos) (.Call (.Name "enumerate" p) [e] [] pos) (iEnumA X.K ta) := by
  refine ⟨fun pins s σ H R I h => ?_⟩
  refine Call_ (ld_blt I hg hm boot_enumerate (PyProof.Rows.callWith_type1 (thn (ha.run pos pins s σ H _ I h) fun us s1 ⟨vs, H1, I1, r1, q1⟩ => ?_) hs rfl))
  obtain ⟨a, ex, q1⟩ := q1
  subst ex
  cases r1 with
  | cons r rr =>
    cases rr
    cases r
    rcases q1 with ⟨xs, hq, q⟩ | ⟨xs, hq, q⟩
    · obtain ⟨its, rv, p', hz⟩ := I1.list hq
      refine call_enumerate_list p'.isList fun h' he hit hsz hk => wpAny_pyIter_enum he ?_
      have I2 : L2.Inv X pins σ H1 { s1 with heap := h' } := I1.kept (t' := s1.toks) hk
      refine ⟨s1.heap.objs.size + 1, [s1.heap.objs.size + 1, s1.heap.objs.size], _, _, H1, rfl, I2, turn_enum a (s1.heap.objs.size + 1) s1.heap.objs.size, ⟨⟨.none, he⟩, hit, Nat.succ_ne_self _⟩, fun b hb => ?_, q⟩
      have e' : b = s1.heap.objs.size + 1 ∨ b = s1.heap.objs.size := by simpa using hb
      have hle : s1.heap.objs.size ≤ b := by
        rcases e' with z | z
        · rw [z]; exact Nat.le_add_right _ _
        · rw [z]; exact Nat.le_refl _
      exact I1.fpOk hle (I1.hok.fresh hle)
    · obtain ⟨its, rv, p', hz⟩ := I1.tuple hq
      have hla : a < s1.heap.objs.size := by obtain ⟨o, q, _⟩ := (show s1.heap.IsTuple a its.toArray from p'); exact Heap.lt_size q
      refine call_enum_tuple p' fun h' he hit hsz hk => wpAny_pyIter_enum he ?_
      have I2 : L2.Inv X pins σ H1 { s1 with heap := h' } := I1.kept (t' := s1.toks) hk
      refine ⟨s1.heap.objs.size + 1, [s1.heap.objs.size + 1, s1.heap.objs.size], _, _, H1, rfl, I2, turn_enumT a (s1.heap.objs.size + 1) s1.heap.objs.size, ⟨⟨.none, he⟩, hit, Nat.succ_ne_self _, Nat.ne_of_lt hla, Ne.symm (Nat.ne_of_lt (Nat.lt_succ_of_lt hla))⟩, fun b hb => ?_, q⟩
      have e' : b = s1.heap.objs.size + 1 ∨ b = s1.heap.objs.size := by simpa using hb
      have hle : s1.heap.objs.size ≤ b := by
        rcases e' with z | z
        · rw [z]; exact Nat.le_add_right _ _
        · rw [z]; exact Nat.le_refl _
      exact I1.fpOk hle (I1.hok.fresh hle)
def ienumA (p : P) : I := fun env => match p env with
  | .ok f (.lst xs) => .ok f (xs.zipIdx.map fun z => .tp0 [.int (z.2 : Nat), z.1])
  | .ok _ (.tup xs) => .ok true (xs.zipIdx.map fun z => .tp0 [.int (z.2 : Nat), z.1])
  | .ok _ _ => .no
  | .ex x => .ex x
  | .no => .no
section
variable {X : Cx} {E : XK}
theorem sndi_enumA {e : Expr} {p : P} {p1 pos tpos : Pos} {elts : List Expr} {kk : Nat} (h : SndP X E e p) (hg : Gl X "enumerate") (hm : X.mg "enumerate" = none) (hs : starEach [e] X.env = [(false, eval e X.env)] := by rfl) : SndI X E (.Tuple elts kk tpos) (.Call (.Name "enumerate" p1) [e] [] pos) (ienumA p) := by
  obtain ⟨t, h1, h2⟩ := h
  refine ⟨_, pi_enumA hg hm (pa_cons h1 pa_nil hs) hs, fun S env σ H R o w => h2 S env σ H _ o ?_⟩
  unfold ienumA at w
  cases hp : p env with
  | no => rw [hp] at w; exact w
  | ex x => rw [hp] at w; exact w
  | ok f d =>
    rw [hp] at w
    intro v H1 as e1 r1 m1 n1
    cases r1 with
    | @lst a vs xs as' h s =>
      refine ⟨a, rfl, .inl ⟨vs, SqL.of h, w _ H1 (fun b o => b = a ∧ o = .lst vs) (fun i => (xs[i]?).toList) (fun i => (vs[i]?).toList) e1 ⟨fun i H hi hf => ?_, fun i H x H' hf hy d hd => ?_, fun i H hi hf => ?_, fun i d hd hn => ?_⟩ (fun b o ⟨z1, z2⟩ => by subst z1 z2; exact .of h) (fun i hi => reps_each s (fun b hb => m1 b (List.mem_cons_of_mem _ hb)) i (by simpa using hi)) (fun z b o ⟨z1, _⟩ => ?_) fun b o ⟨z1, _⟩ => ?_⟩⟩
      · rw [List.length_map, List.length_zipIdx, s.length] at hi
        exact ⟨vs, vs[i], SqL.of (hf a _ ⟨rfl, rfl⟩).k, by simp⟩
      · obtain ⟨T, x', e1, e2, e3, e4⟩ := hy
        subst e1 e3
        obtain ⟨y, q1, q2⟩ := enum_get hd
        subst q2
        have e5 := e4 vs (SqL.of (hf a _ ⟨rfl, rfl⟩).k)
        refine ⟨Ex.new e2, fun as ra => ?_⟩
        simp only [q1, e5, Option.toList] at ra
        obtain ⟨v', ev, rv⟩ := Reps.one ra
        cases ev
        have : Reps H [.int (i : Nat), y] [.int (i : Nat), x'] ([] ++ (as ++ [])) := .cons (.int _) (.cons rv .nil)
        rw [List.nil_append, List.append_nil] at this
        exact this.pair T e2
      · rw [List.length_map, List.length_zipIdx, s.length] at hi
        exact ⟨vs, SqL.of (hf a _ ⟨rfl, rfl⟩).k, hi⟩
      · obtain ⟨y, q1, q2⟩ := enum_get hd
        subst q2
        simp only [q1, Option.toList, noLs, Bool.and_true]
        simpa [noL, noLs] using hn
      · subst z1; exact .inl ((n1 z).2 _ List.mem_cons_self)
      · subst z1; exact (m1 _ List.mem_cons_self).imp id .inl
    | @tup a ob vs xs as' h hd0 s =>
      refine ⟨a, rfl, .inr ⟨vs, SqT.frz h, w _ H1 (fun b o => b = a ∧ o = .frz ob (.tup vs)) (fun i => (xs[i]?).toList) (fun i => (vs[i]?).toList) e1 ⟨fun i H hi hf => ?_, fun i H x H' hf hy d hd => ?_, fun i H hi hf => ?_, fun i d hd hn => ?_⟩ (fun b o ⟨z1, z2⟩ => by subst z1 z2; exact .of h) (fun i hi => reps_each s (fun b hb => m1 b hb) i (by simpa using hi)) (fun z b o ⟨_, z1⟩ => ?_) fun b o ⟨_, z1⟩ => ?_⟩⟩
      · rw [List.length_map, List.length_zipIdx, s.length] at hi
        exact ⟨vs, vs[i], SqT.frz (hf a _ ⟨rfl, rfl⟩).k, by simp⟩
      · obtain ⟨T, x', e1, e2, e3, e4⟩ := hy
        subst e1 e3
        obtain ⟨y, q1, q2⟩ := enum_get hd
        subst q2
        have e5 := e4 vs (SqT.frz (hf a _ ⟨rfl, rfl⟩).k)
        refine ⟨Ex.new e2, fun as ra => ?_⟩
        simp only [q1, e5, Option.toList] at ra
        obtain ⟨v', ev, rv⟩ := Reps.one ra
        cases ev
        have : Reps H [.int (i : Nat), y] [.int (i : Nat), x'] ([] ++ (as ++ [])) := .cons (.int _) (.cons rv .nil)
        rw [List.nil_append, List.append_nil] at this
        exact this.pair T e2
      · rw [List.length_map, List.length_zipIdx, s.length] at hi
        exact ⟨vs, SqT.frz (hf a _ ⟨rfl, rfl⟩).k, hi⟩
      · obtain ⟨y, q1, q2⟩ := enum_get hd
        subst q2
        simp only [q1, Option.toList, noLs, Bool.and_true]
        simpa [noL, noLs] using hn
      · subst z1; exact .inr rfl
      · subst z1; exact .inr (.inr rfl)
    | _ => exact (show False from w).elim
end
end CB

namespace CB
open PySem L2 PySem.Spec PyProof.Rows
variable [CT]

section
variable {X : Cx} {pins : List (Addr × Obj)} {σ : L2.St} {H : Hp} {s : Shared} {a : Addr} {oe : Obj} {vs : Array Value}
end

section
variable {X : Cx} {x n y : Str} {c : Value} {i j : Nat} {body : List Stmt} {np p1 p2 p3 pos pos' : Pos} {tb : WX → TS} {Wout : WX}
end
end CB

namespace CB
open PySem L2 PySem.Spec PyProof.Rows
variable [CT]

abbrev VEs : List Value := [.type "ValueError", .type "Exception", .type "BaseException", .type "object"]
structure OwnX (K : PySem.W.Frag) (mg : Str → Option Value) (c : Str) (C : Addr) : Prop where
  m : mg c = some (.ref C)
  x : PySem.W.excIn K C VEs "ValueError.__new__" = true
  k : PySem.W.keepIn K (.ref C) = true
  b : PySem.W.subIn K (.ref C) (.type "BaseException") = some true
  t : PySem.W.typeIn K (.ref C) = some (.type "type")
def raiseS (c : Str) : SM := fun env => .ex ⟨c, [], []⟩ env
section
variable {X : Cx} {E : XK}
theorem snds_raise {c m : Str} {k : Nat} {p p2 pos pos' : Pos} (O : ∃ C, OwnX X.K X.mg c C) (hc : X.calm = true) (tk : Takes X (fun cl d _ H => E cl d H)) (hg : Gl X c) (hdb : (c == ("__debug__" : Str)) = false := by decide) :
    SndS X E (.Raise (some (.Call (.Name c p) [.Constant (.str m) k p2] [] pos)) none pos') (raiseS c) := by
  obtain ⟨C, O⟩ := O
  refine ⟨_, ps_raise hc tk (pmk_own PySem.F.excBase_ValueError O.x O.m O.k (raises_own O.b O.t) hg hdb), fun M N fx pin φ H env σ ts K g w => ?_⟩
  exact w φ H σ (.ref C) none g ⟨C, O.m, rfl, .inl ⟨rfl, rfl⟩⟩
end

section
variable (M N : Addr → Prop) (fx : Addr → HO → Prop) (pin : Nat → Option V) (mg : Str → Option Value) (σ : L2.St) (ts : List Tmp) (W : WX)
end
def cA (mg : Str → Option Value) (E : XK) (ps : List P) : TA := fun σ H Q => ∃ S env, ObsEnv S H env σ ∧ AWant S mg H Q E (args ps env)
theorem SndA.c {X : Cx} {E : XK} {es : List Expr} {ps : List P} (h : SndA X E es ps) : PA X es (cA X.mg E ps) := by
  obtain ⟨t, h1, h2⟩ := h
  exact ⟨fun pos pins s σ H Q I ⟨S, env, o, w⟩ => h1.run pos pins s σ H Q I (h2 S env σ H Q o w)⟩
section
variable {X : Cx} {E : XK} {k j n i : Nat} {pn : List Str} {x : Str} {p pos : Pos} {e : Expr} {es : List Expr} {ps : List P} {F : List D → PR}
def cT (mg : Str → Option Value) (p : P) : TT := fun σ H Q => ∃ S env, ObsEnv S H env σ ∧ TWant mg H Q E0 (p env)
theorem SndT.c {e : Expr} {p : P} (h : SndT X E0 e p) : PT X e (cT X.mg p) := by
  obtain ⟨t, h1, h2⟩ := h
  exact ⟨fun pins s σ H Q I ⟨S, env, o, w⟩ => h1.run pins s σ H Q I (h2 S env σ H Q o w)⟩
theorem Good.emp {M N : Addr → Prop} {fx : Addr → HO → Prop} {pin : Nat → Option V} {φ : Lab} {H : Hp} {env : Env} {σ : L2.St} {ts : List Tmp} (g : Good M N fx pin φ H env σ ts) (i : Nat) (u : Option V) : Good M N fx pin (unl φ i) H (env.set i .emp) (σ.set i u) ts where
  len := by exact ⟨by have := g.len.le; rw [List.length_set, List.length_set]; exact this, g.len.tab⟩
  fix := fun a o h => ⟨(g.fix a o h).1, by unfold unl; rw [(g.fix a o h).2]; simp⟩
  own := fun a h => g.own a fun z => h (by unfold unl; rw [z]; simp)
  free := g.free
  slot := fun k s h => by
    by_cases hk : k = i
    · subst hk
      have hl : k < env.length := by
        have := (List.getElem?_eq_some_iff.mp h).1
        rwa [List.length_set] at this
      rw [List.getElem?_set_self hl] at h
      cases h
      trivial
    · rw [List.getElem?_set_ne (Ne.symm hk)] at h
      rw [List.getElem?_set_ne (Ne.symm hk)]
      exact (g.slot k s h).keep fun o d v q => q.unl fun z => hk (by cases z; rfl)
  tmp := fun j t h => (g.tmp j t h).unl fun z => nomatch z
end
end CB

namespace CB
open PySem L2 PySem.Spec PyProof.Rows
variable [CT]

section
variable {X : Cx} {E : XK}
end
end CB

namespace CB
open PySem L2 PySem.Spec PyProof.Rows
variable [CT]

theorem items_int {P : Program} {w : World} : ∀ {ks : List Int} {us : List Value}, Vals (ks.map V.int) us → ItemsAre (intKind P w) ks us
  | [], _, r => by rw [List.map_nil] at r; cases r; exact .nil
  | k :: ks, _, r => by
    rw [List.map_cons] at r
    cases r with
    | cons h t => obtain ⟨tk, e⟩ := h; subst e; exact .cons (by simp [PySem.intKind, Value.isInt]) (items_int t)
theorem key_int {P : Program} {w : World} {H : Hp} {h : Heap} {a : Addr} {q : Obj} {ks : List Int} (ok : HOk P w H h) (e : H a = some (.frz q (.tup (ks.map V.int)))) : (tupleKind (intKind P w)).is h ks a := by
  obtain ⟨_, _, its, r, o, h1, h2, n, h3⟩ := (show ObjOk P w H h a (.frz q (.tup (ks.map V.int))) from ok a _ e)
  exact ⟨o, its.toArray, n, h1, h2, h3, by simpa using items_int r⟩
theorem dO_get {P : Program} {w : World} {H : Hp} {h : Heap} {a : Addr} {o : Obj} (ok : HOk P w H h) (e : H a = some (dO a o)) : h.get? a = some o :=
  (show ObjOk P w H h a (dO a o) from ok a _ e).1
theorem dO_ok {P : Program} {w : World} {H : Hp} {h : Heap} {a : Addr} {o : Obj} (e : h.get? a = some o) : ObjOk P w H h a (dO a o) :=
  ⟨e, ⟨o, e⟩, fun _ _ p k => k o p⟩
theorem dic_of {P : Program} {w : World} {H : Hp} {h : Heap} {a : Addr} {o : Obj} {es : Array DictEntry} {ep : Nat} {xs : Ents} (ok : HOk P w H h) (e : H a = some (dO a o)) (i : IsDic H a o es ep xs) : h.DictOfH (tupleKind (intKind P w)) a xs :=
  ⟨o, es, ep, dO_get ok e, i.ex, i.dat, i.ents, fun x hx => let ⟨_, h1, _⟩ := i.key x hx; key_int ok h1, i.nd⟩
theorem dic_raw {P : Program} {w : World} {H : Hp} {h : Heap} {a : Addr} {o : Obj} {es : Array DictEntry} {ep : Nat} (ok : HOk P w H h) (e : H a = some (dO a o)) (hx : o.ExactDict) (hd : o.data = .dict es ep) : h.DictRaw a es ep :=
  ⟨o, dO_get ok e, hx, hd⟩
structure DKey (H : Hp) (a b : Addr) (xs : Ents) (k : List Int) : Prop where
  dic : ∃ o es ep, H a = some (dO a o) ∧ IsDic H a o es ep xs
  key : ∃ q, H b = some (.frz q (.tup (k.map V.int)))
section
variable {X : Cx}
def rDIn : R2 := fun y x H Q => ∃ a b xs k, x = .ref a ∧ y = .ref b ∧ DKey H a b xs k ∧ Q (.bl (atKey xs k).isSome) H
theorem op_inD (hu : X.A.units + 1 < cLine) : OpR X (compareOp .In) rDIn := by
  intro pins s σ H y x u v Q I ry rx h
  obtain ⟨a, b, xs, k, rfl, rfl, ⟨⟨o, es, ep, ha, hi⟩, q, hb⟩, hq⟩ := h
  cases rx
  cases ry
  exact wpAny_in_heap (tupleKind_room_in1 hu) (key_int I.hok hb) hi.nsm (dic_of I.hok ha hi) ⟨.bl _, H, I.tok _, rfl, hq⟩
def rDNotIn : R2 := fun y x H Q => ∃ a b xs k, x = .ref a ∧ y = .ref b ∧ DKey H a b xs k ∧ Q (.bl (!(atKey xs k).isSome)) H
theorem op_notInD (hu : X.A.units + 1 < cLine) : OpR X (compareOp .NotIn) rDNotIn := by
  intro pins s σ H y x u v Q I ry rx h
  obtain ⟨a, b, xs, k, rfl, rfl, ⟨⟨o, es, ep, ha, hi⟩, q, hb⟩, hq⟩ := h
  cases rx
  cases ry
  exact wpAny_notIn_heap (tupleKind_room_in1 hu) (key_int I.hok hb) hi.nsm (dic_of I.hok ha hi) ⟨.bl _, H, I.tok _, rfl, hq⟩
end
end CB

namespace CB
open PySem L2 PySem.Spec PyProof.Rows
variable [CT]

def keyI : List D → Option (List Int)
  | [] => some []
  | .int i :: ds => (keyI ds).map (i :: ·)
  | _ :: _ => none
def keyOf : D → Option (List Int)
  | .tup xs => keyI xs
  | _ => none
theorem keyI_eq : ∀ {xs : List D} {k : List Int}, keyI xs = some k → xs = k.map D.int
  | [], _, h => by cases h; rfl
  | x :: xs, k, h => by
    cases x <;> simp only [keyI] at h <;> try cases h
    rename_i i
    cases e : keyI xs with
    | none => rw [e] at h; cases h
    | some k' => rw [e] at h; cases h; rw [List.map_cons, keyI_eq e]
theorem reps_intsD {H : Hp} : ∀ {k : List Int} {vs : List V} {as : List Addr}, Reps H (k.map D.int) vs as → vs = k.map V.int ∧ as = []
  | [], _, _, .nil => ⟨rfl, rfl⟩
  | i :: k, _, _, .cons r rs => by
    cases r
    obtain ⟨h1, h2⟩ := reps_intsD rs
    subst h1 h2
    exact ⟨rfl, rfl⟩
theorem Rep.key {H : Hp} {d : D} {v : V} {as : List Addr} {k : List Int} (r : Rep H d v as) (h : keyOf d = some k) : ∃ b q, v = .ref b ∧ H b = some (.frz q (.tup (k.map V.int))) ∧ q.dict = none ∧ as = [] := by
  cases r with
  | @tup a o vs xs _ ha hd s =>
    have e := keyI_eq h
    subst e
    obtain ⟨h1, h2⟩ := reps_intsD s
    subst h1 h2
    exact ⟨a, o, rfl, ha, hd, rfl⟩
  | _ => simp [keyOf] at h
theorem rep_key {H : Hp} {b : Addr} {q : Obj} {k : List Int} (h : H b = some (.frz q (.tup (k.map V.int)))) (hd : q.dict = none) : Rep H (.tup (k.map D.int)) (.ref b) [] := by
  refine .tup h hd ?_
  clear h
  induction k with
  | nil => exact .nil
  | cons i k ih => exact .cons (.int i) ih
section
variable {X : Cx} {E : XK}
end
end CB

namespace CB
open PySem L2 PySem.Spec PyProof.Rows
variable [CT]
section
variable {X : Cx} {E : XK}
variable {M N : Addr → Prop} {fx : Addr → HO → Prop} {pin : Nat → Option V} {φ φ' : Lab} {H H' : Hp} {env : Env} {σ : L2.St} {ts us : List Tmp}
theorem Reps.updE {xs : List D} {vs : List V} {as : List Addr} {a : Addr} {o0 o1 : HO} (r : Reps H xs vs as) (ha : H a = some o0) (i0 : Imm o0 = false) (n : a ∉ as) : Reps (L2.upd H a o1) xs vs as := r.keep fun c o hc hi => by
  have : c ≠ a := fun z => by
    subst z
    rcases hi with z | z
    · exact n z
    · rw [ha] at hc; cases hc; rw [i0] at z; cases z
  rw [upd_ne this]; exact hc
end
end CB

namespace CB
open PySem L2 PySem.Spec PyProof.Rows
variable [CT]
section
variable {X : Cx} {pins : List (Addr × Obj)} {σ : L2.St} {H : Hp} {s : Shared}
end
end CB

namespace CB
open PySem L2 PySem.Spec PyProof.Rows
variable [CT]
inductive AF where
  | ok (fds : List (Bool × D)) | ex (x : Xn) | no
section
variable {X : Cx} {E : XK}
variable {x : Str} {k n j r : Nat} {pn : List Str} {p pos : Pos} {e : Expr} {es : List Expr} {ps : List P}
end
end CB

namespace CB
open PySem L2 PySem.Spec PyProof.Rows
variable [CT]
section
variable {X : Cx} {E : XK}
end
end CB

namespace CB
open PySem L2 PySem.Spec PyProof.Rows
variable [CT]
omit [CT] in
theorem tuple_mul1 (l : Addr) (items : Array Value) (n : Nat) (dd : Option Addr) (sl : Array (Option Value)) (x : Int) (u : Tok) (c0 : (decide (x < -(2 ^ 63)) || decide (x ≥ 2 ^ 63)) = false) (c1 : (items.isEmpty || x == 1) = true) :
    Meets (Builtin.«tuple.__mul__» ⟨[.ref l, .int x u], []⟩) (fun _ R s => s.heap.get? l = some { cls := .type "tuple", dict := dd, data := .seq items n, slots := sl } ∧ R (.ok (.ret (Value.ref l))) s) :=
  .of_wp fun prog w A R s h => by
    obtain ⟨hp, g, d, tk, os⟩ := s
    obtain ⟨hl, h⟩ := h
    have f1 := AutoSeq1.idx_int
    wp_walk using wpAny_loadPart' hl
    repeat (first
      | (refine wpAny_ite_false (decide_eq_false (by rw [c0]; exact Bool.false_ne_true)) ?_; wp_walk using wpAny_loadPart' hl)
      | (refine wpAny_ite_true (decide_eq_true c1) ?_; wp_walk using wpAny_loadPart' hl))
    exact ⟨_, rfl, h⟩
omit [CT] in
theorem tuple_mul0 (l : Addr) (items : Array Value) (n : Nat) (dd : Option Addr) (sl : Array (Option Value)) (x : Int) (u : Tok) (c0 : (decide (x < -(2 ^ 63)) || decide (x ≥ 2 ^ 63)) = false) (c1 : (items.isEmpty || x == 1) = false) (c2 : (decide (x ≤ 0) || items.isEmpty) = true) :
    Meets (Builtin.«tuple.__mul__» ⟨[.ref l, .int x u], []⟩) (fun _ R s => s.heap.get? l = some { cls := .type "tuple", dict := dd, data := .seq items n, slots := sl } ∧
      R (.ok (.ret (Value.ref s.heap.objs.size))) { s with heap := s.heap.push { cls := Value.type "tuple", data := Data.seq #[] }, toks := s.toks }) :=
  .of_wp fun prog w A R s h => by
    obtain ⟨hp, g, d, tk, os⟩ := s
    obtain ⟨hl, h⟩ := h
    have f1 := AutoSeq1.idx_int
    wp_walk using wpAny_loadPart' hl
    repeat (first
      | (refine wpAny_ite_false (decide_eq_false (by rw [c0]; exact Bool.false_ne_true)) ?_; wp_walk using wpAny_loadPart' hl)
      | (refine wpAny_ite_false (decide_eq_false (by rw [c1]; exact Bool.false_ne_true)) ?_; wp_walk using wpAny_loadPart' hl)
      | (refine wpAny_ite_true (decide_eq_true c2) ?_; wp_walk using wpAny_loadPart' hl))
    exact ⟨_, rfl, h⟩
def repF {α : Type} (k : Int) (xs : List α) : List α := (List.replicate k.toNat xs).flatten
def rMulT (K : PySem.W.Frag) : R2 := fun x y H Q => ∃ l k xs, x = .ref l ∧ y = .int k ∧ SqT K H l xs ∧ xs ≠ [] ∧ -1000 ≤ k ∧ k ≤ 1000 ∧ xs.length ≤ 1000 ∧ (k = 1 → Q (.ref l) H) ∧ (k ≠ 1 → NewT (repF k xs) H Q)
section
variable {X : Cx}
theorem op_mulT : OpR X (binaryOp .Mult) (rMulT X.K) := by
  intro pins s σ H x y v u Q I rx ry h
  obtain ⟨l, k, xs, rfl, rfl, hT, hne, h1, h2, hz, q1, q2⟩ := h
  cases rx
  obtain ⟨t, rfl⟩ := ry
  obtain ⟨its, r, ⟨⟨cls, dd, data, sl⟩, ho, hc, n, hd⟩, hs⟩ := I.tuple hT
  simp only at hc hd
  subst hc hd
  have hle : its.length = xs.length := r.length.symm
  have hn : its ≠ [] := fun e => hne (by
    rw [e] at hle
    exact List.eq_nil_of_length_eq_zero hle.symm)
  have hi : its.toArray.isEmpty = false := by
    cases its with
    | nil => exact absurd rfl hn
    | cons a b => rfl
  have hsz0 : its.toArray.size = xs.length := by rw [List.size_toArray, hle]
  have c0 : (decide (k < -(2 ^ 63)) || decide (k ≥ 2 ^ 63)) = false := by
    rw [decide_eq_false (by omega), decide_eq_false (by omega)] <;> rfl
  refine wpAny_binaryOp_repeat_ref (T := "tuple") (U := "int") (by decide) ⟨_, ho, rfl⟩ (fun s' => typeIs_int s' k t) noFill_tuple_mul F.fills_int_mul F.slot_int_rmul repeat_tuple F.slot_int_index.lookup
    (call_meets F.slot_int_rmul (typeIs_int s k t) F.entry_int_rmul (F.args_int_rmul_2 _ _) (int_rmul_tuple k t l its.toArray n dd sl)
      ⟨ho, rfl, ⟨_, ho, rfl⟩, ?_⟩)
  by_cases hk1 : k = 1
  · have c1 : (its.toArray.isEmpty || k == 1) = true := by rw [hk1]; simp
    exact call_meets F.slot_tuple_mul ⟨_, ho, rfl⟩ F.entry_tuple_mul (F.args_tuple_mul_2 _ _) (tuple_mul1 l its.toArray n dd sl k t c0 c1) ⟨ho, .ref l, H, I, rfl, q1 hk1⟩
  · have c1 : (its.toArray.isEmpty || k == 1) = false := by
      rw [hi, Bool.false_or]
      exact beq_eq_false_iff_ne.mpr hk1
    by_cases hk0 : k ≤ 0
    · have c2 : (decide (k ≤ 0) || its.toArray.isEmpty) = true := by rw [decide_eq_true hk0]; rfl
      refine call_meets F.slot_tuple_mul ⟨_, ho, rfl⟩ F.entry_tuple_mul (F.args_tuple_mul_2 _ _) (tuple_mul0 l its.toArray n dd sl k t c0 c1 c2) ⟨ho, ?_⟩
      have e : repF k xs = [] := by unfold repF; rw [show k.toNat = 0 by omega]; rfl
      have I1 := Inv.tupF (s := s) I (xs := []) (its := []) .nil (Nat.zero_le _)
      have q := q2 hk1 s.heap.objs.size { cls := .type "tuple", data := .seq (([] : List Value)).toArray } (I.hok.fresh (Nat.le_refl _)) rfl
      rw [e] at q
      exact ⟨.ref s.heap.objs.size, _, I1, rfl, q⟩
    · have hm : ((its.toArray.size : Nat) : Int) * k ≤ 1000000 := by
        rw [hsz0]
        have a1 : ((xs.length : Nat) : Int) * k ≤ 1000 * k := Int.mul_le_mul_of_nonneg_right (by omega) (by omega)
        omega
      have flen : (List.replicate k.toNat its).flatten.length ≤ sizeLine := by
        rw [PyProof.Rows.lm_len_rep_flat, hle, sizeLine_eq]
        have a1 : k.toNat * xs.length ≤ 1000 * 1000 := Nat.mul_le_mul (by omega) hz
        omega
      have c2 : (decide (k ≤ 0) || its.toArray.isEmpty) = false := by
        rw [hi, Bool.or_false]
        exact decide_eq_false (by omega)
      have c4 : Builtin.Tuple.tupleTooMany (((its.toArray.size : Nat) : Int) * k) = false := by
        unfold Builtin.Tuple.tupleTooMany
        rw [sizeLine_eq]
        exact decide_eq_false (by omega)
      refine call_meets F.slot_tuple_mul ⟨_, ho, rfl⟩ F.entry_tuple_mul (F.args_tuple_mul_2 _ _) (tuple_mulW l its.toArray n dd sl k t c0 c1 c2 (by omega) c4 (by rw [size_rep, List.size_toArray]; exact flen)) ⟨ho, ?_⟩
      rw [size_rep]
      have I1 := Inv.tupF (s := s) I (r.rep k.toNat) (by rw [PyProof.Rows.lm_len_rep_flat, sizeLine_eq]; have a1 : k.toNat * xs.length ≤ 1000 * 1000 := Nat.mul_le_mul (by omega) hz; omega)
      exact ⟨.ref s.heap.objs.size, _, I1, rfl, q2 hk1 _ _ (I.hok.fresh (Nat.le_refl _)) rfl⟩
def rMulS (K : PySem.W.Frag) : R2 := fun x y H Q => rMulA x y H Q ∨ rMulT K x y H Q ∨ rRep x y H Q
theorem op_mulS : OpR X (binaryOp .Mult) (rMulS X.K) := op_mulA.or (op_mulT.or op_rep)
def dMulS : D → D → Option (Kd × D)
  | .int i, .int j => if mulOk i j then some (.new, .int (i * j)) else none
  | .tup xs, .int k => if decide (-1000 ≤ k) && decide (k ≤ 1000) && decide (xs.length ≤ 1000) && noLs xs && !xs.isEmpty then some (.new, .tup (repF k xs)) else none
  | .lst xs, .int k => if decide (-1000 ≤ k) && decide (k ≤ 1000) && decide (xs.length ≤ 1000) && noLs xs then some (.new, .lst (repF k xs)) else none
  | _, _ => none
theorem Reps.rep {H : Hp} {xs : List D} {vs : List V} (r : Reps H xs vs []) : ∀ n : Nat, Reps H (List.replicate n xs).flatten (List.replicate n vs).flatten []
  | 0 => .nil
  | n + 1 => by
    rw [List.replicate_succ, List.replicate_succ, List.flatten_cons, List.flatten_cons]
    have := r.append (Reps.rep r n)
    simpa using this
theorem v_mulS (K : PySem.W.Frag) : V2 (rMulS K) dMulS := by
  intro H x y v w as bs k d Q r1 r2 hf hq
  cases r2 with
  | int j =>
    cases r1 with
    | int i => exact .inl (v_mul H (.int i) (.int j) (.int i) (.int j) [] [] k d Q (.int i) (.int j) hf hq)
    | @tup a o vs xs as' ha hd s =>
      simp only [dMulS] at hf
      split at hf
      · rename_i hz
        cases hf
        simp only [Bool.and_eq_true, decide_eq_true_eq] at hz
        obtain ⟨⟨⟨⟨h1, h2⟩, h3⟩, h4⟩, h5⟩ := hz
        have e := s.noL h4
        subst e
        refine .inr (.inl ⟨a, j, vs, rfl, rfl, SqT.frz ha, fun z => ?_, h1, h2, by rw [← s.length]; exact h3, fun hk => ?_, fun hk p o' hp hd' => ?_⟩)
        · have := s.length; rw [z] at this; simp at this; subst this; simp at h5
        · have e : repF j xs = xs := by unfold repF; rw [hk]; simp
          rw [e] at hq
          exact hq _ H [] (Ex.refl H) (.tup ha hd s) KdOk.nil
        · exact hq _ _ [] (Ex.new hp) (.tup upd_same hd' ((Reps.rep s j.toNat).mono (Ex.new hp))) KdOk.nil
      · cases hf
    | @lst a vs xs as' ha s =>
      simp only [dMulS] at hf
      split at hf
      · rename_i hz
        cases hf
        simp only [Bool.and_eq_true, decide_eq_true_eq] at hz
        obtain ⟨⟨⟨h1, h2⟩, h3⟩, h4⟩ := hz
        have e := s.noL h4
        subst e
        have hl := s.length
        refine .inr (.inr ⟨a, j, vs, rfl, rfl, ha, by omega, by omega, ?_, fun p hp => ?_⟩)
        · rw [sizeLine_eq]
          have : vs.length * j.toNat ≤ 1000 * 1000 := Nat.mul_le_mul (by omega) (by omega)
          omega
        · exact hq _ _ [p] (Ex.new hp) (.lst upd_same ((Reps.rep s j.toNat).mono (Ex.new hp))) (KdOk.mk1 ⟨by simp, fun c hc => by simp at hc; subst hc; exact hp⟩)
      · cases hf
    | _ => simp [dMulS] at hf
  | _ => cases x <;> simp [dMulS] at hf
end
end CB

namespace CB
open PySem L2 PySem.Spec PyProof.Rows
variable [CT]
section
variable {X : Cx}
end
section
variable {X : Cx} {E : XK}
end
end CB

namespace CB
open PySem L2 PySem.Spec PyProof.Rows
variable [CT]
section
variable {prog : Program} {w : World} {A : Around} {E : Value → Shared → Prop} {s : Shared}
end
section
variable {X : Cx} {E : XK}
theorem PI.or {tg iter : Expr} {t u : TI} (h : PI X tg iter t) (h' : PI X tg iter u) : PI X tg iter (fun σ H R => t σ H R ∨ u σ H R) :=
  ⟨fun pins s σ H R I q => q.elim (h.run pins s σ H R I) (h'.run pins s σ H R I)⟩
end
end CB

namespace CB
open PySem L2 PySem.Spec PyProof.Rows
variable [CT]
section
variable {X : Cx} {E : XK}
theorem PG.or {tg : Expr} {t u : TG} (h : PG X tg t) (h' : PG X tg u) : PG X tg (fun v σ H Q => t v σ H Q ∨ u v σ H Q) :=
  ⟨fun pins s σ H v w Q I r q => q.elim (h.run pins s σ H v w Q I r) (h'.run pins s σ H v w Q I r)⟩
def rowOf : D → Option (List D)
  | .tup ds => some ds
  | .lst ds => some ds
  | _ => none
def unpA (is : List Nat) (m : GE) : SM := fun env => match m env with
  | .ok o d e => match rowOf d with
    | some ds => if !o || noL d || noLs ds then match setAll e is ds with
        | some e' => .nx e'
        | none => .no
      else .no
    | none => .no
  | .ex x e => .ex x e
  | .no => .no
theorem snds_unpA {ts : List Expr} {is : List Nat} {kk : Nat} {tpos pos : Pos} {e : Expr} {m : GE} (hcm : X.calm = true) (h : SndE X E e m) (hgs : SndGs X ts is) (hs : swapsWithSole [.Tuple ts kk tpos] e pos.line X.env = pure false := by rfl) (hw : swappedStores [.Tuple ts kk tpos] e X.env = pure none := by rfl)
    (h1 : (assignEach [.Tuple ts kk tpos] X.env).map (·.2) = [assign (.Tuple ts kk tpos) X.env] := by rfl) (hn : (assignEach ts X.env).length = is.length := by rfl) (hst : (assignEach ts X.env).findIdx? (·.1) = none := by rfl) : SndS X E (.Assign [.Tuple ts kk tpos] e pos) (unpA is m) := by
  obtain ⟨t, a1, a2⟩ := h
  obtain ⟨gg, b1, b2⟩ := hgs
  refine ⟨_, ps_asg a1 (PG.or (pg_tup hcm b1 hn hst) (pg_unl hcm b1 hn hst)) hs hw h1, fun M N fx pin φ H env σ ts K g w => a2 M N fx pin φ H env σ ts _ g ?_⟩
  unfold unpA at w
  cases hm : m env with
  | no => rw [hm] at w; exact w
  | ex x e => rw [hm] at w; exact fun φ' H' c dx g' r => w φ' H' σ c dx g' r
  | ok o d e' =>
    rw [hm] at w
    intro φ1 H1 v g1
    simp only at w
    split at w
    · rename_i ds hrow
      split at w
      · rename_i hz
        cases hb : setAll e' is ds with
        | none => rw [hb] at w; exact w.elim
        | some e2 =>
          rw [hb] at w
          obtain ⟨as, r, mm, lab, _⟩ := g1.tmp ts.length (o, d, v) (by simp)
          have core : ∀ {vs : List V} {bs : List Addr}, Reps H1 ds vs bs → (∀ a ∈ bs, a ∈ as) → ∃ φ2, Good M N fx pin φ2 H1 e2 (setV σ is vs) ts := by
            intro vs bs rs hsub
            refine g1.drop1.bindAll rs (fun a ha => ⟨mm a (hsub a ha), ?_⟩) hb
            simp only [Bool.or_eq_true] at hz
            rcases hz with (hz | hz) | hz
            · have := lab a (hsub a ha)
              simp only [Bool.not_eq_true'] at hz
              have hz' : o = false := hz
              rw [hz'] at this
              exact this
            · have z := r.noL hz
              subst z
              exact absurd (hsub a ha) (fun h => nomatch h)
            · have z := rs.noL hz
              subst z
              exact nomatch ha
          have hl := setAll_len hb
          cases r with
          | @tup a ob vs xs _ ha hd s =>
            cases hrow
            obtain ⟨φ2, g2⟩ := core s (fun a h => h)
            exact .inl ⟨a, vs, rfl, SqT.frz ha, by rw [← s.length, ← hl], b2 vs σ H1 _ (by rw [← s.length, ← hl]) (w φ2 H1 _ g2)⟩
          | @lst a vs xs as' ha s =>
            cases hrow
            obtain ⟨φ2, g2⟩ := core s (fun a h => List.mem_cons_of_mem _ h)
            exact .inr ⟨a, vs, rfl, SqL.of ha, by rw [← s.length, ← hl], b2 vs σ H1 _ (by rw [← s.length, ← hl]) (w φ2 H1 _ g2)⟩
          | _ => cases hrow
      · exact w.elim
    · exact w.elim
section
variable {M N : Addr → Prop} {fx : Addr → HO → Prop} {pin : Nat → Option V} {φ : Lab} {H : Hp} {env : Env} {σ : L2.St} {ts : List Tmp}
end
end
end CB

namespace CB
open PySem L2 PySem.Spec PyProof.Rows
variable [CT]
section
variable {X : Cx} {E : XK}
end
end CB

namespace CB
open PySem L2 PySem.Spec PyProof.Rows
variable [CT]
section
variable {X : Cx} {E : XK}
end
end CB

namespace CB
open PySem L2 PySem.Spec PyProof.Rows
variable [CT]
section
variable {M N : Addr → Prop} {fx : Addr → HO → Prop} {pin : Nat → Option V} {φ : Lab} {H H' : Hp} {env : Env} {σ : L2.St} {ts : List Tmp}
theorem Good.merge2 {x y : D} {vx vy : V} {a : Addr} {ob : Obj} (g0 : Good M N fx pin φ H env σ (ts ++ [(true, x, vx), (true, y, vy)])) (e : Ex H H') (ha : H' a = some (.frz ob (.tup [vx, vy]))) (hd : ob.dict = none) : ∃ φ', Good M N fx pin φ' H' env σ (ts ++ [(true, .tup [x, y], .ref a)]) := by
  have g := g0.ext e
  obtain ⟨ax, rx, mx, lx, nx⟩ := g.tmp ts.length (true, x, vx) (by simp)
  obtain ⟨ay, ry, my, ly, ny⟩ := g.tmp (ts.length + 1) (true, y, vy) (by simp)
  have lx' : ∀ b ∈ ax, φ b = some (.tmp ts.length) := fun b hb => lx b hb
  have ly' : ∀ b ∈ ay, φ b = some (.tmp (ts.length + 1)) := fun b hb => ly b hb
  have dj : ∀ b ∈ ax, b ∉ ay := fun b hb hb' => by
    have := lx' b hb
    rw [ly' b hb'] at this
    simp at this
  have oth : ∀ {l : Lb} {o : Bool} {d : D} {v : V}, l ≠ .tmp (ts.length + 1) → Held φ H' M l o d v → Held (fun b => if b ∈ ay then some (.tmp ts.length) else φ b) H' M l o d v := fun {l o d v} hl k => k.keep fun bs rb q => ⟨rb, fun b hb => by
    have hn : b ∉ ay := fun z => by
      have h1 := q b hb
      rw [ly' b z] at h1
      cases o with
      | true => simp at h1; exact hl h1.symm
      | false => cases h1
    show (if b ∈ ay then some (.tmp ts.length) else φ b) = _
    rw [if_neg hn]; exact q b hb⟩
  refine ⟨fun b => if b ∈ ay then some (.tmp ts.length) else φ b, ⟨g.len, fun c o h => ⟨(g.fix c o h).1, ?_⟩, fun c h => ?_, g.free, fun i s' h => (g.slot i s' h).keep fun o d v q => oth (fun z => nomatch z) q, fun j t h => ?_⟩⟩
  · have hn : c ∉ ay := fun z => by
      have := (g.fix c o h).2
      rw [ly' c z] at this; cases this
    show (if c ∈ ay then some (.tmp ts.length) else φ c) = _
    rw [if_neg hn]; exact (g.fix c o h).2
  · refine g.own c fun z => ?_
    by_cases hc : c ∈ ay
    · rw [ly' c hc] at z; cases z
    · exact h (by show (if c ∈ ay then some (.tmp ts.length) else φ c) = _; rw [if_neg hc]; exact z)
  · by_cases hj : j < ts.length
    · rw [List.getElem?_append_left hj] at h
      exact oth (fun z => by cases z; omega) (g.tmp j t (by rw [List.getElem?_append_left hj]; exact h))
    · have hj' : j = ts.length := by
        have := (List.getElem?_eq_some_iff.mp h).1
        simp at this; omega
      subst hj'
      simp at h
      subst h
      refine ⟨ax ++ (ay ++ []), .tup ha hd (.cons rx (.cons ry .nil)), fun b hb => ?_, fun b hb => ?_, fun _ => ?_⟩
      · rw [List.append_nil] at hb
        exact (List.mem_append.mp hb).elim (mx b) (my b)
      · rw [List.append_nil] at hb
        show (if b ∈ ay then some (.tmp ts.length) else φ b) = _
        rcases List.mem_append.mp hb with z | z
        · rw [if_neg (dj b z)]; exact lx' b z
        · rw [if_pos z]; rfl
      · rw [List.append_nil]
        exact List.nodup_append.mpr ⟨nx rfl, ny rfl, fun b hb c hc ec => dj b hb (ec ▸ hc)⟩
end
def pairO (ms : List GA) : GE := fun env => match argsG ms env with
  | .ok [.t true x, .t true y] env1 => .ok true (.tup [x, y]) env1
  | .ok _ _ => .no
  | .ex x e => .ex x e
  | .no => .no
section
variable {X : Cx} {E : XK}
theorem snde_pair {es : List Expr} {ms : List GA} {k : Nat} {pos : Pos} (h : SndAG X E es ms) : SndE X E (.Tuple es k pos) (pairO ms) := by
  obtain ⟨t, h1, h2⟩ := h
  refine ⟨_, pe_tupF h1, fun M N fx pin φ H env σ ts Q g w => h2 M N fx pin φ H env σ ts _ g ?_⟩
  unfold pairO at w
  cases ha : argsG ms env with
  | no => rw [ha] at w; exact w
  | ex x e => rw [ha] at w; exact w
  | ok us env1 =>
    rw [ha] at w
    intro φ1 H1 vs ws hvm g1
    split at w
    · rename_i x y e1 heq
      cases heq
      cases hvm with
      | @t _ _ vx _ vs' ws' hvm => cases hvm with
        | @t _ _ vy _ vs' ws' hvm =>
          cases hvm
          refine ⟨Nat.le_trans (by decide : 2 ≤ 900) (by decide), fun p o hp hd => ?_⟩
          obtain ⟨φ2, g2⟩ := g1.merge2 (Ex.new hp) (a := p) (ob := o) upd_same hd
          exact w φ2 _ _ g2
    · exact w.elim
    · cases ‹_ = _›
    · cases ‹_ = _›
end
end CB

namespace CB
open PySem L2 PySem.Spec PyProof.Rows PySem.W
variable [CT]
section
variable {X : Cx}
def rLtX (K : PySem.W.Frag) : R2 := fun x y H Q => rI0 (fun i j => .bl (decide (i < j))) x y H Q ∨ ∃ d e, Dp K H x d ∧ Dp K H y e ∧ alike d e = true ∧ d ≠ .none ∧ d.depth ≤ 60 ∧ Q (.bl (dataLt d e)) H
theorem op_ltX (hu : X.A.units + 64 < cLine) : OpR X (compareOp .Lt) (rLtX X.K) := by
  intro pins s σ H x y v u Q I rx ry h
  rcases h with h | h
  · exact op_lt pins s σ H x y v u Q I rx ry h
  · obtain ⟨d, e, hd, he, al, hn, dp, q⟩ := h
    obtain ⟨as, r1⟩ := Dp.reads I d x v hd rx
    obtain ⟨bs, r2⟩ := Dp.reads I e y u he ry
    exact lt_data r1 r2 al hn (by omega) ⟨.bl _, H, I, rfl, q⟩
end
def isTp : D → Bool
  | .tup _ => true
  | _ => false
def cmpOk (x y : D) : Bool := isTp x && eqOk x && eqOk y && alike (dat x) (dat y) && decide ((dat x).depth ≤ 60)
def dLtX (x y : D) : Option (Kd × D) := match x, y with
  | .int i, .int j => some (.new, .bl (decide (i < j)))
  | x, y => if cmpOk x y then some (.new, .bl (dataLt (dat x) (dat y))) else none
theorem cmp_ok {K : PySem.W.Frag} {H : Hp} {x y : D} {v w : V} {as bs : List Addr} (r1 : Rep H x v as) (r2 : Rep H y w bs) (h : cmpOk x y = true) : Dp K H v (dat x) ∧ Dp K H w (dat y) ∧ alike (dat x) (dat y) = true ∧ dat x ≠ .none ∧ (dat x).depth ≤ 60 := by
  simp only [cmpOk, Bool.and_eq_true, decide_eq_true_eq] at h
  obtain ⟨⟨⟨⟨h1, h2⟩, h3⟩, h4⟩, h5⟩ := h
  refine ⟨r1.dp (lay_of h2), r2.dp (lay_of h3), h4, ?_, h5⟩
  cases x <;> simp [isTp] at h1
  simp [dat]
theorem v_ltX (K : PySem.W.Frag) : V2 (rLtX K) dLtX := by
  intro H x y v w as bs k d Q r1 r2 hf hq
  unfold dLtX at hf
  split at hf
  · cases hf
    cases r1
    cases r2
    exact .inl ⟨_, _, rfl, rfl, hq _ H [] (Ex.refl H) (.bl _) KdOk.nil⟩
  · split at hf
    · rename_i h
      cases hf
      obtain ⟨a, b, c, e, f⟩ := cmp_ok (K := K) r1 r2 h
      exact .inr ⟨_, _, a, b, c, e, f, hq _ H [] (Ex.refl H) (.bl _) KdOk.nil⟩
    · cases hf
end CB

namespace CB
open PySem L2 PySem.Spec PyProof.Rows
variable [CT]
section
variable {M N : Addr → Prop} {fx : Addr → HO → Prop} {pin : Nat → Option V} {φ : Lab} {H H' : Hp} {env : Env} {σ : L2.St}
def unT (n : Nat) (φ : Lab) : Lab := fun a => match φ a with
  | some (.tmp j) => if j < n then some (.tmp j) else none
  | x => x
theorem unT_keep {n : Nat} {φ : Lab} {a : Addr} {l : Option Lb} (h : φ a = l) (hl : ∀ j, l = some (.tmp j) → j < n) : unT n φ a = l := by
  unfold unT
  rw [h]
  cases l with
  | none => rfl
  | some l => cases l with
    | slot i => rfl
    | tmp j => simp only; rw [if_pos (hl j rfl)]
theorem unT_some {n : Nat} {φ : Lab} {a : Addr} (h : unT n φ a ≠ none) : φ a ≠ none := fun z => h (by unfold unT; rw [z])
theorem Good.shareW {ts ws : List Tmp} (g : Good M N fx pin φ H env σ (ts ++ ws)) : Good M N fx pin (unT ts.length φ) H env σ ts := by
  have oth : ∀ {l : Lb} {o : Bool} {d : D} {v : V}, (∀ j, l = .tmp j → j < ts.length) → Held φ H M l o d v → Held (unT ts.length φ) H M l o d v := fun {l o d v} hl k => k.keep fun as r q => ⟨r, fun a ha => unT_keep (q a ha) fun j e => by
    cases o with
    | true => simp at e; exact hl j e
    | false => cases e⟩
  refine ⟨g.len, fun a o h => ⟨(g.fix a o h).1, unT_keep (g.fix a o h).2 fun j e => nomatch e⟩, fun a h => g.own a (unT_some h), g.free, fun i s h => (g.slot i s h).keep fun o d v k => oth (fun j e => nomatch e) k, fun j t h => ?_⟩
  have hj : j < ts.length := (List.getElem?_eq_some_iff.mp h).1
  exact oth (fun i e => by cases e; exact hj) (g.tmp j t (by rw [List.getElem?_append_left hj]; exact h))
end
section
variable {X : Cx} {E : XK}
end
end CB

namespace CB
open PySem L2 PySem.Spec PyProof.Rows
variable [CT]
section
variable {X : Cx} {E : XK}
end
end CB

namespace CB
open PySem L2 PySem.Spec PyProof.Rows
variable [CT]
section
variable {M N : Addr → Prop} {fx : Addr → HO → Prop} {pin : Nat → Option V} {φ : Lab} {H : Hp} {env : Env} {σ : L2.St} {ts : List Tmp}
end
section
variable {X : Cx} {E : XK}
end
end CB

namespace CB
open PySem L2 PySem.Spec PyProof.Rows
variable [CT]

def shOk (d : D) : Bool := eqOk d && (dat d).showable && decide ((dat d).depth ≤ 60) && decide ((dat d).shown.length ≤ sizeLine)
section
variable {X : Cx} {E : XK}
end
end CB

namespace CB
open PySem L2 PySem.Spec PyProof.Rows
variable [CT]
end CB

namespace CB
open PySem L2 PySem.Spec PyProof.Rows
variable [CT]
section
variable {M N : Addr → Prop} {fx : Addr → HO → Prop} {pin : Nat → Option V} {φ : Lab} {H H' : Hp} {env : Env} {σ : L2.St}
theorem Good.pushL {ts ws : List Tmp} {d : D} {v : V} {cs : List Addr} (g0 : Good M N fx pin φ H env σ (ts ++ ws)) (e : Ex H H') (r : Rep H' d v cs) (hn : cs.Nodup) (hc : ∀ a ∈ cs, H a = none ∨ (M a ∧ ∃ j, ts.length ≤ j ∧ φ a = some (.tmp j))) :
    ∃ φ', Good M N fx pin φ' H' env σ (ts ++ [(true, d, v)]) := by
  have g := g0.ext e
  have out : ∀ {a : Addr}, a ∈ cs → φ a = none → H a = none := fun {a} ha z => by
    rcases hc a ha with h | ⟨_, j, _, h⟩
    · exact h
    · rw [z] at h; cases h
  have kp : ∀ {l : Lb} {o : Bool} {d : D} {v : V}, (∀ j, l = .tmp j → j < ts.length) → Held φ H M l o d v → Held (fun b => if b ∈ cs then some (.tmp ts.length) else unT ts.length φ b) H' M l o d v := fun {l o d v} hl k => k.keep fun bs rb q => ⟨rb.mono e, fun a ha => by
    have hno : a ∉ cs := fun z => by
      rcases hc a z with h | ⟨_, j, hj, h⟩
      · exact rb.ne a ha h
      · have := q a ha
        rw [h] at this
        cases o with
        | true => simp at this; have := hl j this.symm; omega
        | false => cases this
    show (if a ∈ cs then some (.tmp ts.length) else unT ts.length φ a) = _
    rw [if_neg hno]
    exact unT_keep (q a ha) fun j ej => by
      cases o with
      | true => simp at ej; exact hl j ej
      | false => cases ej⟩
  refine ⟨fun b => if b ∈ cs then some (.tmp ts.length) else unT ts.length φ b, ⟨g.len, fun a o h => ⟨(g.fix a o h).1, ?_⟩, fun a h => ?_, g.free, fun i s h => (g0.slot i s h).keep fun o d v k => kp (fun j z => nomatch z) k, fun j t h => ?_⟩⟩
  · have hno : a ∉ cs := fun z => by
      have h0 := g0.fix a o h
      have := out z h0.2
      exact h0.1.not this
    show (if a ∈ cs then some (.tmp ts.length) else unT ts.length φ a) = _
    rw [if_neg hno]
    exact unT_keep (g.fix a o h).2 fun j ej => nomatch ej
  · by_cases ha : a ∈ cs
    · rcases hc a ha with z | ⟨_, j, _, z⟩
      · exact ⟨(g0.fresh z).1, r.there a ha⟩
      · exact g.own a (by rw [z]; exact fun y => nomatch y)
    · refine g.own a (unT_some (n := ts.length) fun z => h ?_)
      show (if a ∈ cs then some (.tmp ts.length) else unT ts.length φ a) = _
      rw [if_neg ha]; exact z
  · by_cases hj : j < ts.length
    · rw [List.getElem?_append_left hj] at h
      exact kp (fun i z => by cases z; exact hj) (g0.tmp j t (by rw [List.getElem?_append_left hj]; exact h))
    · have hj' : j = ts.length := by
        have := (List.getElem?_eq_some_iff.mp h).1
        simp at this; omega
      subst hj'
      simp at h
      subst h
      refine ⟨cs, r, fun a ha => ?_, fun a ha => ?_, fun _ => hn⟩
      · rcases hc a ha with z | ⟨z, _⟩
        · exact (g0.fresh z).2
        · exact z
      · show (if a ∈ cs then some (.tmp ts.length) else unT ts.length φ a) = _
        rw [if_pos ha]; rfl
def ownU : List U → Bool
  | [] => true
  | .t o d :: us => gfl o d && ownU us
  | .v _ :: _ => false
theorem Vm.owns {us : List U} {vs : List V} {ws : List Tmp} (h : Vm σ us vs ws) : ∀ {ts : List Tmp} {ds : List D}, Good M N fx pin φ H env σ (ts ++ ws) → ownU us = true → valsU env us = some ds → ∃ as, Reps H ds vs as ∧ as.Nodup ∧ ∀ a ∈ as, M a ∧ ∃ j, ts.length ≤ j ∧ φ a = some (.tmp j) := by
  induction h with
  | nil => intro ts ds g _ e; cases e; exact ⟨[], .nil, List.nodup_nil, fun a h => nomatch h⟩
  | @t o d v us vs ws hv ih =>
    intro ts ds g hu e
    simp only [ownU, Bool.and_eq_true] at hu
    simp only [valsU] at e
    cases e2 : valsU env us with
    | none => rw [e2] at e; cases e
    | some es =>
      rw [e2] at e; cases e
      obtain ⟨bs, rb, nb, lb⟩ := ih (ts := ts ++ [(o, d, v)]) (by simpa using g) hu.2 e2
      obtain ⟨as, ra, ma, la, na⟩ := g.tmp ts.length (o, d, v) (by simp)
      obtain ⟨as, ra, na, la⟩ : ∃ as, Rep H d v as ∧ as.Nodup ∧ ∀ a ∈ as, M a ∧ φ a = some (.tmp ts.length) := by
        cases o with
        | true => exact ⟨as, ra, na rfl, fun a ha => ⟨ma a ha, la a ha⟩⟩
        | false =>
          have z := ra.noL (by simpa [gfl] using hu.1)
          subst z
          exact ⟨[], ra, List.nodup_nil, noMem⟩
      refine ⟨as ++ bs, .cons ra rb, List.nodup_append.mpr ⟨na, nb, fun a ha b hb eq => ?_⟩, fun a ha => ?_⟩
      · subst eq
        obtain ⟨_, j, hj, z⟩ := lb a hb
        rw [(la a ha).2] at z
        cases z
        rw [List.length_append, List.length_singleton] at hj; omega
      · rcases List.mem_append.mp ha with z | z
        · exact ⟨(la a z).1, _, Nat.le_refl _, (la a z).2⟩
        · obtain ⟨m, j, hj, y⟩ := lb a z
          exact ⟨m, j, by rw [List.length_append] at hj; omega, y⟩
  | @v i v us vs ws hi hv ih => intro ts ds g hu; cases hu
end
def tmpU : List U → Bool
  | [] => true
  | .t _ _ :: us => tmpU us
  | .v _ :: _ => false
theorem Good.pushD {ts ws : List Tmp} {d : D} {v : V} {cs : List Addr} (g0 : Good M N fx pin φ H env σ (ts ++ ws)) (e : Ex H H') (r : Rep H' d v cs) (hc : ∀ a ∈ cs, H a = none ∨ (M a ∧ (φ a = none ∨ ∃ j, ts.length ≤ j ∧ φ a = some (.tmp j)))) :
    Good M N fx pin (unT ts.length φ) H' env σ (ts ++ [(false, d, v)]) := by
  have g := g0.shareW
  refine g.pushS e r (fun a ha => (hc a ha).elim .inr fun z => .inl z.1) (fun a ha => ?_)
  rcases hc a ha with z | ⟨_, z | ⟨j, hj, z⟩⟩
  · exact g.lab_none z
  · unfold unT; rw [z]
  · unfold unT; rw [z]; simp; omega
theorem Vm.tmps {us : List U} {vs : List V} {ws : List Tmp} (h : Vm σ us vs ws) : ∀ {ts : List Tmp} {ds : List D}, Good M N fx pin φ H env σ (ts ++ ws) → tmpU us = true → valsU env us = some ds → ∃ as, Reps H ds vs as ∧ ∀ a ∈ as, M a ∧ (φ a = none ∨ ∃ j, ts.length ≤ j ∧ φ a = some (.tmp j)) := by
  induction h with
  | nil => intro ts ds g _ e; cases e; exact ⟨[], .nil, fun a h => nomatch h⟩
  | @t o d v us vs ws hv ih =>
    intro ts ds g hu e
    simp only [tmpU] at hu
    simp only [valsU] at e
    cases e2 : valsU env us with
    | none => rw [e2] at e; cases e
    | some es =>
      rw [e2] at e; cases e
      obtain ⟨bs, rb, lb⟩ := ih (ts := ts ++ [(o, d, v)]) (by simpa using g) hu e2
      obtain ⟨as, ra, ma, la, na⟩ := g.tmp ts.length (o, d, v) (by simp)
      refine ⟨as ++ bs, .cons ra rb, fun a ha => ?_⟩
      rcases List.mem_append.mp ha with z | z
      · refine ⟨ma a z, ?_⟩
        have := la a z
        cases o with
        | true => exact .inr ⟨_, Nat.le_refl _, this⟩
        | false => exact .inl this
      · obtain ⟨m, y⟩ := lb a z
        exact ⟨m, y.imp_right fun ⟨j, hj, y⟩ => ⟨j, by rw [List.length_append] at hj; omega, y⟩⟩
  | @v i v us vs ws hi hv ih => intro ts ds g hu; cases hu
def linG (f : List D → Option (Kd × D)) (ms : List GA) : GE := fun env => match argsG ms env with
  | .ok us env1 => if ownU us then match valsU env1 us with
      | some ds => match f ds with
        | some (.ali, d) => .ok (noL d) d env1
        | some (_, d) => .ok true d env1
        | none => .no
      | none => .no
    else if tmpU us then match valsU env1 us with
      | some ds => match f ds with
        | some (_, d) => .ok (noL d) d env1
        | none => .no
      | none => .no
    else .no
  | .ex x e => .ex x e
  | .no => .no
section
variable {X : Cx} {E : XK}
theorem linG_read {r : List V → Hp → VK → Prop} {f : List D → Option (Kd × D)} (hv : VN r f) (ms : List GA) {M N : Addr → Prop} {fx : Addr → HO → Prop} {pin : Nat → Option V} {env : Env} {σ : L2.St} {ts : List Tmp} {Q : VK} (w : GWant M N fx pin X.mg σ ts E Q (linG f ms env)) :
    GAWant M N fx pin X.mg σ ts E (fun vs H => r vs H Q) (argsG ms env) := by
  unfold linG at w
  cases ha : argsG ms env with
  | no => rw [ha] at w; exact w
  | ex x e => rw [ha] at w; exact w
  | ok us env1 =>
    rw [ha] at w
    intro φ H vs ws hvm g
    simp only at w
    split at w
    · rename_i hu
      cases e1 : valsU env1 us with
      | none => rw [e1] at w; exact w.elim
      | some ds =>
        rw [e1] at w
        simp only at w
        obtain ⟨as, ra, na, la⟩ := hvm.owns g hu e1
        cases e2 : f ds with
        | none => rw [e2] at w; exact w.elim
        | some kd =>
          obtain ⟨k, d⟩ := kd
          rw [e2] at w
          refine hv H ds vs as k d Q ra e2 fun u H' cs e r ko => ?_
          cases k with
          | ali =>
            simp only at w
            cases hl : noL d with
            | true =>
              rw [hl] at w
              obtain ⟨φ', g'⟩ := g.pushL e r (by rw [r.noL hl]; exact List.nodup_nil) (by rw [r.noL hl]; exact fun a h => nomatch h)
              exact w _ _ _ g'
            | false =>
              rw [hl] at w
              exact w _ _ _ (g.pushD e r fun a h => (ko.1 a h).imp id fun z => ⟨(la a z).1, .inr (la a z).2⟩)
          | new =>
            have nw : New H cs := ko.2
            obtain ⟨φ', g'⟩ := g.pushL e r nw.1 fun a h => .inl (nw.2 a h)
            exact w _ _ _ g'
          | lin =>
            obtain ⟨φ', g'⟩ := g.pushL e r (ko.2 na) fun a h => (ko.1 a h).imp id (la a)
            exact w _ _ _ g'
    · split at w
      · rename_i hu
        cases e1 : valsU env1 us with
        | none => rw [e1] at w; exact w.elim
        | some ds =>
          rw [e1] at w
          simp only at w
          obtain ⟨as, ra, la⟩ := hvm.tmps g hu e1
          cases e2 : f ds with
          | none => rw [e2] at w; exact w.elim
          | some kd =>
            obtain ⟨k, d⟩ := kd
            rw [e2] at w
            simp only at w
            refine hv H ds vs as k d Q ra e2 fun u H' cs e r ko => ?_
            cases hl : noL d with
            | true =>
              rw [hl] at w
              obtain ⟨φ', g'⟩ := g.pushL e r (by rw [r.noL hl]; exact List.nodup_nil) (by rw [r.noL hl]; exact fun a h => nomatch h)
              exact w _ _ _ g'
            | false =>
              rw [hl] at w
              exact w _ _ _ (g.pushD e r fun a h => (ko.1 a h).imp id (la a))
      · exact w.elim
theorem two_lin {e1 e2 : Expr} {m1 m2 : GA} {r : R2} {f : D → D → Option (Kd × D)} (hv : V2 r f) (h1 : SndGA X E e1 m1) (h2 : SndGA X E e2 m2) : ∃ ta tb, PE X e1 ta ∧ PE X e2 tb ∧ ∀ M N fx pin φ H env σ ts Q, Good M N fx pin φ H env σ ts → GWant M N fx pin X.mg σ ts E Q (linG (opf f) [m1, m2] env) → ta σ H fun x H1 => tb σ H1 fun y H2 => r x y H2 Q := by
  obtain ⟨ta, tb, a1, b1, h⟩ := two_read h1 h2
  refine ⟨ta, tb, a1, b1, fun M N fx pin φ H env σ ts Q g w => h M N fx pin φ H env σ ts _ g ?_⟩
  have := linG_read (r := fun vs H Q => ∃ v w, vs = [v, w] ∧ r v w H Q) (f := opf f) (E := E) (fun H ds vs as k d Q ra hf hq => ?_) [m1, m2] w
  · exact this
  · unfold opf at hf
    split at hf
    · rename_i x y
      cases ra with
      | cons r1 rs => cases rs with
        | cons r2 rs =>
          cases rs
          refine ⟨_, _, rfl, hv H _ _ _ _ _ _ k d Q r1 r2 hf ?_⟩
          simpa using hq
    · cases hf
theorem snde_lin2 {op : Operator} {e1 e2 : Expr} {m1 m2 : GA} {r : R2} {f : D → D → Option (Kd × D)} {pos : Pos} (ho : OpR X (binaryOp op) r) (hv : V2 r f) (h1 : SndGA X E e1 m1) (h2 : SndGA X E e2 m2) : SndE X E (.BinOp e1 op e2 pos) (linG (opf f) [m1, m2]) := by
  obtain ⟨ta, tb, a1, b1, h⟩ := two_lin hv h1 h2
  exact ⟨_, pe_op ho a1 b1, h⟩
theorem snde_linIx {e1 e2 : Expr} {m1 m2 : GA} {r : R2} {f : D → D → Option (Kd × D)} {pos : Pos} (ho : IxR X r) (hv : V2 r f) (h1 : SndGA X E e1 m1) (h2 : SndGA X E e2 m2) (hm : PlainIx e2 := by intro _ _; rfl) : SndE X E (.Subscript e1 e2 pos) (linG (opf f) [m1, m2]) := by
  obtain ⟨ta, tb, a1, b1, h⟩ := two_lin hv h1 h2
  exact ⟨_, pe_ix ho a1 b1 hm, h⟩
end
end CB

namespace CB
open PySem L2 PySem.Spec PyProof.Rows
section
variable {pg : Program} {w : World} {A : Around} {E : Value → Shared → Prop} {s : Shared}
end
variable [CT]
section
variable {X : Cx} {E : XK}
end
end CB

namespace CB
open PySem L2 PySem.Spec PyProof.Rows
variable [CT]
def appD (d : D) : D → D
  | .lst zs => .lst (zs ++ [d])
  | x => x
def appOk : D → Bool
  | .lst zs => szOk zs.length
  | _ => false
def forApp (i j : Nat) (q : P) : SM := fun env => match env[i]? with
  | some (.val true (.lst xs)) => match q ((env.set i .emp).set j .emp) with
    | .ok _ d => if noL d && xs.all appOk && decide (i ≠ j) && decide (j < env.length) then .nx ((env.set i (.val true (.lst (xs.map (appD d))))).set j .emp) else .no
    | _ => .no
  | _ => .no
section
variable {M N : Addr → Prop} {fx : Addr → HO → Prop} {pin : Nat → Option V} {φ : Lab} {H H' : Hp} {env : Env} {σ : L2.St} {ts : List Tmp}
theorem Good.toEmp (g : Good M N fx pin φ H env σ ts) (i : Nat) : Good M N fx pin φ H (env.set i .emp) σ ts where
  len := by exact ⟨by have := g.len.le; rw [List.length_set]; exact this, g.len.tab⟩
  fix := g.fix
  own := g.own
  free := g.free
  slot := fun k s h => by
    by_cases hk : k = i
    · subst hk
      have hl : k < env.length := by have := (List.getElem?_eq_some_iff.mp h).1; rwa [List.length_set] at this
      rw [List.getElem?_set_self hl] at h
      cases h; trivial
    · rw [List.getElem?_set_ne (Ne.symm hk)] at h
      exact g.slot k s h
  tmp := g.tmp
theorem Good.rebind (g : Good M N fx pin φ H env σ ts) {j : Nat} {v : V} (h : ∀ s, env[j]? = some s → s = .emp) : Good M N fx pin φ H env (σ.set j (some v)) ts where
  len := by exact ⟨by have := g.len.le; rw [List.length_set]; exact this, g.len.tab⟩
  fix := g.fix
  own := g.own
  free := g.free
  slot := fun k s hs => by
    by_cases hk : k = j
    · subst hk; rw [h s hs]; trivial
    · rw [List.getElem?_set_ne (Ne.symm hk)]; exact g.slot k s hs
  tmp := g.tmp
theorem Good.mutHid (g : Good M N fx pin φ H env σ ts) {i : Nat} (hi : ∀ s, env[i]? = some s → s = .emp) {b : Addr} {ws ws' : List V} (hb : φ b = some (.slot i)) (hH : H b = some (.lst ws)) : Good M N fx pin φ (L2.upd H b (.lst ws')) env σ ts := by
  have kp : ∀ {l : Lb} {o : Bool} {d : D} {v : V}, l ≠ .slot i → Held φ H M l o d v → Held φ (L2.upd H b (.lst ws')) M l o d v := fun {l o d v} hl k => k.keep fun as r q => ⟨r.keep fun a u ha hi => by
    have : a ≠ b := fun z => by
      subst z
      rcases hi with z | z
      · have := q a z
        rw [hb] at this
        cases o with
        | true => simp at this; exact hl this.symm
        | false => simp at this
      · rw [hH] at ha; cases ha; cases z
    rw [upd_ne this]; exact ha, q⟩
  refine ⟨g.len.upd hH, fun a o h => ?_, fun a h => ?_, g.free, fun k s hs => ?_, fun j t h => kp (fun z => nomatch z) (g.tmp j t h)⟩
  · have h1 := g.fix a o h
    have : a ≠ b := fun z => by subst z; rw [hb] at h1; cases h1.2
    exact ⟨h1.1.upd this, h1.2⟩
  · obtain ⟨h1, o, h2, h3⟩ := g.own a h
    by_cases e : a = b
    · subst e; exact ⟨h1, _, upd_same, rfl⟩
    · exact ⟨h1, o, by rw [upd_ne e]; exact h2, h3⟩
  · by_cases hk : k = i
    · subst hk; rw [hi s hs]; trivial
    · exact (g.slot k s hs).keep fun o d v q => kp (fun z => hk (by cases z; rfl)) q
theorem Reps.at : ∀ {xs : List D} {vs : List V} {as : List Addr} {k : Nat} {d : D}, Reps H xs vs as → xs[k]? = some d → ∃ v bs cs es, vs[k]? = some v ∧ Rep H d v bs ∧ as = cs ++ (bs ++ es) ∧ ∀ (H' : Hp) (d' : D) (bs' : List Addr), (∀ a o, H a = some o → (a ∈ cs ++ es ∨ Imm o = true) → isTb o = false → H' a = some o) → Rep H' d' v bs' → Reps H' (xs.set k d') vs (cs ++ (bs' ++ es))
  | _, _, _, 0, _, .cons (as := as) (bs := bs) r rs, h => by
    cases h
    exact ⟨_, as, [], bs, rfl, r, by simp, fun H' d' bs' hk r' => by
      show Reps H' _ _ ([] ++ (bs' ++ bs))
      rw [List.nil_append]
      exact .cons r' (rs.keepT fun a o ha hi nt => hk a o ha (by simpa using hi) nt)⟩
  | _, _, _, k + 1, _, .cons (as := as) (bs := bs) r rs, h => by
    obtain ⟨v, bs1, cs, es, h1, h2, h3, h4⟩ := Reps.at rs (k := k) (by simpa using h)
    refine ⟨v, bs1, as ++ cs, es, by simpa using h1, h2, by rw [h3]; simp, fun H' d' bs' hk r' => ?_⟩
    have := h4 H' d' bs' (fun a o ha hi nt => hk a o ha (hi.imp_left fun z => by simp at z ⊢; rcases z with z | z <;> simp [z]) nt) r'
    rw [List.append_assoc]
    exact .cons (r.keepT fun a o ha hi nt => hk a o ha (hi.imp_left fun z => by simp [z]) nt) this
  | _, _, _, _, _, .nil, h => by simp at h
end
section
variable {X : Cx} {E : XK}
def ysk (d : D) (xs : List D) (k : Nat) : List D := (xs.take k).map (appD d) ++ xs.drop k
theorem ysk_get {d : D} {xs : List D} {k : Nat} (h : k < xs.length) : (ysk d xs k)[k]? = some xs[k] := by
  unfold ysk
  rw [List.getElem?_append_right (by simp; omega)]
  simp [List.length_take, Nat.min_eq_left (Nat.le_of_lt h)]
theorem ysk_set {d : D} {xs : List D} {k : Nat} (h : k < xs.length) : (ysk d xs k).set k (appD d xs[k]) = ysk d xs (k + 1) := by
  unfold ysk
  have e1 : ((xs.take k).map (appD d)).length = k := by simp; omega
  have e2 : xs.drop k = xs[k] :: xs.drop (k + 1) := List.drop_eq_getElem_cons h
  have e3 : xs.take (k + 1) = xs.take k ++ [xs[k]] := by rw [List.take_append_getElem]
  rw [List.set_append_right _ _ (by omega), e1, Nat.sub_self, e2, List.set_cons_zero, e3, List.map_append, List.append_assoc]
  rfl
theorem snds_forApp (i j : Nat) {x y : Str} {e : Expr} {q : P} {p py p2 apos cpos epos pos : Pos} (hp : PassesOwn (model X.prog X.w) X.A X.env X.xe) (hc : X.calm = true) (hN : X.N[i]? = some x) (hv : Vis X.env.scope x) (hNj : X.N[j]? = some y) (hvy : Vis X.env.scope y) (hg : SndG X (.Name y py) (.nm j)) (h : SndP X E e q)
    (hd : (x == ("__debug__" : Str)) = false := by decide) (hcd : (x == ("__classdict__" : Str)) = false := by decide) (hdy : (y == ("__debug__" : Str)) = false := by decide) (hcdy : (y == ("__classdict__" : Str)) = false := by decide)
    (hs : ∀ z, foldedSetIterable (.Name x p) X.env z = pure z := by intro _; rfl)
    (hbase : attributeBase (.Name y p2) ("append" : Str) X.env (eval (.Name y p2) X.env) = eval (.Name y p2) X.env := by rfl)
    (hfew : ((backTo cpos (starEach [e] X.env)).all (fun x => !x.1) && (backToKw cpos (keywordEach [] X.env)).all (fun x => x.1.isSome)
      && decide (([e] : List Expr).length + ([] : List Keyword).length + (if ([] : List Keyword).isEmpty then 0 else 1) < 30)) = true := by rfl)
    (hline : (apos.endLine == cpos.line) = true := by rfl) (hse : starEach [e] X.env = (false, eval e X.env) :: starEach [] X.env := by rfl) (hplain : (backTo cpos (starEach [] X.env)).any (·.1) = false := by rfl)
    (hsw : swapsWith (.Call (.Attribute (.Name y p2) ("append" : Str) apos) [e] [] cpos) none epos.line X.env = pure false := by rfl) :
    SndS X E (.For (.Name y py) (.Name x p) [.Expr (.Call (.Attribute (.Name y p2) ("append" : Str) apos) [e] [] cpos) epos] [] pos) (forApp i j q) := by
  obtain ⟨gg, q1, q2⟩ := hg
  obtain ⟨te, e1, e2⟩ := h
  refine ⟨_, ps_for hp hc (pi_seqF (pe_var hN hv hd hcd)) q1 (pss_one (ps_expr (pe_bm PySem.F.plainAttrs_list PySem.F.slot_list_append PySem.F.type_list_append mt_append (pe_var hNj hvy hdy hcdy) (pa_cons e1 pa_nil hse) hbase hfew hline hse hplain) hsw)) hs, fun M N fx pin φ H env σ ts K g w => ?_⟩
  unfold forApp at w
  cases he : env[i]? with
  | none => rw [he] at w; exact w.elim
  | some s =>
    rw [he] at w
    cases s with
    | emp => exact (show False from w).elim
    | pin => exact (show False from w).elim
    | top xs => exact (show False from w).elim
    | ref d => exact (show False from w).elim
    | val o d0 =>
      cases o with
      | false => exact (show False from w).elim
      | true =>
        cases d0 with
        | lst xs =>
          simp only at w
          cases hq : q ((env.set i .emp).set j .emp) with
          | no => rw [hq] at w; exact w.elim
          | ex z => rw [hq] at w; exact w.elim
          | ok f d =>
            rw [hq] at w
            simp only at w
            split at w
            · rename_i hz
              simp only [Bool.and_eq_true, decide_eq_true_eq] at hz
              obtain ⟨⟨⟨hz1, hz2⟩, hij⟩, hjl⟩ := hz
              obtain ⟨v0, hv0, as0, r0, m0, l0, n0⟩ := g.slot i _ he
              cases r0 with
              | @lst a vs _ as ha rs =>
                have lab : ∀ b ∈ a :: as, φ b = some (.slot i) := fun b hb => by simpa using l0 b hb
                have nd := n0 rfl
                have hna : a ∉ as := (List.nodup_cons.mp nd).1
                have hlen := rs.length
                have g' : Good M N fx pin φ H ((env.set i .emp).set j .emp) σ ts := (g.toEmp i).toEmp j
                have emi : ∀ s, ((env.set i .emp).set j .emp)[i]? = some s → s = .emp := fun s hs => by
                  rw [List.getElem?_set_ne (Ne.symm hij), List.getElem?_set_self (List.getElem?_eq_some_iff.mp he).1] at hs
                  cases hs; rfl
                have emj : ∀ s, ((env.set i .emp).set j .emp)[j]? = some s → s = .emp := fun s hs => by
                  rw [List.getElem?_set_self (by rw [List.length_set]; exact hjl)] at hs
                  cases hs; rfl
                have hjs : j < σ.length := Nat.lt_of_lt_of_le hjl g.len.le
                refine ⟨.ref a, hv0, a, rfl, .inl ⟨vs, SqL.of ha, ?_⟩⟩
                let St := fun (k : Nat) (σ' : L2.St) (H' : Hp) => Good M N fx pin φ H' ((env.set i .emp).set j .emp) σ' ts ∧ H' a = some (.lst vs) ∧ Reps H' (ysk d xs k) vs as ∧ σ'[i]? = some (some (.ref a)) ∧ σ'.length = σ.length
                refine ⟨fun k m σ' H' => m = xs.length - k ∧ k ≤ xs.length ∧ St k σ' H', ⟨xs.length, by simp, Nat.zero_le _, g', ha, by simpa [ysk] using rs, hv0, rfl⟩, ?_⟩
                rintro k m σ' H' ⟨rfl, hk, g1, h1, h2, h3, h4⟩
                by_cases hlt : k < xs.length
                · refine .inr ⟨⟨vs, vs[k]'(by omega), SqL.of h1, by simp⟩, St (k + 1), fun σ2 H2 hst => ⟨xs.length - (k + 1), by omega, rfl, hlt, hst⟩, fun x' H'' hy => ?_⟩
                  obtain ⟨ee, hy⟩ := hy
                  subst ee
                  have hvk := hy vs (SqL.of h1)
                  obtain ⟨v, bs, cs, es, k1, k2, k3, k4⟩ := h2.at (ysk_get (d := d) hlt)
                  rw [hvk] at k1
                  cases k1
                  have hok : appOk xs[k] = true := List.all_eq_true.mp hz2 _ (List.getElem_mem hlt)
                  refine q2 x' σ' _ xs[k] bs _ k2 trivial fun σ2 hσ2 => ?_
                  have hσ2' : σ2 = σ'.set j (some x') := hσ2
                  subst hσ2'
                  generalize hxk : xs[k] = dk at *
                  cases k2 with
                  | @lst b ws zs bs0 hb rb =>
                    have hbin : b ∈ as := by rw [k3]; simp
                    have hba : b ≠ a := fun z => hna (z ▸ hbin)
                    have g2 := g1.rebind (j := j) (v := .ref b) emj
                    refine ⟨.ref b, by rw [List.getElem?_set_self (by omega)], tyV_list hb, e2 M _ _ _ _ g2.obs ?_⟩
                    rw [hq]
                    intro v1 H1 cs1 ex1 rep1 _ _
                    have hc1 := rep1.noL hz1
                    subst hc1
                    have g3 := (g2.ext ex1).mutHid (i := i) (b := b) (ws := ws) (ws' := ws ++ [v1]) emi (lab b (List.mem_cons_of_mem _ hbin)) (ex1 b _ hb)
                    have nds : (cs ++ (b :: bs0 ++ es)).Nodup := by rw [← k3]; exact (List.nodup_cons.mp nd).2
                    have hbn : b ∉ cs ∧ b ∉ bs0 ∧ b ∉ es := by
                      have := List.nodup_append.mp nds
                      refine ⟨fun z => this.2.2 b z b (by simp) rfl, ?_, ?_⟩
                      · have h5 := (List.nodup_cons.mp (show (b :: (bs0 ++ es)).Nodup by simpa using this.2.1)).1
                        exact fun z => h5 (by simp [z])
                      · have h5 := (List.nodup_cons.mp (show (b :: (bs0 ++ es)).Nodup by simpa using this.2.1)).1
                        exact fun z => h5 (by simp [z])
                    refine ⟨b, ws, v1, rfl, rfl, ex1 b _ hb, szOk_lt (by rw [← rb.length]; exact hok), g3, ?_, ?_, ?_, by rw [List.length_set]; exact h4⟩
                    · rw [upd_ne (Ne.symm hba)]; exact ex1 a _ h1
                    · have r5 : Rep (L2.upd H1 b (.lst (ws ++ [v1]))) (.lst (zs ++ [d])) (.ref b) (b :: bs0) := by
                        refine .lst upd_same ?_
                        have r6 : Reps H1 [d] [v1] ([] ++ []) := .cons rep1 .nil
                        have r7 := (rb.mono ex1).append r6
                        simp only [List.append_nil] at r7
                        exact r7.upd (ex1 b _ hb) hbn.2.1
                      have r8 := k4 (L2.upd H1 b (.lst (ws ++ [v1]))) (.lst (zs ++ [d])) (b :: bs0) (fun a' o' ha' hi' nt => by
                        have : a' ≠ b := fun z => by
                          subst z
                          rcases hi' with z | z
                          · rcases List.mem_append.mp z with z | z
                            · exact hbn.1 z
                            · exact hbn.2.2 z
                          · rw [hb] at ha'; cases ha'; cases z
                        rw [upd_ne this]; exact ex1.k a' _ ha' nt) r5
                      have e9 : (ysk d xs k).set k (.lst (zs ++ [d])) = ysk d xs (k + 1) := by
                        rw [← ysk_set hlt, hxk]; rfl
                      rw [e9] at r8
                      rw [k3]; exact r8
                    · rw [List.getElem?_set_ne (Ne.symm hij)]; exact h3
                  | _ => exact (Bool.false_ne_true hok).elim
                · have hke : k = xs.length := by omega
                  subst hke
                  refine .inl ⟨⟨vs, SqL.of h1, by omega⟩, w φ H' σ' ?_⟩
                  have hys : ysk d xs xs.length = xs.map (appD d) := by simp [ysk]
                  rw [hys] at h2
                  refine ⟨by exact ⟨by have := g1.len.le; simpa using this, g1.len.tab⟩, g1.fix, g1.own, g1.free, fun l s hs => ?_, g1.tmp⟩
                  by_cases hl : l = j
                  · subst hl
                    rw [List.getElem?_set_self (by rw [List.length_set]; exact hjl)] at hs
                    cases hs; trivial
                  · rw [List.getElem?_set_ne (Ne.symm hl)] at hs
                    by_cases hli : l = i
                    · subst hli
                      rw [List.getElem?_set_self (List.getElem?_eq_some_iff.mp he).1] at hs
                      cases hs
                      exact ⟨.ref a, h3, a :: as, .lst h1 h2, m0, fun b hb => by simpa using lab b hb, fun _ => nd⟩
                    · rw [List.getElem?_set_ne (Ne.symm hli)] at hs
                      exact g1.slot l s (by rw [List.getElem?_set_ne (Ne.symm hl), List.getElem?_set_ne (Ne.symm hli)]; exact hs)
            · exact w.elim
        | _ => exact (show False from w).elim
end
end CB

namespace CB
open PySem L2 PySem.Spec PyProof.Rows
variable [CT]
section
variable {M N : Addr → Prop} {fx : Addr → HO → Prop} {pin : Nat → Option V} {φ : Lab} {H H' : Hp} {env : Env} {σ : L2.St} {ts : List Tmp}
theorem Good.show (g : Good M N fx pin φ H (env.set i .emp) σ ts) {d : D} {v : V} {as : List Addr} (hi : i < env.length) (hv : σ[i]? = some (some v)) (r : Rep H d v as) (m : ∀ a ∈ as, M a) (l : ∀ a ∈ as, φ a = some (.slot i)) (n : as.Nodup) : Good M N fx pin φ H (env.set i (.val true d)) σ ts := by
  refine ⟨by exact ⟨by have := g.len.le; simpa using this, g.len.tab⟩, g.fix, g.own, g.free, fun k s hs => ?_, g.tmp⟩
  by_cases hk : k = i
  · subst hk
    rw [List.getElem?_set_self hi] at hs
    cases hs
    exact ⟨v, hv, as, r, m, fun a ha => by simpa using l a ha, fun _ => n⟩
  · rw [List.getElem?_set_ne (Ne.symm hk)] at hs
    exact g.slot k s (by rw [List.getElem?_set_ne (Ne.symm hk)]; exact hs)
end
section
variable {X : Cx} {E : XK}
end
end CB

namespace CB
open PySem L2 PySem.Spec PyProof.Rows
variable [CT]
section
variable {P : Program} {w : World} {K : PySem.W.Frag} {mg : Str → Option Value} {base : Heap} {x : Str} {st : Stmt} {k n r : Nat} {NN ps : List Str} {m : SM}
end
section
variable {X : Cx} {E : XK} {k j n r i : Nat} {pn : List Str} {x : Str} {p pos : Pos} {e : Expr} {es : List Expr} {ps : List P}
end
end CB

namespace CB
open PySem L2 PySem.Spec PyProof.Rows
variable [CT]
def dO0 : Obj := { cls := .type "dict", data := .dict #[] }
def pairUp {α : Type} : List α → List (α × α)
  | a :: b :: r => (a, b) :: pairUp r
  | _ => []
def SndPP (X : Cx) (E : XK) (pos : Pos) (keys : List (Option Expr)) (values : List Expr) (ps : List P) : Prop := ∃ trs, PPs X pos keys values trs ∧ ∀ (S : Addr → Prop) env σ H Q, ObsEnv S H env σ → AWant S X.mg H (fun vs H' => Q (pairUp vs) H') E (args ps env) → tPairs trs σ H Q
section
variable {X : Cx} {E : XK} {pos : Pos}
theorem sndpp_nil : SndPP X E pos [] [] [] := ⟨_, pps_nil, fun S env σ H Q _ w => w [] H [] (Ex.refl H) .nil noMem fun _ => .nil H⟩
theorem sndpp_cons {k v : Expr} {ks : List (Option Expr)} {vs : List Expr} {pk pv : P} {ps : List P} (hk : SndP X E k pk) (hv : SndP X E v pv) (hr : SndPP X E pos ks vs ps) : SndPP X E pos (some k :: ks) (v :: vs) (pk :: pv :: ps) := by
  obtain ⟨t, k1, k2⟩ := hk
  obtain ⟨u, v1, v2⟩ := hv
  obtain ⟨trs, r1, r2⟩ := hr
  refine ⟨_, pps_cons k1 v1 r1, fun S env σ H Q o w => ?_⟩
  show t σ H fun x H1 => u σ H1 fun y H2 => tPairs trs σ H2 fun ps H3 => Q ((x, y) :: ps) H3
  refine k2 S env σ H _ o ?_
  cases hp : pk env with
  | no => simp only [args, hp] at w; exact w
  | ex x => simp only [args, hp] at w; exact w
  | ok f d =>
    intro v' H1 as e1 q1 m1 n1
    refine v2 S env σ H1 _ (o.mono e1) ?_
    cases hq : pv env with
    | no => simp only [args, hp, hq] at w; exact w
    | ex x => simp only [args, hp, hq] at w; exact fun c dx H' e' r => w c dx H' (e1.trans e') r
    | ok g d2 =>
      intro y H2 bs e2 q2 m2 n2
      refine r2 S env σ H2 _ (o.mono (e1.trans e2)) ?_
      cases hz : args ps env with
      | no => simp only [args, hp, hq, hz] at w; exact w.elim
      | ex x => simp only [args, hp, hq, hz] at w; exact fun c dx H' e' r => w c dx H' ((e1.trans e2).trans e') r
      | ok j ds =>
        simp only [args, hp, hq, hz] at w
        intro vs H3 cs e3 q3 m3 n3
        refine w (v' :: y :: vs) H3 (as ++ (bs ++ cs)) ((e1.trans e2).trans e3) (.cons (q1.mono (e2.trans e3)) (.cons (q2.mono e3) q3)) (fun a h => ?_) fun z => ?_
        · rcases List.mem_append.mp h with h | h
          · exact m1 a h
          · rcases List.mem_append.mp h with h | h
            · exact (m2 a h).imp_right fun z => e1.back z
            · exact (m3 a h).imp_right fun z => (e1.trans e2).back z
        · rw [Bool.and_eq_true, Bool.and_eq_true] at z
          refine New.app e1 (gfl_new z.1 q1 n1) (New.app e2 (gfl_new z.2.1 q2 n2) (n3 z.2.2) q2.ne) q1.ne
end
end CB

namespace CB
open PySem L2 PySem.Spec PyProof.Rows
variable [CT]
section
variable {X : Cx} {E : XK}
end
end CB

namespace CB
open PySem L2 PySem.Spec PyProof.Rows
variable [CT]
theorem Reps.each {H : Hp} : ∀ {ds : List D} {vs : List V} {as : List Addr}, Reps H ds vs as → ∃ ass : Nat → List Addr, (∀ i d v, ds[i]? = some d → vs[i]? = some v → Rep H d v (ass i)) ∧ (∀ i, i < ds.length → ∀ b ∈ ass i, b ∈ as) ∧
    (as.Nodup → (∀ i, i < ds.length → (ass i).Nodup) ∧ ∀ i j, i ≠ j → i < ds.length → j < ds.length → ∀ b ∈ ass i, b ∉ ass j)
  | _, _, _, .nil => ⟨fun _ => [], fun i d v h => by simp at h, fun i h => by simp at h, fun _ => ⟨fun i h => by simp at h, fun i j _ h => by simp at h⟩⟩
  | _, _, _, .cons (as := as) (bs := bs) r rs => by
    obtain ⟨ass, h1, h2, h3⟩ := Reps.each rs
    refine ⟨fun i => match i with | 0 => as | i + 1 => ass i, fun i d v hd hv => ?_, fun i hi b hb => ?_, fun nd => ?_⟩
    · cases i with
      | zero => simp at hd hv; subst hd hv; exact r
      | succ i => exact h1 i d v (by simpa using hd) (by simpa using hv)
    · cases i with
      | zero => exact List.mem_append_left _ hb
      | succ i => exact List.mem_append_right _ (h2 i (by simpa using hi) b hb)
    · obtain ⟨n1, n2, n3⟩ := List.nodup_append.mp nd
      obtain ⟨k1, k2⟩ := h3 n2
      refine ⟨fun i hi => ?_, fun i j hij hi hj b hb hb2 => ?_⟩
      · cases i with
        | zero => exact n1
        | succ i => exact k1 i (by simpa using hi)
      · cases i with
        | zero => cases j with
          | zero => exact hij rfl
          | succ j => exact n3 b hb b (h2 j (by simpa using hj) b hb2) rfl
        | succ i => cases j with
          | zero => exact n3 b hb2 b (h2 i (by simpa using hi) b hb) rfl
          | succ j => exact k2 i j (fun z => hij (by rw [z])) (by simpa using hi) (by simpa using hj) b hb hb2
def ownT (ds : List D) (vs : List V) (i : Nat) : List Tmp := (((ds.zip vs).drop i).reverse).map fun p => (true, p.1, p.2)
theorem ownT_get {ds : List D} {vs : List V} (hl : ds.length = vs.length) {j : Nat} {t : Tmp} (h : (ownT ds vs 0)[j]? = some t) : j < ds.length ∧ t.1 = true ∧ ds[ds.length - 1 - j]? = some t.2.1 ∧ vs[ds.length - 1 - j]? = some t.2.2 := by
  unfold ownT at h
  rw [List.drop_zero, List.getElem?_map] at h
  have hj : j < ds.length := by
    cases e : (ds.zip vs).reverse[j]? with
    | none => rw [e] at h; cases h
    | some p => have := (List.getElem?_eq_some_iff.mp e).1; simpa [← hl] using this
  rw [List.getElem?_reverse (by simpa [← hl] using hj)] at h
  simp only [List.length_zip, ← hl, Nat.min_self] at h
  have hk : ds.length - 1 - j < ds.length := by omega
  have hz : (ds.zip vs)[ds.length - 1 - j]? = some (ds[ds.length - 1 - j], vs[ds.length - 1 - j]'(by omega)) := by
    have h2 : ds.length - 1 - j < vs.length := by omega
    rw [List.getElem?_zip_eq_some]
    exact ⟨List.getElem?_eq_getElem hk, List.getElem?_eq_getElem h2⟩
  rw [hz] at h
  cases h
  exact ⟨hj, rfl, by simp, by simp⟩
theorem ownT_step {ds : List D} {vs : List V} (hl : ds.length = vs.length) {i : Nat} (h : i < ds.length) : ownT ds vs i = ownT ds vs (i + 1) ++ [(true, ds[i], vs[i]'(by omega))] := by
  unfold ownT
  have hz : i < (ds.zip vs).length := by simp [← hl]; exact h
  rw [List.drop_eq_getElem_cons hz, List.reverse_cons, List.map_append]
  simp
section
variable {M N : Addr → Prop} {fx fx' : Addr → HO → Prop} {pin : Nat → Option V} {φ φ' : Lab} {H H' : Hp} {env : Env} {σ : L2.St} {ts us : List Tmp}
open Classical in
theorem Good.spread {ds : List D} {v : V} (g : Good M N fx pin φ H env σ (ts ++ [(true, .lst ds, v)])) :
    ∃ φ' a vs, v = .ref a ∧ H a = some (.lst vs) ∧ ds.length = vs.length ∧ Good M N (fun b o => fx b o ∨ (b = a ∧ o = .lst vs)) pin φ' H env σ (ts ++ ownT ds vs 0) := by
  obtain ⟨as0, r0, m0, l0, n0⟩ := g.tmp ts.length (true, .lst ds, v) (by simp)
  cases r0 with
  | @lst a vs _ as ha rs =>
    have nd := n0 rfl
    have hna : a ∉ as := (List.nodup_cons.mp nd).1
    have lab : ∀ b ∈ a :: as, φ b = some (.tmp ts.length) := fun b hb => by simpa using l0 b hb
    have hl := rs.length
    obtain ⟨ass, h1, h2, h3⟩ := rs.each
    obtain ⟨k1, k2⟩ := h3 (List.nodup_cons.mp nd).2
    have idx : ∀ {b : Addr} {k : Nat} (hk : k < ds.length) (hb : b ∈ ass k) (h : ∃ k, k < ds.length ∧ b ∈ ass k), choose h = k := fun {b k} hk hb h => by
      obtain ⟨q1, q2⟩ := choose_spec h
      exact Classical.byContradiction fun ne => k2 _ _ ne q1 hk b q2 hb
    have oth : ∀ {l : Lb} {o : Bool} {d : D} {v : V}, l ≠ .tmp ts.length → Held φ H M l o d v → Held (fun b => if b = a then none else if h : ∃ k, k < ds.length ∧ b ∈ ass k then some (.tmp (ts.length + (ds.length - 1 - choose h))) else φ b) H M l o d v := fun {l o d v} hl k => k.keep fun bs rb q => ⟨rb, fun b hb => by
      have nb : b ∉ a :: as := fun z => by
        have := q b hb
        rw [lab b z] at this
        cases o with
        | true => simp at this; exact hl this.symm
        | false => cases this
      show (if b = a then none else if h : ∃ k, k < ds.length ∧ b ∈ ass k then some (Lb.tmp (ts.length + (ds.length - 1 - choose h))) else φ b) = _
      rw [if_neg fun z => nb (by rw [z]; exact List.mem_cons_self), dif_neg fun ⟨k, hk, z⟩ => nb (List.mem_cons_of_mem _ (h2 k hk b z))]
      exact q b hb⟩
    refine ⟨fun b => if b = a then none else if h : ∃ k, k < ds.length ∧ b ∈ ass k then some (.tmp (ts.length + (ds.length - 1 - choose h))) else φ b, a, vs, rfl, ha, hl, g.len, fun b o h => ?_, fun b h => ?_, fun p h => g.free p fun o z => h o (.inl z), fun k s h => (g.slot k s h).keep fun o d v q => oth (fun z => nomatch z) q, fun j t h => ?_⟩
    · rcases h with h | ⟨rfl, rfl⟩
      · obtain ⟨f1, f2⟩ := g.fix b o h
        have nb : b ∉ a :: as := fun z => by rw [lab b z] at f2; cases f2
        refine ⟨f1, ?_⟩
        show (if b = a then none else if h : ∃ k, k < ds.length ∧ b ∈ ass k then some (Lb.tmp (ts.length + (ds.length - 1 - choose h))) else φ b) = _
        rw [if_neg fun z => nb (by rw [z]; exact List.mem_cons_self), dif_neg fun ⟨k, hk, z⟩ => nb (List.mem_cons_of_mem _ (h2 k hk b z))]
        exact f2
      · exact ⟨.of ha, if_pos rfl⟩
    · refine g.own b fun z => h ?_
      have nb : b ∉ a :: as := fun y => by rw [lab b y] at z; cases z
      show (if b = a then none else if h : ∃ k, k < ds.length ∧ b ∈ ass k then some (Lb.tmp (ts.length + (ds.length - 1 - choose h))) else φ b) = _
      rw [if_neg fun z => nb (by rw [z]; exact List.mem_cons_self), dif_neg fun ⟨k, hk, z⟩ => nb (List.mem_cons_of_mem _ (h2 k hk b z))]
      exact z
    · by_cases hj : j < ts.length
      · rw [List.getElem?_append_left hj] at h
        exact oth (fun z => by cases z; exact absurd hj (Nat.lt_irrefl _)) (g.tmp j t (by rw [List.getElem?_append_left hj]; exact h))
      · rw [List.getElem?_append_right (by omega)] at h
        obtain ⟨z1, z2, z3, z4⟩ := ownT_get hl h
        have hk : ds.length - 1 - (j - ts.length) < ds.length := by omega
        refine ⟨ass (ds.length - 1 - (j - ts.length)), h1 _ _ _ z3 z4, fun b hb => m0 b (List.mem_cons_of_mem _ (h2 _ hk b hb)), fun b hb => ?_, fun _ => k1 _ hk⟩
        rw [z2, if_pos rfl]
        have hh : ∃ k, k < ds.length ∧ b ∈ ass k := ⟨_, hk, hb⟩
        show (if b = a then none else if h : ∃ k, k < ds.length ∧ b ∈ ass k then some (Lb.tmp (ts.length + (ds.length - 1 - choose h))) else φ b) = _
        rw [if_neg fun (z : b = a) => hna (z ▸ h2 _ hk b hb), dif_pos hh, idx hk hb hh]
        congr 2; omega
end
def loopO (i : Nat) (m : SM) : List D → Env → SR
  | [], env => .nx env
  | d :: ds, env => match m (env.set i (.val true d)) with
    | .nx env2 => loopO i m ds env2
    | r => r
def forOwn (i : Nat) (p : GE) (m : SM) : SM := fun env => match p env with
  | .ok true (.lst ds) env1 => loopO i m ds env1
  | .ex x e => .ex x e
  | _ => .no
section
variable {X : Cx} {E : XK}
theorem snds_forOwn (i : Nat) {y : Str} {iter : Expr} {body : List Stmt} {p : GE} {m : SM} {py pos : Pos} (hp : PassesOwn (model X.prog X.w) X.A X.env X.xe) (hc : X.calm = true) (hi : SndE X E iter p) (hg : SndG X (.Name y py) (.nm i)) (hb : SndB X E body m)
    (hs : ∀ z, foldedSetIterable iter X.env z = pure z := by intro _; rfl) : SndS X E (.For (.Name y py) iter body [] pos) (forOwn i p m) := by
  obtain ⟨ti, i1, i2⟩ := hi
  obtain ⟨gg, q1, q2⟩ := hg
  obtain ⟨tb, b1, b2⟩ := hb
  refine ⟨_, ps_for hp hc (pi_seqF i1) q1 b1 hs, fun M N fx pin φ H env σ ts K g w => i2 M N fx pin φ H env σ ts _ g ?_⟩
  unfold forOwn at w
  cases hq : p env with
  | no => rw [hq] at w; exact w
  | ex x e => rw [hq] at w; exact fun φ' H' c dx g' r => w φ' H' σ c dx g' r
  | ok o d env1 =>
    rw [hq] at w
    cases o with
    | false => exact (show False from w).elim
    | true => cases d with
      | lst ds =>
        intro φ1 H1 v g1
        obtain ⟨φ2, a, vs, rfl, ha, hl, g2⟩ := g1.spread
        refine ⟨a, rfl, .inl ⟨vs, SqL.of ha, ?_⟩⟩
        refine ⟨fun k n σ H => n = ds.length - k ∧ k ≤ ds.length ∧ ∃ φ env, Good M N (fun b o => fx b o ∨ (b = a ∧ o = .lst vs)) pin φ H env σ (ts ++ ownT ds vs k) ∧ SWant M N fx pin X.mg ts E K (loopO i m (ds.drop k) env), ⟨ds.length, by simp, Nat.zero_le _, φ2, env1, g2, by simpa using w⟩, ?_⟩
        rintro k n σ' H' ⟨rfl, hk, φ3, env3, g3, w3⟩
        have hf : H' a = some (.lst vs) := (g3.fix a _ (.inr ⟨rfl, rfl⟩)).1.k
        by_cases hlt : k < ds.length
        · have ed : ds.drop k = ds[k] :: ds.drop (k + 1) := List.drop_eq_getElem_cons hlt
          rw [ed] at w3
          simp only [loopO] at w3
          refine .inr ⟨⟨vs, vs[k]'(by omega), SqL.of hf, by simp⟩, fun σ2 H2 => ∃ φ' env', Good M N (fun b o => fx b o ∨ (b = a ∧ o = .lst vs)) pin φ' H2 env' σ2 (ts ++ ownT ds vs (k + 1)) ∧ SWant M N fx pin X.mg ts E K (loopO i m (ds.drop (k + 1)) env'), fun σ2 H2 ⟨φ', env', g', w'⟩ => ⟨ds.length - (k + 1), by omega, rfl, hlt, φ', env', g', w'⟩, fun x' H'' hy => ?_⟩
          obtain ⟨ee, hy⟩ := hy
          subst ee
          have hvk := hy vs (SqL.of hf)
          have hvk2 : vs[k]? = some (vs[k]'(by omega)) := by simp
          rw [hvk2] at hvk
          have ex := Option.some.inj hvk
          rw [ownT_step hl hlt, ← List.append_assoc] at g3
          rw [ex] at g3
          obtain ⟨as, ra, _⟩ := g3.tmp (ts ++ ownT ds vs (k + 1)).length (true, ds[k], x') (by simp)
          refine q2 x' σ' _ ds[k] as _ ra trivial fun σ2 hσ2 => ?_
          have hσ2' : σ2 = σ'.set i (some x') := hσ2
          subst hσ2'
          refine b2 _ _ _ _ _ _ _ _ (ts ++ ownT ds vs (k + 1)) _ g3.store ?_
          cases hm : m (env3.set i (.val true ds[k])) with
          | no => rw [hm] at w3; exact w3
          | nx env4 => rw [hm] at w3; exact fun φ4 H4 σ4 g4 => ⟨φ4, env4, g4, w3⟩
          | ex x env4 => rw [hm] at w3; exact fun φ4 H4 σ4 c dx g4 r => w3 φ4 H4 σ4 c dx (g4.drops.unfixed g.free) r
          | rt o d env4 =>
            rw [hm] at w3
            intro φ4 H4 σ4 v g4
            obtain ⟨φ5, g5⟩ := g4.squash
            exact w3 φ5 H4 σ4 v (g5.unfixed g.free)
        · have e : k = ds.length := by omega
          subst e
          rw [List.drop_length] at w3
          exact .inl ⟨⟨vs, SqL.of hf, by omega⟩, w3 φ3 H' σ' (g3.drops.unfixed g.free)⟩
      | _ => exact (show False from w).elim
end
end CB

namespace CB
open PySem L2 PySem.Spec PyProof.Rows
variable [CT]
def idxD (ds : List PyData) (d : PyData) : Option Nat := ds.findIdx? fun z => PyData.eqv z d
def lindexP (p q : P) : P := fun env => match p env with
  | .ok _ (.lst xs) => match q env with
    | .ok _ y => if eqOk (.lst xs) && eqOk y then match idxD (dats xs) (dat y) with
        | some j => .ok true (.int (j : Nat))
        | none => .no
      else .no
    | .ex x => .ex x
    | .no => .no
  | .ok _ _ => .no
  | .ex x => .ex x
  | .no => .no
section
variable {X : Cx} {E : XK}
theorem snd_lindex {o e : Expr} {p q : P} {apos cpos : Pos} (hu : X.A.units + 65 < cLine) (h : SndP X E o p) (h' : SndP X E e q)
    (hbase : attributeBase o ("index" : Str) X.env (eval o X.env) = eval o X.env := by rfl)
    (hfew : ((backTo cpos (starEach [e] X.env)).all (fun x => !x.1) && (backToKw cpos (keywordEach [] X.env)).all (fun x => x.1.isSome)
      && decide (([e] : List Expr).length + ([] : List Keyword).length + (if ([] : List Keyword).isEmpty then 0 else 1) < 30)) = true := by rfl)
    (hline : (apos.endLine == cpos.line) = true := by rfl) (hs : starEach [e] X.env = (false, eval e X.env) :: starEach [] X.env := by rfl) (hplain : (backTo cpos (starEach [] X.env)).any (·.1) = false := by rfl) :
    SndP X E (.Call (.Attribute o ("index" : Str) apos) [e] [] cpos) (lindexP p q) := by
  obtain ⟨t, h1, h2⟩ := h
  obtain ⟨u, g1, g2⟩ := h'
  refine ⟨_, pe_bm PySem.F.plainAttrs_list PySem.F.slot_list_index PySem.F.type_list_index (mt_indexD hu) h1 (pa_cons g1 pa_nil hs) hbase hfew hline hs hplain, fun S env σ H Q o w => h2 S env σ H _ o ?_⟩
  unfold lindexP at w
  cases hp : p env with
  | no => rw [hp] at w; exact w
  | ex x => rw [hp] at w; exact w
  | ok fa x =>
    rw [hp] at w
    intro v H1 as ex1 r1 m1 n1
    cases r1 with
    | @lst a vs xs _ ha s =>
      simp only at w
      refine ⟨.inl ⟨rfl, vs, SqL.of ha⟩, g2 S env σ H1 _ (o.mono ex1) ?_⟩
      cases hq : q env with
      | no => rw [hq] at w; exact w
      | ex x => rw [hq] at w; exact fun c dx H' e' r => w c dx H' (ex1.trans e') r
      | ok fb y =>
        rw [hq] at w
        intro v2 H2 bs ex2 r2 _ _
        simp only at w
        split at w
        · rename_i hz
          simp only [Bool.and_eq_true] at hz
          cases hi : idxD (dats xs) (dat y) with
          | none => rw [hi] at w; exact w.elim
          | some j =>
            rw [hi] at w
            unfold idxD at hi
            rw [List.findIdx?_eq_some_iff_getElem] at hi
            obtain ⟨hj, hj1, hj2⟩ := hi
            have rl : Rep H2 (.lst xs) (.ref a) (a :: _) := (Rep.lst ha s).mono ex2
            refine ⟨a, v2, dat y, dats xs, j, (dats xs)[j], rfl, rfl, rl.dp (lay_of hz.1), r2.dp (lay_of hz.2), hz.1, hz.2, by simp, hj1, fun m z' hm hz' => ?_, w _ H2 [] (ex1.trans ex2) (.int _) noMem fun _ => .nil H⟩
            have := hj2 m hm
            obtain ⟨hm', e⟩ := List.getElem?_eq_some_iff.mp hz'
            rw [← e]; simpa using this
        · exact w.elim
    | _ => exact (show False from w).elim
end
end CB

namespace CB
open PySem L2 PySem.Spec PyProof.Rows
variable [CT]
section
variable {X : Cx} {E : XK}
theorem snde_linB {x : Str} {id : String} {e : Expr} {es : List Expr} {ms : List GA} {p pos : Pos} {r : List V → Hp → VK → Prop} {f : List D → Option (Kd × D)} (hc : CallR X (.builtin id) r) (hv : VN r f) (hg : Gl X x) (hm : X.mg x = none) (hb : bootBuiltins x = some (.builtin id)) (h : SndAG X E (e :: es) ms)
    (hn : x ≠ "__name__" := by decide) (hdb : (x == ("__debug__" : Str)) = false := by decide) (he : starEach (e :: es) X.env = (false, eval e X.env) :: starEach es X.env := by rfl) (hpl : (backTo pos (starEach es X.env)).any (·.1) = false := by rfl) : SndE X E (.Call (.Name x p) (e :: es) [] pos) (linG f ms) := by
  obtain ⟨t, h1, h2⟩ := h
  exact ⟨_, pe_callB hc hg hm hb h1 hn hdb he hpl, fun M N fx pin φ H env σ ts Q g w => h2 M N fx pin φ H env σ ts _ g (linG_read hv ms w)⟩
end
section
variable {M N : Addr → Prop} {fx : Addr → HO → Prop} {pin : Nat → Option V} {φ : Lab} {H H' : Hp} {env : Env} {σ : L2.St} {ts : List Tmp}
theorem Good.label (g : Good M N fx pin φ H env σ ts) (e : Ex H H') {as : List Addr} (n : ∀ a ∈ as, H a = none) (t : ∀ a ∈ as, ∃ o, H' a = some o ∧ Imm o = false) : Good M N fx pin (lbl φ as (.tmp ts.length)) H' env σ ts := by
  have g' := g.ext e
  have kp : ∀ {l : Lb} {o : Bool} {d : D} {v : V}, Held φ H M l o d v → Held (lbl φ as (.tmp ts.length)) H' M l o d v := fun {l o d v} k => k.keep fun bs rb q => ⟨rb.mono e, fun a ha => by
    have : a ∉ as := fun z => rb.ne a ha (n a z)
    unfold lbl
    rw [if_neg this]
    exact q a ha⟩
  refine ⟨g'.len, fun a o h => ⟨(g'.fix a o h).1, ?_⟩, fun a h => ?_, g.free, fun i s h => (g.slot i s h).keep fun o d v k => kp k, fun j t h => kp (g.tmp j t h)⟩
  · have : a ∉ as := fun z => by
      exact (g.fix a o h).1.not (n a z)
    unfold lbl
    rw [if_neg this]
    exact (g.fix a o h).2
  · by_cases z : a ∈ as
    · exact ⟨(g.fresh (n a z)).1, t a z⟩
    · unfold lbl at h
      rw [if_neg z] at h
      exact g'.own a h
end
section
variable {X : Cx} {E : XK}
end
end CB

namespace CB
open PySem PySem.W PySem.Spec PySem.Calls PyProof.Rows L2
section
variable {prog : Program} {w : World} {A : Around} {E : Value → Shared → Prop} {K : Frag} {x D : Addr} {ox od : Obj}
end
end CB
namespace CB
open PySem L2 PySem.Spec PyProof.Rows
variable [CT]
section
variable {X : Cx} {E : XK}
end
section
variable {X : Cx} {E : XK}
end
section
variable {X : Cx} {E : XK}
end
end CB

namespace CB
open PySem L2 PySem.Spec PyProof.Rows
section
variable {X : Cx} {e : Expr} {es : List Expr} {ta : TA} {p1 p2 pos : Pos} {o : Str} {O : Addr} {mc : Value}
theorem pe_oinit {pl : Sem Bool} (hg : Gl X o) (hm : X.mg o = some (.ref O)) (hr : ClX.CRead X.K O mc) (vV : PySem.W.findCls X.K (.ref O) mc "__init__" = some (.val (.builtin "ValueError.__init__"))) (ha : PA X (e :: es) ta)
    (hdb : (o == ("__debug__" : Str)) = false := by decide)
    (hc : eval (.Call (.Attribute (.Name o p1) "__init__" p2) (e :: es) [] pos) X.env = (do
      let ov ← eval (.Name o p1) X.env
      standAt p2.atName
      let (f, first) ← holding [ov] (getMethod ov "__init__" pl)
      callWith pos f first (backTo pos (starEach (e :: es) X.env)) (backToKw pos (keywordEach [] X.env))) := by rfl)
    (he : starEach (e :: es) X.env = (false, eval e X.env) :: starEach es X.env := by rfl) (hpl : (backTo pos (starEach es X.env)).any (·.1) = false := by rfl) :
    PE X (.Call (.Attribute (.Name o p1) "__init__" p2) (e :: es) [] pos) (tVeI X.K ta) := by
  refine ⟨fun pins s σ H Q I h => ?_⟩
  refine PySem.W.methodCall_KW (ld_glob I hg hm ?_ hdb) hc
  refine PySem.W.method_cls I.kIn hr.ga (PySem.W.cls_value I.kIn hr.rd vV rfl ?_)
  show wpAny _ _ (callWith pos (Value.builtin "ValueError.__init__") [] (backTo pos (starEach (e :: es) X.env)) []) _ _ _
  refine PyProof.Rows.callWith_method1 (thn (ha.run pos pins _ σ H _ (I.tok _) h) fun us s1 ⟨vs, H1, I1, r1, a, C, ws, ev, hl, T, ea, q⟩ => ?_) he hpl
  subst ev
  cases r1 with
  | @cons _ u0 _ ur ra rw' =>
    obtain rfl : u0 = Value.ref a := ra
    have hlen : ur.length ≤ sizeLine := by
      rw [← Paired.length rw', sizeLine_eq]
      omega
    exact oinit_ok T I1 ea hlen fun s' J => ⟨.non, H1, J, rfl, q⟩
end
theorem call_ev {env : PySem.Env} {o m : Str} {e1 e2 : Expr} {p1 p2 pos : Pos} (hl : (p2.endLine == pos.line) = true) (h1 : starEach [e1, e2] env = [(false, eval e1 env), (false, eval e2 env)]) :
    eval (.Call (.Attribute (.Name o p1) m p2) [e1, e2] [] pos) env = (do
      let ov ← eval (.Name o p1) env
      standAt p2.atName
      let (f, first) ← holding [ov] (getMethod ov m (do return (← importBound (.Name o p1) env).getD true))
      callWith pos f first (backTo pos (starEach [e1, e2] env)) (backToKw pos (keywordEach [] env))) := by
  have hp : methodCallPos true (.Name o p1) env p2 pos = pure pos := by
    unfold methodCallPos
    rw [hl]
    rfl
  have hf : methodCallForm ([e1, e2].length + ([] : List Keyword).length) (backTo pos (starEach [e1, e2] env)) (backToKw pos (keywordEach [] env)) = true := by
    rw [h1]; rfl
  show (do
    let ov ← eval (.Name o p1) env
    standAt p2.atName
    methodCall (.Name o p1) m p2 pos env ov ([e1, e2].length + ([] : List Keyword).length) (backTo pos (starEach [e1, e2] env)) (backToKw pos (keywordEach [] env))) = _
  unfold methodCall
  rw [hf, hp]
  rfl
def spI (C : Addr) (n : Str) : Sp := fun vs H Q _ => ∃ (a : Addr) (y : V), vs = [.ref a, y] ∧ H a = some (exo a C none) ∧ ∀ dx, H dx = none → dx ≠ a → Q .non (upd (upd H dx (exd dx [(n, y)])) a (exo a C (some dx)))
section
variable {P : Program} {w : World} {K : PySem.W.Frag} {mg : Str → Option Value} {base : Heap}
theorem init_fn {n m qual : Str} {st : Stmt} {f C O : Addr} {fd : FuncData} {mc : Value} {j : Nat} {p1 p2 p3 p4 p5 p6 p7 p8 p9 p10 : Pos} (F : Fun K "__init__" qual st f fd) (T : OexC K C) (hno : PySem.W.findIn K (.ref C) n = some none)
    (S : FnScope ["self", n] ["self", n] (defScope st)) (vs : Vis (defScope st) "self") (vn : Vis (defScope st) n) (hnd : (n == ("__debug__" : Str)) = false) (hnc : (n == ("__classdict__" : Str)) = false)
    (go : (defScope st).names.lookup ("OrderError" : Str) = some .globalImplicit) (hm : mg "OrderError" = some (.ref O)) (hr : ClX.CRead K O mc) (vV : PySem.W.findCls K (.ref O) mc "__init__" = some (.val (.builtin "ValueError.__init__")))
    (hl : (p2.endLine == p5.line) = true) (hb : defBody st = [.Expr (.Call (.Attribute (.Name "OrderError" p1) "__init__" p2) [.Name "self" p3, .Constant (.str m) j p4] [] p5) p6, .Assign [.Attribute (.Name "self" p7) n p8] (.Name n p9) p10]) :
    FnOk P w K mg base CX0 1 f fd ["self", n] (spI C n) := by
  refine F.ok S (fun vs H Q E ⟨a, y, h, _⟩ => by rw [h]; rfl) fun cdv A outer s H vs' Q E _ ⟨a, y, hv, ha, q⟩ => ?_
  subst hv
  rw [hb]
  have v0 : ∀ {p : Pos}, PE (cxOf CX0 P w K mg base ["self", n] qual (defScope st) f cdv A outer s H E).nox (.Name "self" p) (tVar 0) := fun {p} => pe_var rfl vs
  have v1 : ∀ {p : Pos}, PE (cxOf CX0 P w K mg base ["self", n] qual (defScope st) f cdv A outer s H E).nox (.Name n p) (tVar 1) := fun {p} => pe_var rfl vn hnd hnc
  refine ⟨_, pss_cons (ps_expr (pe_oinit (mc := mc) (by exact (show Gl _ "OrderError" from go)) hm hr vV (pa_cons v0 (pa_cons pe_str pa_nil)) (by decide) (call_ev hl rfl))) (pss_one (ps_ost v0 v1)), ?_⟩
  refine ⟨.ref a, rfl, a, C, [.str m], rfl, by simp, T, ha, y, rfl, .ref a, rfl, a, C, rfl, T, hno, .inl ⟨ha, fun dx h1 h2 => q dx h1 h2⟩⟩
structure InitX (K : PySem.W.Frag) (mg : Str → Option Value) (c n qual : Str) (st : Stmt) : Prop where
  ex : ∃ (C O f : Addr) (fd : FuncData), mg c = some (.ref C) ∧ mg "OrderError" = some (.ref O) ∧ OexC K C ∧ PySem.W.findIn K (.ref C) "__init__" = some (some (.ref f)) ∧ PySem.W.typeIn K (.ref f) = some (.type "function") ∧ Fun K "__init__" qual st f fd ∧ PySem.W.findIn K (.ref C) n = some none ∧
    ClX.CRead K O (.type "type") ∧ PySem.W.findCls K (.ref O) (.type "type") "__init__" = some (.val (.builtin "ValueError.__init__"))
end
variable [CT]
def raiseF (c n : Str) (p : P) : SM := fun env => match p env with
  | .ok _ d => if noL d then .ex ⟨c, [n], [d]⟩ env else .no
  | _ => .no
section
variable {X : Cx} {E : XK}
theorem snds_raiseF {c n m qual : Str} {st : Stmt} {e : Expr} {p : P} {j k : Nat} {p0 p1 p2 p3 p4 p5 p6 p7 p8 p9 p10 pos pos' : Pos} (F : InitX X.K X.mg c n qual st)
    (S : FnScope ["self", n] ["self", n] (defScope st)) (vs : Vis (defScope st) "self") (vn : Vis (defScope st) n) (go : (defScope st).names.lookup ("OrderError" : Str) = some .globalImplicit)
    (hl : (p2.endLine == p5.line) = true) (hb : defBody st = [.Expr (.Call (.Attribute (.Name "OrderError" p1) "__init__" p2) [.Name "self" p3, .Constant (.str m) j p4] [] p5) p6, .Assign [.Attribute (.Name "self" p7) n p8] (.Name n p9) p10])
    (hba : ∀ (kV doc pm : Value) (an : Option Addr) (cdv ct : Value) (us : List Value), us.length = 2 → bindArgs (PySem.W.fnOf "__init__" qual (defArgs st) (defBody st) (defScope st) .none kV doc pm an cdv ct) ⟨us, []⟩ = pure ((["self", n] : List Str).zip us))
    (hr : RoomG k X.A) (hk : 2 ≤ k) (h : SndP X E0 e p) (hc : X.calm = true) (tk : Takes X (fun cl d _ H => E cl d H)) (hg : Gl X c) (hdb : (c == ("__debug__" : Str)) = false := by decide)
    (hnd : (n == ("__debug__" : Str)) = false := by decide) (hnc : (n == ("__classdict__" : Str)) = false := by decide)
    (he : starEach [e] X.env = (false, eval e X.env) :: starEach [] X.env := by rfl) :
    SndS X E (.Raise (some (.Call (.Name c p0) [e] [] pos)) none pos') (raiseF c n p) := by
  obtain ⟨C, O, f, fd, hm, hmo, T, i1, i2, Fn, hno, cr, vV⟩ := F.ex
  obtain ⟨t, h1, h2⟩ := h
  have F1 := init_fn (P := X.prog) (w := X.w) (base := X.base) Fn T hno S vs vn hnd hnc go hmo cr vV hl hb
  refine ⟨_, ps_raise hc tk (pmk_oex T i1 i2 F1 (hr.toRoom.mono hk) (Fn.binds (ps := ["self", n]) hba) .nil pass0 hg hm (pa_cons h1 pa_nil he) hdb he rfl), fun M N fx pin φ H env σ ts K g w => ?_⟩
  refine h2 M env σ H _ g.obs ?_
  unfold raiseF at w
  cases hp : p env with
  | no => rw [hp] at w; exact w.elim
  | ex x => rw [hp] at w; exact w.elim
  | ok f d =>
    rw [hp] at w
    simp only at w
    split at w
    · rename_i hn
      intro v H' as ex rp _ _
      have := Rep.noL rp hn
      subst this
      refine ⟨by simp, fun a ha => ⟨a, v, rfl, upd_same, fun dx n1 n2 => ⟨rfl, dx, [(n, v)], upd_same, ?_, ?_, ?_⟩⟩⟩
      · rw [upd_ne n2, upd_same]
      · rw [← n1, upd_ne n2]
      · have nd : H' dx = none := by rw [← n1, upd_ne n2]
        have eq : upd (del (upd (upd (upd H' a (exo a C none)) dx (exd dx [(n, v)])) a (exo a C (some dx))) a) dx (.xd [(n, v)]) = upd H' dx (.xd [(n, v)]) := by
          funext b
          by_cases hbd : b = dx
          · subst hbd; rw [upd_same, upd_same]
          · rw [upd_ne hbd, upd_ne hbd]
            by_cases hba' : b = a
            · subst hba'; rw [del_same, ha]
            · rw [del_ne hba', upd_ne hba', upd_ne hbd, upd_ne hba']
        rw [eq]
        have e2 : Ex H' (upd H' dx (.xd [(n, v)])) := .of fun b u z => by
          have : b ≠ dx := fun y => by rw [y, nd] at z; cases z
          rw [upd_ne this]; exact z
        have e3 : Ex H (upd H' dx (.xd [(n, v)])) := ex.trans e2
        exact w φ _ σ (.ref C) (some dx) (g.ext e3) ⟨C, hm, rfl, .inr ⟨by simp, dx, [v], [], rfl, upd_same, .cons (rp.mono e2) .nil⟩⟩
    · exact w.elim
end
end CB

namespace CB
open PySem L2 PySem.Spec PyProof.Rows PySem.W
variable [CT]
def signs (z : PySem.Str) : List D := z.cps.toList.map fun (c : Nat) => D.str ⟨#[c]⟩
section
variable {X : Cx} {E : XK} {tg : Expr}
end
section
variable {X : Cx}
end
end CB

namespace CB
open PySem L2 PySem.Spec PyProof.Rows PySem.W
variable [CT]
section
variable {X : Cx}
end
end CB

namespace CB
open PySem L2 PySem.Spec PyProof.Rows
variable [CT]
section
variable {X : Cx}
end
section
variable {X : Cx} {E : XK}
def dRevM : List D → Option (Kd × D)
  | [.lst xs] => some (.lin, .lst xs.reverse)
  | _ => none
def rRevM (K : PySem.W.Frag) : List V → Hp → VK → Prop := fun vs H Q => ∃ a xs, vs = [V.ref a] ∧ SqL K H a xs ∧ ∀ p, H p = none → Q (.ref p) (upd H p (.lst xs.reverse))
theorem v_revM (K : PySem.W.Frag) : VN (rRevM K) dRevM := by
  intro H ds vs as k d Q r hf hq
  match ds, hf with
  | [.lst xs], hf =>
    cases hf
    obtain ⟨v, rfl, r1⟩ := r.one
    cases r1 with
    | @lst a ws _ as' ha s =>
      obtain ⟨bs, rb, pb⟩ := reps_revP s
      refine ⟨a, ws, rfl, SqL.of ha, fun p hp => hq _ _ (p :: bs) (Ex.new hp) (.newL hp rb) ?_⟩
      refine KdOk.mk2 (fun b hb => ?_) fun n => ?_
      · rcases List.mem_cons.mp hb with y | y
        · subst y; exact .inl hp
        · exact .inr (List.mem_cons_of_mem _ (pb.mem_iff.mp y))
      · refine List.nodup_cons.mpr ⟨fun y => rb.ne p y hp, pb.nodup_iff.mpr (List.nodup_cons.mp n).2⟩
theorem snde_revM {e : Expr} {m : GA} {k : Nat} {p1 p2 p3 pos : Pos} (h : SndGA X E e m) : SndE X E (.Subscript e (.Slice none none (some (.UnaryOp .USub (.Constant (.int 1) k p1) p2)) p3) pos) (linG dRevM [m]) := by
  obtain ⟨t, h1, h2⟩ := h
  refine ⟨_, pe_revL h1, fun M N fx pin φ H env σ ts Q g w => h2 M N fx pin φ H env σ ts _ g ?_⟩
  have := linG_read (v_revM X.K) [m] w
  revert this
  cases argsG [m] env with
  | no => exact fun z => z
  | ex x e => exact fun z => z
  | ok us env1 =>
    intro z φ' H' vs ws hv g'
    obtain ⟨a, xs, e, q1, q2⟩ := z φ' H' vs ws hv g'
    exact ⟨.ref a, e, a, xs, rfl, q1, q2⟩
end
end CB

namespace CB
open PySem L2 PySem.Spec PyProof.Rows
variable [CT]
end CB

namespace CB
open PySem L2 PySem.Spec PyProof.Rows
variable [CT]
section
variable {X : Cx}
end
section
variable {X : Cx} {E : XK}
end
section
variable {X : Cx} {E : XK} {tg : Expr}
end
end CB

namespace CB
open PySem L2 PySem.Spec PyProof.Rows
variable [CT]
section
variable {M N : Addr → Prop} {fx : Addr → HO → Prop} {pin : Nat → Option V} {φ φ' : Lab} {H H' : Hp} {env : Env} {σ : L2.St} {ts : List Tmp}
theorem Helds.snoc {l : Lb} {d : D} {v : V} (h : Held φ H M l false d v) : ∀ {ds : List D} {vs : List V}, Helds φ H M l ds vs → Helds φ H M l (ds ++ [d]) (vs ++ [v])
  | [], [], _ => ⟨h, trivial⟩
  | _ :: _, _ :: _, ⟨a, b⟩ => ⟨a, Helds.snoc h b⟩
theorem Held.nx {l : Lb} {o : Bool} {d : D} {v : V} {a : Addr} {i : Nat} {o1 : HO} {vs : List V} (h : Held φ H M l o d v) (hl : o = true → l ≠ .slot i) (ha : H a = some (.lst vs)) (hφ : φ a = some (.slot i)) : Held φ (upd H a o1) M l o d v := by
  obtain ⟨as, r, m, q, n⟩ := h
  refine ⟨as, r.keep fun c u hc hi => ?_, m, q, n⟩
  have : c ≠ a := fun z => by
    subst z
    rcases hi with z | z
    · have := q c z
      rw [hφ] at this
      cases o with
      | true => simp at this; exact hl rfl this.symm
      | false => cases this
    · rw [ha] at hc; cases hc; cases z
  rw [upd_ne this]; exact hc
theorem Good.appTop {o : Bool} {d : D} {v : V} {i : Nat} {xs : List D} {a : Addr} {vs : List V} (g : Good M N fx pin φ H env σ (ts ++ [(o, d, v)])) (hs : env[i]? = some (.top xs)) (hv : σ[i]? = some (some (.ref a))) (ha : H a = some (.lst vs)) :
    Good M N fx pin (unT ts.length φ) (upd H a (.lst (vs ++ [v]))) (env.set i (.top (xs ++ [d]))) σ ts := by
  have g0 := g.shareW
  obtain ⟨v0, vs0, q1, q2, q3⟩ := g0.slot i _ hs
  rw [hv] at q1; cases q1
  obtain ⟨a0, as, e0, ha0, hM, hφ, rr, rm, _⟩ := top_rep q2 q3
  cases e0
  rw [ha] at ha0; cases ha0
  have hi : Held (unT ts.length φ) H M (.slot i) false d v := by
    obtain ⟨bs, r, m, q, _⟩ := g.tmp ts.length (o, d, v) (by simp)
    refine ⟨bs, r, m, fun b hb => ?_, fun z => nomatch z⟩
    have := q b hb
    show unT ts.length φ b = none
    unfold unT
    cases o with
    | true => rw [this]; simp
    | false => rw [this]; rfl
  refine ⟨?_, fun c u h => ?_, fun c h => ?_, g0.free, fun k s h => ?_, fun j t h => (g0.tmp j t h).nx (fun _ z => nomatch z) ha hφ⟩
  · exact ⟨by have := g0.len.le; rw [List.length_set]; exact this, g0.len.tab.upd (imm_of ha)⟩
  · obtain ⟨f1, f2⟩ := g0.fix c u h
    have : c ≠ a := fun z => by subst z; rw [hφ] at f2; cases f2
    exact ⟨f1.upd this, f2⟩
  · by_cases z : c = a
    · subst z; exact ⟨(g0.own c h).1, _, upd_same, rfl⟩
    · obtain ⟨n, u, h1, h2⟩ := g0.own c h
      exact ⟨n, u, by rw [upd_ne z]; exact h1, h2⟩
  · by_cases hk : k = i
    · subst hk
      have hl : k < env.length := (List.getElem?_eq_some_iff.mp hs).1
      rw [List.getElem?_set_self hl] at h
      cases h
      rw [hv]
      exact ⟨.ref a, vs ++ [v], rfl, ⟨[a], .box upd_same, fun b hb => by rw [List.mem_singleton.mp hb]; exact hM, fun b hb => by rw [List.mem_singleton.mp hb]; exact hφ, fun _ => by simp⟩, Helds.snoc (hi.nx (fun z => nomatch z) ha hφ) (q3.map fun d v q => q.nx (fun z => nomatch z) ha hφ)⟩
    · rw [List.getElem?_set_ne (Ne.symm hk)] at h
      have q := g0.slot k s h
      cases s with
      | emp => trivial
      | pin => exact q
      | val o d => obtain ⟨v, h1, h2⟩ := q; exact ⟨v, h1, h2.nx (fun _ z => hk (by cases z; rfl)) ha hφ⟩
      | ref d => obtain ⟨v, h1, h0, h2⟩ := q; exact ⟨v, h1, h0, h2.nx (fun _ z => hk (by cases z; rfl)) ha hφ⟩
      | top xs => obtain ⟨v, vs, h1, h2, h3⟩ := q; exact ⟨v, vs, h1, h2.nx (fun _ z => hk (by cases z; rfl)) ha hφ, h3.map fun d v q => q.nx (fun z => nomatch z) ha hφ⟩
theorem Good.topify {i : Nat} {xs : List D} {v : V} {vs : List V} (g : Good M N fx pin φ H env σ ts) (hs : env[i]? = some (.val true (.box vs))) (hv : σ[i]? = some (some v)) (h : Helds φ H M (.slot i) xs vs) : Good M N fx pin φ H (env.set i (.top xs)) σ ts := by
  refine ⟨?_, g.fix, g.own, g.free, fun k s hk => ?_, g.tmp⟩
  · exact ⟨by have := g.len.le; rw [List.length_set]; exact this, g.len.tab⟩
  · by_cases hki : k = i
    · subst hki
      have hl : k < env.length := (List.getElem?_eq_some_iff.mp hs).1
      rw [List.getElem?_set_self hl] at hk
      cases hk
      obtain ⟨w, h1, h2⟩ := g.slot k _ hs
      rw [hv] at h1; cases h1
      exact ⟨v, vs, hv, h2, h⟩
    · rw [List.getElem?_set_ne (Ne.symm hki)] at hk
      exact g.slot k s hk
theorem Reps.helds {l : Lb} : ∀ {ds : List D} {vs : List V} {as : List Addr}, Reps H ds vs as → (∀ a ∈ as, M a ∧ φ a = none) → Helds φ H M l ds vs
  | _, _, _, .nil, _ => trivial
  | _, _, _, .cons r rs, h => ⟨⟨_, r, fun a ha => (h a (List.mem_append_left _ ha)).1, fun a ha => (h a (List.mem_append_left _ ha)).2, fun z => nomatch z⟩, Reps.helds rs fun a ha => h a (List.mem_append_right _ ha)⟩
end
def asgTop (i : Nat) (ms : List GA) : SM := fun env => match argsG ms env with
  | .ok us env1 => if tmpU us && decide (i < env1.length) then match valsU env1 us with
    | some ds => if szOk ds.length then .nx (env1.set i (.top ds)) else .no
    | none => .no
    else .no
  | .ex x e => .ex x e
  | .no => .no
def appTop (i : Nat) (m : GE) : GE := fun env => match Env.look env i with
  | some (.lst _) => match m env with
    | .ok _ d env1 => match env1[i]? with
      | some (.top xs) => if szOk xs.length then .ok true .non (env1.set i (.top (xs ++ [d]))) else .no
      | _ => .no
    | .ex x e => .ex x e
    | .no => .no
  | _ => .no
section
variable {X : Cx} {E : XK}
theorem snds_top {i : Nat} {x : Str} {es : List Expr} {ms : List GA} {pos pos' lpos : Pos} (h : SndAG X E es ms) (hN : X.N.Nodup) (hi : X.N[i]? = some x) (hx : Loc X.env.scope x) (hs : swapsWith (.List es lpos) (some (.Name x pos')) pos.line X.env = pure false := by rfl) (hf : X.fn x = true ∨ X.env.scope.names.lookup x = some .local := by first | exact .inl rfl | exact .inr rfl | assumption) :
    SndS X E (.Assign [.Name x pos'] (.List es lpos) pos) (asgTop i ms) := by
  obtain ⟨t, h1, h2⟩ := h
  refine ⟨_, ps_set hN hi hx (pe_lst h1) hs hf, fun M N fx pin φ H env σ ts K g w => ?_⟩
  refine h2 M N fx pin φ H env σ ts _ g ?_
  unfold asgTop at w
  cases ha : argsG ms env with
  | no => rw [ha] at w; exact w
  | ex x e => rw [ha] at w; exact fun φ' H' c dx g' r => w φ' H' σ c dx g' r
  | ok us env1 =>
    rw [ha] at w
    intro φ1 H1 vs ws hvm g1
    simp only at w
    split at w
    · rename_i hu
      simp only [Bool.and_eq_true, decide_eq_true_eq] at hu
      cases e1 : valsU env1 us with
      | none => rw [e1] at w; exact w.elim
      | some ds =>
        rw [e1] at w
        simp only at w
        split at w
        · rename_i hz
          obtain ⟨as, ra, la⟩ := hvm.tmps g1 hu.1 e1
          have hl := ra.length
          refine ⟨Nat.le_of_lt (by rw [← hl]; exact szOk_lt hz), fun p hp => ?_⟩
          have ex : Ex H1 (upd H1 p (.lst vs)) := Ex.new hp
          have g2 := g1.shareW.push ex (d := .box vs) (v := .ref p) (as := [p]) (.box upd_same) ⟨by simp, fun a h => by rw [List.mem_singleton.mp h]; exact hp⟩
          have g3 := g2.store (i := i)
          have hlen := g1.len
          refine w _ _ _ (by
            have := g3.topify (xs := ds) (v := .ref p) (vs := vs) (i := i) (by rw [List.getElem?_set_self hu.2]) (by rw [List.getElem?_set_self (Nat.lt_of_lt_of_le hu.2 hlen.le)]) ?_
            · rw [List.set_set] at this; exact this
            · refine (ra.mono ex).helds fun a h => ⟨(la a h).1, ?_⟩
              have ne : a ≠ p := fun z => by
                subst z
                obtain ⟨u, hu, _⟩ := ra.there a h
                rw [hp] at hu; cases hu
              have un : unT ts.length φ1 a = none := by
                unfold unT
                rcases (la a h).2 with z | ⟨j, hj, z⟩
                · rw [z]
                · rw [z]; simp; omega
              have lb : lbl (unT ts.length φ1) [p] (.tmp ts.length) a = none := by
                unfold lbl
                rw [if_neg (by simpa using ne)]; exact un
              unfold toSlot
              rw [lb]; simp)
        · exact w.elim
    · exact w.elim
theorem snde_appTop {i : Nat} {x : Str} {e : Expr} {m : GE} {p apos cpos : Pos} (hN : X.N[i]? = some x) (hvx : Vis X.env.scope x) (h : SndE X E e m)
    (hbase : attributeBase (.Name x p) ("append" : Str) X.env (eval (.Name x p) X.env) = eval (.Name x p) X.env := by rfl)
    (hfew : ((backTo cpos (starEach [e] X.env)).all (fun x => !x.1) && (backToKw cpos (keywordEach [] X.env)).all (fun x => x.1.isSome)
      && decide (([e] : List Expr).length + ([] : List Keyword).length + (if ([] : List Keyword).isEmpty then 0 else 1) < 30)) = true := by rfl)
    (hline : (apos.endLine == cpos.line) = true := by rfl) (hs : starEach [e] X.env = (false, eval e X.env) :: starEach [] X.env := by rfl) (hplain : (backTo cpos (starEach [] X.env)).any (·.1) = false := by rfl)
    (hd : (x == ("__debug__" : Str)) = false := by decide) (hcd : (x == ("__classdict__" : Str)) = false := by decide) :
    SndE X E (.Call (.Attribute (.Name x p) ("append" : Str) apos) [e] [] cpos) (appTop i m) := by
  obtain ⟨t, h1, h2⟩ := h
  refine ⟨_, pe_bm PySem.F.plainAttrs_list PySem.F.slot_list_append PySem.F.type_list_append mt_append (pe_var hN hvx hd hcd) (pa_cons h1 pa_nil hs) hbase hfew hline hs hplain, fun M N fx pin φ H env σ ts Q g w => ?_⟩
  unfold appTop at w
  split at w
  · rename_i xs0 hl
    obtain ⟨a0, vs0, k1, k2⟩ := look_lst g hl
    refine ⟨.ref a0, k1, tyV_list k2, h2 M N fx pin φ H env σ ts _ g ?_⟩
    cases hm : m env with
    | no => rw [hm] at w; exact w
    | ex x e => rw [hm] at w; exact w
    | ok o d env1 =>
      rw [hm] at w
      simp only at w
      intro φ1 H1 v g1
      split at w
      · rename_i xs hy
        split at w
        · rename_i hz
          obtain ⟨w0, vs, q1, q2, q3⟩ := g1.slot i _ hy
          rw [k1] at q1; cases q1
          obtain ⟨a, as, e0, ha, _, _, rr, _, _⟩ := top_rep q2 q3
          cases e0
          exact ⟨a0, vs, v, rfl, rfl, ha, szOk_lt (by rw [← rr.length]; exact hz), w _ _ _ ((g1.appTop hy k1 ha).push (Ex.refl _) .non (New.nil _))⟩
        · exact w.elim
      · exact w.elim
  · exact w.elim
end
end CB

namespace CB
open PySem L2 PySem.Spec PyProof.Rows
variable [CT]
def nk1 (t : List Int) : NestedKey := .tup (t.map NestedKey.num)
def nk (k : Key2) : NestedKey := .tup (k.map nk1)
omit [CT] in
theorem num_inj : ∀ {a b : List Int}, a.map NestedKey.num = b.map NestedKey.num → a = b
  | [], [], _ => rfl
  | x :: a, y :: b, h => by
    rw [List.map_cons, List.map_cons] at h
    injection h with h1 h2
    injection h1 with h1
    rw [h1, num_inj h2]
  | [], _ :: _, h => by simp at h
  | _ :: _, [], h => by simp at h
omit [CT] in
theorem nk1_inj : ∀ {a b : Key2}, a.map nk1 = b.map nk1 → a = b
  | [], [], _ => rfl
  | x :: a, y :: b, h => by
    rw [List.map_cons, List.map_cons] at h
    injection h with h1 h2
    unfold nk1 at h1
    injection h1 with h1
    rw [num_inj h1, nk1_inj h2]
  | [], _ :: _, h => by simp at h
  | _ :: _, [], h => by simp at h
omit [CT] in
theorem nk_inj {a b : Key2} (h : nk a = nk b) : a = b := by
  unfold nk at h
  injection h with h
  exact nk1_inj h
omit [CT] in
theorem nums_hash (w : World) : ∀ t : List Int, NestedKey.hashes w (t.map NestedKey.num) = t.map hashInt
  | [] => by simp [NestedKey.hashes]
  | x :: t => by simp [NestedKey.hashes, NestedKey.hash, nums_hash w t]
omit [CT] in
theorem nk1s_hash (w : World) : ∀ k : Key2, NestedKey.hashes w (k.map nk1) = k.map hash1
  | [] => by simp [NestedKey.hashes]
  | t :: k => by
    rw [List.map_cons, NestedKey.hashes, nk1s_hash w k, List.map_cons]
    unfold nk1 hash1
    rw [NestedKey.hash, nums_hash]
omit [CT] in
theorem nk_hash (w : World) (k : Key2) : NestedKey.hash w (nk k) = hash2 k := by
  unfold nk hash2
  rw [NestedKey.hash, nk1s_hash]
omit [CT] in
theorem nums_depth : ∀ t : List Int, NestedKey.depthAll (t.map NestedKey.num) = 0
  | [] => by simp [NestedKey.depthAll]
  | x :: t => by simp [NestedKey.depthAll, NestedKey.depth, nums_depth t]
omit [CT] in
theorem nk1s_depth : ∀ k : Key2, NestedKey.depthAll (k.map nk1) ≤ 1
  | [] => by simp [NestedKey.depthAll]
  | t :: k => by
    have := nk1s_depth k
    rw [List.map_cons, NestedKey.depthAll]
    unfold nk1
    rw [NestedKey.depth, nums_depth]
    unfold nk1 at this
    omega
omit [CT] in
theorem nk_depth (k : Key2) : (nk k).depth ≤ 8 := by
  have := nk1s_depth k
  unfold nk
  rw [NestedKey.depth]; omega
def kind2 (P : Program) (w : World) : HeapKind P w Key2 where
  is := fun h k a => (nestedKind P w).is h (nk k) a
  hash := hash2
  draws := fun k => (nestedKind P w).draws (nk k)
  room := (nestedKind P w).room
  inj := fun hx hy => nk_inj ((nestedKind P w).inj hx hy)
  keeps := fun x ho hd hs => (nestedKind P w).keeps x ho hd hs
  pyHash := fun {A E s k a Q} hu hk h => (nestedKind P w).pyHash hu hk (by
    show Q (NestedKey.hash w (nk k)) _
    rw [nk_hash]; exact h)
  eqBool := fun {A E s x y a b Q} hu hx hy h => (nestedKind P w).eqBool hu hx hy (by
    have : decide (nk x = nk y) = decide (x = y) := by
      by_cases e : x = y
      · subst e; simp
      · rw [decide_eq_false e, decide_eq_false fun z => e (nk_inj z)]
    rw [this]; exact h)
  quiet := fun hk h => (nestedKind P w).quiet hk h
omit [CT] in
theorem room2 {P : Program} {w : World} {A : Around} (hu : A.units + 64 < cLine) : (kind2 P w).room A.in1 := by
  show A.units + 1 + 8 < cLine
  omega
omit [CT] in
theorem nums_is {h : Heap} : ∀ {t : List Int} {us : List Value}, Vals (t.map V.int) us → NestedAll h (t.map NestedKey.num) us
  | [], _, r => by rw [List.map_nil] at r; cases r; exact .nil
  | x :: t, _, r => by
    rw [List.map_cons] at r
    cases r with
    | cons hx ht => obtain ⟨tk, e⟩ := hx; subst e; exact .cons (.int _ _) (nums_is ht)
omit [CT] in
theorem nk1s_is {P : Program} {w : World} {H : Hp} {h : Heap} (ok : HOk P w H h) : ∀ {k : Key2} {vs : List V} {us : List Value}, KTups H k vs → Vals vs us → NestedAll h (k.map nk1) us
  | [], [], _, _, r => by cases r; exact .nil
  | t :: k, v :: vs, _, ⟨⟨b, q, e, hb, _⟩, hk⟩, r => by
    cases r with
    | cons hx ht =>
      subst e
      obtain rfl := (show _ = Value.ref b from hx)
      obtain ⟨_, _, its, r2, o, h1, h2, n, h3⟩ := (show ObjOk P w H h b (.frz q (.tup (t.map V.int))) from ok b _ hb)
      exact .cons (.tup h1 h2 h3 (by simpa using nums_is r2)) (nk1s_is ok hk ht)
omit [CT] in
theorem key_int2 {P : Program} {w : World} {H : Hp} {h : Heap} {a : Addr} {k : Key2} (ok : HOk P w H h) (e : IsKey2 H k a) : (kind2 P w).is h k a := by
  obtain ⟨q, vs, h0, _, hk⟩ := e
  obtain ⟨_, _, its, r, o, h1, h2, n, h3⟩ := (show ObjOk P w H h a (.frz q (.tup vs)) from ok a _ h0)
  exact ⟨.tup h1 h2 h3 (by simpa using nk1s_is ok hk r), nk_depth k⟩
theorem dic_of2 {P : Program} {w : World} {H : Hp} {h : Heap} {a : Addr} {o : Obj} {es : Array DictEntry} {ep : Nat} {xs : Ents2} (ok : HOk P w H h) (e : H a = some (dO a o)) (i : IsDic2 H a o es ep xs) : h.DictOfH (kind2 P w) a xs :=
  ⟨o, es, ep, dO_get ok e, i.ex, i.dat, i.ents, fun x hx => key_int2 ok (i.key x hx), i.nd⟩
structure DKey2 (H : Hp) (a b : Addr) (xs : Ents2) (k : Key2) : Prop where
  dic : ∃ o es ep, H a = some (dO a o) ∧ IsDic2 H a o es ep xs
  key : IsKey2 H k b
section
variable {X : Cx}
def rDIx2 : R2 := fun x y H Q => ∃ a b xs k p v, x = .ref a ∧ y = .ref b ∧ DKey2 H a b xs k ∧ atKey xs k = some p ∧ RelV v p.2 ∧ Q v H
theorem ix_dic2 (hu : X.A.units + 64 < cLine) : IxR X rDIx2 := by
  intro value slice pins s σ H x y v u Q I rx ry h hs
  obtain ⟨a, b, xs, k, p, z, rfl, rfl, ⟨⟨o, es, ep, ha, hi⟩, hb⟩, hp, rz, hq⟩ := h
  cases rx
  cases ry
  have dd := dic_of2 I.hok ha hi
  exact tail_any dd.typeIs PySem.F.slot_dict_getitem.lookup (wpAny_getItem_heap (room2 hu) (key_int2 I.hok hb) dd hp ⟨z, H, I.tok _, rz, hq⟩) hs
def rDNotIn2 : R2 := fun y x H Q => ∃ a b xs k, x = .ref a ∧ y = .ref b ∧ DKey2 H a b xs k ∧ Q (.bl (!(atKey xs k).isSome)) H
theorem op_notInD2 (hu : X.A.units + 64 < cLine) : OpR X (compareOp .NotIn) rDNotIn2 := by
  intro pins s σ H y x u v Q I ry rx h
  obtain ⟨a, b, xs, k, rfl, rfl, ⟨⟨o, es, ep, ha, hi⟩, hb⟩, hq⟩ := h
  cases rx
  cases ry
  exact wpAny_notIn_heap (room2 hu) (key_int2 I.hok hb) hi.nsm (dic_of2 I.hok ha hi) ⟨.bl _, H, I.tok _, rfl, hq⟩
def rSetD2 : V → V → V → Hp → (Hp → Prop) → Prop := fun o i v H Q => ∃ a b xs k, o = .ref a ∧ i = .ref b ∧ DKey2 H a b xs k ∧ xs.length < sizeLine ∧
  ∀ o' es' ep' u, RelV v u → IsDic2 (upd H a (dO a o')) a o' es' ep' (storedH xs k b u) → Q (upd H a (dO a o'))
theorem storedH_len2 (xs : Ents2) (k : Key2) (b : Addr) (u : Value) : (storedH xs k b u).length ≤ xs.length + 1 := by
  unfold storedH; split <;> simp
theorem storedH_mem2 {xs : Ents2} {k : Key2} {b : Addr} {u : Value} {x : Key2 × Addr × Value} (h : x ∈ storedH xs k b u) : (∃ y ∈ xs, y.1 = x.1 ∧ y.2.1 = x.2.1) ∨ (x.1 = k ∧ x.2.1 = b) := by
  unfold storedH at h
  split at h
  · obtain ⟨y, hy, e⟩ := List.mem_map.mp h
    refine .inl ⟨y, hy, ?_⟩
    subst e
    unfold putAt
    split <;> exact ⟨rfl, rfl⟩
  · rcases List.mem_append.mp h with h | h
    · exact .inl ⟨x, h, rfl, rfl⟩
    · simp at h; subst h; exact .inr ⟨rfl, rfl⟩
theorem set_dic2 (hu : X.A.units + 64 < cLine) : PSet X rSetD2 := by
  intro pins s σ H o i v ov iv u Q I ro ri rv h
  obtain ⟨a, b, xs, k, rfl, rfl, ⟨⟨ob, es, ep, ha, hi⟩, hb⟩, hz, hQ⟩ := h
  cases ro
  cases ri
  refine wpAny_setItem_heap (hsz := Nat.le_of_lt hz) (room2 hu) (key_int2 I.hok hb) (dic_of2 I.hok ha hi) fun h' dd' hs => ?_
  obtain ⟨o', es', ep', hq, h2, h3, h4, _, h5⟩ := dd'
  have ne : ∀ c q u, H c = some (.frz q u) → upd H a (dO a o') c = some (.frz q u) := fun c q u e => by rw [upd_ne (ne_of e ha (fun z => nomatch z))]; exact e
  refine ⟨_, d_write I (by rw [ha]; exact True.intro) hs ⟨o', hq⟩ (dO_ok hq), hQ o' es' ep' u rv ⟨hi.nsm, h2, h3, h4, h5, by have := storedH_len2 xs k b u; omega, fun x hx => ?_⟩⟩
  rcases storedH_mem2 hx with ⟨y, hy, e1, e2⟩ | ⟨e1, e2⟩
  · rw [← e1, ← e2]
    exact (hi.key y hy).keep ne
  · rw [e1, e2]
    exact hb.keep ne
def Itkd2 (d : Addr) (o : Obj) (xs : Ents2) : It :=
  ⟨fun i H => H d = some (dO d o) ∧ i < xs.length, fun i H x H' => H' = H ∧ ∃ e, xs[i]? = some e ∧ x = .ref e.2.1, fun i H => H d = some (dO d o) ∧ xs.length ≤ i⟩
theorem ents_at2 {es : Array DictEntry} {xs : Ents2} (he : es.toList = xs.map entI2) (i : Nat) : es[i]? = (xs[i]?).map entI2 := by
  rw [← Array.getElem?_toList, he, List.getElem?_map]
theorem ents_size2 {es : Array DictEntry} {xs : Ents2} (he : es.toList = xs.map entI2) : es.size = xs.length := by
  rw [← Array.length_toList, he, List.length_map]
theorem ents_get2 {es : Array DictEntry} {xs : Ents2} (he : es.toList = xs.map entI2) {i : Nat} (hi : i < es.size) {e : Key2 × Addr × Value} (h : xs[i]? = some e) : es[i].key = .ref e.2.1 ∧ es[i].val = e.2.2 := by
  have q := ents_at2 he i
  rw [h, Array.getElem?_eq_getElem hi] at q
  have q := Option.some.inj q
  rw [q]
  exact ⟨rfl, rfl⟩
theorem turn_keysD2 {P : Program} {w : World} {K : PySem.W.Frag} {tg : Expr} {d : Addr} {o : Obj} {es : Array DictEntry} {ep : Nat} {xs : Ents2} (it : Addr) (hx : o.ExactDict) (hod : o.data = .dict es ep) (he : es.toList = xs.map entI2) : Turn P w K tg (Itkd2 d o xs) [it] it (fun i h => h.IsKeyIter it d i es.size ep) where
  mem := by simp
  obj := fun i h st b hb => by
    have e : b = it := by simpa using hb
    subst e
    obtain ⟨oi, e, c, dd⟩ := st
    exact ⟨oi, e, fun v z => by rw [dd] at z; cases z⟩
  keep := fun i h h' st k => st.at fun oi e => k it (by simp) oi e
  item := by
    intro X hP hw hK hc i pins s σ H E I hf st hg
    subst hP hw hK
    obtain ⟨hd, hi⟩ := hg
    obtain ⟨f0, f1, f2, f3, f4, f5⟩ := hf it (by simp)
    have hi' : i < es.size := by rw [ents_size2 he]; exact hi
    have hxe : xs[i]? = some xs[i] := List.getElem?_eq_getElem hi
    refine wpAny_pyNext_keys_item_raw st (dic_raw I.hok hd hx hod) hi' fun h' st' sb => ?_
    have I1 : L2.Inv X pins σ H { s with heap := h' } := I.turned (t' := s.toks) (fun b ob hb e => (sb.2 b hb).trans e) f0 f1 f3 f4 f5
    obtain ⟨oi, e, c, dd⟩ := id st'
    exact ⟨es[i].key, rfl, go_of (s := { s with heap := h' }) e c dd (by decide) ⟨.ref (xs[i]).2.1, H, I1, (ents_get2 he hi' hxe).1, ⟨rfl, xs[i], hxe, rfl⟩, st', fun b hb => (hf b hb).1⟩⟩
  done := by
    intro X hP hw hK hc i pins s σ H E I hf st hg
    subst hP hw hK
    obtain ⟨hd, hi⟩ := hg
    obtain ⟨f0, f1, f2, f3, f4, f5⟩ := hf it (by simp)
    exact wpAny_pyNext_keys_end_raw (I.ok.hd hc) st (dic_raw I.hok hd hx hod) (by rw [ents_size2 he]; exact hi) fun h' eb => ⟨rfl, I.turned (t' := s.toks) (fun b ob hb e => eb b ob hb e) f0 f1 f3 f4 f5⟩
  self := fun A i s Q E st h => by
    refine wpAny_pyIter_slot st.typeIs F.slot_dict_keyiterator_iter (wpAny_call_entry F.slot_dict_keyiterator_iter st.typeIs F.entry_dict_keyiterator_iter ?_ (F.args_dict_keyiterator_iter_1 _))
    show wpAny _ _ (ret (.ref it)) _ _ s
    exact wpAny_pure ⟨_, rfl, "dict_keyiterator", _, st.typeIs, F.slot_dict_keyiterator_next.lookup, h⟩
def iKeysD2 (td : TE) : TI := fun σ H R => td σ H fun x H1 => ∃ d o es ep xs, x = .ref d ∧ H1 d = some (dO d o) ∧ (d == sysModules) = false ∧ o.ExactDict ∧ o.data = .dict es ep ∧ es.toList = xs.map entI2 ∧ R (Itkd2 d o xs) H1
theorem pi_keysD2 {tg e : Expr} {td : TE} (he : PE X e td) : PI X tg e (iKeysD2 td) := by
  refine ⟨fun pins s σ H R I h => ?_⟩
  refine thn (he.run pins s σ H _ I h) fun u s1 ⟨x, H1, I1, rx, d, o, es, ep, xs, ex, hd, hn, hx, hod, hes, q⟩ => ?_
  subst ex
  obtain rfl : u = Value.ref d := rx
  refine wpAny_pyIter_dict_raw hn (dic_raw I1.hok hd hx hod) (pi_one (tk := s1.toks) I1 _ (turn_keysD2 _ hx hod hes) ⟨_, Heap.get?_push_size _ rfl, rfl, rfl⟩ q)
end
def keyI2 : List D → Option Key2
  | [] => some []
  | d :: ds => match keyOf d, keyI2 ds with
    | some t, some k => some (t :: k)
    | _, _ => none
def keyOf2 : D → Option Key2
  | .tup xs => keyI2 xs
  | _ => none
def kD2 (k : Key2) : D := .tup (k.map fun t => .tup (t.map D.int))
def dval2 {α : Type} : List Key2 → List α → Key2 → Option α
  | k' :: ks, v :: vs, k => if k' = k then some v else dval2 ks vs k
  | _, _, _ => none
def kput2 : List Key2 → Key2 → List Key2
  | [], k => [k]
  | k' :: ks, k => if k' = k then k' :: ks else k' :: kput2 ks k
def vput2 {α : Type} : List Key2 → List α → Key2 → α → List α
  | k' :: ks, v :: vs, k, d => if k' = k then d :: vs else v :: vput2 ks vs k d
  | _, _, _, d => [d]
theorem reps_key2 {H : Hp} : ∀ {xs : List D} {k : Key2} {vs : List V} {as : List Addr}, Reps H xs vs as → keyI2 xs = some k → KTups H k vs ∧ as = []
  | [], k, _, _, .nil, h => by cases h; exact ⟨trivial, rfl⟩
  | d :: ds, k, _, _, .cons r rs, h => by
    simp only [keyI2] at h
    split at h
    · rename_i t k' e1 e2
      cases h
      obtain ⟨b, q, h1, h2, h3, h4⟩ := r.key e1
      obtain ⟨g1, g2⟩ := reps_key2 rs e2
      subst h4 g2
      exact ⟨⟨⟨b, q, h1, h2, h3⟩, g1⟩, rfl⟩
    · cases h
theorem Rep.key2 {H : Hp} {d : D} {v : V} {as : List Addr} {k : Key2} (r : Rep H d v as) (h : keyOf2 d = some k) : ∃ b, v = .ref b ∧ IsKey2 H k b ∧ as = [] := by
  cases r with
  | @tup a o vs xs _ ha hd s =>
    obtain ⟨h1, h2⟩ := reps_key2 s h
    exact ⟨a, rfl, ⟨o, vs, ha, hd, h1⟩, h2⟩
  | _ => simp [keyOf2] at h
theorem ktups_reps {H : Hp} : ∀ {k : Key2} {vs : List V}, KTups H k vs → Reps H (k.map fun t => .tup (t.map D.int)) vs []
  | [], [], _ => .nil
  | t :: k, v :: vs, ⟨⟨b, q, e, h, hd⟩, r⟩ => by
    subst e
    exact .cons (rep_key h hd) (ktups_reps r)
theorem rep_key2 {H : Hp} {b : Addr} {k : Key2} (h : IsKey2 H k b) : Rep H (kD2 k) (.ref b) [] := by
  obtain ⟨q, vs, h1, h2, h3⟩ := h
  exact .tup h1 h2 (ktups_reps h3)
theorem atKey_cons2 (x : Key2 × Addr × Value) (xs : Ents2) (k : Key2) : atKey (x :: xs) k = if x.1 = k then some x.2 else atKey xs k := by
  unfold atKey
  rw [List.find?_cons]
  by_cases e : x.1 = k
  · simp [e]
  · simp [e]
theorem dval_some2 {H : Hp} : ∀ {xs : Ents2} {ds : List D} {vs : List V} {as : List Addr} {k : Key2} {d : D}, Vals vs (xs.map (·.2.2)) → Reps H ds vs as → dval2 (xs.map (·.1)) ds k = some d →
    ∃ p v bs cs es, atKey xs k = some p ∧ L2.RelV v p.2 ∧ Rep H d v bs ∧ as = cs ++ bs ++ es
  | [], _, _, _, _, _, _, _, h => by simp [dval2] at h
  | x :: xs, _, _, _, k, d, .cons hv hvs, .cons (as := as) (bs := bs) r rs, h => by
    simp only [List.map_cons, dval2] at h
    rw [atKey_cons2]
    by_cases e : x.1 = k
    · rw [if_pos e] at h; cases h
      rw [if_pos e]
      exact ⟨x.2, _, as, [], bs, rfl, hv, r, by simp⟩
    · rw [if_neg e] at h
      rw [if_neg e]
      obtain ⟨p, v, bs', cs, es, h1, h2, h3, h4⟩ := dval_some2 (k := k) hvs rs h
      exact ⟨p, v, bs', as ++ cs, es, h1, h2, h3, by rw [h4]; simp [List.append_assoc]⟩
theorem atKey_has2 (xs : Ents2) (k : Key2) : (atKey xs k).isSome = decide (k ∈ xs.map (·.1)) := by
  induction xs with
  | nil => rfl
  | cons x xs ih =>
    rw [atKey_cons2]
    by_cases e : x.1 = k
    · subst e; simp
    · rw [if_neg e, ih, List.map_cons]
      simp [Ne.symm e]
theorem storedH_cons2 {x : Key2 × Addr × Value} {xs : Ents2} {k : Key2} {b : Addr} {u : Value} (hn : ((x :: xs).map (·.1)).Nodup) : storedH (x :: xs) k b u = if x.1 = k then (x.1, x.2.1, u) :: xs else x :: storedH xs k b u := by
  rw [List.map_cons, List.nodup_cons] at hn
  unfold storedH
  rw [atKey_cons2]
  by_cases e : x.1 = k
  · rw [if_pos e, if_pos e]
    subst e
    rw [if_pos (by rfl), List.map_cons, map_putAt_of_not_mem xs _ u hn.1]
    simp [putAt]
  · rw [if_neg e, if_neg e]
    split
    · rw [List.map_cons]; simp [putAt, e]
    · rfl
theorem stored_keys2 {k : Key2} {b : Addr} {u : Value} : ∀ {xs : Ents2}, (xs.map (·.1)).Nodup → (storedH xs k b u).map (·.1) = kput2 (xs.map (·.1)) k
  | [], _ => rfl
  | x :: xs, hn => by
    rw [storedH_cons2 hn, List.map_cons, kput2]
    by_cases e : x.1 = k
    · rw [if_pos e, if_pos e]; rfl
    · rw [if_neg e, if_neg e, List.map_cons, stored_keys2 (List.nodup_cons.mp hn).2]
theorem stored_vals2 {k : Key2} {b : Addr} {u : Value} {v : V} (hv : L2.RelV v u) : ∀ {xs : Ents2} {vs : List V}, (xs.map (·.1)).Nodup → L2.Vals vs (xs.map (·.2.2)) → L2.Vals (vput2 (xs.map (·.1)) vs k v) ((storedH xs k b u).map (·.2.2))
  | [], _, _, .nil => .cons hv .nil
  | x :: xs, _, hn, .cons h hs => by
    rw [storedH_cons2 hn, List.map_cons, vput2]
    by_cases e : x.1 = k
    · rw [if_pos e, if_pos e]; exact .cons hv hs
    · rw [if_neg e, if_neg e]; exact .cons h (stored_vals2 hv (List.nodup_cons.mp hn).2 hs)
theorem Reps.vput2 {H : Hp} {k : Key2} {d : D} {v : V} {bs : List Addr} (q : Rep H d v bs) : ∀ {ks : List Key2} {ds : List D} {vs : List V} {as : List Addr}, ks.length = ds.length → Reps H ds vs as →
    ∃ cs ys es, as = cs ++ ys ++ es ∧ Reps H (CB.vput2 ks ds k d) (CB.vput2 ks vs k v) (cs ++ bs ++ es)
  | [], [], _, _, _, .nil => ⟨[], [], [], rfl, by simpa [CB.vput2] using Reps.cons q .nil⟩
  | k' :: ks, _ :: _, _, _, hl, .cons (as := as) (bs := zs) r rs => by
    simp only [CB.vput2]
    by_cases e : k' = k
    · rw [if_pos e, if_pos e]; exact ⟨[], as, zs, by simp, by simpa using Reps.cons q rs⟩
    · rw [if_neg e, if_neg e]
      obtain ⟨cs, ys, es, h1, h2⟩ := Reps.vput2 (ks := ks) q (by simpa using hl) rs
      exact ⟨as ++ cs, ys, es, by rw [h1]; simp [List.append_assoc], by
        have := Reps.cons r h2
        simpa [List.append_assoc] using this⟩
  | [], _ :: _, _, _, hl, _ => by simp at hl
  | _ :: _, [], _, _, hl, _ => by simp at hl

section
variable {X : Cx} {E : XK}
def dIxD2 : D → D → Option (Kd × D)
  | .dic2 ks vs, y => match keyOf2 y with
    | some k => match dval2 ks vs k with
      | some d => some (if noL d then .new else .lin, d)
      | none => none
    | none => none
  | _, _ => none
theorem v_ixD2 : V2 rDIx2 dIxD2 := by
  intro H x y v w as bs k d Q r1 r2 hf hq
  cases r1 with
  | @dic2 a o es ep xs vs ds as' ha hi hv rs =>
    simp only [dIxD2] at hf
    split at hf
    · rename_i kk hk
      split at hf
      · rename_i d' hd
        cases hf
        obtain ⟨b, e1, e2, e4⟩ := r2.key2 hk
        subst e1 e4
        obtain ⟨p, v, cs, c1, c2, h1, h2, h3, h4⟩ := dval_some2 hv rs hd
        refine ⟨a, b, xs, kk, p, v, rfl, rfl, ⟨⟨o, es, ep, ha, hi⟩, e2⟩, h1, h2, hq _ H cs (Ex.refl H) h3 ?_⟩
        have := kd_sub h3 h4 [a]
        simpa using this
      · cases hf
    · cases hf
  | _ => simp [dIxD2] at hf
def dNotInD2 : D → D → Option (Kd × D)
  | y, .dic2 ks _ => match keyOf2 y with
    | some k => some (.new, .bl (!decide (k ∈ ks)))
    | none => none
  | _, _ => none
theorem v_notInD2 : V2 rDNotIn2 dNotInD2 := by
  intro H y x w v bs as k d Q r2 r1 hf hq
  cases r1 with
  | @dic2 a o es ep xs vs ds as' ha hi hv rs =>
    simp only [dNotInD2] at hf
    split at hf
    · rename_i kk hk
      cases hf
      obtain ⟨b, e1, e2, e4⟩ := r2.key2 hk
      subst e1 e4
      refine ⟨a, b, xs, kk, rfl, rfl, ⟨⟨o, es, ep, ha, hi⟩, e2⟩, ?_⟩
      rw [atKey_has2]
      exact hq _ H [] (Ex.refl H) (.bl _) KdOk.nil
    · cases hf
  | _ => cases y <;> simp [dNotInD2] at hf
def ikeys2 (p : P) : I := fun env => match p env with
  | .ok f (.dic2 ks _) => .ok f (ks.map fun k => kD2 k)
  | .ok _ _ => .no
  | .ex x => .ex x
  | .no => .no
theorem sndi_keys2 {tg e : Expr} {p : P} (h : SndP X E e p) : SndI X E tg e (ikeys2 p) := by
  obtain ⟨t, h1, h2⟩ := h
  refine ⟨_, pi_keysD2 h1, fun S env σ H R o w => h2 S env σ H _ o ?_⟩
  unfold ikeys2 at w
  cases hp : p env with
  | no => rw [hp] at w; exact w
  | ex x => rw [hp] at w; exact w
  | ok f d =>
    rw [hp] at w
    intro v H1 as e1 r1 m1 n1
    cases r1 with
    | @dic2 a ob es ep xs vs ds as' ha hi hv rs =>
      simp only [List.map_map] at w
      have rk : ∀ i (hi' : i < xs.length), Rep H1 (kD2 (xs[i]).1) (.ref (xs[i]).2.1) [] := fun i hi' => by
        exact rep_key2 (hi.key _ (List.getElem_mem hi'))
      refine ⟨a, ob, es, ep, xs, rfl, ha, hi.nsm, hi.ex, hi.dat, hi.ents, w _ H1 (fun b u => (b = a ∧ u = dO a ob) ∨ (Imm u = true ∧ H1 b = some u)) (fun _ => []) (fun _ => []) e1 ⟨fun i H hl hf => ?_, fun i H x H' hf hy d hd => ?_, fun i H hl hf => ?_, fun _ _ _ _ => rfl⟩ (fun b u z => ?_) (fun i hl => ⟨[], .nil, noMem⟩) (fun z b u hb => ?_) fun b u hb => ?_⟩
      · rw [List.length_map] at hl; exact ⟨(hf a _ (.inl ⟨rfl, rfl⟩)).k, hl⟩
      · obtain ⟨e, en, h3, h4⟩ := hy
        subst e h4
        refine ⟨Ex.refl _, fun as ra => ?_⟩
        cases ra
        have hl : i < xs.length := (List.getElem?_eq_some_iff.mp h3).1
        rw [List.getElem?_eq_getElem hl] at h3
        cases h3
        rw [List.getElem?_map, List.getElem?_eq_getElem hl] at hd
        cases hd
        exact rep_key2 ((hi.key _ (List.getElem_mem hl)).keep fun b q u hq => (hf _ _ (.inr ⟨rfl, hq⟩)).k)
      · rw [List.length_map] at hl; exact ⟨(hf a _ (.inl ⟨rfl, rfl⟩)).k, hl⟩
      · rcases z with ⟨z1, z2⟩ | ⟨z1, z2⟩
        · subst z1 z2; exact .of ha
        · exact .of z2
      · rcases hb with ⟨z1, _⟩ | ⟨z1, _⟩
        · subst z1; exact .inl ((n1 z).2 _ List.mem_cons_self)
        · exact .inr z1
      · rcases hb with ⟨z1, _⟩ | ⟨z1, _⟩
        · subst z1; exact (m1 _ List.mem_cons_self).imp id .inl
        · exact .inr (.inr z1)
    | _ => exact (show False from w).elim
end
section
variable {X : Cx} {E : XK}
variable {M N : Addr → Prop} {fx : Addr → HO → Prop} {pin : Nat → Option V} {φ φ' : Lab} {H H' : Hp} {env : Env} {σ : L2.St} {ts us : List Tmp}
def myDic2 (env : Env) (i : Nat) : Option (Sl × List Key2 × List D) := match env[i]? with
  | some s => match s.mine with
    | some (.dic2 ks vs) => some (s, ks, vs)
    | _ => none
  | none => none
theorem myDic_ok2 (g : Good M N fx pin φ H env σ ts) {i : Nat} {s : Sl} {ks : List Key2} {ds : List D} (h : myDic2 env i = some (s, ks, ds)) :
    ∃ a o es ep xs vs as, ks = xs.map (·.1) ∧ env[i]? = some s ∧ s.mine = some (.dic2 ks ds) ∧ σ[i]? = some (some (.ref a)) ∧ ((∃ d, s = .ref d) → pin i = some (.ref a)) ∧ φ a = some (.slot i) ∧ H a = some (dO a o) ∧ IsDic2 H a o es ep xs ∧ L2.Vals vs (xs.map (·.2.2)) ∧ M a ∧ Reps H ds vs as ∧ (a :: as).Nodup ∧ ∀ b ∈ as, M b ∧ φ b = some (.slot i) := by
  unfold myDic2 at h
  cases e : env[i]? with
  | none => rw [e] at h; cases h
  | some s' =>
    rw [e] at h
    simp only at h
    cases e2 : s'.mine with
    | none => rw [e2] at h; cases h
    | some d =>
      rw [e2] at h
      cases d <;> cases h
      obtain ⟨v, h1, h2, h3⟩ := (g.slot i s e).mine e2
      obtain ⟨as, r, m, q, n⟩ := h2
      generalize hD : D.dic2 ks ds = dd at r
      cases r with
      | @dic2 a o es ep xs vs ds' as' ha hi hv rs =>
        injection hD with k1 k2
        subst k1 k2
        exact ⟨a, o, es, ep, xs, vs, as', rfl, rfl, e2, h1, h3, q a List.mem_cons_self, ha, hi, hv, m a List.mem_cons_self, rs, n rfl, fun b hb => ⟨m b (List.mem_cons_of_mem _ hb), q b (List.mem_cons_of_mem _ hb)⟩⟩
      | _ => cases hD
def setdS2 (i : Nat) (p : P) (m : GE) : SM := fun env => match m env with
  | .ok o d env1 => match p env1 with
    | .ok _ y => match keyOf2 y with
      | some k => match myDic2 env1 i with
        | some (s, ks, vs) => if (o || noL d) && szOk ks.length then .nx (env1.set i (s.put (.dic2 (kput2 ks k) (vput2 ks vs k d)))) else .no
        | none => .no
      | none => .no
    | _ => .no
  | .ex x e => .ex x e
  | .no => .no
theorem snds_setd2 {i : Nat} {x : Str} {e ix : Expr} {m : GE} {p : P} {px ps pos : Pos} (hu : X.A.units + 64 < cLine) (hN : X.N[i]? = some x) (hvx : Vis X.env.scope x) (h : SndE X E e m) (hi : SndP X E ix p)
    (ha : ∀ v, assign (.Subscript (.Name x px) ix ps) X.env v = (do
      let ov ← holding [v] (eval (.Name x px) X.env)
      let iv ← holding [v, ov] (eval ix X.env)
      standAt ps
      holding [v, ov, iv] (setItem ov iv v)
      release [v, ov, iv] []) := by intro _; rfl)
    (hs : swapsWithSole [.Subscript (.Name x px) ix ps] e pos.line X.env = pure false := by rfl) (hw : swappedStores [.Subscript (.Name x px) ix ps] e X.env = pure none := by rfl)
    (h1 : (assignEach [.Subscript (.Name x px) ix ps] X.env).map (·.2) = [assign (.Subscript (.Name x px) ix ps) X.env] := by rfl)
    (hd : (x == ("__debug__" : Str)) = false := by decide) (hcd : (x == ("__classdict__" : Str)) = false := by decide) :
    SndS X E (.Assign [.Subscript (.Name x px) ix ps] e pos) (setdS2 i p m) := by
  obtain ⟨t, h1', h2⟩ := h
  obtain ⟨ti, i1, i2⟩ := hi
  refine ⟨_, ps_asg h1' (pg_sub (pe_var hN hvx hd hcd) i1 (set_dic2 hu) ha) hs hw h1, fun M N fx pin φ H env σ ts K g w => h2 M N fx pin φ H env σ ts _ g ?_⟩
  unfold setdS2 at w
  cases hm : m env with
  | no => rw [hm] at w; exact w
  | ex x e => rw [hm] at w; exact fun φ' H' c dx g' r => w φ' H' σ c dx g' r
  | ok o d env1 =>
    rw [hm] at w
    intro φ1 H1 v g1
    simp only at w
    cases hp : p env1 with
    | no => rw [hp] at w; exact w.elim
    | ex x => rw [hp] at w; exact w.elim
    | ok f dk =>
      rw [hp] at w
      simp only at w
      cases hk : keyOf2 dk with
      | none => rw [hk] at w; exact w.elim
      | some k =>
        rw [hk] at w
        simp only at w
        split at w
        · rename_i s ks ds hy
          split at w
          · rename_i hz0
            rw [Bool.and_eq_true] at hz0
            obtain ⟨hz, hsz⟩ := hz0
            obtain ⟨a, oa, es, ep, xs, vs, as, e0, e1, e2, e3, _⟩ := myDic_ok2 g1 hy
            refine ⟨.ref a, e3, i2 M env1 σ H1 _ g1.obs ?_⟩
            rw [hp]
            intro vk H2 bk ex2 rk _ _
            have g2 := g1.ext ex2
            obtain ⟨a', oa', es', ep', xs', vs', as', e0', e1, e2, e3', e4, e5, e6, ei, ev, e7, e8, e9, e10⟩ := myDic_ok2 g2 hy
            rw [e3] at e3'; cases e3'
            obtain ⟨b, z1, z2, z4⟩ := rk.key2 hk
            subst z1 z4
            obtain ⟨bs, b1, b2, b3⟩ := own_tmp g2 hz
            have hl : ks.length = ds.length := by
              rw [e0', List.length_map, e8.length]
              have := ev.length; simpa using this.symm
            obtain ⟨cs, ys, es2, c1, c2⟩ := Reps.vput2 (k := k) b1 hl e8
            have hno := List.nodup_cons.mp e9
            have hab : a ∉ bs := fun z => by have := (b3 _ z).2; rw [e5] at this; cases this
            have sub : ∀ b, b ∈ cs ++ es2 → b ∈ as' := fun b hb => by rw [c1]; simp only [List.mem_append] at hb ⊢; rcases hb with z | z <;> simp [z]
            have memb : ∀ b, b ∈ cs ++ bs ++ es2 → b ∈ bs ∨ b ∈ as' := fun b hb => by
              simp only [List.mem_append] at hb
              rcases hb with (z | z) | z
              · exact .inr (sub b (List.mem_append_left _ z))
              · exact .inl z
              · exact .inr (sub b (List.mem_append_right _ z))
            have disj : ∀ b ∈ as', b ∉ bs := fun b hb hb2 => by have := (b3 _ hb2).2; rw [(e10 b hb).2] at this; cases this
            have nd2 : (cs ++ es2).Nodup := by
              have nd := hno.2
              rw [c1] at nd
              exact nd.sublist (List.Sublist.append (List.sublist_append_left cs ys) (List.Sublist.refl es2))
            have nd3 : (cs ++ bs ++ es2).Nodup := by
              have n := List.nodup_append.mp nd2
              rw [List.append_assoc]
              refine nodup_snoc n.1 (nodup_snoc b2 n.2.1 fun b hb hb2 => disj b (sub b (List.mem_append_right _ hb2)) hb) fun b hb hb2 => ?_
              rcases List.mem_append.mp hb2 with z | z
              · exact disj b (sub b (List.mem_append_left _ hb)) z
              · exact n.2.2 b hb b z rfl
            have naa : a ∉ cs ++ bs ++ es2 := fun z => (memb a z).elim hab hno.1
            refine ⟨a, b, xs', k, rfl, rfl, ⟨⟨oa', es', ep', e6, ei⟩, z2⟩, by rw [e0', List.length_map] at hsz; exact szOk_lt hsz, fun o2 es3 ep3 u ru id2 => ?_⟩
            have rr : Rep (upd H2 a (dO a o2)) (.dic2 (kput2 ks k) (CB.vput2 ks ds k d)) (.ref a) (a :: (cs ++ bs ++ es2)) := by
              have := Rep.dic2 (H := upd H2 a (dO a o2)) upd_same id2 (stored_vals2 ru ei.nd ev) (by rw [← e0']; exact c2.updE e6 rfl naa)
              rw [stored_keys2 ei.nd, ← e0'] at this
              exact this
            have gg := g2.mut (us := [(o, d, v)]) (bs := []) (rs := none) (as := a :: (cs ++ bs ++ es2)) e1 e2 e3 e4 e5 e6 rr (List.nodup_cons.mpr ⟨naa, nd3⟩) (fun b hb => ⟨by simp, ?_⟩) (fun d w e => nomatch e) List.nodup_nil fun b z => nomatch z
            · exact w _ _ _ (by simpa using gg)
            · rcases List.mem_cons.mp hb with z | z
              · subst z; exact ⟨e7, .inl e5⟩
              · rcases memb b z with z | z
                · exact ⟨(b3 b z).1, .inr (b3 b z).2⟩
                · exact ⟨(e10 b z).1, .inl (e10 b z).2⟩
          · exact w.elim
        · exact w.elim
end
theorem storedAll_nodup2 : ∀ (ps acc : Ents2), ((acc ++ ps).map (·.1)).Nodup → storedAllH acc ps = acc ++ ps
  | [], acc, _ => by rw [List.append_nil]; rfl
  | p :: ps, acc, h => by
    have h1 : atKey acc p.1 = none := by
      cases e : atKey acc p.1 with
      | none => rfl
      | some q =>
        have := atKey_has2 acc p.1
        rw [e] at this
        have hm : p.1 ∈ acc.map (·.1) := of_decide_eq_true this.symm
        rw [List.map_append, List.nodup_append] at h
        exact absurd rfl (h.2.2 _ hm _ (by simp))
    show storedAllH (storedH acc p.1 p.2.1 p.2.2) ps = _
    rw [storedH_new h1, storedAll_nodup2 ps (acc ++ [(p.1, p.2.1, p.2.2)]) (by simpa using h)]
    simp
abbrev Xs2 := List (Key2 × Addr × V)
def tDispI2 (trs : List (TE × TE)) : TE := fun σ H Q => ∀ p, H p = none → tPairs trs σ (upd H p (dO p dO0)) fun prs H2 => H2 p = some (dO p dO0) ∧ ∃ xs : Xs2, prs = xs.map (fun x => (.ref x.2.1, x.2.2)) ∧ xs.length ≤ 15 ∧ (xs.map (·.1)).Nodup ∧
  (∀ x ∈ xs, IsKey2 H2 x.1 x.2.1) ∧
  ∀ o' es' ep' (ents : Ents2), ents.map (·.1) = xs.map (·.1) → IsDic2 (upd H2 p (dO p o')) p o' es' ep' ents → L2.Vals (xs.map (·.2.2)) (ents.map (·.2.2)) → Q (.ref p) (upd H2 p (dO p o'))
theorem carryI2 {P : Program} {w : World} {H : Hp} {h : Heap} (ok : HOk P w H h) : ∀ {xs : Xs2} {ws : List (Value × Value)}, VV (xs.map fun x => (.ref x.2.1, x.2.2)) ws → (∀ x ∈ xs, IsKey2 H x.1 x.2.1) →
    ∃ es : Ents2, CarriesH (kind2 P w) h ws es ∧ es.map (·.1) = xs.map (·.1) ∧ es.map (·.2.1) = xs.map (·.2.1) ∧ L2.Vals (xs.map (·.2.2)) (es.map (·.2.2))
  | [], _, r, _ => by rw [List.map_nil] at r; cases r; exact ⟨[], True.intro, rfl, rfl, .nil⟩
  | x :: xs, _, r, hk => by
    rw [List.map_cons] at r
    cases r with
    | @cons a b as bs hh t =>
      obtain ⟨es, c, e1, e2, e3⟩ := carryI2 ok t fun y hy => hk y (List.mem_cons_of_mem _ hy)
      obtain ⟨b1, b2⟩ := b
      have hb : b1 = .ref x.2.1 := hh.1
      subst hb
      exact ⟨(x.1, x.2.1, b2) :: es, ⟨rfl, rfl, key_int2 ok (hk x List.mem_cons_self), c⟩, by simp [e1], by simp [e2], .cons hh.2 e3⟩
theorem pe_dispI2 {X : Cx} {pos : Pos} {keys : List (Option Expr)} {values : List Expr} {trs : List (TE × TE)} (hu : X.A.units + 64 < cLine) (h : PPs X pos keys values trs) (hall : keys.all (·.isSome) = true) (hl : keys.length = values.length) (h0 : keys ≠ [])
    (h15 : keys.length ≤ 15) : PE X (.Dict keys values pos) (tDispI2 trs) := by
  refine ⟨fun pins s σ H Q I q => ?_⟩
  have hn := I.hok.fresh (Nat.le_refl s.heap.objs.size)
  have hbig := I.big
  have I1 := I.laid (a := s.heap.objs.size) (o := dO s.heap.objs.size dO0) (h' := s.heap.push { cls := .type "dict", data := .dict #[] }) (t' := s.toks) (fun _ _ q => Heap.get?_push_of_some _ q) (Nat.le_refl _) (dO_ok (Heap.get?_push_size _ rfl))
  have hne := pairTrees_length keys values X.env pos hall hl
  have hp0 : pairTrees keys values X.env pos ≠ [] := fun z => by
    rw [z] at hne; exact h0 (List.length_eq_zero_iff.mp hne.symm)
  have hp15 : (pairTrees keys values X.env pos).length ≤ 15 := by rw [hne]; exact h15
  rw [arm_eval_Dict, zip_pairTrees keys values X.env pos hall hl, dictDisplay_pairs _ hp0 (by omega)]
  refine wpAny_bind (wpAny_standAt (wpAny_bind (wpAny_subDictH (knd := kind2 X.prog X.w) (show X.A.units + 8 < cLine by omega) hp15 ?_)))
  refine thn (h.run pins _ σ _ _ I1 (q _ hn)) fun ws s2 ⟨prs, H2, I2, rel, e, xs, ep, lk, nd, hk, q2⟩ => ?_
  subst ep
  obtain ⟨es, c, e1, e2, e3⟩ := carryI2 I2.hok rel hk
  have dd : s2.heap.DictOfH (kind2 X.prog X.w) s.heap.objs.size [] := ⟨dO0, #[], 0, dO_get I2.hok e, ⟨rfl, rfl, rfl⟩, rfl, rfl, (fun x hx => nomatch hx), List.nodup_nil⟩
  refine ⟨es, c, dd, fun h' tk dd' hs => wpAny_pure ?_⟩
  have nd' : (es.map (·.1)).Nodup := by rw [e1]; exact nd
  rw [storedAll_nodup2 es [] (by simpa using nd'), List.nil_append] at dd'
  obtain ⟨o', es', ep', hq, g2, g3, g4, _, g5⟩ := dd'
  have ne : ∀ c q u, H2 c = some (.frz q u) → upd H2 s.heap.objs.size (dO s.heap.objs.size o') c = some (.frz q u) := fun c q u z => by rw [upd_ne (ne_of z e (fun y => nomatch y))]; exact z
  have hlen : es.length = xs.length := by have := congrArg List.length e1; simpa using this
  refine ⟨.ref s.heap.objs.size, _, d_write I2 (by rw [e]; exact True.intro) hs ⟨o', hq⟩ (dO_ok hq), rfl, q2 o' es' ep' es e1 ⟨beq_eq_false_iff_ne.mpr (Nat.ne_of_gt hbig), g2, g3, g4, g5, by rw [hlen, sizeLine_eq]; omega, fun x hx => ?_⟩ e3⟩
  obtain ⟨i, hi, ex⟩ := List.mem_iff_getElem.mp hx
  have hxi : i < xs.length := by omega
  have k1 : x.1 = (xs[i]).1 := by
    have := congrArg (fun l => l[i]?) e1
    simp [hi, hxi, ex] at this; exact this
  have k2 : x.2.1 = (xs[i]).2.1 := by
    have := congrArg (fun l => l[i]?) e2
    simp [hi, hxi, ex] at this; exact this
  rw [k1, k2]
  exact (hk _ (List.getElem_mem hxi)).keep ne
section
variable {X : Cx} {E : XK} {pos : Pos}
def dispD2 : List D → Option (List Key2 × List D)
  | [] => some ([], [])
  | k :: v :: r => match keyOf2 k with
    | some ki => match dispD2 r with
      | some (ks, vs) => some (ki :: ks, v :: vs)
      | none => none
    | none => none
  | _ => none
theorem disp_reps2 {H : Hp} : ∀ {ds : List D} {vs : List V} {as : List Addr} {ks : List Key2} {xs : List D}, Reps H ds vs as → dispD2 ds = some (ks, xs) →
    ∃ zs : Xs2, pairUp vs = zs.map (fun x => (.ref x.2.1, x.2.2)) ∧ zs.map (·.1) = ks ∧ Reps H xs (zs.map (·.2.2)) as ∧ ∀ x ∈ zs, IsKey2 H x.1 x.2.1
  | [], _, _, _, _, .nil, h => by simp only [dispD2] at h; cases h; exact ⟨[], rfl, rfl, .nil, fun x hx => nomatch hx⟩
  | [d], _, _, _, _, _, h => by simp [dispD2] at h
  | k :: v :: r, _, _, ks, xs, .cons (as := a1) r1 (.cons (v := v2) (as := a2) (bs := a3) r2 r3), h => by
    simp only [dispD2] at h
    cases e : keyOf2 k with
    | none => rw [e] at h; cases h
    | some ki =>
      rw [e] at h
      simp only at h
      cases e2 : dispD2 r with
      | none => rw [e2] at h; cases h
      | some kv =>
        obtain ⟨ks', vs'⟩ := kv
        rw [e2] at h; cases h
        obtain ⟨zs, h1, h2, h3, h4⟩ := disp_reps2 r3 e2
        obtain ⟨b, rfl, hb, rfl⟩ := r1.key2 e
        refine ⟨(ki, b, v2) :: zs, by simp only [pairUp, h1, List.map_cons], by simp [h2], by simpa using Reps.cons r2 h3, fun x hx => ?_⟩
        rcases List.mem_cons.mp hx with z | z
        · subst z; exact hb
        · exact h4 x z
def ddispP2 (ps : List P) : P := fun env => match args ps env with
  | .ok f ds => match dispD2 ds with
    | some (ks, vs) => if ks.Nodup ∧ ks.length ≤ 15 then .ok f (.dic2 ks vs) else .no
    | none => .no
  | .ex x => .ex x
  | .no => .no
theorem snd_ddisp2 {keys : List (Option Expr)} {values : List Expr} {ps : List P} (hu : X.A.units + 64 < cLine) (h : SndPP X E pos keys values ps) (hall : keys.all (·.isSome) = true := by rfl) (hl : keys.length = values.length := by rfl) (h0 : keys ≠ [] := by exact fun z => nomatch z)
    (h15 : keys.length ≤ 15 := by decide) : SndP X E (.Dict keys values pos) (ddispP2 ps) := by
  obtain ⟨trs, h1, h2⟩ := h
  refine ⟨_, pe_dispI2 hu h1 hall hl h0 h15, fun S env σ H Q o w p hp => ?_⟩
  have e1 : Ex H (upd H p (dO p dO0)) := Ex.new hp
  have o' : ObsEnv (fun a => S a ∧ H a ≠ none) H env σ := ⟨o.len, fun i d hd => by
    obtain ⟨v, as, q1, q2, q3⟩ := o.get i d hd
    exact ⟨v, as, q1, q2, fun a ha => ⟨q3 a ha, q2.ne a ha⟩⟩⟩
  refine h2 _ env σ _ _ (o'.mono e1) ?_
  unfold ddispP2 at w
  cases ha : args ps env with
  | no => rw [ha] at w; exact w
  | ex x => rw [ha] at w; exact fun c dx H' e r => w c dx H' (e1.trans e) r
  | ok f ds =>
    rw [ha] at w
    simp only at w
    cases hd : dispD2 ds with
    | none => rw [hd] at w; exact w.elim
    | some kv =>
      obtain ⟨ks, xs⟩ := kv
      rw [hd] at w
      simp only at w
      split at w
      · rename_i hc
        intro vs H2 as e2 r m n
        obtain ⟨zs, z1, z2, z3, z4⟩ := disp_reps2 r hd
        have hp2 : H2 p = some (dO p dO0) := e2 _ _ upd_same
        have hlen : zs.length = ks.length := by have := congrArg List.length z2; simpa using this
        have pn : ∀ a ∈ as, a ≠ p := fun a ha z => by
          subst z
          rcases m a ha with q | q
          · exact q.2 hp
          · rw [upd_same] at q; cases q
        refine ⟨hp2, zs, z1, by omega, by rw [z2]; exact hc.1, z4, fun o' es' ep' ents k1 k2 k3 => ?_⟩
        have hk : ∀ a u, H2 a = some u → a ≠ p → upd H2 p (dO p o') a = some u := fun a u h ne => by rw [upd_ne ne]; exact h
        have rr : Reps (upd H2 p (dO p o')) xs (zs.map (·.2.2)) as := z3.keep fun a u h q => hk a u h (by
          rcases q with q | q
          · exact pn a q
          · intro z; subst z; rw [hp2] at h; cases h; cases q)
        have := Rep.dic2 (as := as) (ds := xs) (upd_same (H := H2) (a := p) (o := dO p o')) k2 k3 rr
        rw [k1, z2] at this
        refine w _ _ (p :: as) ((e1.trans e2).updN hp (imm_of hp2)) this (fun a ha => ?_) fun z => ?_
        · rcases List.mem_cons.mp ha with q | q
          · subst q; exact .inr hp
          · exact (m a q).imp (·.1) fun y => e1.back y
        · have nn := n z
          exact ⟨List.nodup_cons.mpr ⟨fun q => pn p q rfl, nn.1⟩, fun a ha => by
            rcases List.mem_cons.mp ha with q | q
            · subst q; exact hp
            · exact e1.back (nn.2 a q)⟩
      · exact w.elim
end
end CB

open PySem
namespace CB
open PySem L2 PySem.Spec PyProof.Rows
variable [CT]
section
variable {X : Cx} {E : XK}
end
end CB

open PySem
namespace CB
open PySem L2 PySem.Spec PyProof.Rows
variable [CT]
section
variable {X : Cx} {E : XK}
end
end CB

namespace CB
open PySem L2 L2.DX PySem.Spec PyProof.Rows PySem.W
variable [CT]
section
variable {X : Cx}
variable {E : XK}
end
end CB

namespace CB
open PySem L2 PySem.Spec PyProof.Rows
variable [CT]
section
variable {X : Cx} {E : XK}
end
section
variable {X : Cx} {E : XK}
variable {M N : Addr → Prop} {fx : Addr → HO → Prop} {pin : Nat → Option V} {φ φ' : Lab} {H H' : Hp} {env : Env} {σ : L2.St} {ts us : List Tmp}
end
end CB

namespace CB
open PySem L2 PySem.Spec PyProof.Rows
variable [CT]
section
variable {X : Cx} {E : XK}
end
end CB

namespace CB
open PySem L2 PySem.Spec PyProof.Rows
variable [CT]
section
variable {M N : Addr → Prop} {fx : Addr → HO → Prop} {pin : Nat → Option V} {φ : Lab} {H : Hp} {env : Env} {σ : L2.St} {ts us : List Tmp}
end
section
variable {X : Cx} {E : XK} {c f : Str} {fns : List Str} {i : Nat} {x : Str} {p pos apos cpos : Pos}
end
end CB

namespace CB
open PySem L2 PySem.Spec PyProof.Rows
variable [CT]
section
variable {X : Cx} {E : XK} {r i n : Nat} {F : List D → RR} {Q : VK} {M N : Addr → Prop} {fx : Addr → HO → Prop} {pin : Nat → Option V} {φ1 : Lab} {H1 : Hp} {env1 : Env} {σ : L2.St} {ts ws : List Tmp} {us : List U} {vs : List V}
end
section
variable {X : Cx} {CX : CXT} {k : Nat} {f C : Addr} {fd : FuncData} {pn : List Str} {sp : Sp} {m : Str} {pos apos : Pos} {e o : Expr} {es : List Expr} {ta : TE} {t : TA}
end
def MCal (P : Program) (w : World) (K : PySem.W.Frag) (mg : Str → Option Value) (base : Heap) (c m : Str) (k : Nat) (pn : List Str) (sp : Sp) : Prop :=
  ∃ C f fd, mg c = some (.ref C) ∧ Cls K C ∧ Meth K C m f ∧ FnOkG P w K mg base (L2.CX P w) k f fd pn sp ∧ Binds K fd pn []
def MDef (K : PySem.W.Frag) (mg : Str → Option Value) (c m qual : Str) (st : Stmt) : Prop := ∃ C f fd, mg c = some (.ref C) ∧ Cls K C ∧ Meth K C m f ∧ Fun K m qual st f fd
section
variable {P : Program} {w : World} {K : PySem.W.Frag} {mg : Str → Option Value} {base : Heap} {c x qual : Str} {st : Stmt} {k n r : Nat} {NN ps : List Str} {m : SM}
theorem MDef.cal (D : MDef K mg c x qual st) (S : FnScope NN ps (defScope st)) (hn : NN.length = n) (hk : ps.length ≤ n)
    (hb : ∀ (f : Addr) (cdv : Value) (A : Around) (outer : List PySem.Env) (s : Shared) (H : Hp) (E : XK), RoomG k (A.deeper (envOfC qual (defScope st) s.heap.objs.size f cdv)) → SndB (cxOf (L2.CX P w) P w K mg base NN qual (defScope st) f cdv A outer s H E) E (defBody st) m)
    (h : ∀ (kV doc pm : Value) (an : Option Addr) (cdv ct : Value) (us : List Value), us.length = ps.length → bindArgs (PySem.W.fnOf x qual (defArgs st) (defBody st) (defScope st) .none kV doc pm an cdv ct) ⟨us, []⟩ = pure (ps.zip us)) :
    MCal P w K mg base c x (k + 1) ps (spR ps.length 0 mg (fnR n 0 m)) := by
  obtain ⟨C, f, fd, hC, hc, hm, F⟩ := D
  exact ⟨C, f, fd, hC, hc, hm, fnr_ok F S hn hk (hb f), F.binds h⟩
end
def cAG (mg : Str → Option Value) (ms : List GA) : TA := fun σ H Q => ∃ M N fx pin φ env ts, Good M N fx pin φ H env σ ts ∧ GAWant M N fx pin mg σ ts E0 Q (argsG ms env)
theorem SndAG.cc {X : Cx} {es : List Expr} {ms : List GA} (h : SndAG X E0 es ms) : PA X es (cAG X.mg ms) := by
  obtain ⟨t, h1, h2⟩ := h
  exact ⟨fun pos pins s σ H Q I ⟨M, N, fx, pin, φ, env, ts, g, w⟩ => h1.run pos pins s σ H Q I (h2 M N fx pin φ H env σ ts Q g w)⟩
section
variable {X : Cx} {E : XK} {CX : CXT} {c m x : Str} {k j i n : Nat} {pn : List Str} {F : List D → RR} {p pos apos : Pos} {e : Expr} {es : List Expr} {ms : List GA}
end
section
variable {P : Program} {w : World} {K : PySem.W.Frag} {mg : Str → Option Value} {base : Heap}
structure MakeD (K : PySem.W.Frag) (mg : Str → Option Value) (qual : Str) (st : Stmt) : Prop where
  ex : ∃ (C f : Addr) (fd : FuncData), mg "Desk" = some (.ref C) ∧ Mk K C f ∧ Cls K C ∧ NoAttr K C "count" ∧ NoAttr K C "kept" ∧ Fun K "__init__" qual st f fd
end
section
variable {X : Cx} {E : XK}
end
end CB

namespace CB
open PySem L2 PySem.Spec PyProof.Rows
variable [CT]
section
variable {X : Cx} {E : XK}
end
end CB

namespace CB
open PySem L2 PySem.Spec PyProof.Rows
end CB

namespace CB
open PySem L2 PySem.Spec PyProof.Rows
variable [CT]
inductive RRs where
  | ok (o : Bool) (d : D) (drs : List D) | ex (x : Xn) (drs : List D) | no
section
open Classical
end
inductive U2 where
  | t (o : Bool) (d : D) | v (i : Nat) | c (i k : Nat)
def U.two : U → U2
  | .t o d => .t o d
  | .v i => .v i
def U2.slot : U2 → Option Nat
  | .t _ _ => none
  | .v i => some i
  | .c i _ => some i
section
variable {M N : Addr → Prop} {fx : Addr → HO → Prop} {pin : Nat → Option V} {φ : Lab} {H H' : Hp} {env env' : Env} {σ : L2.St} {ts us0 : List Tmp}
section
open Classical
end
end
end CB

namespace CB
open PySem L2 PySem.Spec PyProof.Rows
variable [CT]
def ArgAt (σ : L2.St) (H : Hp) (n0 : Nat) (all : List Tmp) (u : U2) (v : V) : Prop := match u with
  | .t o d => ∃ m, n0 ≤ m ∧ all[m]? = some (o, d, v)
  | .v i => σ[i]? = some (some v)
  | .c i k => ∃ a ws, σ[i]? = some (some (.ref a)) ∧ H a = some (.lst ws) ∧ ws[k]? = some v
section
variable {M N : Addr → Prop} {fx : Addr → HO → Prop} {pin : Nat → Option V} {φ : Lab} {H : Hp} {env env' : Env} {σ : L2.St} {ts ws : List Tmp}
end
section
variable {X : Cx} {E : XK} {rs : List Nat} {n : Nat} {F : List D → RRs} {Q : VK} {M N : Addr → Prop} {fx : Addr → HO → Prop} {pin : Nat → Option V} {φ : Lab} {H : Hp} {env : Env} {σ : L2.St} {ts ws : List Tmp} {us : List U2} {vs : List V}
end
section
variable {X : Cx} {E : XK} {CX : CXT} {k j n : Nat} {rs : List Nat} {f : Addr} {fd : FuncData} {pn : List Str} {F : List D → RRs} {x : Str} {p pos : Pos} {e : Expr} {es : List Expr} {ms : List GA}
end
end CB

namespace CB
open PySem L2 PySem.Spec PyProof.Rows
variable [CT]
section
variable {M N : Addr → Prop} {fx : Addr → HO → Prop} {pin : Nat → Option V} {φ : Lab} {H : Hp} {env : Env} {σ : L2.St} {ts : List Tmp}
end
section
variable {X : Cx} {E : XK}
end
end CB

namespace CB
open PySem L2 PySem.Spec PyProof.Rows
variable [CT]
section
variable {X : Cx} {E : XK}
end
end CB

namespace CB
open PySem L2 PySem.Spec PyProof.Rows
variable [CT]
section
variable {M N : Addr → Prop} {fx : Addr → HO → Prop} {pin : Nat → Option V} {φ : Lab} {H : Hp} {env : Env} {σ : L2.St} {ts : List Tmp}
end
section
variable {X : Cx} {E : XK}
def BWant (M N : Addr → Prop) (fx : Addr → HO → Prop) (pin : Nat → Option V) (mg : Str → Option Value) (ts : List Tmp) (E : XK) (I : L2.St → Hp → Prop) (K : Ends) : SR → Prop
  | .nx e => ∀ φ H σ', Good M N fx pin φ H e σ' ts → I σ' H → K.nx σ' H
  | .rt o d e => ∀ φ H σ' v, Good M N fx pin φ H e σ' (ts ++ [(o, d, v)]) → K.rt v H
  | .ex x e => ∀ φ H σ' c dx, Good M N fx pin φ H e σ' ts → XR mg x c dx H → E c dx H
  | .no => False
theorem BWant.s {M N : Addr → Prop} {fx : Addr → HO → Prop} {pin : Nat → Option V} {mg : Str → Option Value} {ts : List Tmp} {I : L2.St → Hp → Prop} {K : Ends} {r : SR} (w : BWant M N fx pin mg ts E I K r) (h : ∀ φ e σ' H', Good M N fx pin φ H' e σ' ts → I σ' H') : SWant M N fx pin mg ts E K r := by
  cases r with
  | no => exact w
  | nx e => exact fun φ H σ' g => w φ H σ' g (h φ e σ' H g)
  | rt o d e => exact w
  | ex x e => exact w
variable {x x2 : Str} {tg e2 : Expr} {body : List Stmt} {m : SM} {p p1 p2 pos zpos : Pos} {i j i1 j1 i2 j2 : Nat}
end
end CB

namespace CB
open PySem L2 PySem.Spec PyProof.Rows
variable [CT]
section
variable {M N : Addr → Prop} {fx : Addr → HO → Prop} {pin : Nat → Option V} {φ : Lab} {H : Hp} {env : Env} {σ : L2.St} {ts : List Tmp}
end
section
variable {X : Cx} {E : XK} {x1 x2 x3 : Str} {body : List Stmt} {m : SM} {p1 p2 p3 pos zpos zp tpos : Pos} {elts : List Expr} {kk : Nat}
end
end CB

namespace CB
open PySem L2 PySem.Spec PyProof.Rows
variable [CT]
inductive PA1 where
  | nm (i : Nat) | pl (i : Nat) (ix : P) | pp (p : P)
inductive PLR where
  | ok (us : List U2) | ex (x : Xn) | no
def PLR.cons (u : U2) : PLR → PLR
  | .ok us => .ok (u :: us)
  | r => r
section
variable {X : Cx} {E : XK} {x : Str} {e ei : Expr} {es : List Expr} {p spos : Pos}
theorem ArgAt.mono {σ : L2.St} {H H' : Hp} {n n' : Nat} {all all' : List Tmp} {u : U2} {v : V} (h : ArgAt σ H n all u v) (e : Ex H H') (hn : n' ≤ n) (ha : ∀ m t, n ≤ m → all[m]? = some t → all'[m]? = some t) : ArgAt σ H' n' all' u v := by
  cases u with
  | t o d => obtain ⟨m, h1, h2⟩ := (show ∃ m, n ≤ m ∧ all[m]? = some (o, d, v) from h); exact ⟨m, by omega, ha m _ h1 h2⟩
  | v i => exact h
  | c i k => obtain ⟨a, ws, h1, h2, h3⟩ := (show ∃ a ws, σ[i]? = some (some (.ref a)) ∧ H a = some (.lst ws) ∧ ws[k]? = some v from h); exact ⟨a, ws, h1, e _ _ h2, h3⟩
end
section
variable {X : Cx} {E : XK} {CX : CXT} {k j n r : Nat} {rs : List Nat} {f : Addr} {fd : FuncData} {pn : List Str} {c m x : Str} {p pos apos spos : Pos} {e ei : Expr} {es : List Expr} {ms : List PA1}
end
end CB

namespace CB
open PySem L2 PySem.Spec PyProof.Rows
variable [CT]
section
variable {M N : Addr → Prop} {fx : Addr → HO → Prop} {pin : Nat → Option V} {φ : Lab} {H : Hp} {env : Env} {σ : L2.St} {ts ws : List Tmp}
end
section
variable {X : Cx} {E : XK} {k j n : Nat} {rs : List Nat} {c m x : Str} {p pos apos : Pos} {e : Expr} {es : List Expr}
end
end CB

namespace CB
open PySem L2 PySem.Spec PyProof.Rows
abbrev lamA (p : Pos) : Arguments := { posonlyargs := [], args := [{ arg := "cell", annotation := none, pos := p : PySem.Arg }], vararg := none, kwonlyargs := [], kw_defaults := [], kwarg := none, defaults := [] }
abbrev lamB (p1 p2 p3 p4 p5 p6 p7 p8 p9 : Pos) : Expr := .Tuple [.Subscript (.Name "cell" p1) (.Constant (.int 0) 0 p2) p3, .BinOp (.Constant (.int 0) 0 p4) .Sub (.Subscript (.Name "cell" p5) (.Constant (.int 1) 0 p6) p7) p8] 0 p9
abbrev lamC : Scope := { kind := .function, names := [("cell", .local)], isGenerator := false, isCoroutine := false, more := [] }
section
variable {prog : Program} {w : World} {A : Around} {E : Value → Shared → Prop} {s : Shared} {env : PySem.Env}
theorem lam_sub {m : Str → Option Value} {t : Addr} {its : Array Value} {k : Int} {v : Value} {p1 p2 p3 : Pos} {Q : Value → Shared → Prop} (hk : env.scope.kind = .function) (hl : env.kindOf "cell" = some .local) (hn : s.heap.Ns env.locals m) (hv : m "cell" = some (.ref t)) (ht : IsTup s.heap t its) (h0 : 0 ≤ k) (hs : k < 100) (hx : its[k.toNat]? = some v) (h : Q v { s with toks := s.toks + 1 }) :
    wpAny (model prog w) A (eval (.Subscript (.Name "cell" p1) (.Constant (.int k) 0 p2) p3) env) Q E s := by
  refine Subscript_ (wpAny_Name (wpAny_loadName_local hk hl hn hv (wpAny_Constant_int ?_)) (by decide))
  have hlt : k.toNat < its.size := (Array.getElem?_eq_some_iff.mp hx).1
  refine subscriptTail_builtinR (x := v) (IsTup.typeIs (s := { s with toks := s.toks + 1 }) ht) slot_tuple_getitem.lookup
    (getItem_tuple (s := { s with toks := s.toks + 1 }) (j := k.toNat) (Q := fun r s' => r = v ∧ Q r s') ht (by omega) (by omega) (seqIndex_of (by omega) (by omega)) hx ⟨rfl, h⟩) (by with_unfolding_all rfl)
theorem lam_body {m : Str → Option Value} {t : Addr} {i j : Int} {ti tj : Tok} {p1 p2 p3 p4 p5 p6 p7 p8 p9 : Pos} {Q : Value → Shared → Prop} (hk : env.scope.kind = .function) (hl : env.kindOf "cell" = some .local) (hn : s.heap.Ns env.locals m) (hv : m "cell" = some (.ref t)) (ht : IsTup s.heap t #[.int i ti, .int j tj])
    (h : ∀ tk u, Q (.ref s.heap.objs.size) { s with heap := s.heap.push { cls := .type "tuple", data := .seq #[.int i ti, .int (0 - j) u] }, toks := tk }) :
    wpAny (model prog w) A (eval (lamB p1 p2 p3 p4 p5 p6 p7 p8 p9) env) Q E s := by
  refine wpAny_Tuple_spliced ?_
  refine Calls.spliced_cons (lam_sub (k := 0) hk hl hn hv ht (by decide) (by decide) rfl ?_)
  refine Calls.spliced_cons ?_
  refine wpAny_BinOp (wpAny_Constant_int ?_)
  refine lam_sub (k := 1) hk hl hn hv ht (by decide) (by decide) rfl ?_
  refine sub_int ?_
  refine Calls.spliced_nil ⟨by show 2 ≤ sizeLine; rw [sizeLine_eq]; decide, ?_⟩
  exact h _ _
theorem lam_call {f c' t : Addr} {q : Str} {pm ctv : Value} {oc : Obj} {vs : Array Value} {tq : Tok} {i j : Int} {ti tj : Tok} {p0 p1 p2 p3 p4 p5 p6 p7 p8 p9 : Pos} (hroom : A.depth < recursionLimit) (hf : s.heap.get? f = some (PySem.W.kla_obj "<lambda>" q (lamA p0) (lamB p1 p2 p3 p4 p5 p6 p7 p8 p9) lamC [] pm c' ctv))
    (hc : s.heap.get? c' = some oc) (hd : oc.data = .fields vs) (hq : vs[1]? = some (.str q tq)) (lim : s.heap.NoLimit) (ht : IsTup s.heap t #[.int i ti, .int j tj]) :
    wpAny (model prog w) A (call (.ref f) [.ref t]) (PySem.W.KeyPure (.tuple [.int i, .int (0 - j)]) s) (fun _ _ => False) s := by
  refine wpAny_call (codeAny_mono (R := fun r s' => ∃ v, r = .ok (.ret v) ∧ PySem.W.KeyPure (.tuple [.int i, .int (0 - j)]) s v s') ?_ fun r s' ⟨v, e, z⟩ => by subst e; exact z)
  refine PySem.W.kla_callFunE hroom hf rfl rfl rfl rfl ⟨c', oc, vs, tq, rfl, hc, hd, hq⟩ ?_
  have hb : bindArgs (PySem.W.kla_fn "<lambda>" q (lamA p0) (lamB p1 p2 p3 p4 p5 p6 p7 p8 p9) lamC [] pm (.ref c') ctv) ⟨[.ref t], []⟩ = pure [(("cell" : Str), Value.ref t)] := by rfl
  rw [hb]
  refine wpAny_pure (wpAny_newFunctionEnv (fun y hy => ?_) (fun y hy => ?_) (fun h1 hns hsb => ⟨lim.fresh _ hsb, ?_⟩) rfl)
  · rw [List.mem_singleton.mp hy]; exact fun z => nomatch z
  · rw [List.mem_singleton.mp hy]; rfl
  have kp : ∀ b o, s.heap.get? b = some o → h1.get? b = some o := fun b o e => hsb.extBut b o (Nat.ne_of_lt (Heap.lt_size e)) (Heap.get?_push_of_some _ e)
  refine PySem.W.kla_codeExpr (lam_body (m := fun x => [(("cell" : Str), Value.ref t)].reverse.lookup x) rfl rfl hns rfl (ht.keeps kp) fun tk u => ?_)
  refine ⟨_, rfl, _, tk, rfl, fun b o e => Heap.get?_push_of_some _ (kp b o e), ?_⟩
  exact .tuple (as := []) (Heap.get?_push_size _ rfl) rfl rfl (.cons (as := []) (bs := []) (.int i ti) (.cons (as := []) (bs := []) (.int _ u) .nil))
end
section
variable [CT] {X : Cx} {pins : List (Addr × Obj)} {σ : L2.St} {H : Hp} {s : Shared}
theorem lam_make {c P : Addr} {q : Str} {params : Arguments} {body : Expr} {pos : Pos} {Q : Value → Shared → Prop} {E : Value → Shared → Prop} (I : L2.Inv X pins σ H s) (TB : LamX.TabB X.base X.mg c P) (hcode : X.env.code = .ref c)
    (hm : (P, q) ∈ CT.tb) (hu : ∀ p ∈ CT.tb, p.1 = P → p.2 = q) (hT : TabOk H) (hq : q = X.env.qual ++ "<lambda>") (hdef : defaultsOf params X.env = ([], []))
    (h : ∀ (f c' : Addr) (pm ctv : Value) (oc : Obj) (vs : Array Value) (tq : Tok) (H1 : Hp) (s' : Shared), L2.Inv X pins σ H1 s' → Ex H H1 → s'.heap.get? f = some (PySem.W.kla_obj "<lambda>" q params body lamC [] pm c' ctv) → s'.heap.get? c' = some oc → oc.data = .fields vs → vs[1]? = some (.str q tq) → Q (.ref f) s') :
    wpAny (model X.prog X.w) X.A (eval (.Lambda params body lamC pos) X.env) Q E s := by
  obtain ⟨ps, hP, ht, ha⟩ := hT _ hm
  refine PySem.W.kla_eval hdef ?_
  rw [← hq]
  have bP : s.heap.BuiltinsAt X.mg P := TB.bm.keeps I.bk
  have hP' : s.heap.get? P = some { cls := .none, data := .fields ps } := I.hok P _ hP
  have hcl : closureFor lamC X.env = pure [] := by rfl
  cases hc : PySem.codeAmong pos ps.toList with
  | none =>
    refine PySem.W.kla_makeFunction (mg := X.mg) (c := c) (P := P) (ps := ps) hcl I.ok.glob (I.mod.glob.keeps I.bk) hcode (TB.code.keeps I.bk) hP' ht hc TB.gP bP fun c' ctv h' tk hx hge hlt hrec htb => ?_
    obtain ⟨c2, oc, vs, t, e2, hoc, hd, hv⟩ := hrec
    cases e2
    have nC : H c' = none := I.hok.fresh hge
    let fo := PySem.W.kla_obj "<lambda>" q params body lamC [] ((X.mg "__name__").getD .none) c' ctv
    have hoc2 : (h'.push fo).get? c' = some oc := Heap.get?_push_of_some _ hoc
    have I1 := LamX.inv_table (t' := tk) (q := q) (more := #[rawInt pos.line, rawInt pos.col, .ref c']) (h' := h'.push fo) I hP
      (fun b o hb e => Heap.get?_push_of_some _ (hx b o hb e)) (Heap.get?_push_of_some _ htb) hge ⟨oc, vs, t, hoc2, hd, hv⟩
    have I2 := I1.write (x := c') (e := c') (o := .frz oc (.own c')) (t' := tk) (h' := h'.push fo) (by rw [upd_same]; exact True.intro) (.inl rfl) (fun b u _ e => e) ⟨oc, hoc2⟩ ⟨hoc2, oc, hoc2⟩
    have nPc : P ≠ c' := ne_of_none hP nC
    have hat : ∀ b, b ≠ P → b ≠ c' → upd (upd (upd H P (.tbl (ps ++ #[rawInt pos.line, rawInt pos.col, .ref c']))) c' (LamX.CodeO c' q)) c' (.frz oc (.own c')) b = H b := fun b h1 h2 => by rw [upd_ne h2, upd_ne h2, upd_ne h1]
    have atP : upd (upd (upd H P (.tbl (ps ++ #[rawInt pos.line, rawInt pos.col, .ref c']))) c' (LamX.CodeO c' q)) c' (.frz oc (.own c')) P = some (.tbl (ps ++ #[rawInt pos.line, rawInt pos.col, .ref c'])) := by rw [upd_ne nPc, upd_ne nPc, upd_same]
    have atC : upd (upd (upd H P (.tbl (ps ++ #[rawInt pos.line, rawInt pos.col, .ref c']))) c' (LamX.CodeO c' q)) c' (.frz oc (.own c')) c' = some (.frz oc (.own c')) := upd_same
    have kpt : ∀ b o, H b = some o → isTb o = false → upd (upd (upd H P (.tbl (ps ++ #[rawInt pos.line, rawInt pos.col, .ref c']))) c' (LamX.CodeO c' q)) c' (.frz oc (.own c')) b = some o := fun b o e nt => by
      rw [hat b (fun z => by rw [z, hP] at e; cases e; cases nt) (ne_of_none e nC)]; exact e
    have eL : (ps ++ #[rawInt pos.line, rawInt pos.col, .ref c']).toList = ps.toList ++ [rawInt pos.line, rawInt pos.col, .ref c'] := by simp
    have ex : Ex H (upd (upd (upd H P (.tbl (ps ++ #[rawInt pos.line, rawInt pos.col, .ref c']))) c' (LamX.CodeO c' q)) c' (.frz oc (.own c'))) := by
      refine ⟨fun b o e nt => kpt b o e nt, fun b o e nt => ?_, fun hT p hp => ?_⟩
      · by_cases hb : b = P
        · rw [hb]; exact ⟨_, atP, rfl⟩
        · exact ⟨o, by rw [hat b hb (ne_of_none e nC)]; exact e, nt⟩
      · by_cases hb : p.1 = P
        · rw [hu p hp hb, hb]
          refine ⟨_, atP, by rw [eL]; exact PySem.TriplesOk_snoc _ _ _ _ ht, fun p' cv hcv => ?_⟩
          rw [eL] at hcv
          rcases LamX.among_app _ ht hcv with z | z
          · obtain ⟨c0, o0, v0, t0, e1, e2, e3⟩ := ha p' cv z
            exact ⟨c0, o0, v0, t0, e1, kpt _ _ e2 rfl, e3⟩
          · exact ⟨c', oc, vs, t, z, atC, hd, hv⟩
        · obtain ⟨ps', a1, a2, a3⟩ := hT p hp
          refine ⟨ps', by rw [hat _ hb (ne_of_none a1 nC)]; exact a1, a2, fun p' cv hcv => ?_⟩
          obtain ⟨c0, o0, v0, t0, e1, e2, e3⟩ := a3 p' cv hcv
          exact ⟨c0, o0, v0, t0, e1, kpt _ _ e2 rfl, e3⟩
    exact h h'.objs.size c' _ ctv oc vs t _ _ I2 ex (Heap.get?_push_size _ rfl) hoc2 hd hv
  | some cv =>
    obtain ⟨c', oc, vs, t, e, hco, hd, hv⟩ := ha pos cv hc
    subst e
    refine PySem.W.kla_makeFunctionHit (mg := X.mg) (c := c) (P := P) (ps := ps) hcl I.ok.glob (I.mod.glob.keeps I.bk) hcode (TB.code.keeps I.bk) hP' ht hc bP fun ctv h' tk hx hsz => ?_
    have I1 : L2.Inv X pins σ H { s with heap := h'.push (PySem.W.kla_obj "<lambda>" q params body lamC [] ((X.mg "__name__").getD .none) c' ctv), toks := tk } := I.kept fun b o e => Heap.get?_push_of_some _ (hx b o e)
    exact h h'.objs.size c' _ ctv oc vs t H _ I1 (Ex.refl H) (Heap.get?_push_size _ rfl) (Heap.get?_push_of_some _ (hx _ _ (I.hok c' _ hco).1)) hd hv
end
def isCe : D → Bool
  | .tup [.int _, .int _] => true
  | _ => false
def keyCe : D → PyData
  | .tup [.int i, .int j] => .tuple [.int i, .int (0 - j)]
  | _ => .none
def leCe (x y : D) : Bool := PySem.W.dataLe false keyCe x y
theorem leCe_total : PySem.W.TotalLe leCe := PySem.W.sortLe_total _ false _
theorem isCe_ex {d : D} (h : isCe d = true) : ∃ i j, d = .tup [.int i, .int j] := by
  unfold isCe at h
  split at h
  · exact ⟨_, _, rfl⟩
  · cases h
section
variable [CT] {X : Cx} {pins : List (Addr × Obj)} {σ : L2.St} {H : Hp} {s : Shared}
theorem ce_tup (I : L2.Inv X pins σ H s) {i j : Int} {v : V} {as : List Addr} {u : Value} (r : Rep H (.tup [.int i, .int j]) v as) (ru : RelV v u) : ∃ t ti tj, u = .ref t ∧ IsTup s.heap t #[.int i ti, .int j tj] := by
  cases r with
  | tup h hd rs =>
    cases rs with
    | cons r1 rs =>
      cases r1
      cases rs with
      | cons r2 rs =>
        cases r2
        cases rs
        cases ru
        obtain ⟨_, z, its, rv, ob, e, c, n, hd2⟩ := I.hok _ _ h
        cases rv with
        | cons q1 rv =>
          obtain ⟨ti, rfl⟩ := q1
          cases rv with
          | cons q2 rv =>
            obtain ⟨tj, rfl⟩ := q2
            cases rv
            exact ⟨_, ti, tj, rfl, ob, e, c, n, hd2⟩
theorem sortC_go (hu : X.A.units + 64 < cLine) (hdp : X.A.depth < recursionLimit) (I : L2.Inv X pins σ H s) {a : Addr} {b : Row} (hs : SqL X.K H a b.vs) (hr : ∀ x ∈ b, Rep H x.1 x.2.1 x.2.2 ∧ isCe x.1 = true) (hL : b.length ≤ sizeLine)
    {f c' : Addr} {q : Str} {pm ctv : Value} {oc : Obj} {vs : Array Value} {tq : Tok} {p0 p1 p2 p3 p4 p5 p6 p7 p8 p9 : Pos} (hf : s.heap.get? f = some (PySem.W.kla_obj "<lambda>" q (lamA p0) (lamB p1 p2 p3 p4 p5 p6 p7 p8 p9) lamC [] pm c' ctv))
    (hc : s.heap.get? c' = some oc) (hd : oc.data = .fields vs) (hq : vs[1]? = some (.str q tq)) {Q : VK} (qq : ∀ p, H p = none → Q (.ref p) (upd H p (.lst (Row.vs (b.mergeSort (PySem.W.dataLe false fun x => keyCe x.1)))))) :
    wpAny (model X.prog X.w) X.A (call (.builtin "sorted") [.ref a] [(Str.ofString "key", .ref f)]) (EP X pins σ Q) X.xe s := by
  obtain ⟨its, rv, hl, hz⟩ := I.list hs
  have e := eachIs_vals rv
  have dep : ∀ x ∈ b, (keyCe x.1).depth ≤ 8 := fun x hx => by
    obtain ⟨i, j, e⟩ := isCe_ex (hr x hx).2
    rw [e]
    show PyData.depth (.tuple [.int i, .int (0 - j)]) ≤ 8
    simp [PyData.depth, PyData.depthAll]
  refine PySem.W.sorted_key_data (b := false) (fun x : D × V × List Addr => keyCe x.1) hl.isList e (fun d hd d' hd' => ?_) (.inl fun d hd => ?_) hL (fun x hx => ?_) (ksk_s1 _ _) (fun _ => ksk_l1 _ _) (fun x => ksk_t1 f x) (fun v x hR hx h tk kp => ?_) fun out c h' tk kp fr at' hlen eo => ?_
  · obtain ⟨x, hx, rfl⟩ := List.mem_map.mp hd
    obtain ⟨y, hy, rfl⟩ := List.mem_map.mp hd'
    obtain ⟨i, j, e1⟩ := isCe_ex (hr x hx).2
    obtain ⟨i', j', e2⟩ := isCe_ex (hr y hy).2
    rw [e1, e2]
    rfl
  · obtain ⟨x, hx, rfl⟩ := List.mem_map.mp hd
    obtain ⟨i, j, e1⟩ := isCe_ex (hr x hx).2
    rw [e1]
    exact ⟨_, _, rfl⟩
  · have := dep x hx
    omega
  · obtain ⟨hx1, hx2⟩ := hr x hx
    obtain ⟨dx, vx, ax⟩ := x
    obtain ⟨i, j, e1⟩ := isCe_ex hx2
    cases (show dx = _ from e1)
    obtain ⟨t, ti, tj, rfl, ht⟩ := ce_tup I hx1 hR
    exact lam_call (s := { s with heap := h, toks := tk }) hdp (kp _ _ hf) (kp _ _ hc) hd hq (I.nolimit.keeps kp) (ht.keeps kp)
  · have rv' := vals_eachIs eo
    refine ⟨.ref _, upd H (s.heap.objs.size + 1) (.lst (Row.vs (b.mergeSort (PySem.W.dataLe false fun x => keyCe x.1)))), I.laid (t' := tk) kp (Nat.le_succ _) ⟨?_, out, c, rv', at'⟩, rfl, qq _ (I.hok.fresh (Nat.le_succ _))⟩
    rw [rv'.length, hlen]; exact hL
end
def dSortC : List D → Option (Kd × D)
  | [.lst xs] => if xs.all isCe && szOk xs.length then some (.new, .lst (isort leCe xs)) else none
  | [.frz xs] => if xs.all isCe && szOk xs.length then some (.new, .lst (isort leCe xs)) else none
  | _ => none
section
variable [CT] {X : Cx} {E : XK}
def tSortC [CT] (K : PySem.W.Frag) (t : TA) : TE := fun σ H Q => t σ H fun vs H1 => TabOk H1 ∧ ∀ H2, Ex H1 H2 → ∃ (a : Addr) (b : Row), vs = [.ref a] ∧ SqL K H2 a b.vs ∧ (∀ x ∈ b, Rep H2 x.1 x.2.1 x.2.2 ∧ isCe x.1 = true) ∧ b.length ≤ sizeLine ∧
  ∀ p, H2 p = none → Q (.ref p) (upd H2 p (.lst (Row.vs (b.mergeSort (PySem.W.dataLe false fun x => keyCe x.1)))))
theorem row_sortC (b : Row) : Row.ds (b.mergeSort (PySem.W.dataLe false fun x => keyCe x.1)) = isort leCe b.ds := by
  unfold Row.ds
  rw [← isort_eq leCe_total]
  exact PySem.W.sort_maps (fun x : D × V × List Addr => x.1) fun _ _ _ _ => rfl
theorem cells_noLs : ∀ {xs : List D}, xs.all isCe = true → noLs xs = true
  | [], _ => rfl
  | d :: xs, h => by
    simp only [List.all_cons, Bool.and_eq_true] at h
    obtain ⟨i, j, e⟩ := isCe_ex h.1
    subst e
    simp only [noLs, Bool.and_eq_true]
    exact ⟨rfl, cells_noLs h.2⟩
theorem pe_sortC {e : Expr} {t : TA} {c P : Addr} {q : Str} {p pos kp lp p0 p1 p2 p3 p4 p5 p6 p7 p8 p9 : Pos} (ha : PA X [e] t) (hu : X.A.units + 64 < cLine) (hdp : X.A.depth < recursionLimit) (TB : LamX.TabB X.base X.mg c P) (hcode : X.env.code = .ref c) (hm : (P, q) ∈ CT.tb) (hu2 : ∀ p ∈ CT.tb, p.1 = P → p.2 = q) (hq : q = X.env.qual ++ "<lambda>")
    (hg : Gl X "sorted") (hmg : X.mg "sorted" = none) (hdef : defaultsOf (lamA p0) X.env = ([], []) := by rfl)
    (he : backTo pos (starEach [e] X.env) = (false, eval e X.env) :: backTo pos (starEach [] X.env) := by rfl) (hpl : (backTo pos (starEach [e] X.env)).any (·.1) = false := by rfl) :
    PE X (.Call (.Name "sorted" p) [e] [⟨some "key", .Lambda (lamA p0) (lamB p1 p2 p3 p4 p5 p6 p7 p8 p9) lamC lp, kp⟩] pos) (tSortC X.K t) := by
  refine ⟨fun pins s σ H Q I h => ?_⟩
  refine wpAny_Call_Name_kw (ld_blt I hg hmg bt_sorted ?_)
  refine PyProof.Rows.callWith_kw (thn (ha.run pos pins s σ H _ I h) fun us s1 ⟨vs, H1, I1, r1, q1⟩ => ?_) he hpl (by rfl) (by rfl)
  show wpAny _ _ (evalAll ((do let v ← eval (.Lambda (lamA p0) (lamB p1 p2 p3 p4 p5 p6 p7 p8 p9) lamC lp) X.env; standAt pos; pure v) :: (backToKw pos (keywordEach [] X.env)).map (·.2))) _ _ s1
  obtain ⟨tb, q1⟩ := q1
  refine wpAny_evalAll_cons (wpAny_bind (lam_make I1 TB hcode hm hu2 tb hq hdef fun f c' pm ctv oc ws tq H2 s2 I2 ex hf hc hd hv => wpAny_bind (wpAny_standAt (wpAny_pure ?_))))
  refine wpAny_evalAll_nil ?_
  obtain ⟨a, b, rfl, hs, hr, hL, qq⟩ := q1 H2 ex
  rw [Vals.ref1 r1]
  show wpAny _ _ (call (.builtin "sorted") [.ref a] [(Str.ofString "key", .ref f)]) _ _ s2
  exact sortC_go hu hdp I2 hs hr hL hf hc hd hv qq
theorem snd_sortC {e : Expr} {ps : List P} {c P : Addr} {q : Str} {p pos kp lp p0 p1 p2 p3 p4 p5 p6 p7 p8 p9 : Pos} (h : SndA X E [e] ps) (hu : X.A.units + 64 < cLine) (hdp : X.A.depth < recursionLimit) (TB : LamX.TabB X.base X.mg c P) (hcode : X.env.code = .ref c) (hm : (P, q) ∈ CT.tb) (hu2 : ∀ p ∈ CT.tb, p.1 = P → p.2 = q) (hq : q = X.env.qual ++ "<lambda>")
    (hg : Gl X "sorted") (hmg : X.mg "sorted" = none) (hdef : defaultsOf (lamA p0) X.env = ([], []) := by rfl)
    (he : backTo pos (starEach [e] X.env) = (false, eval e X.env) :: backTo pos (starEach [] X.env) := by rfl) (hpl : (backTo pos (starEach [e] X.env)).any (·.1) = false := by rfl) :
    SndP X E (.Call (.Name "sorted" p) [e] [⟨some "key", .Lambda (lamA p0) (lamB p1 p2 p3 p4 p5 p6 p7 p8 p9) lamC lp, kp⟩] pos) (opN dSortC ps) := by
  obtain ⟨t, h1, h2⟩ := h
  refine ⟨_, pe_sortC h1 hu hdp TB hcode hm hu2 hq hg hmg hdef he hpl, fun S env σ H Q o w => h2 S env σ H _ o ?_⟩
  unfold opN at w
  cases hp : args ps env with
  | no => rw [hp] at w; exact w
  | ex x => rw [hp] at w; exact w
  | ok g ds =>
    rw [hp] at w
    intro vs H1 as e1 r1 m1 n1
    simp only [AR.bind] at w
    have go : ∀ {xs : List D} {v : V}, (∃ a vs bs, v = .ref a ∧ SqL X.K H1 a vs ∧ (∀ H2, Ex H1 H2 → SqL X.K H2 a vs) ∧ Reps H1 xs vs bs) → (xs.all isCe && szOk xs.length) = true → PWant S X.mg H Q E (.ok true (.lst (isort leCe xs))) → TabOk H1 ∧ ∀ H2, Ex H1 H2 → ∃ (a : Addr) (b : Row), [v] = [.ref a] ∧ SqL X.K H2 a b.vs ∧ (∀ x ∈ b, Rep H2 x.1 x.2.1 x.2.2 ∧ isCe x.1 = true) ∧ b.length ≤ sizeLine ∧
        ∀ p, H2 p = none → Q (.ref p) (upd H2 p (.lst (Row.vs (b.mergeSort (PySem.W.dataLe false fun x => keyCe x.1))))) := fun {xs v} ⟨a, ws, bs, e, sq, sq2, rs⟩ hz w => by
      obtain ⟨hc, hz⟩ := Bool.and_eq_true_iff.mp hz
      refine ⟨e1.b o.len.tab, fun H2 e2 => ?_⟩
      obtain ⟨b, b1, b2, b3, b4⟩ := (rs.mono e2).row
      have hbc : ∀ x ∈ b, isCe x.1 = true := fun x hx => by
        have : x.1 ∈ xs := by rw [← b1]; exact List.mem_map.mpr ⟨x, hx, rfl⟩
        exact List.all_eq_true.mp hc _ this
      have hperm : (b.mergeSort (PySem.W.dataLe false fun x => keyCe x.1)).Perm b := List.mergeSort_perm _ _
      refine ⟨a, b, by rw [e], by rw [b2]; exact sq2 H2 e2, fun x hx => ⟨b4 x hx, hbc x hx⟩, by
        have : b.length = xs.length := by rw [← b1]; simp [Row.ds]
        rw [this]; exact szOk_le hz, fun p hp => ?_⟩
      have rr := reps_row _ (fun y hy => b4 y (hperm.mem_iff.mp hy))
      rw [row_sortC b, b1] at rr
      have ano : Row.as (b.mergeSort (PySem.W.dataLe false fun x => keyCe x.1)) = [] := by
        have h0 : b.as = [] := by
          have hb := reps_row b b4
          rw [b1] at hb
          exact hb.noL (cells_noLs hc)
        have := Row.as_perm hperm
        rw [h0] at this
        exact this.eq_nil
      have e12 : Ex H H2 := e1.trans e2
      have hpH : H p = none := e12.back hp
      rw [ano] at rr
      refine w _ _ [p] (e12.trans (Ex.new hp)) (.newL hp rr) (fun c hc => ?_) fun _ => ⟨by simp, fun c hc => ?_⟩
      · rw [List.mem_singleton.mp hc]; exact .inr hpH
      · rw [List.mem_singleton.mp hc]; exact hpH
    cases hf : dSortC ds with
    | none => rw [hf] at w; exact w.elim
    | some kd =>
      rw [hf] at w
      unfold dSortC at hf
      split at hf
      · rename_i xs
        split at hf
        · rename_i hz
          cases hf
          obtain ⟨v, rfl, r⟩ := r1.one
          cases r with
          | lst h1 rs => exact go ⟨_, _, _, rfl, SqL.of h1, fun H2 e2 => SqL.of (e2 _ _ h1), rs⟩ hz w
        · cases hf
      · rename_i xs
        split at hf
        · rename_i hz
          cases hf
          obtain ⟨v, rfl, r⟩ := r1.one
          cases r with
          | frz h1 rs => exact go ⟨_, _, _, rfl, SqL.frz h1, fun H2 e2 => SqL.frz (e2 _ _ h1), rs⟩ hz w
        · cases hf
      · cases hf
end
end CB

namespace CB
open PySem L2 PySem.Spec PyProof.Rows
section
variable {fa : List Fc} {fn : List He.FnD} {K : PySem.W.Frag} {h : Heap} {mg : Str → Option Value}
theorem glo_c (X : K.In h) (G : h.Ns mainGlobals mg) {x : Str} (c : gloB K x = true) : mg x = some (.ref (He.ga K x)) := PySem.W.mg_of X G (He.eqO_ok c)
theorem eqT_ok {a b : Option Value} (h : He.eqO (some a) (some b) = true) : a = b := Option.some.inj (He.eqO_ok h)
theorem defd_c (X : K.In h) (G : h.Ns mainGlobals mg) (c : SaysC fa fn K) (i : Nat) {x : Str} {st : Stmt} (e : fn[i]? = some ⟨(x, none), x, x, defArgs st, defBody st, defScope st⟩ := by rfl) : Defd K mg x st := by
  obtain ⟨b, oc, od, osl, kV, doc, pm, an, cdv, ct, l, cc⟩ := c.def_ i e
  obtain ⟨_, b⟩ := He.ba b
  obtain ⟨b1, b2⟩ := He.ba b
  exact ⟨_, _, fun_mk l cc b1, glo_c X G b2⟩
theorem non_c (X : K.In h) (G : h.Ns mainGlobals mg) (c : SaysC fa fn K) (i : Nat) {x : Str} (e : fa[i]? = some (.non x) := by rfl) : mg x = none := PySem.W.mg_none_of X G (He.eqO_ok (c.fact i e))
theorem int_c (X : K.In h) (G : h.Ns mainGlobals mg) (c : SaysC fa fn K) (i : Nat) {x : Str} {z : Int} (e : fa[i]? = some (.int x z) := by rfl) : ∃ t, mg x = some (.int z t) := He.int_ok X G (show (He.Fa.int x z).ok K = true from c.fact i e)
theorem own_c (X : K.In h) (G : h.Ns mainGlobals mg) (c : SaysC fa fn K) (i : Nat) {x : Str} (e : fa[i]? = some (.own x) := by rfl) : ∃ C, OwnX K mg x C := by
  obtain ⟨b1, b⟩ := He.ba (c.fact i e)
  obtain ⟨b2, b⟩ := He.ba b
  obtain ⟨b3, b⟩ := He.ba b
  obtain ⟨b4, b5⟩ := He.ba b
  exact ⟨_, glo_c X G b1, b2, b3, of_decide_eq_true b4, eqT_ok b5⟩
theorem oex_c {C : Addr} (b : oexB K C = true) : ∃ nm q N bs bm sn sub ab col dd k0 k1 k2 k3 k5, K.lookup C = some (excClassObj nm q C N bs bm true sn sub ab col dd k0 k1 k2 k3 k5 "ValueError.__new__") ∧ PySem.HandSPX.refsVE bm = true := by
  unfold oexB at b
  split at b
  · rename_i c dd cd sl hl
    obtain ⟨b1, b⟩ := He.ba b
    have b1 := of_decide_eq_true b1
    split at b
    · rename_i C' bm k0 k1 k2 k3 n k5 hm hs
      obtain ⟨b2, b⟩ := He.ba b
      obtain ⟨b3, b⟩ := He.ba b
      obtain ⟨b4, b⟩ := He.ba b
      obtain ⟨b5, b6⟩ := He.ba b
      have b2 := of_decide_eq_true b2
      have b3 := of_decide_eq_true b3
      obtain ⟨nm, bs, mro, ns, qn, hd, sn, sub, ab, col, hdel⟩ := cd
      cases hm
      have hdel' : hdel = false := by cases hdel <;> first | rfl | cases b5
      have hd' : hd = true := b4
      have hs' : sl = #[k0, k1, k2, k3, some (.builtin n), k5] := by
        rw [← Array.toArray_toList (xs := sl), hs]
      subst b1 b2 b3 hdel' hd' hs'
      exact ⟨nm, qn, ns, bs, bm, sn, sub, ab, col, dd, k0, k1, k2, k3, k5, hl, b6⟩
    · cases b
  · cases b
theorem ini_c (X : K.In h) (G : h.Ns mainGlobals mg) (c : SaysC fa fn K) (j i : Nat) {x n qual : Str} {st : Stmt} (ec : fa[j]? = some (.ini x n)) (e : fn[i]? = some ⟨(x, some "__init__"), "__init__", qual, defArgs st, defBody st, defScope st⟩ := by rfl) : InitX K mg x n qual st := by
  obtain ⟨b, oc, od, osl, kV, doc, pm, an, cdv, ct, l, cc⟩ := c.def_ i e
  obtain ⟨q1, q⟩ := He.ba (c.fact j ec)
  obtain ⟨q2, q⟩ := He.ba q
  obtain ⟨q3, q⟩ := He.ba q
  obtain ⟨q4, q⟩ := He.ba q
  obtain ⟨q5, q⟩ := He.ba q
  obtain ⟨q6, q⟩ := He.ba q
  obtain ⟨q7, q⟩ := He.ba q
  obtain ⟨q8, q⟩ := He.ba q
  obtain ⟨q9, q⟩ := He.ba q
  obtain ⟨q10, q11⟩ := He.ba q
  obtain ⟨_, b⟩ := He.ba b
  obtain ⟨b1, b⟩ := He.ba b
  obtain ⟨b2, b⟩ := He.ba b
  obtain ⟨b3, b4⟩ := He.ba b
  have b4 : PySem.W.typeIn K (.ref (He.ma K (He.ga K x) "__init__")) = some (.type "function") := by
    unfold PySem.W.isFn at b4
    exact beq_iff_eq.mp b4
  have v : PySem.W.findCls K (.ref (He.ga K "OrderError")) (.type "type") "__init__" = some (.val (.builtin "ValueError.__init__")) := by
    cases z : PySem.W.findCls K (.ref (He.ga K "OrderError")) (.type "type") "__init__" with
    | none => rw [z] at q11; cases q11
    | some r =>
      rw [z] at q11
      cases r with
      | val u =>
        cases u with
        | builtin b => rw [show b = "ValueError.__init__" from of_decide_eq_true q11]
        | _ => cases q11
      | _ => cases q11
  exact ⟨_, _, _, _, glo_c X G b2, glo_c X G q2, ⟨oex_c q3, He.eqO_ok q4, of_decide_eq_true q5, eqT_ok q6, q7⟩, He.eqO_ok b3, b4, fun_mk l cc b1, He.eqO_ok q8, ⟨q9, He.eqO_ok q10⟩, v⟩
end
abbrev lamQ (x : Str) : Str := (x ++ ".<locals>.") ++ "<lambda>"
def DefT (K : PySem.W.Frag) (mg : Str → Option Value) (x : Str) (st : Stmt) (c : Addr) : Prop := ∃ f fd, Fun K x x st f fd ∧ mg x = some (.ref f) ∧ fd.code = .ref c
theorem deft_c {fa : List Fc} {fn : List He.FnD} {K : PySem.W.Frag} {h : Heap} {mg : Str → Option Value} (X : K.In h) (G : h.Ns mainGlobals mg) (c : SaysC fa fn K) (i : Nat) {x : Str} {st : Stmt} (e : fn[i]? = some ⟨(x, none), x, x, defArgs st, defBody st, defScope st⟩ := by rfl) : DefT K mg x st (He.codeOf K (x, none)) := by
  obtain ⟨b, oc, od, osl, kV, doc, pm, an, cdv, ct, l, cc⟩ := c.def_ i e
  obtain ⟨_, b⟩ := He.ba b
  obtain ⟨b1, b2⟩ := He.ba b
  obtain ⟨c0, rfl⟩ := He.codeIn_ref cc
  exact ⟨_, _, fun_mk l cc b1, glo_c X G b2, by rw [He.codeOf_eq l rfl]⟩
section
variable [CT] {P : Program} {w : World} {K : PySem.W.Frag} {mg : Str → Option Value} {base : Heap} {x : Str} {st : Stmt} {k n : Nat} {NN ps : List Str} {m : SM} {c : Addr}
theorem okXC {qual : Str} {f : Addr} {fd : FuncData} {pn : List Str} {sp : Sp} (F : Fun K x qual st f fd) (hc : fd.code = .ref c) (S : FnScope NN pn (defScope st)) (len : ∀ xs H Q E, sp xs H Q E → xs.length = pn.length)
    (hbody : ∀ (A : Around) (out : List PySem.Env) (s : Shared) (H : Hp) (xs : List V) (Q : VK) (E : XK), RoomG k (A.deeper (envOfC qual (defScope st) s.heap.objs.size f (.ref c))) → sp xs H Q E →
      ∃ t, PSs (cxOf (L2.CX P w) P w K mg base NN qual (defScope st) f (.ref c) A out s H E) (defBody st) t ∧ t { rt := Q, nx := fun _ H' => Q .non H' } (L2.start NN xs) H) : FnOkG P w K mg base (L2.CX P w) (k + 1) f fd pn sp := by
  obtain ⟨_, _, _, _, _, _, cdv, _, _, rfl, lk, hcd⟩ := F.ex
  cases (show cdv = .ref c from hc)
  refine ⟨len, fun {A out s H ar ws xs Q E} room e0 bnd rel want => ?_⟩
  have kin : K.In s.heap := e0.mod.kin.keeps fun b o z => (e0.bs b o z).1
  refine codeAny_call_function room.depth (kin _ _ lk) rfl S.co S.gen rfl (PySem.W.codeRec_of kin hcd) (bnd _ _ _ _ (wpAny_newFunctionEnv_cells S.kind (fun y hy => (S.par y.1 (List.of_mem_zip hy).1).imp id fun q => ⟨q, PySem.W.cellsFrom_some _ _ _ (.inl q)⟩) fun en he s1 ic => ?_))
  subst he
  refine ⟨(e0.mod.nolimit.keeps fun b o z => (e0.bs b o z).1).keeps ic.toInCall.keep, codeAny_func ?_⟩
  obtain ⟨t, ht, hq⟩ := hbody A out s H xs Q E (room.deeper _) want
  refine wpAny_mono (ht.run [] s1 (L2.start NN xs) H _ (inv_start S room.hd e0 (len _ _ _ _ want) rel ic) hq) (fun fl s' hs => ?_) fun z s' hs => hs
  cases fl with
  | ret u => exact let ⟨v, _, H', J, rv, q⟩ := hs; ⟨v, H', J.os, J.bare, J.base, J.hok, rv, q⟩
  | next => exact let ⟨_, H', J, q⟩ := hs; ⟨.non, H', J.os, J.bare, J.base, J.hok, rfl, q⟩
  | brk => exact let ⟨_, _, _, q⟩ := hs; q.elim
  | cont => exact let ⟨_, _, _, q⟩ := hs; q.elim
theorem DefT.cal (D : DefT K mg x st c) (S : FnScope NN ps (defScope st)) (hn : NN.length = n) (hk : ps.length ≤ n)
    (hb : ∀ (f : Addr) (cdv : Value) (A : Around) (outer : List PySem.Env) (s : Shared) (H : Hp) (E : XK), cdv = .ref c → RoomG k (A.deeper (envOfC x (defScope st) s.heap.objs.size f cdv)) → SndB (cxOf (L2.CX P w) P w K mg base NN x (defScope st) f cdv A outer s H E) E (defBody st) m)
    (h : ∀ (kV doc pm : Value) (an : Option Addr) (cdv ct : Value) (us : List Value), us.length = ps.length → bindArgs (PySem.W.fnOf x x (defArgs st) (defBody st) (defScope st) .none kV doc pm an cdv ct) ⟨us, []⟩ = pure (ps.zip us)) :
    Cal P w K mg base x (k + 1) ps (spF ps.length mg (fnP n m)) := by
  obtain ⟨f, fd, F, hm, hc⟩ := D
  refine ⟨f, fd, ?_, hm, F.kp, F.binds h⟩
  refine okXC F hc S (fun vs H Q E h => h.1) (fun A outer s H vs Q E hr h => ?_)
  obtain ⟨hl, tb, ds, as, r, w⟩ := h
  obtain ⟨t, h1, h2⟩ := hb f _ A outer s H E rfl hr
  refine ⟨t, h1, h2 _ _ _ _ _ H _ _ [] _ (Good.start (NN := NN) tb r hn (by rw [r.length, hl]; exact hk)) ?_⟩
  unfold fnP at w
  cases hm : m (startE n ds) with
  | no => rw [hm] at w; exact w
  | ex x env' => rw [hm] at w; exact fun φ' H' σ' c dx g' r' => w c dx H' (.fx (fun a o h => (g'.fix a o h).1) g'.len.tab) r'
  | nx env' => rw [hm] at w; exact fun φ' H' σ' g' => w .non H' [] (.fx (fun a o h => (g'.fix a o h).1) g'.len.tab) .non noMem fun _ => .nil H
  | rt o d env' =>
    rw [hm] at w
    intro φ' H' σ' v g'
    obtain ⟨bs, r1, r2, r3, r4⟩ := g'.tmp 0 (o, d, v) (by simp)
    refine w v H' bs (.fx (fun a o h => (g'.fix a o h).1) g'.len.tab) r1 r2 fun z => ⟨r4 z, fun a ha => ?_⟩
    have z' : o = true := z
    have := r3 a ha
    rw [z'] at this
    exact (g'.own a (by rw [this]; exact fun q => nomatch q)).1
end
theorem law_walkE {l : PySem.W.OpenLaw} {q : Program} {loose : List Str} {XP : (Str → Option Value) → Heap → Prop} {fa : List Fc} {fn : List He.FnD} {tf : List He.Defn} {d : DefRec} {k : Nat} {x : Str} (hn : l.most = some 63) (hdf : d.params.defaults = []) (hr : Room k callerA)
    (F : ∀ (w : World) (mg : Str → Option Value) (fa' : Addr) (h : Heap) (K : PySem.W.Frag), K.In h → SaysC fa fn K → h.Ns mainGlobals mg → mg d.name = some (.ref fa') →
      ∃ fd : FuncData, (∀ (s : Shared) (u : Value), BindsTo s fd ⟨[u], []⟩ [(x, u)]) ∧ ∀ base : Heap, K.In base → base.Ns mainGlobals mg → TBs (tf.map (He.cT K)) mg base → FnOkG l.prog w K mg base (L2.CX l.prog w) k fa' fd [x] (spLaw (tf.map (He.cT K)))) :
    PySem.W.WalkO q loose XP (hookC fa fn tf).says l.row.toRowW d [] (fun f vs => PySem.call f vs) := by
  refine Att.attach_callB hn hdf fun w s0 s1 mg mb fa' o pm cd doc a vs ns G Y ho hd hcd hmg hobj hints hlen hbits hg => ?_
  obtain ⟨K, KX, c, T⟩ := Y
  obtain ⟨fd, hb, hF⟩ := F w mg fa' _ K KX c G.T.g hmg
  have up : ∀ {p : Addr × Addr}, p ∈ tf.map (He.cT K) → ∃ e ∈ tf, He.cT K e = p := fun h => List.mem_map.mp h
  exact law_callG (cs := tf.map (He.cT K)) KX G.T.g G.T.b G.T.builtins G.T.nolimit hg (fun p hp => by obtain ⟨e, he, rfl⟩ := up hp; exact (T e he).2.2) (fun p hp => by obtain ⟨e, he, rfl⟩ := up hp; exact (T e he).2.1) (fun p hp => by obtain ⟨e, he, rfl⟩ := up hp; exact PySem.W.codeHd_of_K KX (T e he).1)
    G.T.bmain hobj hints (Nat.le_trans hlen (by decide)) ⟨hr, rfl⟩ c.2 hF hb (fun H hS hT => ⟨a, ns, rfl, hlen, hbits, hS, hT, fun _ => rfl⟩) fun H z s' q => by
    obtain ⟨_, _, _, _, _, _, _, _, _, _, _, _, y⟩ := q
    exact y
end CB

namespace CB
open PySem L2 PySem.Spec PyProof.Rows
variable [CT]
section
variable {M N : Addr → Prop} {fx : Addr → HO → Prop} {pin : Nat → Option V} {φ φ' : Lab} {H H' : Hp} {env : Env} {σ : L2.St} {ts : List Tmp}
theorem Held.nxL {lb l : Lb} {o : Bool} {d : D} {v : V} {a : Addr} {o1 : HO} {vs : List V} (h : Held φ H M l o d v) (hl : o = true → l ≠ lb) (ha : H a = some (.lst vs)) (hφ : φ a = some lb) : Held φ (upd H a o1) M l o d v := by
  obtain ⟨as, r, m, q, n⟩ := h
  refine ⟨as, r.keep fun c u hc hi => ?_, m, q, n⟩
  have : c ≠ a := fun z => by
    subst z
    rcases hi with z | z
    · have := q c z
      rw [hφ] at this
      cases o with
      | true => simp at this; exact hl rfl this.symm
      | false => cases this
    · rw [ha] at hc; cases hc; cases z
  rw [upd_ne this]; exact hc
theorem shT_snoc {d : D} {v : V} : ∀ {ds : List D} {vs : List V}, ds.length = vs.length → shT (ds ++ [d]) (vs ++ [v]) = shT ds vs ++ [(false, d, v)]
  | [], [], _ => rfl
  | x :: ds, w :: vs, h => by
    have := shT_snoc (d := d) (v := v) (ds := ds) (vs := vs) (by simpa using h)
    simp only [shT, List.cons_append, List.zip_cons_cons, List.map_cons] at this ⊢
    rw [this]
  | [], _ :: _, h => by simp at h
  | _ :: _, [], h => by simp at h
theorem shT_false {ds : List D} {vs : List V} : ∀ t ∈ shT ds vs, t.1 = false := fun t ht => by
  unfold shT at ht
  obtain ⟨p, _, e⟩ := List.mem_map.mp ht
  rw [← e]
theorem Good.growS {a : Addr} {acc : List D} {ws : List V} {o : Bool} {d : D} {v : V} (hl : acc.length = ws.length) (g : Good M N fx pin φ H env σ (ts ++ [(true, .box ws, .ref a)] ++ shT acc ws ++ [(o, d, v)])) :
    H a = some (.lst ws) ∧ ∃ φ', Good M N fx pin φ' (upd H a (.lst (ws ++ [v]))) env σ (ts ++ [(true, .box (ws ++ [v]), .ref a)] ++ shT (acc ++ [d]) (ws ++ [v])) := by
  have gS := g.shareW
  obtain ⟨n, hn⟩ : ∃ n, n = (ts ++ [((true, .box ws, .ref a) : Tmp)] ++ shT acc ws).length := ⟨_, rfl⟩
  rw [← hn] at gS
  have S0 : Shd (unT n φ) H M (shT acc ws) := gS.shd shT_false
  have S1 : Shd (unT n φ) H M [(false, d, v)] := fun t ht => by
    rw [List.mem_singleton.mp ht]
    obtain ⟨bs, r, m, q, _⟩ := g.tmp n (o, d, v) (by rw [hn]; simp)
    refine ⟨rfl, bs, r, fun b hb => ⟨m b hb, ?_⟩⟩
    have := q b hb
    unfold unT
    cases o with
    | true => rw [this]; simp
    | false => rw [this]; rfl
  have g1 := gS.drops
  obtain ⟨as, r, m, q, _⟩ := g1.tmp ts.length (true, .box ws, .ref a) (by simp)
  cases r with
  | box ha =>
    have hφ : unT n φ a = some (.tmp ts.length) := q a List.mem_cons_self
    refine ⟨ha, unT n φ, ?_⟩
    have k2 : ∀ {us : List Tmp}, Shd (unT n φ) H M us → Shd (unT n φ) (upd H a (.lst (ws ++ [v]))) M us := fun S t ht => by
      obtain ⟨h1, as, h2, h3⟩ := S t ht
      refine ⟨h1, as, h2.keep fun c u hc hi => ?_, h3⟩
      have : c ≠ a := fun z => by
        subst z
        rcases hi with z | z
        · have := (h3 c z).2
          rw [hφ] at this; cases this
        · rw [ha] at hc; cases hc; cases z
      rw [upd_ne this]; exact hc
    have g2 : Good M N fx pin (unT n φ) (upd H a (.lst (ws ++ [v]))) env σ (ts ++ [(true, .box (ws ++ [v]), .ref a)]) := by
      refine ⟨g1.len.upd ha, fun c u h => ?_, fun c h => ?_, g1.free, fun k s h => (g1.slot k s h).keep fun o d v q => q.nxL (lb := .tmp ts.length) (fun _ z => nomatch z) ha hφ, fun j t h => ?_⟩
      · obtain ⟨f1, f2⟩ := g1.fix c u h
        have : c ≠ a := fun z => by subst z; rw [hφ] at f2; cases f2
        exact ⟨f1.upd this, f2⟩
      · by_cases z : c = a
        · subst z; exact ⟨(g1.own c h).1, _, upd_same, rfl⟩
        · obtain ⟨n, u, h1, h2⟩ := g1.own c h
          exact ⟨n, u, by rw [upd_ne z]; exact h1, h2⟩
      · by_cases hj : j < ts.length
        · rw [List.getElem?_append_left hj] at h
          exact (g1.tmp j t (by rw [List.getElem?_append_left hj]; exact h)).nxL (fun _ z => by cases z; exact absurd hj (Nat.lt_irrefl _)) ha hφ
        · have hj' : j = ts.length := by
            have := (List.getElem?_eq_some_iff.mp h).1
            simp at this; omega
          subst hj'
          simp at h
          subst h
          exact ⟨[a], .box upd_same, fun b hb => by rw [List.mem_singleton.mp hb]; exact m a List.mem_cons_self, fun b hb => by rw [List.mem_singleton.mp hb]; exact hφ, fun _ => by simp⟩
    rw [shT_snoc hl]
    exact g2.keepT fun t ht => (List.mem_append.mp ht).elim (k2 S0 t) (k2 S1 t)
theorem Good.closeS {us : List Tmp} {a : Addr} {acc : List D} {ws : List V} (hl : acc.length = ws.length) (g : Good M N fx pin φ H env σ (ts ++ us ++ [(true, .box ws, .ref a)] ++ shT acc ws)) : ∃ φ', Good M N fx pin φ' H env σ (ts ++ [(false, .lst acc, .ref a)]) := by
  have S0 : Shd φ H M (shT acc ws) := g.shd shT_false
  obtain ⟨as, r, m, q, _⟩ := g.tmp (ts ++ us).length (true, .box ws, .ref a) (by simp)
  have g1 : Good M N fx pin φ H env σ (ts ++ (us ++ [(true, .box ws, .ref a)] ++ shT acc ws)) := by simpa [List.append_assoc] using g
  have g2 := g1.shareW
  refine ⟨_, g2.keepT fun t ht => ?_⟩
  rw [List.mem_singleton.mp ht]
  obtain ⟨bs, rs, ms⟩ := shd_reps hl S0
  cases r with
  | box ha =>
    refine ⟨rfl, _, .lst ha rs, fun b hb => ?_⟩
    rcases List.mem_cons.mp hb with z | z
    · subst z
      refine ⟨m b List.mem_cons_self, ?_⟩
      have := q b List.mem_cons_self
      unfold unT
      rw [this]; simp
    · refine ⟨(ms b z).1, ?_⟩
      unfold unT
      rw [(ms b z).2]
end
def loopCS (vs : List Nat) (τ : Tgt) (t el : GE) : List D → Env → List D → GR
  | [], env, acc => .ok false (.lst acc) env
  | d :: ds, env, acc => match bindT τ d env with
    | some e1 => match t e1 with
      | .ok _ (.bl true) e2 => match el e2 with
        | .ok _ y e3 => if szOk acc.length then loopCS vs τ t el ds (wipeE e3 vs) (acc ++ [y]) else .no
        | _ => .no
      | .ok _ (.bl false) e2 => loopCS vs τ t el ds (wipeE e2 vs) acc
      | _ => .no
    | none => .no
def compKS (vs : List Nat) (τ : Tgt) (κ : IG) (t el : GE) : GE := fun env => match κ env with
  | .ok ds env' => loopCS vs τ t el ds (wipeE env' vs) []
  | .ex x env' => .ex x env'
  | .no => .no
section
variable {X : Cx} {E : XK} {tg : Expr}
theorem loopCS_core {M N : Addr → Prop} {fx fi : Addr → HO → Prop} {pin : Nat → Option V} {φ : Lab} {H1 : Hp} {env : Env} {σ : L2.St} {ts us : List Tmp} {Q : VK} {τ : Tgt} {t el : GE} {vs : List Nat} {J : It} {ds : List D} {cD : Nat → List D} {cV : Nat → List V} {Dl : Addr}
    (sv : Serves J fi ds cD cV) (hl : ∀ i, i < ds.length → (cD i).length = (cV i).length ∧ ∀ t ∈ shT (cD i) (cV i), t ∈ us) (hus : ∀ t ∈ us, t.1 = false) (hτ : ∀ i ∈ slotsOf τ, i ∈ vs)
    (g0 : Good M N (fun a o => fx a o ∨ fi a o) pin φ H1 env σ (ts ++ us)) (gf : ∀ p, (∀ o, ¬ fx p o) → N p ∧ M p) (hD : H1 Dl = none) (w : GWant M N fx pin X.mg σ ts E Q (loopCS vs τ t el ds (wipeE env vs) [])) :
    ∃ W : Nat → Nat → Hp → Prop, (∃ m, W 0 m (upd H1 Dl (.lst []))) ∧ ∀ i m H, W i m H →
      (J.stop i H ∧ Q (.ref Dl) H) ∨ (J.go i H ∧ ∃ Nx : Hp → Prop, (∀ H', Nx H' → ∃ m', m' < m ∧ W (i + 1) m' H') ∧ ∀ x H', J.yld i H x H' → cG τ x (L2.wipe σ vs) H' fun σ2 H2 => L2.wipe σ2 vs = L2.wipe σ vs ∧ cTG X.mg t σ2 H2 fun b H3 =>
        if b = true then cGE X.mg el σ2 H3 fun y H4 => ∃ acc, H4 Dl = some (.lst acc) ∧ acc.length < sizeLine ∧ Nx (upd H4 Dl (.lst (acc ++ [y]))) else Nx H3) := by
  have gN : Good M N (fun a o => fx a o ∨ fi a o) pin (lbl φ [Dl] (.tmp (ts ++ us).length)) (upd H1 Dl (.lst [])) (wipeE env vs) (L2.wipe σ vs) (ts ++ us ++ [(true, .box [], .ref Dl)] ++ shT [] []) := by
    simpa [shT] using (g0.wiped vs).push (Ex.new hD) (.box upd_same) ⟨by simp, fun a ha => by simp at ha; rw [ha]; exact hD⟩
  refine ⟨fun i n H => n = ds.length - i ∧ i ≤ ds.length ∧ ∃ φ env acc ws, acc.length = ws.length ∧ Good M N (fun a o => fx a o ∨ fi a o) pin φ H (wipeE env vs) (L2.wipe σ vs) (ts ++ us ++ [(true, .box ws, .ref Dl)] ++ shT acc ws) ∧ GWant M N fx pin X.mg σ ts E Q (loopCS vs τ t el (ds.drop i) (wipeE env vs) acc), ⟨ds.length, by simp, Nat.zero_le _, _, env, [], [], rfl, gN, by simpa using w⟩, ?_⟩
  rintro i n H ⟨rfl, hi, φ1, env1, acc, ws, hlw, g1, w1⟩
  have hf : Holds fi H := fun a o z => (g1.fix a o (.inr z)).1
  by_cases hlt : i < ds.length
  · obtain ⟨d, hd⟩ : ∃ d, ds[i]? = some d := ⟨ds[i], by simp⟩
    have ed : ds.drop i = d :: ds.drop (i + 1) := by
      have e2 : ds[i] = d := by
        have := List.getElem?_eq_getElem hlt
        rw [this] at hd; exact Option.some.inj hd
      rw [← e2]
      exact List.drop_eq_getElem_cons hlt
    rw [ed] at w1
    simp only [loopCS] at w1
    refine .inr ⟨sv.go i H hlt hf, fun H' => ∃ φ env acc ws, acc.length = ws.length ∧ Good M N (fun a o => fx a o ∨ fi a o) pin φ H' (wipeE env vs) (L2.wipe σ vs) (ts ++ us ++ [(true, .box ws, .ref Dl)] ++ shT acc ws) ∧ GWant M N fx pin X.mg σ ts E Q (loopCS vs τ t el (ds.drop (i + 1)) (wipeE env vs) acc), fun H' h => ⟨ds.length - (i + 1), by omega, rfl, hlt, h⟩, fun x H' hy => ?_⟩
    obtain ⟨ex, rx⟩ := sv.yld i H x H' hf hy d hd
    have g1' : Good M N (fun a o => fx a o ∨ fi a o) pin φ1 H (wipeE env1 vs) (L2.wipe σ vs) (ts ++ us) := by
      have := g1
      rw [List.append_assoc] at this
      exact this.drops
    obtain ⟨as, ra, ma⟩ := shd_reps (hl i hlt).1 (fun t ht => (g1'.shd hus) t ((hl i hlt).2 t ht))
    have rd := rx as ra
    cases hb : bindT τ d (wipeE env1 vs) with
    | none => rw [hb] at w1; exact w1.elim
    | some e1 =>
      rw [hb] at w1
      simp only at w1
      refine ⟨d, as, rd, bindT_fits hb, fun σ2 ht => ?_⟩
      have hw : L2.wipe σ2 vs = L2.wipe σ vs := by rw [tgV_wipe ht hτ, wipe_wipe]
      obtain ⟨φ2, g2⟩ := (g1.ext ex).bindT rd ma hb ht
      refine ⟨hw, M, N, _, pin, φ2, e1, _, g2, ?_⟩
      cases htest : t e1 with
      | no => rw [htest] at w1; exact w1.elim
      | ex x e => rw [htest] at w1; exact w1.elim
      | ok o b e2 =>
        rw [htest] at w1
        cases b with
        | bl b =>
          intro φ3 H3 g3
          cases b with
          | false =>
            refine iteF ?_
            exact ⟨φ3, e2, acc, ws, hlw, g3.unwiped hw, w1⟩
          | true =>
            refine iteT ?_
            simp only at w1
            refine ⟨M, N, _, pin, φ3, e2, _, g3, ?_⟩
            cases hel : el e2 with
            | no => rw [hel] at w1; exact w1.elim
            | ex x e => rw [hel] at w1; exact w1.elim
            | ok oy y e3 =>
              rw [hel] at w1
              simp only at w1
              intro φ4 H4 v g4
              split at w1
              · rename_i hz
                obtain ⟨k1, φ5, g5⟩ := g4.growS hlw
                exact ⟨ws, k1, szOk_lt (by rw [← hlw]; exact hz), φ5, e3, acc ++ [y], ws ++ [v], by simp [hlw], g5.unwiped hw, w1⟩
              · exact w1.elim
        | _ => exact (show False from w1).elim
  · have e : i = ds.length := by omega
    subst e
    rw [List.drop_length] at w1
    refine .inl ⟨sv.stop _ H (Nat.le_refl _) hf, ?_⟩
    obtain ⟨φ6, g6⟩ := g1.home.closeS hlw
    exact w1 φ6 H (.ref Dl) (g6.unfixed gf)
theorem compKS_read {iter : Expr} {κ : IG} {τ : Tgt} {t el : GE} {vs : List Nat} (hi : SndIG X E tg iter κ) (hτ : ∀ i ∈ slotsOf τ, i ∈ vs) :
    ∃ wi, PI X tg iter wi ∧ ∀ M N fx pin φ H env σ ts Q, Good M N fx pin φ H env σ ts → GWant M N fx pin X.mg σ ts E Q (compKS vs τ κ t el env) → tLc wi (cG τ) (cTG X.mg t) (cGE X.mg el) vs σ H Q := by
  obtain ⟨wi, i1, i2⟩ := hi
  refine ⟨wi, i1, fun M N fx pin φ H env σ ts Q g w => i2 M N fx pin φ H env σ ts _ g ?_⟩
  unfold compKS at w
  cases hι : κ env with
  | no => rw [hι] at w; exact w
  | ex x e => rw [hι] at w; exact w
  | ok ds env' =>
    rw [hι] at w
    intro φ' H' J fi cD cV us g' sv hl hus D hD
    exact loopCS_core sv hl hus hτ g' g.free hD w
theorem snde_compKS {elt iter : Expr} {ifs : List Expr} {scope : Scope} {own : List (Str × Nat)} {pos : Pos} {κ : IG} {τ : Tgt} {t el : GE} (hc : X.calm = true) (hN : X.N.Nodup) (hi : SndIG X E tg iter κ) (ok : BlkOk X.N X.env.scope scope own)
    (hg : Blk X scope fun Y => SndG Y tg τ) (ht : Blk X scope fun Y => SndTsG Y ifs t) (he : Blk X scope fun Y => SndE Y E0 elt el) (hτ : ∀ i ∈ slotsOf τ, i ∈ own.map (·.2) := by decide) (hs : ∀ x, foldedSetIterable iter X.env x = pure x := by intro _; rfl) :
    SndE X E (.ListComp elt [⟨tg, iter, ifs, 0⟩] scope pos) (compKS (own.map (·.2)) τ κ t el) := by
  obtain ⟨wi, h1, h2⟩ := compKS_read (t := t) (el := el) hi hτ
  exact ⟨_, pe_lc hc hN h1 ok (fun s H C cl fp => (hg s H C cl fp).c) (fun s H C cl fp => (ht s H C cl fp).c) (fun s H C cl fp => (he s H C cl fp).c) hs, h2⟩
end
end CB

namespace CB
open PySem L2
def Le {α : Type} (b x y : α) : Prop := x = b ∨ y = x
theorem Le.refl {α : Type} {b x : α} : Le b x x := .inr rfl
def leP (p q : P) : Prop := ∀ env, Le PR.no (p env) (q env)
def leF (p q : List D → PR) : Prop := ∀ ds, Le PR.no (p ds) (q ds)
def leRF (p q : List D → RR) : Prop := ∀ ds, Le RR.no (p ds) (q ds)
def leIt (p q : I) : Prop := ∀ env, Le IR.no (p env) (q env)
def leQ (p q : Env → Option (Int × Int)) : Prop := ∀ env, Le none (p env) (q env)
def leG (p q : GE) : Prop := ∀ env, Le GR.no (p env) (q env)
def leS (p q : SM) : Prop := ∀ env, Le SR.no (p env) (q env)
def leIG (p q : IG) : Prop := ∀ env, Le ItR.no (p env) (q env)
inductive lePs : List P → List P → Prop
  | nil : lePs [] []
  | cons {p q : P} {ps qs : List P} : leP p q → lePs ps qs → lePs (p :: ps) (q :: qs)
inductive leGA : GA → GA → Prop
  | ex {m n : GE} : leG m n → leGA (.ex m) (.ex n)
  | vr {i : Nat} : leGA (.vr i) (.vr i)
inductive leGAs : List GA → List GA → Prop
  | nil : leGAs [] []
  | cons {p q : GA} {ps qs : List GA} : leGA p q → leGAs ps qs → leGAs (p :: ps) (q :: qs)
inductive leO : Option P → Option P → Prop
  | none : leO none none
  | some {p q : P} : leP p q → leO (some p) (some q)
theorem leP.refl {p : P} : leP p p := fun _ => .refl
theorem leF.refl {p : List D → PR} : leF p p := fun _ => .refl
theorem leRF.refl {p : List D → RR} : leRF p p := fun _ => .refl
theorem leIt.refl {p : I} : leIt p p := fun _ => .refl
theorem leQ.refl {p : Env → Option (Int × Int)} : leQ p p := fun _ => .refl
theorem leG.refl {p : GE} : leG p p := fun _ => .refl
theorem leS.refl {p : SM} : leS p p := fun _ => .refl
theorem leIG.refl {p : IG} : leIG p p := fun _ => .refl
theorem leF.trans {F G K : List D → PR} (a : leF F G) (b : leF G K) : leF F K := fun ds => by
  rcases a ds with q | q
  · exact .inl q
  · rcases b ds with r | r
    · rw [q] at r; exact .inl r
    · rw [q] at r; exact .inr r
variable {a b c a' b' c' : P}
end CB

namespace CB
open PySem L2
def leFO (p q : List (Bool × D) → PR) : Prop := ∀ ds, Le PR.no (p ds) (q ds)
theorem leFO.refl {p : List (Bool × D) → PR} : leFO p p := fun _ => .refl
end CB

namespace CB

theorem loop_inv {τ : Tgt} {m : SM} (I : Env → Prop) : ∀ {ds : List D}, (∀ d ∈ ds, ∀ env, I env → ∃ env1 env2, bindT τ d env = some env1 ∧ m env1 = .nx env2 ∧ I env2) → ∀ env, I env → ∃ env', loopS τ m ds env = .nx env' ∧ I env'
  | [], _, env, h => ⟨env, rfl, h⟩
  | d :: ds, H, env, h => by
    obtain ⟨e1, e2, a, b, c⟩ := H d List.mem_cons_self env h
    obtain ⟨e3, x, y⟩ := loop_inv I (fun d hd => H d (List.mem_cons_of_mem _ hd)) e2 c
    refine ⟨e3, ?_, y⟩
    simp only [loopS, a, b]
    exact x
theorem seq_assoc (a b c : SM) : seqS (seqS a b) c = seqS a (seqS b c) := by
  funext env
  simp only [seqS]
  cases a env <;> rfl
theorem seq_nx {a b : SM} {env e : Env} (h : a env = .nx e) : seqS a b env = b e := by simp only [seqS, h]
theorem mem_rgD {d : D} {lo : Int} {n : Nat} (h : d ∈ rgD lo n) : ∃ k : Nat, k < n ∧ d = .int (lo + k) := by
  unfold rgD at h
  obtain ⟨k, hk, e⟩ := List.mem_map.mp h
  exact ⟨k, List.mem_range.mp hk, e.symm⟩
theorem mulOk_l {i j : Int} (h : i.natAbs < 18446744073709551616) : mulOk i j = true := by unfold mulOk; simp [h]
theorem mulOk_r {i j : Int} (h : j.natAbs < 18446744073709551616) : mulOk i j = true := by unfold mulOk; simp [h]
def bigP : P := (op2 dMul (op2 dMul (op2 dMul (op2 dPow (cst (.int 10)) (cst (.int 60))) (op2 dPow (cst (.int 10)) (cst (.int 60)))) (op2 dPow (cst (.int 10)) (cst (.int 60)))) (op2 dPow (cst (.int 10)) (cst (.int 60))))
def e18P : P := (op2 dPow (cst (.int 10)) (cst (.int 18)))
theorem bigP_ok (env : Env) : bigP env = .ok true (.int (10 ^ 240)) := by kernel_rfl
theorem e18P_ok (env : Env) : e18P env = .ok true (.int 1000000000000000000) := by kernel_rfl
def perms : Nat → List Int → List (List Int)
  | 0, _ => [[]]
  | n + 1, xs => (List.range xs.length).flatMap fun j => match xs[j]? with
    | some y => (perms n (xs.eraseIdx j)).map (y :: ·)
    | none => []
theorem mem_perms {n : Nat} {xs o : List Int} {j : Nat} {y : Int} (h : xs[j]? = some y) (ho : o ∈ perms n (xs.eraseIdx j)) : y :: o ∈ perms (n + 1) xs := by
  refine List.mem_flatMap.mpr ⟨j, List.mem_range.mpr (List.getElem?_eq_some_iff.mp h).1, ?_⟩
  rw [h]
  exact List.mem_map.mpr ⟨o, ho, rfl⟩
theorem eraseIdx_map' {α β : Type} (f : α → β) : ∀ (l : List α) (j : Nat), (l.map f).eraseIdx j = (l.eraseIdx j).map f
  | [], _ => rfl
  | x :: l, 0 => rfl
  | x :: l, j + 1 => by simp [eraseIdx_map' f l j]
theorem perms_len : ∀ (m : Nat) (xs o : List Int), o ∈ perms m xs → o.length = m := by
  intro m
  induction m with
  | zero => intro xs o h; simp [perms] at h; simp [h]
  | succ m ih =>
    intro xs o h
    obtain ⟨j, _, h⟩ := List.mem_flatMap.mp h
    split at h
    · obtain ⟨p, hp, rfl⟩ := List.mem_map.mp h
      simp [ih _ _ hp]
    · cases h
theorem rgSz_nat {n : Nat} (hn : n ≤ 900000) : rgSz (n : Int) = true := by
  unfold rgSz
  rw [decide_eq_true (show (-4611686018427387904 : Int) ≤ n by omega), decide_eq_true (show (n : Int) < 4611686018427387904 by omega)]; rfl
theorem rgOk_nat {n : Nat} (hn : n ≤ 900000) : rgOkB 0 (n : Int) = true := by
  have h0 := rgSz_nat (n := 0) (by omega)
  unfold rgOkB
  rw [rgSz_nat hn]
  rw [show rgSz 0 = true from h0, decide_eq_true (show ((n : Int) - 0).toNat ≤ 1000000 by omega)]; rfl
theorem szOk_small {n : Nat} (hn : n ≤ 900000) : szOk n = true := Nat.ble_eq_true_of_le (by omega)
theorem noLs_rgD (n : Nat) : noLs (rgD 0 n) = true := by
  have : rgD 0 n = ((List.range n).map fun (k : Nat) => (0 + k : Int)).map D.int := by unfold rgD; simp [Function.comp_def]
  rw [this]; exact noLs_ints _
theorem fnR_rt {n r : Nat} {m : SM} {ds : List D} {o : Bool} {d dr : D} {e : Env} (h : m (startR n r ds) = .rt o d e) (he : e[r]? = some (.ref dr)) : fnR n r m ds = .ok o d dr := by
  simp only [fnR, h, endR, he]
theorem fnP_rt {n : Nat} {m : SM} {ds : List D} {o : Bool} {d : D} {e : Env} (h : m (startE n ds) = .rt o d e) : fnP n m ds = .ok o d := by
  simp only [fnP, h]
theorem lstRg_ok {q : Env → Option (Int × Int)} {env : Env} {i j : Int} (h : q env = some (i, j)) (hz : rgOkB i j = true) : lstRg q env = .ok true (.lst (rgD i (j - i).toNat)) := by
  simp only [lstRg, h, hz, if_true]
theorem irange1_ok {p : P} {env : Env} {f : Bool} {j : Int} (h : p env = .ok f (.int j)) (hz : rgSz j = true) : irange1 p env = .ok true (rgD 0 j.toNat) := by
  simp only [irange1, h, hz, if_true]
theorem asg_ok {i : Nat} {m : GE} {env e : Env} {o : Bool} {d : D} (h : m env = .ok o d e) : asgS i m env = .nx (e.set i (.val o d)) := by simp only [asgS, h]
theorem lift_new {ks : List Nat} {p : P} {env : Env} {f : Bool} {d : D} (h : p env = .ok f d) (g : gfl f d = true) : lift ks p env = .ok true d env := by simp only [lift, h, g, if_true]
theorem for_ok {ks : List Nat} {τ : Tgt} {ι : I} {m : SM} {env : Env} {ds : List D} (h : ι env = .ok true ds) (hn : noLs ds = true) : forS ks τ ι m env = loopS τ m ds env := by simp only [forS, h, hn, Bool.and_self, if_true]
theorem scope_nx {ks ws : List Nat} {m : SM} {env e r : Env} (h : m (mask ks ws 0 env) = .nx e) (hu : unmask ks ws 0 env e = some r) : scopeS ks ws m env = .nx r := by simp only [scopeS, h, hu]
def ords (n : Nat) : List (List Int) := perms n ((List.range n).map fun (k : Nat) => (0 + k : Int))
def okB : PR → Bool
  | .ok true (.bl true) => true
  | _ => false
theorem okB_of {r : PR} (h : okB r = true) : r = .ok true (.bl true) := by
  unfold okB at h
  split at h
  · rfl
  · cases h
theorem five {n : Nat} (h1 : 1 ≤ n) (h5 : n ≤ 5) : n = 1 ∨ n = 2 ∨ n = 3 ∨ n = 4 ∨ n = 5 := by omega
theorem eraseIdx_perm : ∀ {xs : List Int} {j : Nat} {y : Int}, xs[j]? = some y → xs.Perm (y :: xs.eraseIdx j)
  | [], _, _, h => by simp at h
  | x :: xs, 0, y, h => by simp at h; subst h; simp
  | x :: xs, j + 1, y, h => by
    have := eraseIdx_perm (xs := xs) (j := j) (y := y) (by simpa using h)
    rw [List.eraseIdx_cons_succ]
    exact (List.Perm.cons x this).trans (List.Perm.swap y x _)
theorem perm_mem : ∀ (o xs : List Int), o.Perm xs → o ∈ perms xs.length xs
  | [], xs, h => by have := h.symm.eq_nil; subst this; simp [perms]
  | y :: o, xs, h => by
    have hy : y ∈ xs := h.mem_iff.mp List.mem_cons_self
    obtain ⟨j, hj⟩ := List.mem_iff_getElem?.mp hy
    have hp := eraseIdx_perm hj
    have h2 : o.Perm (xs.eraseIdx j) := (h.trans hp).cons_inv
    have hlt := (List.getElem?_eq_some_iff.mp hj).1
    have hl : (xs.eraseIdx j).length + 1 = xs.length := by rw [List.length_eraseIdx, if_pos hlt]; omega
    have := mem_perms hj (perm_mem o _ h2)
    rw [hl] at this
    exact this
theorem mem_perm : ∀ (n : Nat) (xs o : List Int), xs.length = n → o ∈ perms n xs → o.Perm xs
  | 0, xs, o, hl, h => by
    have : xs = [] := List.length_eq_zero_iff.mp hl
    subst this
    simp [perms] at h; subst h; exact .refl _
  | n + 1, xs, o, hl, h => by
    obtain ⟨j, _, h⟩ := List.mem_flatMap.mp h
    split at h
    · rename_i y hy
      obtain ⟨p, hp, rfl⟩ := List.mem_map.mp h
      have hlt := (List.getElem?_eq_some_iff.mp hy).1
      have := mem_perm n _ p (by rw [List.length_eraseIdx, if_pos hlt]; omega) hp
      exact (this.cons y).trans (eraseIdx_perm hy).symm
    · cases h
def rgI (n : Nat) : List Int := (List.range n).map fun (k : Nat) => (0 + k : Int)
theorem rgI_len (n : Nat) : (rgI n).length = n := by simp [rgI]
theorem ords_perm {n : Nat} {o : List Int} (h : o ∈ ords n) : o.Perm (rgI n) := mem_perm n _ o (rgI_len n) h
theorem perm_ords {n : Nat} {o : List Int} (h : o.Perm (rgI n)) : o ∈ ords n := by
  have := perm_mem o _ h
  rw [rgI_len] at this
  exact this
theorem ords_of {n : Nat} {o q : List Int} (ho : o ∈ ords n) (h : q.Perm o) : q ∈ ords n := perm_ords (h.trans (ords_perm ho))
theorem ords_len {n : Nat} {o : List Int} (ho : o ∈ ords n) : o.length = n := perms_len _ _ _ ho
theorem rgI_ords (n : Nat) : rgI n ∈ ords n := perm_ords (.refl _)
def swI (xs : List Int) (i j : Nat) : List Int := (xs.set i (xs.getD j 0)).set j (xs.getD i 0)
theorem sw_ok {n : Nat} {o : List Int} (ho : o ∈ ords n) {i j : Nat} (hi : i < n) (hj : j < n) : swI o i j ∈ ords n := by
  refine ords_of ho ?_
  have hl := ords_len ho
  have := List.set_set_perm (as := o) (i := i) (j := j) (by omega) (by omega)
  unfold swI
  have e1 : o.getD j 0 = o[j] := by simp [List.getD, List.getElem?_eq_getElem (show j < o.length by omega)]
  have e2 : o.getD i 0 = o[i] := by simp [List.getD, List.getElem?_eq_getElem (show i < o.length by omega)]
  rw [e1, e2]
  exact this
theorem dEq_int (i j : Int) : dEq (.int i) (.int j) = some (.new, .bl (decide (i = j))) := by
  simp [dEq, eqOk, dat, PySem.SeqAt.shaped, PySem.PyData.eqv, PySem.PyData.canLay0, PySem.PyData.depth]
  rfl
def okN : PR → Bool
  | .ok true .non => true
  | _ => false
theorem okN_of {r : PR} (h : okN r = true) : r = .ok true .non := by
  unfold okN at h
  split at h
  · rfl
  · cases h
theorem all5 {p : Nat → List Int → Bool} (h1 : ((ords 1).all (p 1)) = true) (h2 : ((ords 2).all (p 2)) = true) (h3 : ((ords 3).all (p 3)) = true) (h4 : ((ords 4).all (p 4)) = true) (h5 : ((ords 5).all (p 5)) = true) {n : Nat} (l1 : 1 ≤ n) (l5 : n ≤ 5) {o : List Int} (ho : o ∈ ords n) : p n o = true := by
  rcases five l1 l5 with e | e | e | e | e <;> subst e
  · exact List.all_eq_true.mp h1 o ho
  · exact List.all_eq_true.mp h2 o ho
  · exact List.all_eq_true.mp h3 o ho
  · exact List.all_eq_true.mp h4 o ho
  · exact List.all_eq_true.mp h5 o ho
theorem dats_ints (xs : List Int) : dats (xs.map D.int) = xs.map PySem.PyData.int := by
  induction xs with
  | nil => rfl
  | cons x xs ih => simp [dats, dat, ih]
theorem eqvAll_ints : ∀ xs ys : List Int, PySem.PyData.eqvAll (xs.map PySem.PyData.int) (ys.map PySem.PyData.int) = decide (xs = ys)
  | [], [] => by simp [PySem.PyData.eqvAll]
  | [], y :: ys => by simp [PySem.PyData.eqvAll]
  | x :: xs, [] => by simp [PySem.PyData.eqvAll]
  | x :: xs, y :: ys => by
    simp only [List.map_cons, PySem.PyData.eqvAll, PySem.PyData.eqv, eqvAll_ints xs ys]
    by_cases h : x = y
    · subst h; simp
    · simp [h]
theorem canLay_ints (xs : List Int) : PySem.PyData.canLayAll0 (xs.map PySem.PyData.int) = true := by
  induction xs with
  | nil => rfl
  | cons x xs ih => simp [PySem.PyData.canLayAll0, PySem.PyData.canLay0, ih]
theorem depth_ints (xs : List Int) : PySem.PyData.depthAll (xs.map PySem.PyData.int) ≤ 1 := by
  induction xs with
  | nil => simp [PySem.PyData.depthAll]
  | cons x xs ih => simp only [List.map_cons, PySem.PyData.depthAll, PySem.PyData.depth]; omega
theorem eqOk_tupI (xs : List Int) : eqOk (.tup (xs.map .int)) = true := by
  have := depth_ints xs
  simp only [eqOk, dat, dats_ints, PySem.SeqAt.shaped, PySem.PyData.canLay0, canLay_ints, PySem.PyData.depth, Bool.true_and]
  exact decide_eq_true (by omega)
theorem dNe_tupI (xs ys : List Int) : dNe (.tup (xs.map .int)) (.tup (ys.map .int)) = some (.new, .bl (!decide (xs = ys))) := by
  simp only [dNe, eqOk_tupI, dat, dats_ints, PySem.PyData.eqv, eqvAll_ints, Bool.and_self, if_true]
theorem compL_map {i : Nat} {el : P} {env : Env} (e : D → D) : ∀ (ds : List D), (∀ d ∈ ds, ∃ f, el (env.set i (.val false d)) = .ok f (e d) ∧ gfl f (e d) = true) → compL (.nm i) yesP el env ds = .ok true (ds.map e)
  | [], _ => rfl
  | d :: ds, h => by
    obtain ⟨f, h1, h2⟩ := h d List.mem_cons_self
    have ih := compL_map e ds fun d hd => h d (List.mem_cons_of_mem _ hd)
    simp only [compL, bindT, yesP, h1, h2, ih, List.map_cons, Bool.and_self]
theorem comp_map {i : Nat} {ι : I} {el : P} {env : Env} {f : Bool} {ds : List D} (e : D → D) (hi : ι env = .ok f ds) (hz : szOk ds.length = true) (h : ∀ d ∈ ds, ∃ f, el ((wipeE env [i]).set i (.val false d)) = .ok f (e d) ∧ gfl f (e d) = true) : comp [i] (.nm i) ι yesP el env = .ok true (.lst (ds.map e)) := by
  simp only [comp, hi, hz, if_true, compL_map e ds h]
end CB

namespace CB
def gI (o : List Int) (k : Nat) : Int := o.getD k 0
def inv (o : List Int) : Nat := ((List.range o.length).map fun j => ((o.take j).filter fun x => decide (gI o j < x)).length).sum
section
variable {n : Nat} {o : List Int}
end
def wI (w : List Nat) : List Int := w.map fun (k : Nat) => (k : Int)
def Word (n : Nat) (w : List Nat) : Prop := w.length ≤ 30 ∧ ∀ k ∈ w, k + 1 < n
def woF (o : List Int) (w : List Nat) : List Int := w.foldl (fun o k => swI o k (k + 1)) o
def wo (n : Nat) (w : List Nat) : List Int := woF (rgI n) w
theorem woF_ords {n : Nat} : ∀ (w : List Nat) (o : List Int), o ∈ ords n → (∀ k ∈ w, k + 1 < n) → woF o w ∈ ords n
  | [], o, ho, _ => ho
  | k :: w, o, ho, h => woF_ords w _ (sw_ok ho (by have := h k List.mem_cons_self; omega) (h k List.mem_cons_self)) fun j hj => h j (List.mem_cons_of_mem _ hj)
theorem wo_ords {n : Nat} {w : List Nat} (h : ∀ k ∈ w, k + 1 < n) : wo n w ∈ ords n := woF_ords w _ (rgI_ords n) h
def tp (a p : Nat) : Nat := if p = a then a + 1 else if p = a + 1 then a else p
end CB

namespace CB
open PySem
variable [CT]
structure Sh (k n : Nat) (d : D) : Prop where
  lay : (dat d).canLay0 = true
  sh : (dat d).showable = true
  dp : (dat d).depth ≤ k
  ln : (dat d).shown.length ≤ n
theorem Sh.mono {k k' n n' : Nat} {d : D} (h : Sh k n d) (a : k ≤ k') (b : n ≤ n') : Sh k' n' d := ⟨h.lay, h.sh, Nat.le_trans h.dp a, Nat.le_trans h.ln b⟩
theorem Sh.ok {k n : Nat} {d : D} (h : Sh k n d) (hk : k ≤ 60) (hn : n ≤ 1000000) : shOk d = true := by
  have h1 : eqOk d = true := by
    unfold eqOk SeqAt.shaped
    rw [h.lay, decide_eq_true (by have := h.dp; omega)]; rfl
  unfold shOk
  rw [h1, h.sh, decide_eq_true (by have := h.dp; omega), decide_eq_true (by rw [sizeLine_eq]; have := h.ln; omega)]; rfl
theorem Sh.int {i : Int} (h : i.natAbs < 10 ^ 300) : Sh 0 301 (.int i) := by
  refine ⟨by simp [dat, PyData.canLay0], ?_, by simp [dat, PyData.depth], ?_⟩
  · simp only [dat, PyData.showable]
    refine decide_eq_true ?_
    by_cases h0 : i.natAbs = 0
    · rw [h0, Nat.log2_zero]; decide
    · exact (Nat.log2_lt h0).2 (Nat.lt_of_lt_of_le h (by decide +kernel))
  · simp only [dat, PyData.shown]
    have := int_text_length_le10 (k := 300) (by decide) h
    show (Str.ofString (toString i)).length ≤ 301
    rw [ofString_length]; exact this
theorem Sh.non : Sh 0 301 .non := ⟨by simp [dat, PyData.canLay0], by simp [dat, PyData.showable], by simp [dat, PyData.depth], by simp only [dat, PyData.shown]; decide +kernel⟩
theorem Sh.bl (b : Bool) : Sh 0 301 (.bl b) := ⟨by simp [dat, PyData.canLay0], by simp [dat, PyData.showable], by simp [dat, PyData.depth], by simp only [dat, PyData.shown]; cases b <;> decide +kernel⟩
theorem shownAll_len {n : Nat} : ∀ {ds : List D}, (∀ d ∈ ds, (dat d).shown.length ≤ n) → piled (PyData.shownAll (dats ds)) ≤ ds.length * (n + 2)
  | [], _ => by simp [dats, PyData.shownAll, piled]
  | d :: ds, h => by
    have h1 := h d List.mem_cons_self
    have h2 := shownAll_len (ds := ds) fun x hx => h x (List.mem_cons_of_mem _ hx)
    simp only [dats, PyData.shownAll, piled_cons, List.length_cons, Nat.add_mul]
    omega
theorem canLays_of : ∀ {ds : List D}, (∀ d ∈ ds, (dat d).canLay0 = true) → PyData.canLayAll0 (dats ds) = true
  | [], _ => rfl
  | d :: ds, h => by simp only [dats, PyData.canLayAll0, h d List.mem_cons_self, canLays_of (ds := ds) fun x hx => h x (List.mem_cons_of_mem _ hx), Bool.and_self]
theorem showables_of : ∀ {ds : List D}, (∀ d ∈ ds, (dat d).showable = true) → PyData.showableAll (dats ds) = true
  | [], _ => rfl
  | d :: ds, h => by simp only [dats, PyData.showableAll, h d List.mem_cons_self, showables_of (ds := ds) fun x hx => h x (List.mem_cons_of_mem _ hx), Bool.and_self]
theorem depths_of {k : Nat} : ∀ {ds : List D}, (∀ d ∈ ds, (dat d).depth ≤ k) → PyData.depthAll (dats ds) ≤ k
  | [], _ => Nat.zero_le _
  | d :: ds, h => by
    have h1 := h d List.mem_cons_self
    have h2 := depths_of (ds := ds) fun x hx => h x (List.mem_cons_of_mem _ hx)
    simp only [dats, PyData.depthAll]; omega
theorem listText_le (ts : List Str) : (listText ts).length ≤ piled ts + 2 := by
  cases ts with
  | nil => decide +kernel
  | cons t r =>
    have h := textFrom_length_pos r 1 (("[" : Str) ++ (if (0 : Nat) > 0 then ", " else "" : String) ++ t) (Nat.succ_pos 0)
    have q : ((("[" : Str) ++ (if (0 : Nat) > 0 then ", " else "" : String) ++ t)).length = 1 + t.length := by
      rw [strLen_append, strLen_append]; rfl
    have y : (listText (t :: r)).length = (textFrom 1 (("[" : Str) ++ (if (0 : Nat) > 0 then ", " else "" : String) ++ t) r).length + 1 := by
      show (textFrom 0 "[" (t :: r) ++ "]").length = _
      rw [strLen_append]; rfl
    rw [y, h, q, piled_cons]; omega
theorem tupleText_le (ts : List Str) : (tupleText ts).length ≤ piled ts + 3 := by
  unfold tupleText
  rw [strLen_append, strLen_append]
  have q1 : ((("(" : String) : Str)).length = 1 := rfl
  have q3 : (((if ts.length == 1 then ",)" else ")" : String) : Str)).length ≤ 2 := by split <;> decide
  have q2 : (Str.join ", " ts).length ≤ piled ts := by
    cases ts with
    | nil => decide +kernel
    | cons t r => have := join_length_add (t :: r) (by simp); omega
  rw [q1]; omega
theorem Sh.tup {k n : Nat} {ds : List D} (h : ∀ d ∈ ds, Sh k n d) : Sh (k + 1) (ds.length * (n + 2) + 3) (.tup ds) := by
  have h1 := depths_of fun d hd => (h d hd).dp
  have h2 := shownAll_len fun d hd => (h d hd).ln
  refine ⟨?_, ?_, ?_, ?_⟩
  · simp only [dat, PyData.canLay0]; exact canLays_of fun d hd => (h d hd).lay
  · simp only [dat, PyData.showable]; exact showables_of fun d hd => (h d hd).sh
  · simp only [dat, PyData.depth]; omega
  · simp only [dat, PyData.shown]; have := tupleText_le (PyData.shownAll (dats ds)); omega
theorem Sh.lst {k n : Nat} {ds : List D} (h : ∀ d ∈ ds, Sh k n d) : Sh (k + 1) (ds.length * (n + 2) + 2) (.lst ds) := by
  have h1 := depths_of fun d hd => (h d hd).dp
  have h2 := shownAll_len fun d hd => (h d hd).ln
  refine ⟨?_, ?_, ?_, ?_⟩
  · simp only [dat, PyData.canLay0]; exact canLays_of fun d hd => (h d hd).lay
  · simp only [dat, PyData.showable]; exact showables_of fun d hd => (h d hd).sh
  · simp only [dat, PyData.depth]; omega
  · simp only [dat, PyData.shown]; have := listText_le (PyData.shownAll (dats ds)); omega
theorem Sh.ints {xs : List Int} (h : ∀ x ∈ xs, x.natAbs < 10 ^ 300) : ∀ d ∈ xs.map D.int, Sh 0 301 d := fun d hd => by
  obtain ⟨x, hx, rfl⟩ := List.mem_map.mp hd
  exact .int (h x hx)
end CB

namespace CB
open PySem PySem.W
variable [CT]

abbrev Tm := List Int × Int
def kD (k : List Int) : D := .tup (k.map .int)
theorem isort_map {α β : Type} (le : β → β → Bool) (f : α → β) : ∀ l : List α, isort le (l.map f) = (isort (fun a b => le (f a) (f b)) l).map f
  | [] => rfl
  | a :: l => by
    simp only [List.map_cons, isort, isort_map le f l]
    generalize isort (fun a b => le (f a) (f b)) l = m
    induction m with
    | nil => rfl
    | cons b m ih =>
      simp only [List.map_cons, isIns]
      split
      · rfl
      · rw [List.map_cons, ih]
def ltT (a b : Tm) : Bool := if a.1 = b.1 then decide (a.2 < b.2) else decide (a.1 < b.1)
def geT (a b : Tm) : Bool := !ltT a b
theorem dat_kD (k : List Int) : dat (kD k) = .tuple (k.map .int) := by simp [kD, dat, dats_ints]
theorem alike_tup (a b : List Int) : alike (.tuple (a.map .int)) (.tuple (b.map .int)) = true := by
  simp only [alike]; exact alike_ints a b
theorem lt_tup (a b : List Int) : dataLt (.tuple (a.map .int)) (.tuple (b.map .int)) = decide (a < b) := by
  rw [dataLt_tuple]; exact dataLt_ints a b
def srt (l : List Tm) : List Tm := isort geT l
def dd (kv : List Tm) : D := .dic (kv.map (·.1)) (kv.map fun t => .int t.2)
def getT : List Tm → List Int → Int
  | [], _ => 0
  | t :: kv, k => if t.1 = k then t.2 else getT kv k
structure Norm (p : List Tm) : Prop where
  nd : (p.map (·.1)).Nodup
  ne : ∀ t ∈ p, t.2 ≠ 0
  st : srt p = p
end CB

namespace CB
open PySem L2 PySem.Spec PyProof.Rows
def m_is_whole : SM :=
  (retS (lift [0] (andP (op1 (isT "int") (var 0)) (notP (op1 (isT "bool") (var 0))))))

def b_look_at_count (F_is_whole : List D → PR) : SM :=
  (ifS (orP (notP (callP F_is_whole [(var 0)])) (orP (op2 dLt (var 0) (cst (.int 1))) (op2 dGt (var 0) (cst (.int 5))))) (raiseS "BadCount") passS)
def m_look_at_count : SM := b_look_at_count (fnP 1 m_is_whole)

def b_is_order (F_is_whole : List D → PR) : SM :=
  (seqS (ifS (orP (notP (op1 (isT "tuple") (var 0))) (orP (op2 dLt (opN dLen [(var 0)]) (cst (.int 1))) (op2 dGt (opN dLen [(var 0)]) (cst (.int 5))))) (retS (lift [] (cst (.bl false)))) passS)
  (retS (lift [0] (andP (opN dAll [(comp [1] (.nm 1) (iseq (var 0)) yesP (callP F_is_whole [(var 1)]))]) (op2 dEq (opN (dSortR false) [(var 0)]) (lstRg (rg1 (opN dLen [(var 0)]))))))))
def m_is_order : SM := b_is_order (fnP 1 m_is_whole)

def b_look_at_order (F_is_order : List D → PR) : SM :=
  (ifS (notP (callP F_is_order [(var 0)])) (raiseS "BadOrder") passS)
def m_look_at_order : SM := b_look_at_order (fnP 2 m_is_order)

def m_plain : SM :=
  (retS (lift [0] (tupRg (rg1 (var 0)))))

def m_pairs_of : SM :=
  (seqS (asgS 1 (lift [] (opN dLst [])))
  (seqS (forS [0] (.nm 2) (irange1 (opN dLen [(var 0)])) (dropS (extendG 1 (lift [0, 2] (comp [3] (.nm 3) (irange2 (op2 dAdd (var 2) (cst (.int 1))) (opN dLen [(var 0)])) (op2 dGt (op2 dIx (var 0) (var 2)) (op2 dIx (var 0) (var 3))) (opN dTup [(var 2), (var 3)]))))))
  (retS (mvG 1))))

def m_code_of : SM :=
  (retS (lift [0] (opN dTupOf [(comp [1] (.nm 1) (irange1 (opN dLen [(var 0)])) yesP (opN dLen [(comp [2] (.nm 2) (iseq (sliceP (var 0) (some (op2 dAdd (var 1) (cst (.int 1)))) none)) (op2 dLt (var 2) (op2 dIx (var 0) (var 1))) (var 2))]))])))

def m_swapped : SM :=
  (seqS (asgS 3 (lift [0] (opN dListOf [(var 0)])))
  (seqS (setiS 3 (var 1) (lift [0, 2] (op2 dIx (var 0) (var 2))))
  (seqS (setiS 3 (var 2) (lift [0, 1] (op2 dIx (var 0) (var 1))))
  (retS (lift [3] (opN dTupOf [(var 3)]))))))

def b_order_by (F_plain : List D → PR) (F_swapped : List D → PR) : SM :=
  (seqS (asgS 2 (lift [0] (callP F_plain [(var 0)])))
  (seqS (forS [1] (.nm 3) (iseq (var 1)) (asgS 2 (lift [2, 3] (callP F_swapped [(var 2), (var 3), (op2 dAdd (var 3) (cst (.int 1)))]))))
  (retS (mvG 2))))
def m_order_by : SM := b_order_by (fnP 1 m_plain) (fnP 4 m_swapped)

def b_is_short (F_pairs_of : List D → PR) (F_order_by : List D → PR) : SM :=
  (retS (lift [0, 1] (op2 dEq (opN dLen [(callP F_pairs_of [(callP F_order_by [(var 0), (var 1)])])]) (opN dLen [(var 1)]))))
def m_is_short : SM := b_is_short (fnP 4 m_pairs_of) (fnP 4 m_order_by)

def b_is_cross (F_is_whole : List D → PR) : SM :=
  (seqS (ifS (orP (notP (op1 (isT "tuple") (var 1))) (orP (op2 dNe (opN dLen [(var 1)]) (cst (.int 2))) (notP (opN dAll [(comp [2] (.nm 2) (iseq (var 1)) yesP (andP (callP F_is_whole [(var 2)]) (op2 dGe (var 2) (cst (.int 0)))))])))) (retS (lift [] (cst (.bl false)))) passS)
  (retS (lift [0, 1] (op2 dLe (opN dSumA [(var 1)]) (op2 dSub (var 0) (cst (.int 2)))))))
def m_is_cross : SM := b_is_cross (fnP 1 m_is_whole)

def b_look_at_drawing (F_look_at_count : List D → PR) (F_is_cross : List D → PR) : SM :=
  (seqS (dropS (lift [0] (callP F_look_at_count [(var 0)])))
  (seqS (ifS (orP (notP (op1 (isT "list") (var 1))) (notP (opN dAll [(comp [2] (.nm 2) (iseq (var 1)) yesP (callP F_is_cross [(var 0), (var 2)]))]))) (raiseS "BadDrawing") passS)
  (ifS (notP (opN dAll [(comp [3] (.nm 3) (irange1 (op2 dSub (opN dLen [(var 1)]) (cst (.int 1)))) yesP (op2 dLtX (op2 dIx (var 1) (var 3)) (op2 dIx (var 1) (op2 dAdd (var 3) (cst (.int 1))))))])) (raiseS "BadDrawing") passS)))
def m_look_at_drawing : SM := b_look_at_drawing (fnP 1 m_look_at_count) (fnP 3 m_is_cross)

def m_line_of : SM :=
  (seqS (asgS 2 (lift [] (opN dLst [])))
  (seqS (parS 3 4 [(.vr 1), (.ex (lift [] (cst (.int 0))))])
  (seqS (asgS 5 (lift [] (cst (.bl false))))
  (seqS (whileS 1000 (liftT (op2 dGe (var 3) (cst (.int 0)))) (seqS (ifS (op2 dIn (opN dTup [(var 3), (var 4)]) (var 0)) (dropS (appendG 2 (lift [3, 4] (opN dTup [(var 3), (var 4)])))) (asgS 5 (lift [5] (notP (var 5)))))
  (ifS (var 5) (asgS 3 (lift [3] (op2 dSub (var 3) (cst (.int 1))))) (asgS 4 (lift [4] (op2 dAdd (var 4) (cst (.int 1))))))))
  (retS (pairO [(.ex (mvG 2)), (.ex (mvG 4))]))))))

def b_ends (F_look_at_drawing : List D → PR) (F_line_of : List D → PR) : SM :=
  (seqS (dropS (lift [0, 1] (callP F_look_at_drawing [(var 0), (var 1)])))
  (retS (lift [0, 1] (opN dTupOf [(comp [2] (.nm 2) (irange1 (var 0)) yesP (op2 dIx (callP F_line_of [(var 1), (var 2)]) (cst (.int 1))))]))))
def m_ends : SM := b_ends (fnP 4 m_look_at_drawing) (fnP 6 m_line_of)

def m_word_of : SM :=
  (seqS (asgS 1 (lift [] (opN dLst [])))
  (seqS (forS [0] (.tp [2, 3]) (iseq (opN dSortC [(var 0)])) (dropS (appendG 1 (lift [2, 3] (op2 dAdd (var 2) (var 3))))))
  (retS (mvG 1))))

def b_lowest_by (F_code_of : List D → PR) : SM :=
  (seqS (asgS 1 (lift [] (opN dLst [])))
  (seqS (forS [0] (.tp [2, 3]) (ienumA (callP F_code_of [(var 0)])) (asgS 1 (lift [1, 2, 3] (op2 dAdd (var 1) (comp [4] (.nm 4) (irange1 (var 3)) yesP (opN dTup [(var 2), (var 4)]))))))
  (retS (mvG 1))))
def m_lowest_by : SM := b_lowest_by (fnP 3 m_code_of)

def m_ladder_goal : SM :=
  (seqS (unpA [2, 3] (lift [1] (var 1)))
  (seqS (ifS (op2 dIn (opN dTup [(var 2), (op2 dAdd (var 3) (cst (.int 1)))]) (var 0)) (retS (lift [] (cst .non))) passS)
  (seqS (forS [2] (.nm 4) (irevR (rg1 (var 2))) (seqS (asgS 5 (lift [0, 3, 4] (op2 dIn (opN dTup [(var 4), (var 3)]) (var 0))))
  (seqS (asgS 6 (lift [0, 3, 4] (op2 dIn (opN dTup [(var 4), (op2 dAdd (var 3) (cst (.int 1)))]) (var 0))))
  (seqS (ifS (andP (notP (var 5)) (notP (var 6))) (retS (lift [3, 4] (opN dTup [(var 4), (op2 dAdd (var 3) (cst (.int 1)))]))) passS)
  (ifS (orP (notP (var 5)) (notP (var 6))) (retS (lift [] (cst .non))) passS)))))
  (retS (lift [] (cst .non))))))

def b_ladders_of (F_ladder_goal : List D → PR) : SM :=
  (seqS (asgS 1 (lift [] (opN dLst [])))
  (seqS (forS [0] (.nm 2) (iseq (var 0)) (seqS (asgS 3 (lift [0, 2] (callP F_ladder_goal [(var 0), (var 2)])))
  (ifS (op2 dIsNot (var 3) (cst .non)) (dropS (appendG 1 (lift [0, 2, 3] (opN (dSortR false) [(op2 dAdd (comp [4] (.nm 4) (iseq (var 0)) (op2 dNe (var 4) (var 2)) (var 4)) (opN dLst [(var 3)]))])))) passS)))
  (retS (linG (dSortR false) [(.ex (mvG 1))]))))
def m_ladders_of : SM := b_ladders_of (fnP 7 m_ladder_goal)

def b_ladders (F_look_at_drawing : List D → PR) (F_ladders_of : List D → PR) : SM :=
  (seqS (dropS (lift [0, 1] (callP F_look_at_drawing [(var 0), (var 1)])))
  (retS (lift [1] (callP F_ladders_of [(var 1)]))))
def m_ladders : SM := b_ladders (fnP 4 m_look_at_drawing) (fnP 5 m_ladders_of)

def b_climbs (F_lowest_by : List D → PR) (F_ladders_of : List D → PR) : SM :=
  (seqS (asgS 1 (lift [0] (callP F_lowest_by [(var 0)])))
  (seqS (asgS 2 (lift [1] (ddispP2 [(opN dTupOf [(var 1)]), (cst .non)])))
  (seqS (asgTop 3 [(.ex (mvG 1))])
  (seqS (asgS 4 (lift [] (cst (.int 0))))
  (seqS (whileS 1000 (liftT (op2 dLt (var 4) (opN dLen [(var 3)]))) (seqS (forOwn 5 (lift [3, 4] (callP F_ladders_of [(op2 dIx (var 3) (var 4))])) (ifS (op2 dNotInD2 (opN dTupOf [(var 5)]) (var 2)) (seqS (setdS2 2 (opN dTupOf [(var 5)]) (lift [3, 4] (opN dTupOf [(op2 dIx (var 3) (var 4))])))
  (dropS (appTop 3 (mvG 5)))) passS))
  (asgS 4 (lift [4] (op2 dAdd (var 4) (cst (.int 1)))))))
  (retS (mvG 2)))))))
def m_climbs : SM := b_climbs (fnP 5 m_lowest_by) (fnP 5 m_ladders_of)

def b_drawings (F_look_at_order : List D → PR) (F_climbs : List D → PR) : SM :=
  (seqS (dropS (lift [0] (callP F_look_at_order [(var 0)])))
  (retS (lift [0] (opN (dSortR false) [(comp [1] (.nm 1) (ikeys2 (callP F_climbs [(var 0)])) yesP (opN dListOf [(var 1)]))]))))
def m_drawings : SM := b_drawings (fnP 1 m_look_at_order) (fnP 6 m_climbs)

def b_climbed (F_order_by : List D → PR) (F_is_short : List D → PR) (F_look_at_drawing : List D → PR) (F_word_of : List D → PR) (F_climbs : List D → PR) : SM :=
  (seqS (dropS (lift [0, 1] (callP F_look_at_drawing [(var 0), (var 1)])))
  (seqS (asgS 2 (lift [1] (callP F_word_of [(var 1)])))
  (seqS (ifS (notP (callP F_is_short [(var 0), (var 2)])) (raiseF "Spare" "place" (cst (.int 0))) passS)
  (seqS (asgS 3 (lift [0, 2] (callP F_climbs [(callP F_order_by [(var 0), (var 2)])])))
  (seqS (asgS 4 (lift [] (opN dLst [])))
  (seqS (asgS 5 (lift [1] (opN dTupOf [(var 1)])))
  (seqS (whileS 1000 (liftT (op2 dIsNot (var 5) (cst .non))) (seqS (dropS (appendG 4 (lift [5] (opN dListOf [(var 5)]))))
  (asgS 5 (lift [3, 5] (op2 dIxD2 (var 3) (var 5))))))
  (retS (linG dRevM [(.ex (mvG 4))])))))))))
def m_climbed : SM := b_climbed (fnP 4 m_order_by) (fnP 2 m_is_short) (fnP 4 m_look_at_drawing) (fnP 4 m_word_of) (fnP 6 m_climbs)

def m__law_mixed : SM :=
  (seqS (asgS 2 (lift [0, 1] (op2 dMod (op2 dAdd (op2 dAdd (op2 dMul (op2 dMod (var 0) (cst (.int 2147483647))) (cst (.int 48271))) (op2 dMul (var 1) (cst (.int 69621)))) (cst (.int 1048583))) (cst (.int 2147483629)))))
  (seqS (asgS 2 (lift [2] (op2 dMod (op2 dMul (var 2) (var 2)) (cst (.int 2147483587)))))
  (retS (lift [2] (op2 dMod (op2 dMul (var 2) (op2 dAdd (var 2) (cst (.int 2)))) (cst (.int 2147483579)))))))

def b__law_cell (F__law_mixed : List D → PR) : SM :=
  (seqS (asgS 2 (lift [] (cst (.int 0))))
  (seqS (ifS (op2 dLt (var 1) (opN dLen [(var 0)])) (asgS 2 (lift [0, 1] (op2 dIx (var 0) (var 1)))) passS)
  (seqS (ifS (op2 dGe (var 2) (op2 dPow (cst (.int 10)) (cst (.int 18)))) (retS (lift [2] (op2 dMod (op2 dSub (var 2) (op2 dPow (cst (.int 10)) (cst (.int 18)))) (op2 dMul (op2 dMul (op2 dMul (op2 dPow (cst (.int 10)) (cst (.int 60))) (op2 dPow (cst (.int 10)) (cst (.int 60)))) (op2 dPow (cst (.int 10)) (cst (.int 60)))) (op2 dPow (cst (.int 10)) (cst (.int 60))))))) passS)
  (seqS (asgS 3 (lift [] (cst (.int 0))))
  (seqS (forS [] (.nm 4) (irange1 (cst (.int 24))) (asgS 3 (lift [1, 2, 3, 4] (op2 dAdd (op2 dMul (var 3) (cst (.int 2147483579))) (callP F__law_mixed [(var 2), (op2 dAdd (op2 dAdd (op2 dMul (cst (.int 7)) (var 1)) (op2 dMul (cst (.int 100)) (var 4))) (op2 dMul (var 4) (var 4)))])))))
  (retS (mvG 3)))))))
def m__law_cell : SM := b__law_cell (fnP 3 m__law_mixed)

def m__law_take : SM :=
  (seqS (asgS 2 (lift [0, 1] (op2 dMod (op2 dIx (var 0) (cst (.int 0))) (var 1))))
  (seqS (setiS 0 (cst (.int 0)) (lift [0, 1] (op2 dDiv (op2 dIx (var 0) (cst (.int 0))) (var 1))))
  (retS (mvG 2))))

def b__law_order (F__law_take : List D → RR) : SM :=
  (seqS (asgS 2 (lift [1] (lstRg (rg1 (var 1)))))
  (seqS (asgS 3 (lift [] (opN dLst [])))
  (seqS (forS [1] (.nm 4) (irange1 (var 1)) (dropS (appendG 3 (popG 2 (callR 0 0 2 F__law_take [(.vr 0), (.ex (lift [1, 4] (op2 dSub (var 1) (var 4))))])))))
  (retS (lift [3] (opN dTupOf [(var 3)]))))))
def m__law_order : SM := b__law_order (fnR 3 0 m__law_take)

def m__law_goal : SM :=
  (seqS (unpA [2, 3] (lift [1] (var 1)))
  (seqS (asgS 4 (lift [0, 2, 3] (comp [5] (.nm 5) (irevR (rg1 (var 2))) yesP (opN dTup [(op2 dIn (opN dTup [(var 5), (var 3)]) (var 0)), (op2 dIn (opN dTup [(var 5), (op2 dAdd (var 3) (cst (.int 1)))]) (var 0))]))))
  (seqS (ifS (orP (op2 dIn (opN dTup [(var 2), (op2 dAdd (var 3) (cst (.int 1)))]) (var 0)) (op2 dNotIn (opN dTup [(cst (.bl false)), (cst (.bl false))]) (var 4))) (retS (lift [] (cst .non))) passS)
  (seqS (asgS 6 (lift [4] (lindexP (var 4) (opN dTup [(cst (.bl false)), (cst (.bl false))]))))
  (seqS (ifS (op2 dNe (sliceP (var 4) none (some (var 6))) (op2 dMulS (opN dLst [(opN dTup [(cst (.bl true)), (cst (.bl true))])]) (var 6))) (retS (lift [] (cst .non))) passS)
  (retS (lift [2, 3, 6] (opN dTup [(op2 dSub (op2 dSub (var 2) (var 6)) (cst (.int 1))), (op2 dAdd (var 3) (cst (.int 1)))]))))))))

def b__law_ladders (F__law_goal : List D → PR) : SM :=
  (seqS (asgS 1 (lift [] (opN dLst [])))
  (seqS (forS [0] (.nm 2) (iseq (var 0)) (seqS (asgS 3 (lift [0, 2] (callP F__law_goal [(var 0), (var 2)])))
  (ifS (op2 dIsNot (var 3) (cst .non)) (dropS (appendG 1 (lift [0, 2, 3] (opN (dSortR false) [(op2 dAdd (comp [4] (.nm 4) (iseq (var 0)) (op2 dNe (var 4) (var 2)) (var 4)) (opN dLst [(var 3)]))])))) passS)))
  (retS (linG (dSortR false) [(.ex (mvG 1))]))))
def m__law_ladders : SM := b__law_ladders (fnP 7 m__law_goal)

def m__law_lowest : SM :=
  (seqS (asgS 1 (lift [] (opN dLst [])))
  (seqS (forS [0] (.nm 2) (irange1 (opN dLen [(var 0)])) (asgS 1 (lift [0, 1, 2] (op2 dAdd (var 1) (comp [3] (.nm 3) (irange1 (opN dLen [(comp [4] (.nm 4) (iseq (sliceP (var 0) (some (op2 dAdd (var 2) (cst (.int 1)))) none)) (op2 dLt (var 4) (op2 dIx (var 0) (var 2))) (var 4))])) yesP (opN dTup [(var 2), (var 3)]))))))
  (retS (mvG 1))))

def m__law_whole : SM :=
  (retS (lift [0] (andP (op1 (isT "int") (var 0)) (notP (op1 (isT "bool") (var 0))))))

def b__law_are_cells (F__law_whole : List D → PR) : SM :=
  (seqS (ifS (notP (op1 (isT "list") (var 0))) (retS (lift [] (cst (.bl false)))) passS)
  (seqS (forS [0] (.nm 1) (iseq (var 0)) (ifS (orP (notP (op1 (isT "tuple") (var 1))) (notP (opN dAll [(comp [2] (.nm 2) (iseq (var 1)) yesP (callP F__law_whole [(var 2)]))]))) (retS (lift [] (cst (.bl false)))) passS))
  (retS (lift [] (cst (.bl true))))))
def m__law_are_cells : SM := b__law_are_cells (fnP 1 m__law_whole)

def b__law_is_climb (F_ends : List D → PR) (F__law_ladders : List D → PR) (F__law_lowest : List D → PR) (F__law_are_cells : List D → PR) : SM :=
  (seqS (ifS (orP (notP (op1 (isT "list") (var 2))) (orP (op2 dEq (var 2) (opN dLst [])) (notP (opN dAll [(comp [3] (.nm 3) (iseq (var 2)) yesP (callP F__law_are_cells [(var 3)]))])))) (retS (lift [] (cst (.bl false)))) passS)
  (seqS (ifS (orP (op2 dNe (op2 dIx (var 2) (cst (.int 0))) (callP F__law_lowest [(var 0)])) (op2 dNe (op2 dIx (var 2) (op1 dNeg (cst (.int 1)))) (var 1))) (retS (lift [] (cst (.bl false)))) passS)
  (seqS (forS [2] (.nm 4) (irange2 (cst (.int 1)) (opN dLen [(var 2)])) (ifS (orP (op2 dNotIn (op2 dIx (var 2) (var 4)) (callP F__law_ladders [(op2 dIx (var 2) (op2 dSub (var 4) (cst (.int 1))))])) (op2 dIn (op2 dIx (var 2) (var 4)) (sliceP (var 2) none (some (var 4))))) (retS (lift [] (cst (.bl false)))) passS))
  (retS (lift [0, 2] (opN dAll [(comp [3] (.nm 3) (iseq (var 2)) yesP (op2 dEq (callP F_ends [(opN dLen [(var 0)]), (var 3)]) (var 0)))]))))))
def m__law_is_climb : SM := b__law_is_climb (fnP 3 m_ends) (fnP 5 m__law_ladders) (fnP 5 m__law_lowest) (fnP 3 m__law_are_cells)

def b__law_good (F_climbed : List D → PR) (F__law_is_climb : List D → PR) : SM :=
  (seqS (asgS 2 (lift [1] (opN dListOf [(var 1)])))
  (seqS (forS [] (.nm 3) (irange1 (cst (.int 2))) (seqS (asgS 4 (lift [0, 1] (callP F_climbed [(opN dLen [(var 0)]), (var 1)])))
  (seqS (ifS (orP (notP (callP F__law_is_climb [(var 0), (var 1), (var 4)])) (op2 dNe (var 1) (var 2))) (retS (lift [] (cst (.bl false)))) passS)
  (seqS (forApp 4 5 (opN dTup [(cst (.int 0)), (cst (.int 0))]))
  (dropS (clearG 4))))))
  (retS (lift [] (cst (.bl true))))))
def m__law_good : SM := b__law_good (fnP 6 m_climbed) (fnP 5 m__law_is_climb)

def b_law (F_ladders : List D → PR) (F_drawings : List D → PR) (F__law_cell : List D → PR) (F__law_take : List D → RR) (F__law_order : List D → RR) (F__law_lowest : List D → PR) (F__law_good : List D → PR) : SM :=
  (seqS (forS [0] (.nm 1) (irange1 (opN dMax2 [(opN dMin2 [(opN dLen [(var 0)]), (cst (.int 3))]), (cst (.int 1))])) (seqS (asgS 2 (lift [0, 1] (opN dLst [(callP F__law_cell [(var 0), (var 1)])])))
  (seqS (asgS 3 (opNG (opf dAdd) [(.ex (lift [] (cst (.int 1)))), (.ex (callR 0 2 2 F__law_take [(.vr 2), (.ex (lift [] (cst (.int 5))))]))]))
  (seqS (asgS 4 (callR 0 2 2 F__law_order [(.vr 2), (.vr 3)]))
  (seqS (asgS 5 (lift [4] (callP F_drawings [(var 4)])))
  (seqS (asgS 6 (linG (opf dAdd) [(.ex (compKS [7] (.nm 7) (iterS [] (irange1 (cst (.int 6)))) yesG (linG (opf dIx) [(.ex (lift [5] (var 5))), (.ex (callR 0 2 2 F__law_take [(.vr 2), (.ex (lift [5] (opN dLen [(var 5)])))]))]))), (.ex (lift [4, 5] (opN dLst [(op2 dIx (var 5) (op1 dNeg (cst (.int 1)))), (callP F__law_lowest [(var 4)])])))]))
  (scopeS [3, 4, 5, 6, 8] [] (seqS (ifS (notP (opN dAll [(comp [8] (.nm 8) (iseq (var 6)) yesP (callP F__law_good [(var 4), (var 8)]))])) (retS (lift [] (cst (.bl false)))) passS)
  (forS [5] (.nm 8) (iseq (var 5)) (ifS (notP (opN dAll [(comp [9] (.nm 9) (iseq (callP F_ladders [(var 3), (var 8)])) yesP (op2 dIn (var 9) (var 5)))])) (retS (lift [] (cst (.bl false)))) passS))))))))))
  (retS (lift [] (cst (.bl true)))))
def m_law : SM := b_law (fnP 2 m_ladders) (fnP 2 m_drawings) (fnP 5 m__law_cell) (fnR 3 0 m__law_take) (fnR 5 0 m__law_order) (fnP 5 m__law_lowest) (fnP 6 m__law_good)

end CB

namespace CB
open PySem L2 PySem.Spec PyProof.Rows
end CB

namespace CB
variable [CT]
def cellsM (n : Nat) : List Nat := (List.range (n - 1)).flatMap fun i => (List.range (n - 1 - i)).map fun j => 5 * i + j
def pw {α : Type} : List α → List (List α)
  | [] => [[]]
  | x :: xs => pw xs ++ (pw xs).map (x :: ·)
def inM (dr : List Nat) (i j : Nat) : Bool := Nat.blt j 5 && dr.contains (5 * i + j)
def lineM (dr : List Nat) : Nat → Nat → Nat → Bool → List Nat → Option (List Nat × Nat)
  | 0, _, _, _, _ => none
  | f + 1, i, j, up, acc =>
    if inM dr i j then
      if up then (match i with | 0 => some (acc ++ [5 * i + j], j) | i' + 1 => lineM dr f i' j up (acc ++ [5 * i + j])) else lineM dr f i (j + 1) up (acc ++ [5 * i + j])
    else
      if up then lineM dr f i (j + 1) false acc else (match i with | 0 => some (acc, j) | i' + 1 => lineM dr f i' j true acc)
def lnM (dr : List Nat) (row : Nat) : List Nat × Nat := (lineM dr 60 row 0 false []).getD ([], 0)
def srtM (l : List Nat) : List Nat := isort (fun a b => Nat.ble a b) l
def leNb (a b : Nat) : Bool := Nat.blt (a / 5) (b / 5) || (Nat.beq (a / 5) (b / 5) && Nat.ble (b % 5) (a % 5))
def wordS (dr : List Nat) : List Nat := (isort leNb dr).map fun c => c / 5 + c % 5
def endsM (n : Nat) (dr : List Nat) : List Int := (List.range n).map fun r => ((lnM dr r).2 : Int)
theorem op2_new {f : D → D → Option (Kd × D)} {a b : P} {env : Env} {fa fb : Bool} {x y d : D} (h1 : a env = .ok fa x) (h2 : b env = .ok fb y) (h : f x y = some (.new, d)) : op2 f a b env = .ok true d := by
  simp only [op2, h1, h2, PR.bind, h, Kd.fl]
theorem opN1_new {f : List D → Option (Kd × D)} {a : P} {env : Env} {fa : Bool} {x d : D} (h1 : a env = .ok fa x) (h : f [x] = some (.new, d)) : opN f [a] env = .ok true d := by
  simp only [opN, args, h1, AR.bind, h, Kd.fl]
theorem opN2_new {f : List D → Option (Kd × D)} {a b : P} {env : Env} {fa fb : Bool} {x y d : D} (h1 : a env = .ok fa x) (h2 : b env = .ok fb y) (h : f [x, y] = some (.new, d)) : opN f [a, b] env = .ok true d := by
  simp only [opN, args, h1, h2, AR.bind, h, Kd.fl]
theorem tup2_new {a b : P} {env : Env} {fa fb : Bool} {x y : D} (h1 : a env = .ok fa x) (h2 : b env = .ok fb y) (g1 : noL x = true) (g2 : noL y = true) : opN dTup [a, b] env = .ok true (.tup [x, y]) := by
  have e : dTup [x, y] = some (.lin, .tup [x, y]) := rfl
  simp only [opN, args, h1, h2, AR.bind, e, Kd.fl, gfl, g1, g2, Bool.or_true, Bool.and_self]
theorem call1 {F : List D → PR} {a : P} {env : Env} {fa : Bool} {x : D} {r : PR} (h1 : a env = .ok fa x) (h : F [x] = r) : callP F [a] env = r := by
  simp only [callP, args, h1, AR.bind, h]
theorem call2 {F : List D → PR} {a b : P} {env : Env} {fa fb : Bool} {x y : D} {r : PR} (h1 : a env = .ok fa x) (h2 : b env = .ok fb y) (h : F [x, y] = r) : callP F [a, b] env = r := by
  simp only [callP, args, h1, h2, AR.bind, h]
theorem call3 {F : List D → PR} {a b c : P} {env : Env} {fa fb fc : Bool} {x y z : D} {r : PR} (h1 : a env = .ok fa x) (h2 : b env = .ok fb y) (h3 : c env = .ok fc z) (h : F [x, y, z] = r) : callP F [a, b, c] env = r := by
  simp only [callP, args, h1, h2, h3, AR.bind, h]
theorem not_ok {a : P} {env : Env} {f b : Bool} (h : a env = .ok f (.bl b)) : notP a env = .ok true (.bl (!b)) := by
  cases b <;> simp [notP, h, PR.bind]
theorem or_ff {a b : P} {env : Env} {f : Bool} (h : a env = .ok f (.bl false)) : orP a b env = b env := by
  simp [orP, h, PR.bind]
theorem if_ff {p : P} {m n : SM} {env : Env} {f : Bool} (h : p env = .ok f (.bl false)) : ifS p m n env = n env := by simp only [ifS, h]
theorem if_tt {p : P} {m n : SM} {env : Env} {f : Bool} (h : p env = .ok f (.bl true)) : ifS p m n env = m env := by simp only [ifS, h]
theorem ret_new {ks : List Nat} {p : P} {env : Env} {d : D} (h : p env = .ok true d) : retS (lift ks p) env = .rt true d env := by
  simp only [retS, lift, h, gfl, Bool.true_or, if_true]
theorem asg_new {ks : List Nat} {i : Nat} {p : P} {env : Env} {d : D} (h : p env = .ok true d) : asgS i (lift ks p) env = .nx (env.set i (.val true d)) := asg_ok (lift_new h rfl)
theorem if_no {p : P} {m : SM} {env : Env} {f : Bool} (h : p env = .ok f (.bl false)) : ifS p m passS env = .nx env := by simp only [ifS, h, passS]
theorem mixed_ok (a b : Int) : ∃ r, fnP 3 m__law_mixed [.int a, .int b] = .ok true (.int r) := by
  have h1 : ((a % 2147483647 * 48271 + b * 69621 + 1048583) % 2147483629).natAbs < 18446744073709551616 := by omega
  have h2 : ((a % 2147483647 * 48271 + b * 69621 + 1048583) % 2147483629 * ((a % 2147483647 * 48271 + b * 69621 + 1048583) % 2147483629) % 2147483587).natAbs < 18446744073709551616 := by omega
  simp [mulOk_l, mulOk_r, h1, h2, fnP, m__law_mixed, startE, seqS, asgS, lift, op2, var, cst, PR.bind, Env.look, Sl.get, dAdd, dMul, dMod, gfl, noL, Kd.fl, retS]
def cellB : SM := (asgS 3 (lift [1, 2, 3, 4] (op2 dAdd (op2 dMul (var 3) (cst (.int 2147483579))) (callP (fnP 3 m__law_mixed) [(var 2), (op2 dAdd (op2 dAdd (op2 dMul (cst (.int 7)) (var 1)) (op2 dMul (cst (.int 100)) (var 4))) (op2 dMul (var 4) (var 4)))]))))
theorem cell_body {S0 s3 : Sl} {k c f : Int} {j : Nat} (hj : j < 24) : ∃ f', cellB [S0, .val false (.int k), .val true (.int c), .val true (.int f), .val false (.int j)] = .nx [S0, .val false (.int k), .val true (.int c), .val true (.int f'), .val false (.int j)] := by
  have h1 : ((j : Int)).natAbs < 18446744073709551616 := by omega
  obtain ⟨r, hr⟩ := mixed_ok c (7 * k + 100 * (j : Int) + j * j)
  have hm : mulOk (j : Int) (j : Int) = true := mulOk_l h1
  simp [cellB, mulOk_l, mulOk_r, hm, asgS, lift, op2, var, cst, PR.bind, Env.look, Sl.get, dAdd, dMul, dMod, gfl, noL, Kd.fl, callP, args, AR.bind, hr]
theorem cell_loop (S0 : Sl) (k c : Int) (f : Int) (s : Sl) : ∃ f' s', loopS (.nm 4) cellB (rgD 0 24) [S0, .val false (.int k), .val true (.int c), .val true (.int f), s] = .nx [S0, .val false (.int k), .val true (.int c), .val true (.int f'), s'] := by
  obtain ⟨e, h1, f', s', rfl⟩ := loop_inv (τ := .nm 4) (m := cellB) (fun env => ∃ f s, env = [S0, .val false (.int k), .val true (.int c), .val true (.int f), s]) (ds := rgD 0 24) (fun d hd env ⟨f, s, he⟩ => by
    obtain ⟨j, hj, rfl⟩ := mem_rgD hd
    subst he
    obtain ⟨f', hb⟩ := cell_body (S0 := S0) (s3 := s) (k := k) (c := c) (f := f) hj
    exact ⟨_, _, rfl, by simpa [bindT] using hb, f', _, rfl⟩) _ ⟨f, s, rfl⟩
  exact ⟨f', s', h1⟩
theorem cell_ok (ns : List Int) (hl : ns.length ≤ 63) (k : Nat) : ∃ c, fnP 5 m__law_cell [.frz (ns.map .int), .int k] = .ok true (.int c) := by
  obtain ⟨c, hc⟩ : ∃ c, (seqS (asgS 2 (lift [] (cst (.int 0)))) (ifS (op2 dLt (var 1) (opN dLen [(var 0)])) (asgS 2 (lift [0, 1] (op2 dIx (var 0) (var 1)))) passS)) (startE 5 [.frz (ns.map .int), .int k]) = .nx [.val false (.frz (ns.map .int)), .val false (.int k), .val true (.int c), .emp, .emp] := by
    by_cases hk : k < ns.length
    · refine ⟨ns[k], ?_⟩
      have hz : szOk ns.length = true := by unfold szOk; simp; omega
      have h0 : (k : Int) < (ns.length : Int) := by omega
      simp [startE, seqS, ifS, asgS, lift, op2, opN, args, AR.bind, var, cst, PR.bind, Env.look, Sl.get, dLt, dLen, dIx, gfl, noL, Kd.fl, passS, hz, h0, L2.atI, L2.ixN, hk, List.getElem?_map]
    · refine ⟨0, ?_⟩
      have hz : szOk ns.length = true := by unfold szOk; simp; omega
      have h0 : ¬ (k : Int) < (ns.length : Int) := by omega
      simp [startE, seqS, ifS, asgS, lift, op2, opN, args, AR.bind, var, cst, PR.bind, Env.look, Sl.get, dLt, dLen, dIx, gfl, noL, Kd.fl, passS, hz, h0]
  obtain ⟨f', s', hf⟩ := cell_loop (.val false (.frz (ns.map .int))) k c 0 .emp
  by_cases hc0 : (1000000000000000000 : Int) ≤ c
  · refine ⟨(c - 1000000000000000000) % 10 ^ 240, ?_⟩
    have : m__law_cell (startE 5 [.frz (ns.map .int), .int k]) = .rt true (.int ((c - 1000000000000000000) % 10 ^ 240)) [.val false (.frz (ns.map .int)), .val false (.int k), .val true (.int c), .emp, .emp] := by
      have e : m__law_cell = seqS (asgS 2 (lift [] (cst (.int 0)))) (seqS (ifS (op2 dLt (var 1) (opN dLen [(var 0)])) (asgS 2 (lift [0, 1] (op2 dIx (var 0) (var 1)))) passS) (seqS (ifS (op2 dGe (var 2) e18P) (retS (lift [2] (op2 dMod (op2 dSub (var 2) e18P) bigP))) passS) (seqS (asgS 3 (lift [] (cst (.int 0)))) (seqS (forS [] (.nm 4) (irange1 (cst (.int 24))) cellB) (retS (mvG 3)))))) := rfl
      rw [e, ← seq_assoc]
      rw [seq_nx hc]
      have hd := decide_eq_true hc0
      simp [seqS, ifS, op2, var, cst, PR.bind, Env.look, Sl.get, dGe, dSub, dMod, gfl, noL, Kd.fl, e18P_ok, bigP_ok, hd, retS, lift]
    simp only [fnP, this]
  · refine ⟨f', ?_⟩
    have : m__law_cell (startE 5 [.frz (ns.map .int), .int k]) = .rt true (.int f') [.val false (.frz (ns.map .int)), .val false (.int k), .val true (.int c), .emp, s'] := by
      have e : m__law_cell = seqS (asgS 2 (lift [] (cst (.int 0)))) (seqS (ifS (op2 dLt (var 1) (opN dLen [(var 0)])) (asgS 2 (lift [0, 1] (op2 dIx (var 0) (var 1)))) passS) (seqS (ifS (op2 dGe (var 2) e18P) (retS (lift [2] (op2 dMod (op2 dSub (var 2) e18P) bigP))) passS) (seqS (asgS 3 (lift [] (cst (.int 0)))) (seqS (forS [] (.nm 4) (irange1 (cst (.int 24))) cellB) (retS (mvG 3)))))) := rfl
      rw [e, ← seq_assoc]
      rw [seq_nx hc]
      have hd := decide_eq_false hc0
      have hi : irange1 (cst (.int 24)) = fun _ => IR.ok true (rgD 0 24) := rfl
      have hn : noLs (rgD 0 24) = true := rfl
      simp [seqS, ifS, op2, var, cst, PR.bind, Env.look, Sl.get, dGe, dSub, dMod, gfl, noL, Kd.fl, e18P_ok, hd, retS, lift, asgS, passS, forS, hi, hn, hf, mvG]
    simp only [fnP, this]
theorem take_ok (c n : Int) (h0 : 0 < n) (h1 : n < 1000000) : fnR 3 0 m__law_take [.lst [.int c], .int n] = .ok true (.int (c % n)) (.lst [.int (c / n)]) := by
  have hl : n.natAbs.log2 < 9000 := by
    have : n.natAbs < 2 ^ 20 := by omega
    have : n.natAbs.log2 < 20 := (Nat.log2_lt (by omega)).2 this
    omega
  simp [fnR, m__law_take, startR, startE, seqS, asgS, lift, op2, var, cst, PR.bind, Env.look, Sl.get, dMod, dDiv, dIx, L2.atI, L2.ixN, gfl, noL, noLs, Kd.fl, h0, hl, setiS, myLst, Sl.mine, Sl.put, retS, mvG, endR]

def ordB : SM := (dropS (appendG 3 (popG 2 (callR 0 0 2 (fnR 3 0 m__law_take) [(.vr 0), (.ex (lift [1, 4] (op2 dSub (var 1) (var 4))))]))))
theorem ord_step {c n i : Int} {left found : List Int} (h0 : 0 < n - i) (hl : (left.length : Int) = n - i) (h1 : n - i < 1000) (hf : found.length < 1000) :
    ∃ y j, left[j]? = some y ∧ ordB [.ref (.lst [.int c]), .val false (.int n), .val true (.lst (left.map .int)), .val true (.lst (found.map .int)), .val false (.int i)] =
      .nx [.ref (.lst [.int (c / (n - i))]), .val false (.int n), .val true (.lst ((left.eraseIdx j).map .int)), .val true (.lst ((found ++ [y]).map .int)), .val false (.int i)] := by
  have ht := take_ok c (n - i) h0 (by omega)
  have hk0 : 0 ≤ c % (n - i) := Int.emod_nonneg _ (by omega)
  have hk1 : c % (n - i) < n - i := Int.emod_lt_of_pos _ h0
  have hj : (c % (n - i)).toNat < left.length := by omega
  have hz : szOk left.length = true := by unfold szOk; simp; omega
  have hz2 : szOk found.length = true := by unfold szOk; simp; omega
  have hx : L2.ixN left.length (c % (n - i)) = some (c % (n - i)).toNat := by unfold L2.ixN; rw [if_pos hk0, if_pos (by omega)]
  refine ⟨left[(c % (n - i)).toNat], (c % (n - i)).toNat, by simp, ?_⟩
  have hc : callR 0 0 2 (fnR 3 0 m__law_take) [(.vr 0), (.ex (lift [1, 4] (op2 dSub (var 1) (var 4))))] [.ref (.lst [.int c]), .val false (.int n), .val true (.lst (left.map .int)), .val true (.lst (found.map .int)), .val false (.int i)] =
      .ok true (.int (c % (n - i))) [.ref (.lst [.int (c / (n - i))]), .val false (.int n), .val true (.lst (left.map .int)), .val true (.lst (found.map .int)), .val false (.int i)] := by
    simp [callR, argsG, Env.look, Sl.get, lift, op2, var, PR.bind, dSub, gfl, noL, Kd.fl, othersOk, valsU, Sl.mine, Sl.put, ht]
  simp only [ordB, dropS, appendG, popG, hc]
  simp [Env.look, Sl.get, myLst, Sl.mine, Sl.put, hx, hz, hz2, noL, List.getElem?_map, eraseIdx_map', hj]
theorem ord_loop (n : Int) : ∀ (len i : Nat) (left found : List Int) (c : Int) (s : Sl), left.length = len → n = i + len → n ≤ 900 → found.length = i → ∃ o ∈ perms len left, ∃ c' s',
    loopS (.nm 4) ordB ((List.range' i len).map fun (k : Nat) => D.int (0 + (k : Int))) [.ref (.lst [.int c]), .val false (.int n), .val true (.lst (left.map .int)), .val true (.lst (found.map .int)), s] =
      .nx [.ref (.lst [.int c']), .val false (.int n), .val true (.lst []), .val true (.lst ((found ++ o).map .int)), s']
  | 0, i, left, found, c, s, hl, hn, h9, hf => by
    have : left = [] := List.length_eq_zero_iff.mp hl
    subst this
    exact ⟨[], by simp [perms], c, s, by simp [loopS]⟩
  | len + 1, i, left, found, c, s, hl, hn, h9, hf => by
    obtain ⟨y, j, hy, hs⟩ := ord_step (c := c) (n := n) (i := (i : Int)) (left := left) (found := found) (by omega) (by omega) (by omega) (by omega)
    obtain ⟨o, ho, c', s', hr⟩ := ord_loop n len (i + 1) (left.eraseIdx j) (found ++ [y]) (c / (n - i)) (.val false (.int i)) (by rw [List.length_eraseIdx, if_pos (List.getElem?_eq_some_iff.mp hy).1]; omega) (by omega) h9 (by simp [hf])
    refine ⟨y :: o, mem_perms hy ho, c', s', ?_⟩
    rw [List.range'_succ, List.map_cons]
    simp only [loopS, bindT, List.set]
    rw [show (0 : Int) + (i : Int) = i by omega, hs]
    simp only
    rw [hr]
    simp
theorem m_order_eq : m__law_order = seqS (asgS 2 (lift [1] (lstRg (rg1 (var 1))))) (seqS (asgS 3 (lift [] (opN dLst []))) (seqS (forS [1] (.nm 4) (irange1 (var 1)) ordB) (retS (lift [3] (opN dTupOf [(var 3)]))))) := rfl
theorem order_ok (c : Int) (n : Nat) (hn : n ≤ 900) : ∃ o ∈ perms n ((List.range n).map fun (k : Nat) => (0 + k : Int)), ∃ c', fnR 5 0 m__law_order [.lst [.int c], .int n] = .ok true (.tup (o.map .int)) (.lst [.int c']) := by
  obtain ⟨o, ho, c', s', hr⟩ := ord_loop n n 0 ((List.range n).map fun (k : Nat) => (0 + k : Int)) [] c .emp (by simp) (by omega) (by omega) rfl
  refine ⟨o, ho, c', ?_⟩
  have hlen : o.length = n := perms_len _ _ _ ho
  have hr' : loopS (.nm 4) ordB (rgD 0 n) [.ref (.lst [.int c]), .val false (.int n), .val true (.lst (rgD 0 n)), .val true (.lst []), .emp] = .nx [.ref (.lst [.int c']), .val false (.int n), .val true (.lst []), .val true (.lst (o.map .int)), s'] := by
    have e1 : rgD 0 n = (List.range' 0 n).map fun (k : Nat) => D.int (0 + (k : Int)) := by unfold rgD; rw [List.range_eq_range']
    have e2 : ((List.range n).map fun (k : Nat) => (0 + k : Int)).map D.int = rgD 0 n := by unfold rgD; simp [Function.comp_def]
    rw [e2, List.map_nil, List.nil_append, ← e1] at hr
    exact hr
  have hz := rgSz_nat (show n ≤ 900000 by omega)
  have hz1 := rgOk_nat (show n ≤ 900000 by omega)
  have hz2 : szOk o.length = true := szOk_small (by omega)
  have hz3 : szOk 0 = true := szOk_small (by omega)
  have hn1 := noLs_rgD n
  have hno : noLs (o.map D.int) = true := noLs_ints o
  have s1 : (asgS 2 (lift [1] (lstRg (rg1 (var 1))))) (startR 5 0 [.lst [.int c], .int n]) = .nx [.ref (.lst [.int c]), .val false (.int n), .val true (.lst (rgD 0 n)), .emp, .emp] := by
    have h0 : rg1 (var 1) (startR 5 0 [.lst [.int c], .int n]) = some (0, (n : Int)) := rfl
    have h1 := lstRg_ok h0 hz1
    have e0 : ((n : Int) - 0).toNat = n := by omega
    rw [e0] at h1
    exact asg_ok (lift_new h1 rfl)
  have s2 : (asgS 3 (lift [] (opN dLst []))) [.ref (.lst [.int c]), .val false (.int n), .val true (.lst (rgD 0 n)), .emp, .emp] = .nx [.ref (.lst [.int c]), .val false (.int n), .val true (.lst (rgD 0 n)), .val true (.lst []), .emp] := by
    simp [asgS, lift, gfl, noL, opN, args, AR.bind, dLst, hz3, Kd.fl]
  have s3 : (forS [1] (.nm 4) (irange1 (var 1)) ordB) [.ref (.lst [.int c]), .val false (.int n), .val true (.lst (rgD 0 n)), .val true (.lst []), .emp] = .nx [.ref (.lst [.int c']), .val false (.int n), .val true (.lst []), .val true (.lst (o.map .int)), s'] := by
    have h1 := irange1_ok (p := var 1) (env := [.ref (.lst [.int c]), .val false (.int n), .val true (.lst (rgD 0 n)), .val true (.lst []), .emp]) (f := false) (j := (n : Int)) rfl hz
    have e0 : (n : Int).toNat = n := by omega
    rw [e0] at h1
    rw [for_ok h1 hn1]
    exact hr'
  have s4 : (retS (lift [3] (opN dTupOf [(var 3)]))) [.ref (.lst [.int c']), .val false (.int n), .val true (.lst []), .val true (.lst (o.map .int)), s'] = .rt true (.tup (o.map .int)) [.ref (.lst [.int c']), .val false (.int n), .val true (.lst []), .val true (.lst (o.map .int)), s'] := by
    simp [retS, lift, opN, args, AR.bind, var, Env.look, Sl.get, dTupOf, hz2, hno, Kd.fl, gfl, noL]
  refine fnR_rt (e := [.ref (.lst [.int c']), .val false (.int n), .val true (.lst []), .val true (.lst (o.map .int)), s']) ?_ rfl
  rw [m_order_eq, seq_nx s1, seq_nx s2, seq_nx s3, s4]
theorem cst_i (env : Env) (x : Int) : cst (.int x) env = .ok true (.int x) := rfl
theorem sub_i' {a b : P} {env : Env} {fa fb : Bool} {x y : Int} (ha : a env = .ok fa (.int x)) (hb : b env = .ok fb (.int y)) : op2 dSub a b env = .ok true (.int (x - y)) := op2_new ha hb rfl
theorem add_i {a b : P} {env : Env} {fa fb : Bool} {x y : Int} (ha : a env = .ok fa (.int x)) (hb : b env = .ok fb (.int y)) : op2 dAdd a b env = .ok true (.int (x + y)) := op2_new ha hb rfl
def tO (o : List Int) : D := .tup (o.map .int)
theorem lay_tO : ∀ os : List (List Int), PySem.PyData.canLayAll0 (dats (os.map tO)) = true
  | [] => rfl
  | o :: os => by simp [dats, tO, dat, dats_ints, PySem.PyData.canLayAll0, PySem.PyData.canLay0, canLay_ints, lay_tO os]
theorem dep_tO : ∀ os : List (List Int), PySem.PyData.depthAll (dats (os.map tO)) ≤ 5
  | [] => by simp [dats, PySem.PyData.depthAll]
  | o :: os => by
    have h1 := dep_tO os
    have h2 := depth_ints o
    simp only [List.map_cons, dats, tO, dat, dats_ints, PySem.PyData.depthAll, PySem.PyData.depth]
    omega
theorem eqOk_lstT (os : List (List Int)) : eqOk (.lst (os.map tO)) = true := by
  have := dep_tO os
  simp only [eqOk, dat, PySem.SeqAt.shaped, PySem.PyData.canLay0, lay_tO, PySem.PyData.depth, Bool.true_and]
  exact decide_eq_true (by omega)
theorem eqv_tO (c d : List Int) : PySem.PyData.eqv (dat (tO c)) (dat (tO d)) = decide (c = d) := by
  simp only [tO, dat, dats_ints, PySem.PyData.eqv, eqvAll_ints]
theorem dIn_tO (c : List Int) (os : List (List Int)) : dIn (tO c) (.lst (os.map tO)) = some (.new, .bl (os.any fun d => decide (d = c))) := by
  have h0 : eqOk (tO c) = true := eqOk_tupI c
  simp only [dIn, dInB, h0, eqOk_lstT, Bool.and_self, if_true, Option.map_some]
  congr 3
  induction os with
  | nil => rfl
  | cons x xs ih => simp only [List.map_cons, dats, List.any_cons, ih, eqv_tO]
def cK (c : Nat) : List Int := [((c / 5 : Nat) : Int), ((c % 5 : Nat) : Int)]
def cD (c : Nat) : D := tO (cK c)
def drD (dr : List Nat) : D := .lst (dr.map cD)
theorem cK_inj {a b : Nat} (h : cK a = cK b) : a = b := by
  simp only [cK, List.cons.injEq, and_true] at h
  omega
theorem cD_pair {i j : Nat} (h : j < 5) : D.tup [.int (i : Nat), .int (j : Nat)] = cD (5 * i + j) := by
  have e1 : (5 * i + j) / 5 = i := by omega
  have e2 : (5 * i + j) % 5 = j := by omega
  simp only [cD, cK, tO, e1, e2]; rfl
theorem dIn_c (c : Nat) (dr : List Nat) : dIn (cD c) (drD dr) = some (.new, .bl (dr.contains c)) := by
  have := dIn_tO (cK c) (dr.map cK)
  rw [List.map_map] at this
  refine Eq.trans this ?_
  congr 3
  rw [List.any_map, List.contains_eq_any_beq]
  congr 1
  funext x
  by_cases h : x = c
  · subst h; simp
  · simp only [Function.comp]
    rw [decide_eq_false fun z => h (cK_inj z)]
    simp [Ne.symm h]
theorem dIn_ij (i j : Nat) (dr : List Nat) : dIn (.tup [.int (i : Nat), .int (j : Nat)]) (drD dr) = some (.new, .bl (inM dr i j)) := by
  by_cases h : j < 5
  · rw [cD_pair h, dIn_c]
    have : Nat.blt j 5 = true := by simpa [Nat.blt_eq] using h
    simp only [inM, this, Bool.true_and]
  · have := dIn_tO [(i : Int), (j : Int)] (dr.map cK)
    rw [List.map_map] at this
    refine Eq.trans this ?_
    have hb : Nat.blt j 5 = false := by
      cases e : Nat.blt j 5 with
      | false => rfl
      | true => exact absurd (Nat.blt_eq ▸ e : j < 5) h
    simp only [inM, hb, Bool.false_and]
    congr 2
    rw [D.bl.injEq, List.any_eq_false]
    intro x hx
    obtain ⟨c, _, rfl⟩ := List.mem_map.mp hx
    simp only [decide_eq_true_eq, cK, List.cons.injEq, and_true, not_and]
    omega
theorem noL_cD (c : Nat) : noL (cD c) = true := by simp [cD, tO, cK, noL, noLs]
theorem noLs_cDs (dr : List Nat) : noLs (dr.map cD) = true := by
  induction dr with
  | nil => rfl
  | cons k dr ih => simp only [List.map_cons, noLs, noL_cD, ih, Bool.and_self]
theorem len_drD {dr : List Nat} (h : dr.length ≤ 900000) : dLen [drD dr] = some (.new, .int (dr.length : Nat)) := by
  have hz : szOk dr.length = true := szOk_small h
  simp [dLen, drD, hz]
theorem dat_tO (w : List Int) : dat (tO w) = .tuple (w.map .int) := by simp [tO, dat, dats_ints]
theorem lt_tO (a b : List Int) : PySem.W.dataLt (dat (tO a)) (dat (tO b)) = decide (a < b) := by rw [dat_tO, dat_tO]; exact lt_tup a b
theorem cK_lt (a b : Nat) : decide (cK a < cK b) = Nat.blt a b := by
  rw [Bool.eq_iff_iff, decide_eq_true_eq, Nat.blt_eq]
  simp only [cK, List.cons_lt_cons_iff, List.not_lt_nil, and_false, or_false]
  omega
theorem leD_cD (a b : Nat) : leD false (cD a) (cD b) = Nat.ble a b := by
  show (!PySem.W.dataLt (dat (cD b)) (dat (cD a))) = _
  unfold cD
  rw [lt_tO, cK_lt]
  cases h : Nat.ble a b with
  | true =>
    have : ¬ b < a := by have := Nat.le_of_ble_eq_true h; omega
    have e : Nat.blt b a = false := by
      cases e : Nat.blt b a with
      | false => rfl
      | true => exact absurd (Nat.blt_eq ▸ e) this
    rw [e]; rfl
  | false =>
    have : ¬ a ≤ b := fun z => by rw [Nat.ble_eq_true_of_le z] at h; cases h
    have e : Nat.blt b a = true := by rw [Nat.blt_eq]; omega
    rw [e]; rfl
theorem srt_cD (l : List Nat) : isort (leD false) (l.map cD) = (srtM l).map cD := by
  rw [isort_map]
  unfold srtM
  have e : (fun a b => leD false (cD a) (cD b)) = fun a b => Nat.ble a b := by funext a b; exact leD_cD a b
  rw [e]
theorem sortOk_tO {l : List (List Int)} (hne : ∀ t ∈ l, t ≠ []) (hz : szOk l.length = true) : sortOk (l.map tO) = true := by
  unfold sortOk
  have ed : dats (l.map tO) = l.map fun t => PySem.PyData.tuple (t.map .int) := by
    rw [dats_map, List.map_map]; exact List.map_congr_left fun w _ => dat_tO w
  rw [ed, List.length_map, hz, Bool.and_true]
  have h1 : alikeB (l.map fun t => PySem.PyData.tuple (t.map .int)) = true := by
    unfold alikeB
    refine List.all_eq_true.mpr fun d hd => List.all_eq_true.mpr fun d' hd' => ?_
    obtain ⟨a, _, rfl⟩ := List.mem_map.mp hd
    obtain ⟨b, _, rfl⟩ := List.mem_map.mp hd'
    simp only [PySem.W.alike]; exact PySem.W.alike_ints a b
  have h2 : sortB (l.map fun t => PySem.PyData.tuple (t.map .int)) = true := by
    unfold sortB
    rw [Bool.or_eq_true]
    refine .inl (List.all_eq_true.mpr fun d hd => ?_)
    obtain ⟨a, ha, rfl⟩ := List.mem_map.mp hd
    cases a with
    | nil => exact absurd rfl (hne _ ha)
    | cons x a => rfl
  have h3 : depB (l.map fun t => PySem.PyData.tuple (t.map .int)) = true := by
    unfold depB
    refine List.all_eq_true.mpr fun d hd => ?_
    obtain ⟨a, _, rfl⟩ := List.mem_map.mp hd
    have := CB.depth_ints a
    have e : (PySem.PyData.tuple (a.map .int)).canLay0 = true := by simp only [PySem.PyData.canLay0]; exact canLay_ints a
    rw [e, Bool.and_true]
    exact decide_eq_true (by simp only [PySem.PyData.depth]; omega)
  rw [h1, h2, h3]; rfl
theorem sort_cD {l : List Nat} (hz : l.length ≤ 900000) : dSortR false [drD l] = some (.new, drD (srtM l)) := by
  cases l with
  | nil => rfl
  | cons a l =>
    have hz' : szOk ((a :: l).map cK).length = true := szOk_small (by rw [List.length_map]; exact hz)
    have h := sortOk_tO (l := (a :: l).map cK) (fun t ht => by obtain ⟨c, _, rfl⟩ := List.mem_map.mp ht; exact fun z => nomatch z) hz'
    rw [List.map_map] at h
    have h' : sortOk ((a :: l).map cD) = true := h
    have e : toInts ((a :: l).map cD) = none := by simp [toInts, cD, tO]
    have hs : seqOf (drD (a :: l)) = some ((a :: l).map cD) := rfl
    rw [dSortR, hs]; simp only [e]
    rw [h', noLs_cDs, srt_cD]; rfl
def lnTest : GE := liftT (op2 dGe (var 3) (cst (.int 0)))
def lnIf : SM := (ifS (op2 dIn (opN dTup [(var 3), (var 4)]) (var 0)) (dropS (appendG 2 (lift [3, 4] (opN dTup [(var 3), (var 4)])))) (asgS 5 (lift [5] (notP (var 5)))))
def lnB1 : SM := seqS lnIf (ifS (var 5) (asgS 3 (lift [3] (op2 dSub (var 3) (cst (.int 1))))) (asgS 4 (lift [4] (op2 dAdd (var 4) (cst (.int 1))))))
def lnAll (b : SM) : SM := (seqS (asgS 2 (lift [] (opN dLst []))) (seqS (parS 3 4 [(.vr 1), (.ex (lift [] (cst (.int 0))))]) (seqS (asgS 5 (lift [] (cst (.bl false)))) (seqS (whileS 1000 lnTest b) (retS (pairO [(.ex (mvG 2)), (.ex (mvG 4))]))))))
abbrev lnE (dr : List Nat) (row : D) (acc : List Nat) (i j : Int) (up f3 f4 f5 : Bool) : Env := [.val false (drD dr), .val false row, .val true (drD acc), .val f3 (.int i), .val f4 (.int j), .val f5 (.bl up)]
def upM (dr : List Nat) (i j : Nat) (up : Bool) : Bool := if inM dr i j then up else !up
def acM (dr : List Nat) (i j : Nat) (acc : List Nat) : List Nat := if inM dr i j then acc ++ [5 * i + j] else acc
theorem lineM_step (dr : List Nat) (f i j : Nat) (up : Bool) (acc : List Nat) : lineM dr (f + 1) i j up acc = if upM dr i j up then (match i with | 0 => some (acM dr i j acc, j) | i' + 1 => lineM dr f i' j true (acM dr i j acc)) else lineM dr f i (j + 1) false (acM dr i j acc) := by
  unfold upM acM
  cases hm : inM dr i j <;> cases up <;> cases i <;> simp [lineM, hm]
theorem tup_v {a b : P} {env : Env} {fa fb : Bool} {x y : Int} (ha : a env = .ok fa (.int x)) (hb : b env = .ok fb (.int y)) : opN dTup [a, b] env = .ok true (.tup [.int x, .int y]) := by
  have e : dTup [.int x, .int y] = some (.lin, .tup [.int x, .int y]) := rfl
  simp only [opN, args, ha, hb, AR.bind, e, Kd.fl, gfl, noL, Bool.or_true, Bool.and_self]
theorem lnIf_ok (dr : List Nat) (row : D) (acc : List Nat) (i j : Nat) (up f3 f4 f5 : Bool) (hl : acc.length ≤ 900000) : ∃ g5, lnIf (lnE dr row acc i j up f3 f4 f5) = .nx (lnE dr row (acM dr i j acc) i j (upM dr i j up) f3 f4 g5) := by
  let E : Env := lnE dr row acc i j up f3 f4 f5
  have v3 : var 3 E = .ok false (.int (i : Nat)) := rfl
  have v4 : var 4 E = .ok false (.int (j : Nat)) := rfl
  have t := tup_v v3 v4
  have c : (op2 dIn (opN dTup [(var 3), (var 4)]) (var 0)) E = .ok true (.bl (inM dr i j)) := op2_new t (show var 0 E = .ok false (drD dr) from rfl) (dIn_ij i j dr)
  unfold upM acM
  by_cases h : inM dr i j = true
  · rw [h] at c
    refine ⟨f5, ?_⟩
    rw [if_pos h, if_pos h]
    have hj : j < 5 := by
      unfold inM at h
      rw [Bool.and_eq_true] at h
      exact Nat.blt_eq ▸ h.1
    have hz : szOk acc.length = true := szOk_small hl
    refine (if_tt c).trans ?_
    have l : lift [3, 4] (opN dTup [(var 3), (var 4)]) E = .ok true (cD (5 * i + j)) E := by
      rw [← cD_pair hj]; exact lift_new t rfl
    have lk : Env.look E 2 = some (.lst (acc.map cD)) := rfl
    have my : myLst E 2 = some (.val true (.lst (acc.map cD)), acc.map cD) := rfl
    show (dropS (appendG 2 (lift [3, 4] (opN dTup [(var 3), (var 4)])))) E = _
    simp only [dropS, appendG, lk, l, my, List.length_map, hz, Bool.true_or, Bool.and_self, if_true, Sl.put]
    simp [E, lnE, drD, List.set]
  · have h' : inM dr i j = false := by simpa using h
    rw [h'] at c
    refine ⟨true, ?_⟩
    rw [if_neg h, if_neg h]
    refine (if_ff c).trans ?_
    exact asg_new (ks := [5]) (i := 5) (not_ok (show var 5 E = .ok false (.bl up) from rfl))
theorem lnB1_ok (dr : List Nat) (row : D) (acc : List Nat) (i j : Nat) (up f3 f4 f5 : Bool) (hl : acc.length ≤ 900000) : ∃ g3 g4 g5, lnB1 (lnE dr row acc i j up f3 f4 f5) = .nx (lnE dr row (acM dr i j acc) (if upM dr i j up then (i : Int) - 1 else i) (if upM dr i j up then (j : Int) else ((j + 1 : Nat) : Int)) (upM dr i j up) g3 g4 g5) := by
  obtain ⟨g5, h⟩ := lnIf_ok dr row acc i j up f3 f4 f5 hl
  unfold lnB1
  rw [seq_nx h]
  cases upM dr i j up with
  | true =>
    refine ⟨true, f4, g5, (if_tt (f := false) rfl).trans ?_⟩
    exact asg_new (ks := [3]) (i := 3) (sub_i' (show var 3 _ = .ok false (.int (i : Nat)) from rfl) (cst_i _ 1))
  | false =>
    refine ⟨f3, true, g5, (if_ff (f := false) rfl).trans ?_⟩
    exact asg_new (ks := [4]) (i := 4) (add_i (show var 4 _ = .ok false (.int (j : Nat)) from rfl) (cst_i _ 1))
def LnB (b : SM) : Prop := ∀ (dr : List Nat) (row : D) (acc : List Nat) (i j : Nat) (up f3 f4 f5 : Bool), acc.length ≤ 900000 → ∃ g3 g4 g5, b (lnE dr row acc i j up f3 f4 f5) = .nx (lnE dr row (acM dr i j acc) (if upM dr i j up then (i : Int) - 1 else i) (if upM dr i j up then (j : Int) else ((j + 1 : Nat) : Int)) (upM dr i j up) g3 g4 g5)
theorem lnTest_ok (dr : List Nat) (row : D) (acc : List Nat) (i j : Int) (up f3 f4 f5 : Bool) : lnTest (lnE dr row acc i j up f3 f4 f5) = .ok true (.bl (decide (0 ≤ i))) (lnE dr row acc i j up f3 f4 f5) := by
  have : (op2 dGe (var 3) (cst (.int 0))) (lnE dr row acc i j up f3 f4 f5) = .ok true (.bl (decide (i ≥ 0))) := op2_new (show var 3 _ = .ok false (.int i) from rfl) (cst_i _ 0) rfl
  simp only [lnTest, liftT, this]
theorem ln_loop {b : SM} (hb : LnB b) (dr : List Nat) (row : D) : ∀ (f i j : Nat) (up : Bool) (acc : List Nat) (res : List Nat × Nat) (K : Nat) (f3 f4 f5 : Bool), lineM dr f i j up acc = some res → acc.length + f ≤ 900000 → f < K → ∃ t3 g t5, loopW lnTest b K (lnE dr row acc i j up f3 f4 f5) = .nx [.val false (drD dr), .val false row, .val true (drD res.1), t3, .val g (.int (res.2 : Nat)), t5]
  | 0, i, j, up, acc, res, K, f3, f4, f5, h, _, _ => by cases h
  | f + 1, i, j, up, acc, res, 0, f3, f4, f5, h, _, hk => by omega
  | f + 1, i, j, up, acc, res, K + 1, f3, f4, f5, h, hl, hk => by
    rw [lineM_step] at h
    obtain ⟨g3, g4, g5, hs⟩ := hb dr row acc i j up f3 f4 f5 (by omega)
    have ht : lnTest (lnE dr row acc i j up f3 f4 f5) = .ok true (.bl true) (lnE dr row acc i j up f3 f4 f5) := by
      rw [lnTest_ok, decide_eq_true (by omega)]
    have hacl : (acM dr i j acc).length ≤ acc.length + 1 := by unfold acM; split <;> simp
    rw [loopW, ht]
    simp only [hs]
    cases hu : upM dr i j up with
    | false =>
      rw [hu] at h
      simp only [Bool.false_eq_true, if_false] at h ⊢
      exact ln_loop hb dr row f i (j + 1) false _ res K g3 g4 g5 h (by omega) (by omega)
    | true =>
      rw [hu] at h
      simp only [if_true] at h ⊢
      cases i with
      | zero =>
        cases h
        obtain ⟨K, rfl⟩ : ∃ K', K = K' + 1 := ⟨K - 1, by omega⟩
        have ht2 : lnTest (lnE dr row (acM dr 0 j acc) ((0 : Nat) - 1 : Int) j true g3 g4 g5) = .ok true (.bl false) (lnE dr row (acM dr 0 j acc) ((0 : Nat) - 1 : Int) j true g3 g4 g5) := by
          rw [lnTest_ok, decide_eq_false (by omega)]
        rw [loopW, ht2]
        exact ⟨_, _, _, rfl⟩
      | succ i =>
        have := ln_loop hb dr row f i j true _ res K g3 g4 g5 h (by omega) (by omega)
        rwa [show ((i : Nat) : Int) = ((i + 1 : Nat) : Int) - 1 by omega] at this
theorem ln_ok {b : SM} (hb : LnB b) {dr : List Nat} {row : Nat} {res : List Nat × Nat} (h : lineM dr 60 row 0 false [] = some res) : fnP 6 (lnAll b) [drD dr, .int (row : Nat)] = .ok true (.tup [drD res.1, .int (res.2 : Nat)]) := by
  obtain ⟨t3, g, t5, hL⟩ := ln_loop hb dr (.int (row : Nat)) 60 row 0 false [] res 1000 true true true h (by simp) (by omega)
  have a0 : asgS 2 (lift [] (opN dLst [])) [.val false (drD dr), .val false (.int (row : Nat)), .emp, .emp, .emp, .emp] = .nx [.val false (drD dr), .val false (.int (row : Nat)), .val true (drD []), .emp, .emp, .emp] := rfl
  have a1 : parS 3 4 [(.vr 1), (.ex (lift [] (cst (.int 0))))] [.val false (drD dr), .val false (.int (row : Nat)), .val true (drD []), .emp, .emp, .emp] = .nx [.val false (drD dr), .val false (.int (row : Nat)), .val true (drD []), .val true (.int (row : Nat)), .val true (.int 0), .emp] := rfl
  have a2 : asgS 5 (lift [] (cst (.bl false))) [.val false (drD dr), .val false (.int (row : Nat)), .val true (drD []), .val true (.int (row : Nat)), .val true (.int 0), .emp] = .nx (lnE dr (.int (row : Nat)) [] (row : Nat) ((0 : Nat) : Int) false true true true) := rfl
  have key : ∃ e, lnAll b [.val false (drD dr), .val false (.int (row : Nat)), .emp, .emp, .emp, .emp] = .rt true (.tup [drD res.1, .int (res.2 : Nat)]) e := by
    unfold lnAll
    rw [seq_nx a0, seq_nx a1, seq_nx a2, seq_nx (show whileS 1000 lnTest b _ = _ from hL)]
    cases g <;> exact ⟨_, rfl⟩
  obtain ⟨e, he⟩ := key
  exact fnP_rt (e := e) he
def LnF (F : List D → PR) (dr : List Nat) (n : Nat) : Prop := ∀ row < n, F [drD dr, .int (row : Nat)] = .ok true (.tup [drD (lnM dr row).1, .int ((lnM dr row).2 : Nat)])
theorem ln_F {b : SM} (hb : LnB b) {dr : List Nat} {n : Nat} (h : ∀ row < n, (lineM dr 60 row 0 false []).isSome = true) : LnF (fnP 6 (lnAll b)) dr n := fun row hr => by
  obtain ⟨res, e⟩ := Option.isSome_iff_exists.mp (h row hr)
  have := ln_ok hb e
  rwa [show lnM dr row = res by unfold lnM; rw [e]; rfl]
def natD (l : List Nat) : D := .lst (l.map fun (k : Nat) => .int k)
theorem mem_rg0 {d : D} {n : Nat} (h : d ∈ rgD 0 n) : ∃ k : Nat, k < n ∧ d = .int (k : Nat) := by
  obtain ⟨k, hk, rfl⟩ := mem_rgD h
  exact ⟨k, hk, by simp⟩
def Lay (k : Nat) (d : D) : Prop := (dat d).canLay0 = true ∧ (dat d).depth ≤ k
theorem Lay.mono {k k' : Nat} {d : D} (h : Lay k d) (a : k ≤ k') : Lay k' d := ⟨h.1, Nat.le_trans h.2 a⟩
theorem lay_int (i : Int) : Lay 0 (.int i) := ⟨rfl, Nat.le_refl _⟩
theorem lays_dats {k : Nat} : ∀ {ds : List D}, (∀ d ∈ ds, Lay k d) → PySem.PyData.canLayAll0 (dats ds) = true ∧ PySem.PyData.depthAll (dats ds) ≤ k
  | [], _ => ⟨rfl, Nat.zero_le _⟩
  | d :: ds, h => by
    obtain ⟨a, b⟩ := lays_dats (ds := ds) fun x hx => h x (List.mem_cons_of_mem _ hx)
    obtain ⟨c, e⟩ := h d List.mem_cons_self
    simp only [dats, PySem.PyData.canLayAll0, PySem.PyData.depthAll]
    exact ⟨by rw [c, a]; rfl, by omega⟩
theorem lay_tup {k : Nat} {ds : List D} (h : ∀ d ∈ ds, Lay k d) : Lay (k + 1) (.tup ds) := by
  obtain ⟨a, b⟩ := lays_dats h
  exact ⟨by simp only [dat, PySem.PyData.canLay0]; exact a, by simp only [dat, PySem.PyData.depth]; omega⟩
theorem lay_lst {k : Nat} {ds : List D} (h : ∀ d ∈ ds, Lay k d) : Lay (k + 1) (.lst ds) := by
  obtain ⟨a, b⟩ := lays_dats h
  exact ⟨by simp only [dat, PySem.PyData.canLay0]; exact a, by simp only [dat, PySem.PyData.depth]; omega⟩
theorem Lay.eqOk {k : Nat} {d : D} (h : Lay k d) (hk : k ≤ 60) : CB.eqOk d = true := by
  unfold CB.eqOk PySem.SeqAt.shaped
  rw [h.1, decide_eq_true (by have := h.2; omega)]; rfl
theorem dEq_lay {k : Nat} {d : D} (h : Lay k d) (hk : k ≤ 60) : dEq d d = some (.new, .bl true) := by
  unfold dEq
  rw [h.eqOk hk, PySem.SeqAt.eqv_refl _ h.1]; rfl
theorem dNe_lay {k : Nat} {d : D} (h : Lay k d) (hk : k ≤ 60) : dNe d d = some (.new, .bl false) := by
  unfold dNe
  rw [h.eqOk hk, PySem.SeqAt.eqv_refl _ h.1]; rfl
theorem lay_kD (k : List Int) : Lay 1 (.tup (k.map .int)) := lay_tup fun d hd => by
  obtain ⟨x, _, rfl⟩ := List.mem_map.mp hd; exact lay_int x
theorem lay_drD (dr : List Nat) : Lay 2 (drD dr) := lay_lst fun d hd => by
  obtain ⟨x, _, rfl⟩ := List.mem_map.mp hd; exact lay_kD _
theorem natD_I (p : List Nat) : natD p = .lst ((wI p).map .int) := by simp [natD, wI, Function.comp_def]
theorem toBlsF {α : Type} (f : α → Bool) : ∀ l : List α, toBls (l.map fun x => D.bl (f x)) = some (l.map f)
  | [] => rfl
  | x :: l => by simp [toBls, toBlsF f l]
theorem all_map {xs : List D} (g : D → Bool) {i : Nat} {ι : I} {el : P} {env : Env} {f : Bool} (hi : ι env = .ok f xs) (hz : szOk xs.length = true) (h : ∀ d ∈ xs, ∃ f, el ((wipeE env [i]).set i (.val false d)) = .ok f (.bl (g d))) : opN dAll [comp [i] (.nm i) ι yesP el] env = .ok true (.bl (xs.all g)) := by
  have hc := comp_map (i := i) (ι := ι) (el := el) (env := env) (ds := xs) (fun d => .bl (g d)) hi hz (fun d hd => by
    obtain ⟨f, e⟩ := h d hd
    exact ⟨f, e, by simp [gfl, noL]⟩)
  exact opN1_new hc (by simp only [dAll, toBlsF g, List.all_map, Function.comp_def, id])
theorem ltX_kD (a b : List Int) : dLtX (kD a) (kD b) = some (.new, .bl (decide (a < b))) := by
  have h1 : cmpOk (kD a) (kD b) = true := by
    have e1 : eqOk (kD a) = true := eqOk_tupI a
    have e2 : eqOk (kD b) = true := eqOk_tupI b
    have e3 : PySem.W.alike (dat (kD a)) (dat (kD b)) = true := by rw [dat_kD, dat_kD]; exact alike_tup a b
    have e4 : (dat (kD a)).depth ≤ 60 := by
      rw [dat_kD]; simp only [PySem.PyData.depth]; have := depth_ints a; omega
    unfold cmpOk
    rw [e1, e2, e3, decide_eq_true e4]; rfl
  have h2 : PySem.W.dataLt (dat (kD a)) (dat (kD b)) = decide (a < b) := by rw [dat_kD, dat_kD]; exact lt_tup a b
  unfold dLtX
  simp only [kD] at h1 h2 ⊢
  rw [if_pos h1, h2]
structure DrC (n : Nat) (dr : List Nat) : Prop where
  mem : ∀ c ∈ dr, c ∈ cellsM n
  pw : dr.Pairwise (· < ·)
theorem cells_lt : ∀ n, n ≤ 5 → (cellsM n).Pairwise (· < ·) := fun n h => by
  have : n = 0 ∨ n = 1 ∨ n = 2 ∨ n = 3 ∨ n = 4 ∨ n = 5 := by omega
  rcases this with rfl | rfl | rfl | rfl | rfl | rfl <;> decide
theorem DrC.of {n : Nat} (n5 : n ≤ 5) {dr : List Nat} (h : dr.Sublist (cellsM n)) : DrC n dr := ⟨fun c hc => h.subset hc, List.Pairwise.sublist h (cells_lt n n5)⟩
def crossChk (n : Nat) : Bool := (cellsM n).all fun c => okB (fnP 3 m_is_cross [.int (n : Nat), cD c])
theorem cross1 : crossChk 1 = true := by decide +kernel
theorem cross2 : crossChk 2 = true := by decide +kernel
theorem cross3 : crossChk 3 = true := by decide +kernel
theorem cross4 : crossChk 4 = true := by decide +kernel
theorem cross5 : crossChk 5 = true := by decide +kernel
theorem cross_ok {n c : Nat} (n1 : 1 ≤ n) (n5 : n ≤ 5) (h : c ∈ cellsM n) : fnP 3 m_is_cross [.int (n : Nat), cD c] = .ok true (.bl true) := by
  have : n = 1 ∨ n = 2 ∨ n = 3 ∨ n = 4 ∨ n = 5 := by omega
  rcases this with rfl | rfl | rfl | rfl | rfl
  · exact okB_of (List.all_eq_true.mp cross1 c h)
  · exact okB_of (List.all_eq_true.mp cross2 c h)
  · exact okB_of (List.all_eq_true.mp cross3 c h)
  · exact okB_of (List.all_eq_true.mp cross4 c h)
  · exact okB_of (List.all_eq_true.mp cross5 c h)
theorem count_ok {n : Nat} (n1 : 1 ≤ n) (n5 : n ≤ 5) : fnP 1 m_look_at_count [.int (n : Nat)] = .ok true .non := by
  have : n = 1 ∨ n = 2 ∨ n = 3 ∨ n = 4 ∨ n = 5 := by omega
  rcases this with rfl | rfl | rfl | rfl | rfl <;> rfl
theorem ltX_c (a b : Nat) : dLtX (cD a) (cD b) = some (.new, .bl (Nat.blt a b)) := by
  have := ltX_kD (cK a) (cK b)
  rw [cK_lt] at this
  exact this
theorem ix_c {dr : List Nat} {i : Nat} (h : i < dr.length) : dIx (drD dr) (.int (i : Nat)) = some (.new, cD dr[i]) := by
  simp [dIx, drD, L2.atI, L2.ixN, h, noL_cD]
theorem drop_new {ks : List Nat} {p : P} {env : Env} {d : D} (h : p env = .ok true d) : dropS (lift ks p) env = .nx env := by simp only [dropS, lift_new h rfl]
theorem look_ok {n : Nat} (n1 : 1 ≤ n) (n5 : n ≤ 5) {dr : List Nat} (h : DrC n dr) (hl : dr.length ≤ 20) : fnP 4 m_look_at_drawing [.int (n : Nat), drD dr] = .ok true .non := by
  let E : Env := [.val false (.int (n : Nat)), .val false (drD dr), .emp, .emp]
  have v1 : var 1 E = .ok false (drD dr) := rfl
  have c0 : dropS (lift [0] (callP (fnP 1 m_look_at_count) [(var 0)])) E = .nx E := drop_new (call1 (show var 0 E = .ok false (.int (n : Nat)) from rfl) (count_ok n1 n5))
  have c1 : (opN dAll [(comp [2] (.nm 2) (iseq (var 1)) yesP (callP (fnP 3 m_is_cross) [(var 0), (var 2)]))]) E = .ok true (.bl true) := by
    refine (all_map (fun _ => true) (xs := dr.map cD) (i := 2) (f := false) rfl (szOk_small (by rw [List.length_map]; omega)) fun d hd => ⟨true, ?_⟩).trans (by simp)
    obtain ⟨c, hc, rfl⟩ := List.mem_map.mp hd
    exact call2 (show var 0 _ = .ok false (.int (n : Nat)) from rfl) (show var 2 _ = .ok false (cD c) from rfl) (cross_ok n1 n5 (h.mem c hc))
  have hlen : (op2 dSub (opN dLen [(var 1)]) (cst (.int 1))) E = .ok true (.int ((dr.length : Int) - 1)) := sub_i' (opN1_new v1 (len_drD (by omega))) (cst_i _ 1)
  have hr : ∃ ds, irange1 (op2 dSub (opN dLen [(var 1)]) (cst (.int 1))) E = .ok true ds ∧ ds.length ≤ 20 ∧ ∀ d ∈ ds, ∃ k : Nat, k + 1 < dr.length ∧ d = .int (k : Nat) := by
    have z : rgSz ((dr.length : Int) - 1) = true := by
      cases dr with
      | nil => rfl
      | cons a l =>
        have := rgSz_nat (n := l.length) (by simp at hl; omega)
        rwa [show (((a :: l).length : Nat) : Int) - 1 = (l.length : Nat) by simp]
    refine ⟨_, irange1_ok hlen z, by rw [rgD_length]; omega, fun d hd => ?_⟩
    obtain ⟨k, hk, rfl⟩ := mem_rg0 hd
    exact ⟨k, by omega, rfl⟩
  obtain ⟨ds, hr, hdl, hds⟩ := hr
  have c2 : (opN dAll [(comp [3] (.nm 3) (irange1 (op2 dSub (opN dLen [(var 1)]) (cst (.int 1)))) yesP (op2 dLtX (op2 dIx (var 1) (var 3)) (op2 dIx (var 1) (op2 dAdd (var 3) (cst (.int 1))))))]) E = .ok true (.bl true) := by
    refine (all_map (fun _ => true) (i := 3) hr (szOk_small (by omega)) fun d hd => ⟨true, ?_⟩).trans (by simp)
    obtain ⟨k, hk, rfl⟩ := hds d hd
    have v3 : var 3 ((wipeE E [3]).set 3 (.val false (.int (k : Nat)))) = .ok false (.int (k : Nat)) := rfl
    have w1 : var 1 ((wipeE E [3]).set 3 (.val false (.int (k : Nat)))) = .ok false (drD dr) := rfl
    have b := add_i v3 (cst_i _ 1)
    rw [show (k : Int) + 1 = ((k + 1 : Nat) : Int) by omega] at b
    refine op2_new (op2_new w1 v3 (ix_c (by omega))) (op2_new w1 b (ix_c hk)) ?_
    rw [ltX_c]
    have : Nat.blt dr[k] dr[k + 1] = true := by
      rw [Nat.blt_eq]
      exact List.pairwise_iff_getElem.mp h.pw k (k + 1) (by omega) hk (by omega)
    rw [this]
  have t : op1 (isT "list") (var 1) E = .ok true (.bl true) := by
    simp only [op1, v1, PR.bind]; rfl
  have key : m_look_at_drawing E = .nx E := by
    refine (seq_nx c0).trans ((seq_nx (if_no (f := true) ?_)).trans (if_no (not_ok c2)))
    exact (or_ff (not_ok t)).trans (not_ok c1)
  show (match m_look_at_drawing E with | .nx _ => PR.ok true .non | .rt o d _ => .ok o d | .ex x _ => .ex x | .no => .no) = _
  rw [key]
theorem keyCe_cD (c : Nat) : keyCe (cD c) = .tuple ([((c / 5 : Nat) : Int), 0 - ((c % 5 : Nat) : Int)].map .int) := rfl
theorem leCe_cD (a b : Nat) : leCe (cD a) (cD b) = leNb a b := by
  show (!PySem.W.dataLt (keyCe (cD b)) (keyCe (cD a))) = _
  rw [keyCe_cD, keyCe_cD, lt_tup]
  unfold leNb
  rw [Bool.eq_iff_iff]
  simp only [Bool.not_eq_true', decide_eq_false_iff_not, Bool.or_eq_true, Bool.and_eq_true, Nat.blt_eq, Nat.beq_eq, Nat.ble_eq, List.cons_lt_cons_iff, List.not_lt_nil, and_false, or_false]
  generalize a / 5 = x
  generalize a % 5 = y
  generalize b / 5 = z
  generalize b % 5 = t
  omega
theorem isort_cD (l : List Nat) : isort leCe (l.map cD) = (isort leNb l).map cD := by
  rw [isort_map]
  have e : (fun a b => leCe (cD a) (cD b)) = leNb := by funext a b; exact leCe_cD a b
  rw [e]
theorem cells_isCe (l : List Nat) : (l.map cD).all isCe = true := by
  rw [List.all_eq_true]
  intro d hd
  obtain ⟨c, _, rfl⟩ := List.mem_map.mp hd
  rfl
theorem sortC_ok {l : List Nat} (hz : l.length ≤ 900000) : dSortC [drD l] = some (.new, drD (isort leNb l)) := by
  have h : szOk (l.map cD).length = true := szOk_small (by rw [List.length_map]; exact hz)
  simp only [dSortC, drD, cells_isCe, h, Bool.and_self, if_true, isort_cD]
def woB : SM := (dropS (appendG 1 (lift [2, 3] (op2 dAdd (var 2) (var 3)))))
theorem wordof_eq : m_word_of = (seqS (asgS 1 (lift [] (opN dLst []))) (seqS (forS [0] (.tp [2, 3]) (iseq (opN dSortC [(var 0)])) woB) (retS (mvG 1)))) := rfl
theorem woB_ok (d : D) (acc : List Nat) (x y : Nat) (hz : szOk (acc.map fun (k : Nat) => D.int k).length = true) : woB [.val false d, .val true (natD acc), .val false (.int (x : Nat)), .val false (.int (y : Nat))] = .nx [.val false d, .val true (natD (acc ++ [x + y])), .val false (.int (x : Nat)), .val false (.int (y : Nat))] := by
  have a : (op2 dAdd (var 2) (var 3)) [.val false d, .val true (natD acc), .val false (.int (x : Nat)), .val false (.int (y : Nat))] = .ok true (.int ((x : Int) + (y : Int))) := add_i (show var 2 _ = .ok false (.int (x : Nat)) from rfl) (show var 3 _ = .ok false (.int (y : Nat)) from rfl)
  have a2 := lift_new (ks := [2, 3]) a rfl
  simp only [natD] at a2 hz
  simp only [woB, dropS, appendG, a2, natD, Env.look, List.getElem?_cons_zero, List.getElem?_cons_succ, Sl.get, myLst, Sl.mine, hz, Bool.true_or, Bool.and_self, if_true, Sl.put, List.set]
  simp
theorem wo_loop (d : D) : ∀ (cs acc : List Nat) (s2 s3 : Sl), acc.length + cs.length ≤ 800000 → ∃ t2 t3, loopS (.tp [2, 3]) woB (cs.map cD) [.val false d, .val true (natD acc), s2, s3] = .nx [.val false d, .val true (natD (acc ++ cs.map fun c => c / 5 + c % 5)), t2, t3]
  | [], acc, s2, s3, _ => ⟨s2, s3, by simp [loopS]⟩
  | c :: cs, acc, s2, s3, hl => by
    rw [List.length_cons] at hl
    have hz : szOk (acc.map fun (k : Nat) => D.int k).length = true := szOk_small (by rw [List.length_map]; omega)
    obtain ⟨t2, t3, ih⟩ := wo_loop d cs (acc ++ [c / 5 + c % 5]) (.val false (.int ((c / 5 : Nat) : Int))) (.val false (.int ((c % 5 : Nat) : Int))) (by rw [List.length_append, List.length_singleton]; omega)
    refine ⟨t2, t3, ?_⟩
    have st := woB_ok d acc (c / 5) (c % 5) hz
    have hb : bindT (.tp [2, 3]) (cD c) [.val false d, .val true (natD acc), s2, s3] = some [.val false d, .val true (natD acc), .val false (.int ((c / 5 : Nat) : Int)), .val false (.int ((c % 5 : Nat) : Int))] := rfl
    simp only [List.map_cons, loopS, hb, st]
    rw [ih]
    simp
theorem isort_len (l : List Nat) : (isort leNb l).length = l.length := (isort_perm l).length_eq
theorem wordof_ok {dr : List Nat} (hl : dr.length ≤ 700000) : fnP 4 m_word_of [drD dr] = .ok true (natD (wordS dr)) := by
  obtain ⟨t2, t3, h⟩ := wo_loop (drD dr) (isort leNb dr) [] .emp .emp (by rw [isort_len]; simp; omega)
  refine fnP_rt (e := [.val false (drD dr), .emp, t2, t3]) ?_
  show m_word_of [.val false (drD dr), .emp, .emp, .emp] = _
  rw [wordof_eq]
  have so : (opN dSortC [(var 0)]) [.val false (drD dr), .val true (natD []), .emp, .emp] = .ok true (drD (isort leNb dr)) := opN1_new (show var 0 _ = .ok false (drD dr) from rfl) (sortC_ok (by omega))
  have hi : ∀ env : Env, (opN dSortC [(var 0)]) env = .ok true (drD (isort leNb dr)) → iseq (opN dSortC [(var 0)]) env = .ok true ((isort leNb dr).map cD) := fun env so => by simp only [iseq, so, drD]
  refine (seq_nx (show _ = SR.nx [.val false (drD dr), .val true (natD []), .emp, .emp] from rfl)).trans ((seq_nx ((for_ok (ds := (isort leNb dr).map cD) (hi _ so) (noLs_cDs _)).trans h)).trans ?_)
  rfl
theorem comp_mapA {i : Nat} {ι : I} {el : P} {env : Env} {f : Bool} {α : Type} (g e : α → D) (l : List α) (hi : ι env = .ok f (l.map g)) (hz : l.length ≤ 900000) (h : ∀ x ∈ l, el ((wipeE env [i]).set i (.val false (g x))) = .ok true (e x)) : comp [i] (.nm i) ι yesP el env = .ok true (.lst (l.map e)) := by
  have key : ∀ (l : List α), (∀ x ∈ l, el ((wipeE env [i]).set i (.val false (g x))) = .ok true (e x)) → compL (.nm i) yesP el (wipeE env [i]) (l.map g) = .ok true (l.map e) := by
    intro l
    induction l with
    | nil => intro _; rfl
    | cons x l ih =>
      intro h
      have h1 := h x List.mem_cons_self
      have h2 := ih fun y hy => h y (List.mem_cons_of_mem _ hy)
      simp only [List.map_cons, compL, bindT, yesP, h1, h2, gfl, Bool.true_or, Bool.and_self]
  have hz' : szOk (l.map g).length = true := szOk_small (by rw [List.length_map]; exact hz)
  simp only [comp, hi, hz', if_true, key l h]
theorem rg_nat (n : Nat) : rgD 0 n = (List.range n).map fun (k : Nat) => D.int k := by simp [rgD, Function.comp_def]
theorem irg {n : Nat} (n5 : n ≤ 5) {env : Env} {f : Bool} (h : var 0 env = .ok f (.int (n : Nat))) : irange1 (var 0) env = .ok true ((List.range n).map fun (k : Nat) => D.int k) := by
  have := irange1_ok h (rgSz_nat (by omega))
  rwa [show ((n : Nat) : Int).toNat = n by omega, rg_nat] at this
theorem ix1 {x : D} {k : Int} : dIx (.tup [x, .int k]) (.int 1) = some (.new, .int k) := by simp [dIx, L2.atI, L2.ixN, noL]
theorem ends_comp {F : List D → PR} {n i : Nat} {dr : List Nat} (n5 : n ≤ 5) (hF : LnF F dr n) {env : Env} {f : Bool} (h0 : var 0 env = .ok f (.int (n : Nat))) (h1 : ∀ s, ∃ f, var 1 ((wipeE env [i]).set i s) = .ok f (drD dr)) (hi : ∀ k : Nat, var i ((wipeE env [i]).set i (.val false (.int k))) = .ok false (.int k)) :
    (opN dTupOf [comp [i] (.nm i) (irange1 (var 0)) yesP (op2 dIx (callP F [(var 1), (var i)]) (cst (.int 1)))]) env = .ok true (tO (endsM n dr)) := by
  have hc := comp_mapA (i := i) (ι := irange1 (var 0)) (el := op2 dIx (callP F [(var 1), (var i)]) (cst (.int 1))) (env := env) (f := true) (fun (k : Nat) => D.int k) (fun (k : Nat) => D.int ((lnM dr k).2 : Nat)) (List.range n) (irg n5 h0) (by rw [List.length_range]; omega) (fun k hk => by
    obtain ⟨f1, h1⟩ := h1 (.val false (.int (k : Nat)))
    exact op2_new (call2 h1 (hi k) (hF k (by simpa using hk))) (cst_i _ 1) ix1)
  refine opN1_new hc ?_
  have e : ((List.range n).map fun (k : Nat) => D.int ((lnM dr k).2 : Nat)) = (endsM n dr).map .int := by simp [endsM, Function.comp_def]
  rw [e]
  simp only [dTupOf, noLs_ints, if_true, tO]
theorem ends_ok {L F : List D → PR} {n : Nat} {dr : List Nat} (n5 : n ≤ 5) (hL : L [.int (n : Nat), drD dr] = .ok true .non) (hF : LnF F dr n) : fnP 3 (b_ends L F) [.int (n : Nat), drD dr] = .ok true (tO (endsM n dr)) := by
  let E : Env := [.val false (.int (n : Nat)), .val false (drD dr), .emp]
  refine fnP_rt (e := E) ?_
  exact (seq_nx (drop_new (call2 (show var 0 E = .ok false (.int (n : Nat)) from rfl) (show var 1 E = .ok false (drD dr) from rfl) hL))).trans (ret_new (ends_comp n5 hF (env := E) rfl (fun s => ⟨false, rfl⟩) fun k => rfl))
theorem seq_rt {a b : SM} {env e : Env} {o : Bool} {d : D} (h : a env = .rt o d e) : seqS a b env = .rt o d e := by simp only [seqS, h]
def goB : Nat → List (Bool × Bool) → Option Nat
  | _, [] => none
  | 0, _ => none
  | i + 1, b :: bs => if !b.1 && !b.2 then some i else if !b.1 || !b.2 then none else goB i bs
def rgM (dr : List Nat) (j : Nat) : Nat → List (Bool × Bool)
  | 0 => []
  | i + 1 => (inM dr i j, inM dr i (j + 1)) :: rgM dr j i
def goM (dr : List Nat) (i j : Nat) : Option Nat := if inM dr i (j + 1) then none else goB i (rgM dr j i)
def opD (j : Nat) : Option Nat → D
  | some r => .tup [.int (r : Nat), .int ((j : Int) + 1)]
  | none => .non
def revN : Nat → List D
  | 0 => []
  | i + 1 => .int (i : Nat) :: revN i
def lgB : SM := (seqS (asgS 5 (lift [0, 3, 4] (op2 dIn (opN dTup [(var 4), (var 3)]) (var 0))))
  (seqS (asgS 6 (lift [0, 3, 4] (op2 dIn (opN dTup [(var 4), (op2 dAdd (var 3) (cst (.int 1)))]) (var 0))))
  (seqS (ifS (andP (notP (var 5)) (notP (var 6))) (retS (lift [3, 4] (opN dTup [(var 4), (op2 dAdd (var 3) (cst (.int 1)))]))) passS)
  (ifS (orP (notP (var 5)) (notP (var 6))) (retS (lift [] (cst .non))) passS))))
theorem lg_eq : m_ladder_goal = seqS (unpA [2, 3] (lift [1] (var 1))) (seqS (ifS (op2 dIn (opN dTup [(var 2), (op2 dAdd (var 3) (cst (.int 1)))]) (var 0)) (retS (lift [] (cst .non))) passS) (seqS (forS [2] (.nm 4) (irevR (rg1 (var 2))) lgB) (retS (lift [] (cst .non))))) := rfl
theorem in_ok {p : P} {env : Env} {dr : List Nat} {i j : Nat} {f : Bool} (hp : p env = .ok f (.tup [.int (i : Nat), .int (j : Nat)])) (h0 : var 0 env = .ok false (drD dr)) : op2 dIn p (var 0) env = .ok true (.bl (inM dr i j)) := op2_new hp h0 (dIn_ij i j dr)
theorem succ_i (j : Nat) : ((j : Int) + 1) = ((j + 1 : Nat) : Int) := by omega
theorem lgB_ok {dr : List Nat} {i j r : Nat} (s1 s2 s5 s6 : Sl) : lgB [.val false (drD dr), s1, s2, .val false (.int (j : Nat)), .val false (.int (r : Nat)), s5, s6] =
    (if !inM dr r j && !inM dr r (j + 1) then .rt true (.tup [.int (r : Nat), .int ((j : Int) + 1)]) [.val false (drD dr), s1, s2, .val false (.int (j : Nat)), .val false (.int (r : Nat)), .val true (.bl (inM dr r j)), .val true (.bl (inM dr r (j + 1)))]
     else if !inM dr r j || !inM dr r (j + 1) then .rt true .non [.val false (drD dr), s1, s2, .val false (.int (j : Nat)), .val false (.int (r : Nat)), .val true (.bl (inM dr r j)), .val true (.bl (inM dr r (j + 1)))]
     else .nx [.val false (drD dr), s1, s2, .val false (.int (j : Nat)), .val false (.int (r : Nat)), .val true (.bl (inM dr r j)), .val true (.bl (inM dr r (j + 1)))]) := by
  have a1 : asgS 5 (lift [0, 3, 4] (op2 dIn (opN dTup [(var 4), (var 3)]) (var 0))) [.val false (drD dr), s1, s2, .val false (.int (j : Nat)), .val false (.int (r : Nat)), s5, s6] = .nx [.val false (drD dr), s1, s2, .val false (.int (j : Nat)), .val false (.int (r : Nat)), .val true (.bl (inM dr r j)), s6] :=
    asg_new (in_ok (tup2_new (show var 4 _ = .ok false (.int (r : Nat)) from rfl) (show var 3 _ = .ok false (.int (j : Nat)) from rfl) rfl rfl) rfl)
  have a2 : asgS 6 (lift [0, 3, 4] (op2 dIn (opN dTup [(var 4), (op2 dAdd (var 3) (cst (.int 1)))]) (var 0))) [.val false (drD dr), s1, s2, .val false (.int (j : Nat)), .val false (.int (r : Nat)), .val true (.bl (inM dr r j)), s6] = .nx [.val false (drD dr), s1, s2, .val false (.int (j : Nat)), .val false (.int (r : Nat)), .val true (.bl (inM dr r j)), .val true (.bl (inM dr r (j + 1)))] := by
    have b := add_i (show var 3 [.val false (drD dr), s1, s2, .val false (.int (j : Nat)), .val false (.int (r : Nat)), .val true (.bl (inM dr r j)), s6] = .ok false (.int (j : Nat)) from rfl) (cst_i _ 1)
    rw [succ_i] at b
    exact asg_new (in_ok (tup2_new (show var 4 _ = .ok false (.int (r : Nat)) from rfl) b rfl rfl) rfl)
  refine (seq_nx a1).trans ((seq_nx a2).trans ?_)
  generalize inM dr r j = x
  generalize inM dr r (j + 1) = y
  cases x <;> cases y <;> rfl
theorem lg_loop {dr : List Nat} {j : Nat} (s1 s2 : Sl) : ∀ (i : Nat) (s4 s5 s6 : Sl), (∃ e, loopS (.nm 4) lgB (revN i) [.val false (drD dr), s1, s2, .val false (.int (j : Nat)), s4, s5, s6] = .rt true (opD j (goB i (rgM dr j i))) e) ∨ (goB i (rgM dr j i) = none ∧ ∃ e, loopS (.nm 4) lgB (revN i) [.val false (drD dr), s1, s2, .val false (.int (j : Nat)), s4, s5, s6] = .nx e)
  | 0, s4, s5, s6 => .inr ⟨rfl, _, rfl⟩
  | i + 1, s4, s5, s6 => by
    have hb : bindT (.nm 4) (.int (i : Nat)) [.val false (drD dr), s1, s2, .val false (.int (j : Nat)), s4, s5, s6] = some [.val false (drD dr), s1, s2, .val false (.int (j : Nat)), .val false (.int (i : Nat)), s5, s6] := rfl
    have h := lgB_ok (dr := dr) (i := i) (j := j) (r := i) s1 s2 s5 s6
    simp only [revN, loopS, hb, rgM, goB]
    by_cases c1 : (!inM dr i j && !inM dr i (j + 1)) = true
    · rw [if_pos c1] at h ⊢
      exact .inl ⟨_, by rw [h]; rfl⟩
    · rw [if_neg c1] at h ⊢
      by_cases c2 : (!inM dr i j || !inM dr i (j + 1)) = true
      · rw [if_pos c2] at h ⊢
        exact .inl ⟨_, by rw [h]; rfl⟩
      · rw [if_neg c2] at h ⊢
        rw [h]
        exact lg_loop s1 s2 i _ _ _
theorem rvk_ok {p : Env} {i : Nat} (hi : i ≤ 3) {s0 s1 s3 s4 s5 s6 : Sl} : irevR (rg1 (var 2)) [s0, s1, .val false (.int (i : Nat)), s3, s4, s5, s6] = .ok true (revN i) := by
  have : i = 0 ∨ i = 1 ∨ i = 2 ∨ i = 3 := by omega
  rcases this with rfl | rfl | rfl | rfl <;> rfl
theorem noLs_rev : ∀ i, noLs (revN i) = true
  | 0 => rfl
  | i + 1 => by simp only [revN, noLs, noL, noLs_rev i, Bool.and_self]
theorem ladder_ok {dr : List Nat} {i j : Nat} (hi : i ≤ 3) : fnP 7 m_ladder_goal [drD dr, .tup [.int (i : Nat), .int (j : Nat)]] = .ok true (opD j (goM dr i j)) := by
  suffices h : ∃ e, m_ladder_goal [.val false (drD dr), .val false (.tup [.int (i : Nat), .int (j : Nat)]), .emp, .emp, .emp, .emp, .emp] = .rt true (opD j (goM dr i j)) e by
    obtain ⟨e, h⟩ := h
    exact fnP_rt h
  rw [lg_eq]
  have a0 : unpA [2, 3] (lift [1] (var 1)) [.val false (drD dr), .val false (.tup [.int (i : Nat), .int (j : Nat)]), .emp, .emp, .emp, .emp, .emp] = .nx [.val false (drD dr), .val false (.tup [.int (i : Nat), .int (j : Nat)]), .val false (.int (i : Nat)), .val false (.int (j : Nat)), .emp, .emp, .emp] := rfl
  let E : Env := [.val false (drD dr), .val false (.tup [.int (i : Nat), .int (j : Nat)]), .val false (.int (i : Nat)), .val false (.int (j : Nat)), .emp, .emp, .emp]
  have b := add_i (show var 3 E = .ok false (.int (j : Nat)) from rfl) (cst_i _ 1)
  rw [succ_i] at b
  have c := in_ok (dr := dr) (tup2_new (show var 2 E = .ok false (.int (i : Nat)) from rfl) b rfl rfl) rfl
  rw [seq_nx a0]
  unfold goM
  cases h : inM dr i (j + 1) with
  | true =>
    rw [h] at c
    exact ⟨_, seq_rt ((if_tt c).trans rfl)⟩
  | false =>
    rw [h] at c
    rw [seq_nx (if_no c)]
    have hf := for_ok (ks := [2]) (τ := .nm 4) (m := lgB) (rvk_ok (p := E) hi (s0 := .val false (drD dr)) (s1 := .val false (.tup [.int (i : Nat), .int (j : Nat)])) (s3 := .val false (.int (j : Nat))) (s4 := .emp) (s5 := .emp) (s6 := .emp)) (noLs_rev i)
    rcases lg_loop (dr := dr) (j := j) (.val false (.tup [.int (i : Nat), .int (j : Nat)])) (.val false (.int (i : Nat))) i .emp .emp .emp with ⟨e, hl⟩ | ⟨hn, e, hl⟩
    · exact ⟨e, seq_rt (hf.trans hl)⟩
    · refine ⟨e, ?_⟩
      rw [seq_nx (hf.trans hl)]
      simp only [Bool.false_eq_true, if_false, hn]
      rfl
def bpD (z : Bool × Bool) : D := .tup [.bl z.1, .bl z.2]
def gA : SM := (asgS 4 (lift [0, 2, 3] (comp [5] (.nm 5) (irevR (rg1 (var 2))) yesP (opN dTup [(op2 dIn (opN dTup [(var 5), (var 3)]) (var 0)), (op2 dIn (opN dTup [(var 5), (op2 dAdd (var 3) (cst (.int 1)))]) (var 0))]))))
def gQ : P := (op2 dNotIn (opN dTup [(cst (.bl false)), (cst (.bl false))]) (var 4))
def gZ : SM := (seqS (asgS 6 (lift [4] (lindexP (var 4) (opN dTup [(cst (.bl false)), (cst (.bl false))]))))
  (seqS (ifS (op2 dNe (sliceP (var 4) none (some (var 6))) (op2 dMulS (opN dLst [(opN dTup [(cst (.bl true)), (cst (.bl true))])]) (var 6))) (retS (lift [] (cst .non))) passS)
  (retS (lift [2, 3, 6] (opN dTup [(op2 dSub (op2 dSub (var 2) (var 6)) (cst (.int 1))), (op2 dAdd (var 3) (cst (.int 1)))])))))
theorem gl_eq : m__law_goal = seqS (unpA [2, 3] (lift [1] (var 1))) (seqS gA (seqS (ifS (orP (op2 dIn (opN dTup [(var 2), (op2 dAdd (var 3) (cst (.int 1)))]) (var 0)) gQ) (retS (lift [] (cst .non))) passS) gZ)) := rfl
def gR : SM := seqS (ifS gQ (retS (lift [] (cst .non))) passS) gZ
def okG (j : Int) (r : SR) (o : Option Nat) : Prop := ∃ e, r = .rt true (match o with | some r => .tup [.int (r : Nat), .int (j + 1)] | none => .non) e
theorem gR_ok (s0 s1 s5 s6 : Sl) (j : Int) : ∀ (i : Nat) (bs : List (Bool × Bool)), i ≤ 3 → bs.length = i → okG j (gR [s0, s1, .val false (.int (i : Nat)), .val false (.int j), .val true (.lst (bs.map bpD)), s5, s6]) (goB i bs) := by
  intro i bs hi hl
  match i, bs, hi, hl with
  | 0, [], _, _ => exact ⟨_, rfl⟩
  | 1, [(a, b)], _, _ => cases a <;> cases b <;> exact ⟨_, rfl⟩
  | 2, [(a, b), (c, d)], _, _ => cases a <;> cases b <;> cases c <;> cases d <;> exact ⟨_, rfl⟩
  | 3, [(a, b), (c, d), (f, g)], _, _ => cases a <;> cases b <;> cases c <;> cases d <;> cases f <;> cases g <;> exact ⟨_, rfl⟩
theorem rgM_len (dr : List Nat) (j : Nat) : ∀ i, (rgM dr j i).length = i
  | 0 => rfl
  | i + 1 => by simp only [rgM, List.length_cons, rgM_len dr j i]
theorem revN_len : ∀ i, (revN i).length = i
  | 0 => rfl
  | i + 1 => by simp only [revN, List.length_cons, revN_len i]
def rowD (dr : List Nat) (j : Nat) : D → D
  | .int r => bpD (inM dr r.toNat j, inM dr r.toNat (j + 1))
  | d => d
theorem rev_map (dr : List Nat) (j : Nat) : ∀ i, (revN i).map (rowD dr j) = (rgM dr j i).map bpD
  | 0 => rfl
  | i + 1 => by
    simp only [revN, List.map_cons, rgM, rev_map dr j i]
    rfl
theorem mem_rev {d : D} : ∀ {i : Nat}, d ∈ revN i → ∃ r : Nat, d = .int (r : Nat)
  | 0, h => by cases h
  | i + 1, h => by
    rcases List.mem_cons.mp h with h | h
    · exact ⟨i, h⟩
    · exact mem_rev h
theorem gA_ok {dr : List Nat} {i j : Nat} (hi : i ≤ 3) (s1 s4 s5 s6 : Sl) : gA [.val false (drD dr), s1, .val false (.int (i : Nat)), .val false (.int (j : Nat)), s4, s5, s6] = .nx [.val false (drD dr), s1, .val false (.int (i : Nat)), .val false (.int (j : Nat)), .val true (.lst ((rgM dr j i).map bpD)), s5, s6] := by
  have hc := comp_map (i := 5) (ι := irevR (rg1 (var 2))) (el := (opN dTup [(op2 dIn (opN dTup [(var 5), (var 3)]) (var 0)), (op2 dIn (opN dTup [(var 5), (op2 dAdd (var 3) (cst (.int 1)))]) (var 0))])) (env := [.val false (drD dr), s1, .val false (.int (i : Nat)), .val false (.int (j : Nat)), s4, s5, s6]) (rowD dr j) (rvk_ok (p := []) hi) (szOk_small (by rw [revN_len]; omega)) (fun d hd => by
    obtain ⟨r, rfl⟩ := mem_rev hd
    let E : Env := [.val false (drD dr), s1, .val false (.int (i : Nat)), .val false (.int (j : Nat)), s4, .val false (.int (r : Nat)), s6]
    have b := add_i (show var 3 E = .ok false (.int (j : Nat)) from rfl) (cst_i _ 1)
    rw [succ_i] at b
    have h1 := in_ok (dr := dr) (tup2_new (show var 5 E = .ok false (.int (r : Nat)) from rfl) (show var 3 E = .ok false (.int (j : Nat)) from rfl) rfl rfl) rfl
    have h2 := in_ok (dr := dr) (tup2_new (show var 5 E = .ok false (.int (r : Nat)) from rfl) b rfl rfl) rfl
    exact ⟨true, tup2_new h1 h2 rfl rfl, rfl⟩)
  rw [rev_map] at hc
  exact asg_new hc
theorem lawgoal_ok {dr : List Nat} {i j : Nat} (hi : i ≤ 3) : fnP 7 m__law_goal [drD dr, .tup [.int (i : Nat), .int (j : Nat)]] = .ok true (opD j (goM dr i j)) := by
  suffices h : ∃ e, m__law_goal [.val false (drD dr), .val false (.tup [.int (i : Nat), .int (j : Nat)]), .emp, .emp, .emp, .emp, .emp] = .rt true (opD j (goM dr i j)) e by
    obtain ⟨e, h⟩ := h
    exact fnP_rt h
  rw [gl_eq]
  have a0 : unpA [2, 3] (lift [1] (var 1)) [.val false (drD dr), .val false (.tup [.int (i : Nat), .int (j : Nat)]), .emp, .emp, .emp, .emp, .emp] = .nx [.val false (drD dr), .val false (.tup [.int (i : Nat), .int (j : Nat)]), .val false (.int (i : Nat)), .val false (.int (j : Nat)), .emp, .emp, .emp] := rfl
  rw [seq_nx a0, seq_nx (gA_ok hi _ _ _ _)]
  let E : Env := [.val false (drD dr), .val false (.tup [.int (i : Nat), .int (j : Nat)]), .val false (.int (i : Nat)), .val false (.int (j : Nat)), .val true (.lst ((rgM dr j i).map bpD)), .emp, .emp]
  have b := add_i (show var 3 E = .ok false (.int (j : Nat)) from rfl) (cst_i _ 1)
  rw [succ_i] at b
  have c := in_ok (dr := dr) (tup2_new (show var 2 E = .ok false (.int (i : Nat)) from rfl) b rfl rfl) rfl
  unfold goM
  cases h : inM dr i (j + 1) with
  | true =>
    rw [h] at c
    have c2 : (orP (op2 dIn (opN dTup [(var 2), (op2 dAdd (var 3) (cst (.int 1)))]) (var 0)) gQ) E = .ok true (.bl true) := by simp [orP, c, PR.bind]
    exact ⟨_, seq_rt ((if_tt c2).trans rfl)⟩
  | false =>
    rw [h] at c
    obtain ⟨e, he⟩ := gR_ok (.val false (drD dr)) (.val false (.tup [.int (i : Nat), .int (j : Nat)])) .emp .emp (j : Nat) i (rgM dr j i) hi (rgM_len _ _ _)
    refine ⟨e, ?_⟩
    have q : (seqS (ifS (orP (op2 dIn (opN dTup [(var 2), (op2 dAdd (var 3) (cst (.int 1)))]) (var 0)) gQ) (retS (lift [] (cst .non))) passS) gZ) E = gR E := by
      simp only [gR, seqS, ifS, or_ff c]
    refine q.trans (he.trans ?_)
    rw [if_neg (by decide)]
    generalize goB i (rgM dr j i) = q
    cases q <;> rfl
def lB (G : List D → PR) : SM := (seqS (asgS 3 (lift [0, 2] (callP G [(var 0), (var 2)])))
  (ifS (op2 dIsNot (var 3) (cst .non)) (dropS (appendG 1 (lift [0, 2, 3] (opN (dSortR false) [(op2 dAdd (comp [4] (.nm 4) (iseq (var 0)) (op2 dNe (var 4) (var 2)) (var 4)) (opN dLst [(var 3)]))])))) passS))
def ladB (G : List D → PR) : SM := (seqS (asgS 1 (lift [] (opN dLst [])))
  (seqS (forS [0] (.nm 2) (iseq (var 0)) (lB G))
  (retS (linG (dSortR false) [(.ex (mvG 1))]))))
def goC (dr : List Nat) (c : Nat) : Option Nat := (goM dr (c / 5) (c % 5)).map fun r => 5 * r + (c % 5 + 1)
def ocD : Option Nat → D
  | some g => cD g
  | none => .non
theorem op_oc {dr : List Nat} {c : Nat} (h : c % 5 ≤ 3) : opD (c % 5) (goM dr (c / 5) (c % 5)) = ocD (goC dr c) := by
  unfold goC
  cases goM dr (c / 5) (c % 5) with
  | none => rfl
  | some r =>
    simp only [opD, Option.map_some, ocD]
    rw [← cD_pair (i := r) (j := c % 5 + 1) (by omega)]
    rfl
theorem cD_tup (c : Nat) : cD c = .tup [.int ((c / 5 : Nat) : Int), .int ((c % 5 : Nat) : Int)] := rfl
def Small (dr : List Nat) : Prop := ∀ c ∈ dr, c / 5 ≤ 3 ∧ c % 5 ≤ 3
theorem goal1 {dr : List Nat} (hs : Small dr) {c : Nat} (h : c ∈ dr) : fnP 7 m_ladder_goal [drD dr, cD c] = .ok true (ocD (goC dr c)) := by
  rw [← op_oc (hs c h).2, cD_tup]
  exact ladder_ok (hs c h).1
theorem goal2 {dr : List Nat} (hs : Small dr) {c : Nat} (h : c ∈ dr) : fnP 7 m__law_goal [drD dr, cD c] = .ok true (ocD (goC dr c)) := by
  rw [← op_oc (hs c h).2, cD_tup]
  exact lawgoal_ok (hs c h).1
def newL (dr : List Nat) (c g : Nat) : List Nat := srtM (dr.filter (fun x => decide (x ≠ c)) ++ [g])
def ladL (dr : List Nat) : List Nat → List (List Nat)
  | [] => []
  | c :: cs => match goC dr c with
    | some g => newL dr c g :: ladL dr cs
    | none => ladL dr cs
theorem dNe_c (a b : Nat) : dNe (cD a) (cD b) = some (.new, .bl (decide (a ≠ b))) := by
  have := dNe_tupI (cK a) (cK b)
  refine Eq.trans this ?_
  congr 3
  by_cases h : a = b
  · subst h; simp
  · rw [decide_eq_false fun z => h (cK_inj z), decide_eq_true h]; rfl
theorem app_ok' {i : Nat} {ks : List Nat} {p : P} {env : Env} {xs : List D} {d : D} (h : p env = .ok true d) (hi : env[i]? = some (.val true (.lst xs))) (hz : xs.length ≤ 800) : dropS (appendG i (lift ks p)) env = .nx (env.set i (.val true (.lst (xs ++ [d])))) := by
  have hz' : szOk xs.length = true := szOk_small (by omega)
  have hz2 : szOk (xs.length + 1) = true := szOk_small (by omega)
  have hk : env.look i = some (.lst xs) := by simp [Env.look, hi, Sl.get]
  simp [dropS, appendG, lift_new h rfl, myLst, hi, hk, hz', hz2, Sl.mine, Sl.put]
theorem new_ok {dr : List Nat} {c g : Nat} (hl : dr.length ≤ 100) (s1 s4 : Sl) : (opN (dSortR false) [(op2 dAdd (comp [4] (.nm 4) (iseq (var 0)) (op2 dNe (var 4) (var 2)) (var 4)) (opN dLst [(var 3)]))]) [.val false (drD dr), s1, .val false (cD c), .val true (cD g), s4] = .ok true (drD (newL dr c g)) := by
  let E : Env := [.val false (drD dr), s1, .val false (cD c), .val true (cD g), s4]
  have hcl : ∀ cs : List Nat, compL (.nm 4) (op2 dNe (var 4) (var 2)) (var 4) (wipeE E [4]) (cs.map cD) = .ok true ((cs.filter fun x => decide (x ≠ c)).map cD) := fun cs => by
    induction cs with
    | nil => rfl
    | cons a cs ih =>
      have h1 : op2 dNe (var 4) (var 2) ((wipeE E [4]).set 4 (.val false (cD a))) = .ok true (.bl (decide (a ≠ c))) := op2_new (show var 4 _ = .ok false (cD a) from rfl) (show var 2 _ = .ok false (cD c) from rfl) (dNe_c a c)
      have h2 : var 4 ((wipeE E [4]).set 4 (.val false (cD a))) = .ok false (cD a) := rfl
      have h4 : gfl false (cD a) = true := by simp [gfl, noL_cD]
      simp only [List.map_cons, compL, bindT, h1]
      cases hc : decide (a ≠ c) with
      | false => simp only [ih, List.filter_cons, hc]; rfl
      | true => simp only [h2, ih, h4, List.filter_cons, hc, Bool.and_self, if_true, List.map_cons]
  have hc : comp [4] (.nm 4) (iseq (var 0)) (op2 dNe (var 4) (var 2)) (var 4) E = .ok true (drD (dr.filter fun x => decide (x ≠ c))) := by
    have hi : iseq (var 0) E = .ok false (dr.map cD) := rfl
    have hz : szOk (dr.map cD).length = true := szOk_small (by rw [List.length_map]; omega)
    simp only [comp, hi, hz, if_true, hcl dr]
    rfl
  have hd : (opN dLst [(var 3)]) E = .ok true (.lst [cD g]) := by
    have e : dLst [cD g] = some (.lin, .lst [cD g]) := rfl
    simp only [opN, CB.args, show var 3 E = .ok false (cD g) from rfl, AR.bind, e, Kd.fl, gfl, noL_cD, Bool.or_true, Bool.and_self]
  have ha : dAdd (drD (dr.filter fun x => decide (x ≠ c))) (.lst [cD g]) = some (.new, drD (dr.filter (fun x => decide (x ≠ c)) ++ [g])) := by
    have hz : szOk (((dr.filter fun x => decide (x ≠ c)).map cD).length + [cD g].length) = true := szOk_small (by
      have := List.length_filter_le (fun x => decide (x ≠ c)) dr
      simp only [List.length_map, List.length_cons, List.length_nil]; omega)
    have hn : noLs [cD g] = true := noLs_cDs [g]
    simp only [drD, dAdd, hz, if_true, noLs_cDs, hn, Bool.and_self]
    simp
  exact opN1_new (op2_new hc hd ha) (sort_cD (by
    have := List.length_filter_le (fun x => decide (x ≠ c)) dr
    simp only [List.length_append, List.length_cons, List.length_nil]; omega))

theorem lB_ok {G : List D → PR} {dr : List Nat} {c : Nat} {L : List (List Nat)} (hl : dr.length ≤ 100) (hL : L.length ≤ 700) (hG : G [drD dr, cD c] = .ok true (ocD (goC dr c))) (s3 s4 : Sl) : ∃ t3, lB G [.val false (drD dr), .val true (.lst (L.map drD)), .val false (cD c), s3, s4] = .nx [.val false (drD dr), .val true (.lst ((L ++ (match goC dr c with | some g => [newL dr c g] | none => [])).map drD)), .val false (cD c), t3, s4] := by
  have a1 : asgS 3 (lift [0, 2] (callP G [(var 0), (var 2)])) [.val false (drD dr), .val true (.lst (L.map drD)), .val false (cD c), s3, s4] = .nx [.val false (drD dr), .val true (.lst (L.map drD)), .val false (cD c), .val true (ocD (goC dr c)), s4] :=
    asg_new (call2 (show var 0 _ = .ok false (drD dr) from rfl) (show var 2 _ = .ok false (cD c) from rfl) hG)
  refine ⟨.val true (ocD (goC dr c)), (seq_nx a1).trans ?_⟩
  cases goC dr c with
  | none =>
    have h : op2 dIsNot (var 3) (cst .non) [.val false (drD dr), .val true (.lst (L.map drD)), .val false (cD c), .val true (ocD none), s4] = .ok true (.bl false) := op2_new (show var 3 _ = .ok false .non from rfl) (show cst .non _ = .ok true .non from rfl) rfl
    simp only [List.append_nil]
    exact if_no h
  | some g =>
    have h : op2 dIsNot (var 3) (cst .non) [.val false (drD dr), .val true (.lst (L.map drD)), .val false (cD c), .val true (cD g), s4] = .ok true (.bl true) := op2_new (show var 3 _ = .ok false (cD g) from rfl) (show cst .non _ = .ok true .non from rfl) rfl
    refine (if_tt h).trans ?_
    have := app_ok' (i := 1) (ks := [0, 2, 3]) (xs := L.map drD) (new_ok (dr := dr) (c := c) (g := g) hl (.val true (.lst (L.map drD))) s4) rfl (by rw [List.length_map]; omega)
    refine this.trans ?_
    simp only [List.map_append, List.map_cons, List.map_nil]
    rfl
theorem lad_loop {G : List D → PR} {dr : List Nat} (hl : dr.length ≤ 100) (s4 : Sl) : ∀ (cs : List Nat) (L : List (List Nat)) (s2 s3 : Sl), (∀ c ∈ cs, G [drD dr, cD c] = .ok true (ocD (goC dr c))) → L.length + cs.length ≤ 700 → ∃ t2 t3, loopS (.nm 2) (lB G) (cs.map cD) [.val false (drD dr), .val true (.lst (L.map drD)), s2, s3, s4] = .nx [.val false (drD dr), .val true (.lst ((L ++ ladL dr cs).map drD)), t2, t3, s4]
  | [], L, s2, s3, _, _ => ⟨_, _, by simp only [ladL, List.append_nil]; rfl⟩
  | c :: cs, L, s2, s3, hG, hn => by
    simp only [List.length_cons] at hn
    obtain ⟨t3, h⟩ := lB_ok (G := G) (dr := dr) (c := c) (L := L) hl (by omega) (hG c List.mem_cons_self) s3 s4
    obtain ⟨u2, u3, h2⟩ := lad_loop hl s4 cs (L ++ (match goC dr c with | some g => [newL dr c g] | none => [])) (.val false (cD c)) t3 (fun d hd => hG d (List.mem_cons_of_mem _ hd)) (by
      have : (match goC dr c with | some g => [newL dr c g] | none => []).length ≤ 1 := by cases goC dr c <;> simp
      rw [List.length_append]; omega)
    refine ⟨u2, u3, ?_⟩
    have hb : bindT (.nm 2) (cD c) [.val false (drD dr), .val true (.lst (L.map drD)), s2, s3, s4] = some [.val false (drD dr), .val true (.lst (L.map drD)), .val false (cD c), s3, s4] := rfl
    simp only [List.map_cons, loopS, hb, h]
    refine h2.trans ?_
    simp only [ladL]
    cases goC dr c <;> simp
theorem alike_c : ∀ a b : List Nat, PySem.W.alikeAll (a.map fun c => dat (cD c)) (b.map fun c => dat (cD c)) = true
  | [], _ => by simp [PySem.W.alikeAll]
  | _ :: _, [] => by simp [PySem.W.alikeAll]
  | x :: xs, y :: ys => by
    simp only [List.map_cons, PySem.W.alikeAll, alike_c xs ys, Bool.and_true]
    rw [show dat (cD x) = .tuple ((cK x).map .int) from dat_tO _, show dat (cD y) = .tuple ((cK y).map .int) from dat_tO _]
    simp only [PySem.W.alike]
    exact PySem.W.alike_ints _ _
theorem dat_drD (l : List Nat) : dat (drD l) = .list (l.map fun c => dat (cD c)) := by
  simp only [drD, dat, dats_map, List.map_map]
  rfl
theorem sortOk_dr (L : List (List Nat)) (hz : L.length ≤ 900) : sortOk (L.map drD) = true := by
  have hs : szOk (L.map drD).length = true := szOk_small (by rw [List.length_map]; omega)
  have ed : dats (L.map drD) = L.map fun l => dat (drD l) := by rw [dats_map, List.map_map]; rfl
  unfold sortOk
  rw [hs, Bool.and_true, ed]
  have h1 : alikeB (L.map fun l => dat (drD l)) = true := by
    refine List.all_eq_true.mpr fun d hd => List.all_eq_true.mpr fun d' hd' => ?_
    obtain ⟨a, _, rfl⟩ := List.mem_map.mp hd
    obtain ⟨b, _, rfl⟩ := List.mem_map.mp hd'
    rw [dat_drD, dat_drD]
    simp only [PySem.W.alike]
    exact alike_c a b
  have h2 : sortB (L.map fun l => dat (drD l)) = true := by
    unfold sortB
    rw [Bool.or_eq_true]
    refine .inr (List.all_eq_true.mpr fun d hd => ?_)
    obtain ⟨a, _, rfl⟩ := List.mem_map.mp hd
    rw [dat_drD]
  have h3 : depB (L.map fun l => dat (drD l)) = true := by
    refine List.all_eq_true.mpr fun d hd => ?_
    obtain ⟨a, _, rfl⟩ := List.mem_map.mp hd
    have := lay_drD a
    rw [this.1, Bool.and_true]
    exact decide_eq_true (Nat.le_trans this.2 (by decide))
  rw [h1, h2, h3]; rfl
def srL (L : List (List Nat)) : List D := isort (leD false) (L.map drD)
theorem sort_dr (L : List (List Nat)) (hz : L.length ≤ 900) : ∃ k, (k = .new ∨ k = .lin) ∧ dSortR false [.lst (L.map drD)] = some (k, .lst (srL L)) := by
  cases L with
  | nil => exact ⟨.new, .inl rfl, rfl⟩
  | cons a L =>
    have e : toInts ((a :: L).map drD) = none := rfl
    have h := sortOk_dr (a :: L) hz
    refine ⟨.lin, .inr rfl, ?_⟩
    have hn : noLs ((a :: L).map drD) = false := rfl
    simp only [dSortR, seqOf, e, h, if_true, hn]
    rfl
theorem for_any {ks : List Nat} {τ : Tgt} {ι : I} {m : SM} {env : Env} {ds : List D} (h : ∃ f, ι env = .ok f ds) (h2 : ∃ f, ι (hide ks 0 env) = .ok f ds) : ∃ env', (env' = env ∨ env' = demK ks env) ∧ forS ks τ ι m env = loopS τ m ds env' := by
  obtain ⟨f, h⟩ := h
  obtain ⟨f2, h2⟩ := h2
  cases hf : f && noLs ds with
  | true => exact ⟨env, .inl rfl, by simp only [forS, h, hf, if_true]⟩
  | false => exact ⟨demK ks env, .inr rfl, by simp only [forS, h, h2, hf]; rfl⟩
theorem lad_ok {G : List D → PR} {dr : List Nat} (hl : dr.length ≤ 100) (hG : ∀ c ∈ dr, G [drD dr, cD c] = .ok true (ocD (goC dr c))) : fnP 5 (ladB G) [drD dr] = .ok true (.lst (srL (ladL dr dr))) := by
  suffices h : ∃ e, ladB G [.val false (drD dr), .emp, .emp, .emp, .emp] = .rt true (.lst (srL (ladL dr dr))) e by
    obtain ⟨e, h⟩ := h
    exact fnP_rt h
  have a1 : asgS 1 (lift [] (opN dLst [])) [.val false (drD dr), .emp, .emp, .emp, .emp] = .nx [.val false (drD dr), .val true (.lst []), .emp, .emp, .emp] := rfl
  obtain ⟨t2, t3, h⟩ := lad_loop (G := G) hl .emp dr [] .emp .emp hG (by simp; omega)
  rw [List.nil_append] at h
  have hf : forS [0] (.nm 2) (iseq (var 0)) (lB G) [.val false (drD dr), .val true (.lst []), .emp, .emp, .emp] = loopS (.nm 2) (lB G) (dr.map cD) [.val false (drD dr), .val true (.lst []), .emp, .emp, .emp] := by
    obtain ⟨e', he, hf⟩ := for_any (ks := [0]) (τ := .nm 2) (ι := iseq (var 0)) (m := lB G) (env := [.val false (drD dr), .val true (.lst []), .emp, .emp, .emp]) (ds := dr.map cD) ⟨_, rfl⟩ ⟨_, rfl⟩
    rw [hf]
    rcases he with q | q <;> rw [q] <;> rfl
  obtain ⟨k, hk, hs⟩ := sort_dr (ladL dr dr) (by
    have : ∀ cs, (ladL dr cs).length ≤ cs.length := fun cs => by
      induction cs with
      | nil => exact Nat.le_refl _
      | cons c cs ih =>
        simp only [ladL, List.length_cons]
        cases goC dr c with
        | none => simp only; omega
        | some g => simp only [List.length_cons]; omega
    have := this dr; omega)
  have a3 : retS (linG (dSortR false) [(.ex (mvG 1))]) [.val false (drD dr), .val true (.lst ((ladL dr dr).map drD)), t2, t3, .emp] = .rt true (.lst (srL (ladL dr dr))) [.val false (drD dr), .emp, t2, t3, .emp] := by
    have hm : mvG 1 [.val false (drD dr), .val true (.lst ((ladL dr dr).map drD)), t2, t3, .emp] = .ok true (.lst ((ladL dr dr).map drD)) [.val false (drD dr), .emp, t2, t3, .emp] := rfl
    rcases hk with rfl | rfl <;> simp [retS, linG, argsG, hm, ownU, valsU, hs, gfl]
  exact ⟨_, (seq_nx a1).trans ((seq_nx (hf.trans h)).trans a3)⟩
theorem pick_dr {P : List Nat → Prop} : ∀ xs : List D, (∀ d ∈ xs, ∃ l, P l ∧ d = drD l) → ∃ L' : List (List Nat), xs = L'.map drD ∧ ∀ l ∈ L', P l
  | [], _ => ⟨[], rfl, fun l h => nomatch h⟩
  | x :: xs, h => by
    obtain ⟨l, hp, e⟩ := h x List.mem_cons_self
    obtain ⟨L', e', h'⟩ := pick_dr xs fun d hd => h d (List.mem_cons_of_mem _ hd)
    exact ⟨l :: L', by rw [e, e']; rfl, fun m hm => by
      rcases List.mem_cons.mp hm with q | q
      · rw [q]; exact hp
      · exact h' m q⟩
theorem sr_map (L : List (List Nat)) : ∃ L' : List (List Nat), srL L = L'.map drD ∧ L'.length = L.length ∧ ∀ l ∈ L', l ∈ L := by
  have hp := isort_perm (le := leD false) (L.map drD)
  obtain ⟨L', e, h⟩ := pick_dr (P := fun l => l ∈ L) (srL L) fun d hd => by
    obtain ⟨l, hl, e⟩ := List.mem_map.mp ((hp.mem_iff (a := d)).mp hd)
    exact ⟨l, hl, e.symm⟩
  refine ⟨L', e, ?_, h⟩
  have := hp.length_eq
  rw [show isort (leD false) (L.map drD) = srL L from rfl, e, List.length_map, List.length_map] at this
  exact this
def acB (W : List D → PR) : SM := (ifS (orP (notP (op1 (isT "tuple") (var 1))) (notP (opN dAll [(comp [2] (.nm 2) (iseq (var 1)) yesP (callP W [(var 2)]))]))) (retS (lift [] (cst (.bl false)))) passS)
theorem ac_eq (W : List D → PR) : b__law_are_cells W = seqS (ifS (notP (op1 (isT "list") (var 0))) (retS (lift [] (cst (.bl false)))) passS) (seqS (forS [0] (.nm 1) (iseq (var 0)) (acB W)) (retS (lift [] (cst (.bl true))))) := rfl
theorem acB_ok {W : List D → PR} (hW : ∀ y : Int, W [.int y] = .ok true (.bl true)) (c : Nat) (s0 s2 : Sl) : acB W [s0, .val false (cD c), s2] = .nx [s0, .val false (cD c), s2] := by
  have t : op1 (isT "tuple") (var 1) [s0, .val false (cD c), s2] = .ok true (.bl true) := rfl
  have h := all_map (xs := (cK c).map D.int) (fun _ => true) (i := 2) (ι := iseq (var 1)) (el := callP W [(var 2)]) (env := [s0, .val false (cD c), s2]) (f := true) rfl (szOk_small (by simp [cK])) (fun d hd => by
    obtain ⟨y, _, rfl⟩ := List.mem_map.mp hd
    exact ⟨true, call1 (show var 2 _ = .ok false (.int y) from rfl) (hW y)⟩)
  rw [show ((cK c).map D.int).all (fun _ => true) = true by simp] at h
  exact if_no ((or_ff (not_ok t)).trans (not_ok h))
theorem ac_ok {W : List D → PR} (hW : ∀ y : Int, W [.int y] = .ok true (.bl true)) (l : List Nat) : fnP 3 (b__law_are_cells W) [drD l] = .ok true (.bl true) := by
  obtain ⟨e', he, hf⟩ := for_any (ks := [0]) (τ := .nm 1) (ι := iseq (var 0)) (m := acB W) (env := [.val false (drD l), .emp, .emp]) (ds := l.map cD) ⟨_, rfl⟩ ⟨_, rfl⟩
  have he' : e' = [.val false (drD l), .emp, .emp] := by rcases he with h | h <;> exact h.trans rfl
  subst he'
  obtain ⟨e, k, t1, t2, rfl⟩ := loop_inv (τ := .nm 1) (m := acB W) (ds := l.map cD) (fun env => ∃ t1 t2, env = [.val false (drD l), t1, t2]) (fun d hd env ⟨t1, t2, he⟩ => by
    obtain ⟨c, _, rfl⟩ := List.mem_map.mp hd
    subst he
    exact ⟨_, _, rfl, acB_ok hW c _ t2, _, _, rfl⟩) [.val false (drD l), .emp, .emp] ⟨_, _, rfl⟩
  refine fnP_rt (e := [.val false (drD l), t1, t2]) ?_
  show b__law_are_cells W [.val false (drD l), .emp, .emp] = _
  rw [ac_eq]
  exact (seq_nx (if_no (f := true) rfl)).trans ((seq_nx (hf.trans k)).trans rfl)
theorem cells_small : ∀ n, n ≤ 5 → ∀ c ∈ cellsM n, c / 5 ≤ 3 ∧ c % 5 ≤ 3 := fun n h => by
  have : n = 0 ∨ n = 1 ∨ n = 2 ∨ n = 3 ∨ n = 4 ∨ n = 5 := by omega
  rcases this with rfl | rfl | rfl | rfl | rfl | rfl <;> decide
theorem pw_len {N : Nat} : ∀ (l : List Nat) (a : Nat), l.Pairwise (· < ·) → (∀ c ∈ l, a ≤ c ∧ c < N) → a ≤ N → l.length + a ≤ N
  | [], a, _, _, h => by simpa using h
  | b :: l, a, h, hm, _ => by
    have h1 := hm b List.mem_cons_self
    have h2 := List.pairwise_cons.mp h
    have := pw_len l (b + 1) h2.2 (fun c hc => ⟨h2.1 c hc, (hm c (List.mem_cons_of_mem _ hc)).2⟩) (by omega)
    simp only [List.length_cons]; omega
theorem DrC.len {n : Nat} (n5 : n ≤ 5) {dr : List Nat} (h : DrC n dr) : dr.length ≤ 20 := by
  have := pw_len (N := 20) dr 0 h.pw (fun c hc => ⟨Nat.zero_le _, by have := cells_small n n5 c (h.mem c hc); omega⟩) (by omega)
  omega
theorem srtM_len (l : List Nat) : (srtM l).length = l.length := (isort_perm l).length_eq
theorem ladL_len (dr : List Nat) : ∀ cs, (ladL dr cs).length ≤ cs.length ∧ ∀ l ∈ ladL dr cs, l.length ≤ dr.length + 1
  | [] => ⟨Nat.le_refl _, fun l h => nomatch h⟩
  | c :: cs => by
    obtain ⟨h1, h2⟩ := ladL_len dr cs
    simp only [ladL, List.length_cons]
    cases goC dr c with
    | none => exact ⟨by simp only; omega, h2⟩
    | some g =>
      refine ⟨by simp only [List.length_cons]; omega, fun l hl => ?_⟩
      rcases List.mem_cons.mp hl with q | q
      · rw [q, newL, srtM_len]
        have := List.length_filter_le (fun x => decide (x ≠ c)) dr
        simp only [List.length_append, List.length_cons, List.length_nil]; omega
      · exact h2 l q
theorem ladders_ok {n : Nat} (n1 : 1 ≤ n) (n5 : n ≤ 5) {dr : List Nat} (h : DrC n dr) : fnP 2 m_ladders [.int (n : Nat), drD dr] = .ok true (.lst (srL (ladL dr dr))) := by
  have hl := h.len n5
  have hs : Small dr := fun c hc => cells_small n n5 c (h.mem c hc)
  have h1 : fnP 5 m_ladders_of [drD dr] = .ok true (.lst (srL (ladL dr dr))) := lad_ok (G := fnP 7 m_ladder_goal) (by omega) fun c hc => goal1 hs hc
  refine fnP_rt (e := [.val false (.int (n : Nat)), .val false (drD dr)]) ?_
  exact (seq_nx (drop_new (call2 (show var 0 _ = .ok false (.int (n : Nat)) from rfl) (show var 1 _ = .ok false (drD dr) from rfl) (look_ok n1 n5 h hl)))).trans (ret_new (call1 (show var 1 _ = .ok false (drD dr) from rfl) h1))
theorem lawlad_ok {n : Nat} (n5 : n ≤ 5) {dr : List Nat} (h : DrC n dr) : fnP 5 m__law_ladders [drD dr] = .ok true (.lst (srL (ladL dr dr))) :=
  lad_ok (G := fnP 7 m__law_goal) (by have := h.len n5; omega) fun c hc => goal2 (fun c hc => cells_small n n5 c (h.mem c hc)) hc
theorem arec_ok (l : List Nat) : fnP 3 m__law_are_cells [drD l] = .ok true (.bl true) := ac_ok (fun _ => rfl) l
def cds : List D → Option (List Nat)
  | [] => some []
  | .tup [.int i, .int j] :: xs => if decide (0 ≤ i) && decide (0 ≤ j) && decide (j < 5) then (match cds xs with
    | some l => some ((5 * i.toNat + j.toNat) :: l)
    | none => none) else none
  | _ :: _ => none
theorem cds_of : ∀ {xs : List D} {l : List Nat}, cds xs = some l → xs = l.map cD
  | [], l, h => by cases h; rfl
  | x :: xs, l, h => by
    unfold cds at h
    split at h
    · cases ‹_ :: _ = _›
    · rename_i i j xs' heq
      cases heq
      split at h
      · rename_i hc
        simp only [Bool.and_eq_true, decide_eq_true_eq] at hc
        split at h
        · rename_i l' hl
          cases h
          rw [List.map_cons, ← cds_of hl, ← cD_pair (i := i.toNat) (j := j.toNat) (by omega)]
          rw [show ((i.toNat : Nat) : Int) = i by omega, show ((j.toNat : Nat) : Int) = j by omega]
        · cases h
      · cases h
    · cases h
def okC : PR → Option (List Nat)
  | .ok true (.lst xs) => cds xs
  | _ => none
theorem okC_of {r : PR} {l : List Nat} (h : okC r = some l) : r = .ok true (drD l) := by
  unfold okC at h
  split at h
  · rw [cds_of h]; rfl
  · cases h
def pwB : List Nat → Bool
  | a :: b :: l => Nat.blt a b && pwB (b :: l)
  | _ => true
theorem pwB_of : ∀ {l : List Nat}, pwB l = true → l.Pairwise (· < ·)
  | [], _ => .nil
  | [a], _ => List.pairwise_singleton _ _
  | a :: b :: l, h => by
    simp only [pwB, Bool.and_eq_true, Nat.blt_eq] at h
    have ih := pwB_of h.2
    refine .cons (fun c hc => ?_) ih
    rcases List.mem_cons.mp hc with q | q
    · rw [q]; exact h.1
    · exact Nat.lt_trans h.1 ((List.pairwise_cons.mp ih).1 c q)
theorem and_of {a b : Bool} (h : (a && b) = true) : a = true ∧ b = true := by
  rw [Bool.and_eq_true] at h; exact h
def TakeG (T : List D → RR) : Prop := ∀ c n : Int, 0 < n → n.natAbs.log2 < 9000 → T [.lst [.int c], .int n] = .ok true (.int (c % n)) (.lst [.int (c / n)])
theorem takeG : TakeG (fnR 3 0 m__law_take) := fun c n h0 hl => by
  simp [fnR, m__law_take, startR, startE, seqS, asgS, lift, op2, var, cst, PR.bind, Env.look, Sl.get, dMod, dDiv, dIx, L2.atI, L2.ixN, gfl, noL, noLs, Kd.fl, h0, hl, setiS, myLst, Sl.mine, Sl.put, retS, mvG, endR]
theorem log_lt {n : Int} {b : Nat} (h : n.natAbs < 2 ^ b) (hb : 0 < b) : n.natAbs.log2 < b := by
  by_cases h0 : n.natAbs = 0
  · rw [h0]; simpa [Nat.log2_zero] using hb
  · exact (Nat.log2_lt h0).2 h
theorem TakeG.nat {T : List D → RR} (hT : TakeG T) (c : Int) (n : Nat) (h0 : 0 < n) (h1 : n < 1000000) : ∃ i, i < n ∧ ∃ c', T [.lst [.int c], .int (n : Nat)] = .ok true (.int (i : Nat)) (.lst [.int c']) := by
  refine ⟨(c % n).toNat, ?_, c / n, ?_⟩
  · have := Int.emod_lt_of_pos c (show (0 : Int) < n by omega)
    have := Int.emod_nonneg c (show (n : Int) ≠ 0 by omega)
    omega
  · have := Int.emod_nonneg c (show (n : Int) ≠ 0 by omega)
    have h := hT c n (by omega) (by have := log_lt (n := (n : Int)) (b := 20) (by omega) (by decide); omega)
    rw [h]
    congr 2
    omega
theorem TakeG.big {T : List D → RR} (hT : TakeG T) (c : Int) (n : Nat) (h0 : 0 < n) (h1 : n < 2 ^ 200) : ∃ v : Int, 0 ≤ v ∧ v < n ∧ ∃ c', T [.lst [.int c], .int (n : Nat)] = .ok true (.int v) (.lst [.int c']) :=
  ⟨c % n, Int.emod_nonneg _ (by omega), Int.emod_lt_of_pos _ (by omega), c / n, hT c n (by omega) (Nat.lt_trans (log_lt (n := (n : Int)) (b := 200) (by rw [Int.natAbs_natCast]; exact h1) (by decide)) (by decide))⟩
theorem call_take {T : List D → RR} {i : Nat} {ks : List Nat} {p : P} {env env' : Env} {c c' : Int} {n d : D} {s s' : Sl} (hi : env[i]? = some s) (hm : s.mine = some (.lst [.int c])) (hp : p env = .ok true n) (hT : T [.lst [.int c], n] = .ok true d (.lst [.int c'])) (hs : s' = s.put (.lst [.int c'])) (he : env' = env.set i s') (hn : noL n = true) (hd : noL d = true) :
    callR 0 i 2 T [(.vr i), (.ex (lift ks p))] env = .ok true d env' := by
  subst hs he
  have hl : Env.look env i = some (.lst [.int c]) := by
    unfold Env.look
    rw [hi]
    cases s with
    | emp => cases hm
    | pin => cases hm
    | top xs => cases hm
    | val o d => cases o <;> simp [Sl.mine] at hm; simp [Sl.get, hm]
    | ref d => simp [Sl.mine] at hm; simp [Sl.get, hm]
  have h1 := lift_new (ks := ks) hp rfl
  simp [callR, argsG, hl, h1, othersOk, valsU, hi, hm, hT, hn, hd, gfl]
namespace Wd
theorem count_ok {n : Nat} (h1 : 1 ≤ n) (h5 : n ≤ 5) : fnP 1 m_look_at_count [.int (n : Nat)] = .ok true .non := by
  rcases five h1 h5 with e | e | e | e | e <;> subst e <;> rfl
theorem rgD_rgI (n : Nat) : rgD 0 n = (rgI n).map D.int := by simp [rgD, rgI, Function.comp_def]
theorem tupRg_ok {q : Env → Option (Int × Int)} {env : Env} {i j : Int} (h : q env = some (i, j)) (hz : rgOkB i j = true) : tupRg q env = .ok true (.tup (rgD i (j - i).toNat)) := by
  simp only [tupRg, h, hz, if_true]
theorem ret_new {ks : List Nat} {p : P} {env : Env} {d : D} (h : p env = .ok true d) : retS (lift ks p) env = .rt true d env := by
  simp only [retS, lift, h, gfl, Bool.true_or, if_true]
theorem plain_eq : m_plain = retS (lift [0] (tupRg (rg1 (var 0)))) := rfl
theorem plain_ok {n : Nat} (h : n ≤ 900000) : fnP 1 m_plain [.int (n : Nat)] = .ok true (.tup ((rgI n).map .int)) := by
  have h2 := tupRg_ok (q := rg1 (var 0)) (env := [.val false (.int (n : Nat))]) rfl (rgOk_nat h)
  rw [show ((n : Int) - 0).toNat = n by omega] at h2
  rw [← rgD_rgI, plain_eq]
  exact fnP_rt (ret_new h2)
theorem dIxT_ok {xs : List Int} {i : Nat} (h : i < xs.length) : dIx (.tup (xs.map .int)) (.int (i : Nat)) = some (.new, .int (xs.getD i 0)) := by
  simp [dIx, L2.atI, L2.ixN, h, noL, List.getD]
theorem swapped_ok {xs : List Int} {i j : Nat} (hi : i < xs.length) (hj : j < xs.length) : fnP 4 m_swapped [.tup (xs.map .int), .int (i : Nat), .int (j : Nat)] = .ok true (.tup ((swI xs i j).map .int)) := by
  have d1 := dIxT_ok hi
  have d2 := dIxT_ok hj
  have e1 : L2.ixN xs.length (i : Int) = some i := by simp [L2.ixN, hi]
  have e2 : L2.ixN xs.length (j : Int) = some j := by simp [L2.ixN, hj]
  have hn := noLs_ints ((xs.set i (xs.getD j 0)).set j (xs.getD i 0))
  rw [List.map_set, List.map_set] at hn
  simp [List.getD] at hn
  simp [fnP, m_swapped, startE, seqS, asgS, lift, opN, args, AR.bind, PR.bind, var, Env.look, Sl.get, dListOf, noLs_ints, Kd.fl, gfl, noL, setiS, op2, d1, d2, myLst, Sl.mine, Sl.put, e1, e2, retS, dTupOf, hn, swI, List.map_set, List.getD]
def obB (F_swapped : List D → PR) : SM := (asgS 2 (lift [2, 3] (callP F_swapped [(var 2), (var 3), (op2 dAdd (var 3) (cst (.int 1)))])))
theorem obB_ok {F : List D → PR} {n : Nat} (hF : ∀ o ∈ ords n, ∀ k : Nat, k + 1 < n → F [.tup (o.map .int), .int (k : Nat), .int ((k : Int) + 1)] = .ok true (.tup ((swI o k (k + 1)).map .int))) {o : List Int} (ho : o ∈ ords n) {k : Nat} (hk : k + 1 < n) (s0 s1 : Sl) (b : Bool) :
    obB F [s0, s1, .val b (.tup (o.map .int)), .val false (.int (k : Nat))] = .nx [s0, s1, .val true (.tup ((swI o k (k + 1)).map .int)), .val false (.int (k : Nat))] := by
  have := hF o ho k hk
  simp [obB, asgS, lift, callP, args, AR.bind, PR.bind, var, cst, Env.look, Sl.get, op2, dAdd, Kd.fl, this, gfl, noL, noLs_ints]
theorem ob_loop {F : List D → PR} {n : Nat} (hF : ∀ o ∈ ords n, ∀ k : Nat, k + 1 < n → F [.tup (o.map .int), .int (k : Nat), .int ((k : Int) + 1)] = .ok true (.tup ((swI o k (k + 1)).map .int))) (s0 s1 : Sl) : ∀ (w : List Nat) (o : List Int), o ∈ ords n → (∀ k ∈ w, k + 1 < n) → ∀ s3, ∃ t3, loopS (.nm 3) (obB F) ((wI w).map .int) [s0, s1, .val true (.tup (o.map .int)), s3] = .nx [s0, s1, .val true (.tup ((woF o w).map .int)), t3]
  | [], o, ho, _, s3 => ⟨s3, rfl⟩
  | k :: w, o, ho, h, s3 => by
    have hk := h k List.mem_cons_self
    obtain ⟨t3, ih⟩ := ob_loop hF s0 s1 w (swI o k (k + 1)) (sw_ok ho (by omega) hk) (fun j hj => h j (List.mem_cons_of_mem _ hj)) (.val false (.int (k : Nat)))
    refine ⟨t3, ?_⟩
    have hb := obB_ok hF ho hk s0 s1 true
    simp only [wI, List.map_cons, loopS, bindT, List.set]
    rw [hb]
    exact ih
theorem order_by_gen {F G : List D → PR} {n : Nat} (h9 : n ≤ 5) {w : List Nat} (hw : Word n w) (hG : G [.int (n : Nat)] = .ok true (.tup ((rgI n).map .int))) (hF : ∀ o ∈ ords n, ∀ k : Nat, k + 1 < n → F [.tup (o.map .int), .int (k : Nat), .int ((k : Int) + 1)] = .ok true (.tup ((swI o k (k + 1)).map .int))) :
    fnP 4 (b_order_by G F) [.int (n : Nat), .lst ((wI w).map .int)] = .ok true (.tup ((wo n w).map .int)) := by
  obtain ⟨t3, hl⟩ := ob_loop hF (.val false (.int (n : Nat))) (.val false (.lst ((wI w).map .int))) w (rgI n) (rgI_ords n) hw.2 .emp
  have s1 : (asgS 2 (lift [0] (callP G [(var 0)]))) (startE 4 [.int (n : Nat), .lst ((wI w).map .int)]) = .nx [.val false (.int (n : Nat)), .val false (.lst ((wI w).map .int)), .val true (.tup ((rgI n).map .int)), .emp] := by
    simp [startE, asgS, lift, callP, args, AR.bind, var, Env.look, Sl.get, hG, gfl, noL, noLs_ints]
  have s2 : (forS [1] (.nm 3) (iseq (var 1)) (obB F)) [.val false (.int (n : Nat)), .val false (.lst ((wI w).map .int)), .val true (.tup ((rgI n).map .int)), .emp] = .nx [.val false (.int (n : Nat)), .val false (.lst ((wI w).map .int)), .val true (.tup ((wo n w).map .int)), t3] := by
    have hi : iseq (var 1) [.val false (.int (n : Nat)), .val false (.lst ((wI w).map .int)), .val true (.tup ((rgI n).map .int)), .emp] = .ok false ((wI w).map .int) := rfl
    have hh : hide [1] 0 [.val false (.int (n : Nat)), .val false (.lst ((wI w).map .int)), .val true (.tup ((rgI n).map .int)), .emp] = [.val false (.int (n : Nat)), .val false (.lst ((wI w).map .int)), .val true (.tup ((rgI n).map .int)), .emp] := by
      simp [hide, hid, noL, noLs_ints]
    have hd : demK [1] [.val false (.int (n : Nat)), .val false (.lst ((wI w).map .int)), .val true (.tup ((rgI n).map .int)), .emp] = [.val false (.int (n : Nat)), .val false (.lst ((wI w).map .int)), .val true (.tup ((rgI n).map .int)), .emp] := rfl
    simp only [forS, hi, hh, hd, Bool.false_and]
    exact hl
  have s3 : retS (mvG 2) [.val false (.int (n : Nat)), .val false (.lst ((wI w).map .int)), .val true (.tup ((wo n w).map .int)), t3] = .rt true (.tup ((wo n w).map .int)) [.val false (.int (n : Nat)), .val false (.lst ((wI w).map .int)), .emp, t3] := rfl
  refine fnP_rt (e := [.val false (.int (n : Nat)), .val false (.lst ((wI w).map .int)), .emp, t3]) ?_
  show seqS _ (seqS (forS [1] (.nm 3) (iseq (var 1)) (obB F)) (retS (mvG 2))) _ = _
  rw [seq_nx s1, seq_nx s2, s3]
theorem swk_ok {n : Nat} {o : List Int} (ho : o ∈ ords n) {k : Nat} (hk : k + 1 < n) : fnP 4 m_swapped [.tup (o.map .int), .int (k : Nat), .int ((k : Int) + 1)] = .ok true (.tup ((swI o k (k + 1)).map .int)) := by
  have hl := ords_len ho
  exact swapped_ok (i := k) (j := k + 1) (by omega) (by omega)
theorem order_by_ok {n : Nat} (h5 : n ≤ 5) {w : List Nat} (hw : Word n w) : fnP 4 m_order_by [.int (n : Nat), .lst ((wI w).map .int)] = .ok true (.tup ((wo n w).map .int)) :=
  order_by_gen h5 hw (plain_ok (by omega)) (fun o ho k hk => swk_ok ho hk)
def okLn (k : Nat) : PR → Bool
  | .ok true (.lst xs) => (xs.length == k) && noLs xs
  | _ => false
theorem okLn_of {k : Nat} {r : PR} (h : okLn k r = true) : ∃ xs, r = .ok true (.lst xs) ∧ xs.length = k ∧ noLs xs = true := by
  unfold okLn at h
  split at h
  · rename_i xs
    simp only [Bool.and_eq_true] at h
    exact ⟨xs, rfl, by simpa using h.1, h.2⟩
  · cases h
def okPo (_ : Nat) (o : List Int) : Bool := okLn (inv o) (fnP 4 m_pairs_of [.tup (o.map .int)])
theorem okPo_1 : ((ords 1).all (okPo 1)) = true := by decide +kernel
theorem okPo_2 : ((ords 2).all (okPo 2)) = true := by decide +kernel
theorem okPo_3 : ((ords 3).all (okPo 3)) = true := by decide +kernel
theorem okPo_4 : ((ords 4).all (okPo 4)) = true := by decide +kernel
theorem okPo_5 : ((ords 5).all (okPo 5)) = true := by decide +kernel
theorem pairs_ok {n : Nat} (h1 : 1 ≤ n) (h5 : n ≤ 5) {o : List Int} (ho : o ∈ ords n) : ∃ xs, fnP 4 m_pairs_of [.tup (o.map .int)] = .ok true (.lst xs) ∧ xs.length = inv o ∧ noLs xs = true := okLn_of (all5 okPo_1 okPo_2 okPo_3 okPo_4 okPo_5 h1 h5 ho)
theorem wI_len (w : List Nat) : (wI w).length = w.length := by simp [wI]
theorem short_gen {P O : List D → PR} {n : Nat} {w : List Nat} {o : List Int} {xs : List D} (hO : O [.int (n : Nat), .lst ((wI w).map .int)] = .ok true (.tup (o.map .int))) (hP : P [.tup (o.map .int)] = .ok true (.lst xs)) (hx : xs.length = w.length) : fnP 2 (b_is_short P O) [.int (n : Nat), .lst ((wI w).map .int)] = .ok true (.bl true) := by
  have hl := wI_len w
  simp [fnP, b_is_short, startE, retS, lift, op2, opN, callP, args, AR.bind, PR.bind, var, Env.look, Sl.get, hO, hP, dLen, hx, hl, dEq_int, Kd.fl, gfl]
theorem is_short_ok {n : Nat} (h1 : 1 ≤ n) (h5 : n ≤ 5) {w : List Nat} (hw : Word n w) (hs : inv (wo n w) = w.length) : fnP 2 m_is_short [.int (n : Nat), .lst ((wI w).map .int)] = .ok true (.bl true) := by
  obtain ⟨xs, p1, p2, p3⟩ := pairs_ok h1 h5 (wo_ords hw.2)
  exact short_gen (order_by_ok h5 hw) p1 (by omega)
end Wd
namespace Lo
def look1 (_ : Nat) (o : List Int) : Bool := okN (fnP 1 m_look_at_order [.tup (o.map .int)])
theorem look_1 : ((ords 1).all (look1 1)) = true := by decide +kernel
theorem look_2 : ((ords 2).all (look1 2)) = true := by decide +kernel
theorem look_3 : ((ords 3).all (look1 3)) = true := by decide +kernel
theorem look_4 : ((ords 4).all (look1 4)) = true := by decide +kernel
theorem look_5 : ((ords 5).all (look1 5)) = true := by decide +kernel
theorem look_ok {n : Nat} (h1 : 1 ≤ n) (h5 : n ≤ 5) {o : List Int} (ho : o ∈ ords n) : fnP 1 m_look_at_order [.tup (o.map .int)] = .ok true .non := okN_of (all5 look_1 look_2 look_3 look_4 look_5 h1 h5 ho)
end Lo
abbrev Zc := List Int × List (List Nat × Option (List Nat))
def cm0 : List Zc := [([0], [([], none)]), ([0, 1], [([], none)]), ([1, 0], [([0], none)]), ([0, 1, 2], [([], none)]), ([0, 2, 1], [([5], none), ([1], some [5])]), ([1, 0, 2], [([0], none)]), ([1, 2, 0], [([0, 5], none)]), ([2, 0, 1], [([0, 1], none)]), ([2, 1, 0], [([0, 1, 5], none)]), ([0, 1, 2, 3], [([], none)]), ([0, 1, 3, 2], [([10], none), ([6], some [10]), ([2], some [6])]), ([0, 2, 1, 3], [([5], none), ([1], some [5])]), ([0, 2, 3, 1], [([5, 10], none), ([1, 10], some [5, 10]), ([1, 6], some [1, 10])]), ([0, 3, 1, 2], [([5, 6], none), ([2, 5], some [5, 6]), ([1, 2], some [2, 5])]), ([0, 3, 2, 1], [([5, 6, 10], none), ([1, 5, 6], some [5, 6, 10]), ([2, 5, 10], some [5, 6, 10]), ([1, 2, 10], some [2, 5, 10]), ([1, 2, 6], some [1, 2, 10])])]
def cm1 : List Zc := [([1, 0, 2, 3], [([0], none)]), ([1, 0, 3, 2], [([0, 10], none), ([0, 6], some [0, 10]), ([0, 2], some [0, 6])]), ([1, 2, 0, 3], [([0, 5], none)]), ([1, 2, 3, 0], [([0, 5, 10], none)]), ([1, 3, 0, 2], [([0, 5, 6], none), ([0, 2, 5], some [0, 5, 6])]), ([1, 3, 2, 0], [([0, 5, 6, 10], none), ([0, 2, 5, 10], some [0, 5, 6, 10])]), ([2, 0, 1, 3], [([0, 1], none)]), ([2, 0, 3, 1], [([0, 1, 10], none), ([0, 1, 6], some [0, 1, 10])]), ([2, 1, 0, 3], [([0, 1, 5], none)]), ([2, 1, 3, 0], [([0, 1, 5, 10], none)]), ([2, 3, 0, 1], [([0, 1, 5, 6], none)]), ([2, 3, 1, 0], [([0, 1, 5, 6, 10], none)]), ([3, 0, 1, 2], [([0, 1, 2], none)]), ([3, 0, 2, 1], [([0, 1, 2, 10], none), ([0, 1, 2, 6], some [0, 1, 2, 10])]), ([3, 1, 0, 2], [([0, 1, 2, 5], none)]), ([3, 1, 2, 0], [([0, 1, 2, 5, 10], none)]), ([3, 2, 0, 1], [([0, 1, 2, 5, 6], none)]), ([3, 2, 1, 0], [([0, 1, 2, 5, 6, 10], none)])]
def cm2 : List Zc := [([0, 1, 2, 3, 4], [([], none)]), ([0, 1, 2, 4, 3], [([15], none), ([11], some [15]), ([7], some [11]), ([3], some [7])]), ([0, 1, 3, 2, 4], [([10], none), ([6], some [10]), ([2], some [6])]), ([0, 1, 3, 4, 2], [([10, 15], none), ([6, 15], some [10, 15]), ([2, 15], some [6, 15]), ([6, 11], some [6, 15]), ([2, 11], some [2, 15]), ([2, 7], some [2, 11])]), ([0, 1, 4, 2, 3], [([10, 11], none), ([7, 10], some [10, 11]), ([3, 10], some [7, 10]), ([6, 7], some [7, 10]), ([3, 6], some [3, 10]), ([2, 3], some [3, 6])]), ([0, 1, 4, 3, 2], [([10, 11, 15], none), ([6, 10, 11], some [10, 11, 15]), ([7, 10, 15], some [10, 11, 15]), ([2, 10, 11], some [6, 10, 11]), ([3, 10, 15], some [7, 10, 15]), ([6, 7, 15], some [7, 10, 15]), ([2, 7, 10], some [2, 10, 11]), ([3, 6, 15], some [3, 10, 15]), ([6, 7, 11], some [6, 7, 15]), ([2, 6, 7], some [2, 7, 10]), ([2, 3, 15], some [3, 6, 15]), ([3, 6, 11], some [3, 6, 15]), ([2, 3, 11], some [2, 3, 15]), ([2, 3, 7], some [2, 3, 11])])]
def cm3 : List Zc := [([0, 2, 1, 3, 4], [([5], none), ([1], some [5])]), ([0, 2, 1, 4, 3], [([5, 15], none), ([1, 15], some [5, 15]), ([5, 11], some [5, 15]), ([1, 11], some [1, 15]), ([5, 7], some [5, 11]), ([1, 7], some [1, 11]), ([3, 5], some [5, 7]), ([1, 3], some [1, 7])]), ([0, 2, 3, 1, 4], [([5, 10], none), ([1, 10], some [5, 10]), ([1, 6], some [1, 10])]), ([0, 2, 3, 4, 1], [([5, 10, 15], none), ([1, 10, 15], some [5, 10, 15]), ([1, 6, 15], some [1, 10, 15]), ([1, 6, 11], some [1, 6, 15])]), ([0, 2, 4, 1, 3], [([5, 10, 11], none), ([1, 10, 11], some [5, 10, 11]), ([5, 7, 10], some [5, 10, 11]), ([1, 7, 10], some [1, 10, 11]), ([3, 5, 10], some [5, 7, 10]), ([1, 3, 10], some [1, 7, 10]), ([1, 6, 7], some [1, 7, 10]), ([1, 3, 6], some [1, 3, 10])])]
def cm4 : List Zc := [([0, 2, 4, 3, 1], [([5, 10, 11, 15], none), ([1, 10, 11, 15], some [5, 10, 11, 15]), ([5, 7, 10, 15], some [5, 10, 11, 15]), ([1, 6, 10, 11], some [1, 10, 11, 15]), ([1, 7, 10, 15], some [1, 10, 11, 15]), ([3, 5, 10, 15], some [5, 7, 10, 15]), ([1, 3, 10, 15], some [1, 7, 10, 15]), ([1, 6, 7, 15], some [1, 7, 10, 15]), ([1, 3, 6, 15], some [1, 3, 10, 15]), ([1, 6, 7, 11], some [1, 6, 7, 15]), ([1, 3, 6, 11], some [1, 3, 6, 15])]), ([0, 3, 1, 2, 4], [([5, 6], none), ([2, 5], some [5, 6]), ([1, 2], some [2, 5])]), ([0, 3, 1, 4, 2], [([5, 6, 15], none), ([2, 5, 15], some [5, 6, 15]), ([5, 6, 11], some [5, 6, 15]), ([1, 2, 15], some [2, 5, 15]), ([2, 5, 11], some [2, 5, 15]), ([1, 2, 11], some [1, 2, 15]), ([2, 5, 7], some [2, 5, 11]), ([1, 2, 7], some [1, 2, 11])]), ([0, 3, 2, 1, 4], [([5, 6, 10], none), ([1, 5, 6], some [5, 6, 10]), ([2, 5, 10], some [5, 6, 10]), ([1, 2, 10], some [2, 5, 10]), ([1, 2, 6], some [1, 2, 10])])]
def cm5 : List Zc := [([0, 3, 2, 4, 1], [([5, 6, 10, 15], none), ([1, 5, 6, 15], some [5, 6, 10, 15]), ([2, 5, 10, 15], some [5, 6, 10, 15]), ([1, 5, 6, 11], some [1, 5, 6, 15]), ([1, 2, 10, 15], some [2, 5, 10, 15]), ([1, 2, 6, 15], some [1, 2, 10, 15]), ([1, 2, 6, 11], some [1, 2, 6, 15])]), ([0, 3, 4, 1, 2], [([5, 6, 10, 11], none), ([2, 5, 10, 11], some [5, 6, 10, 11]), ([1, 2, 10, 11], some [2, 5, 10, 11]), ([2, 5, 7, 10], some [2, 5, 10, 11]), ([1, 2, 7, 10], some [1, 2, 10, 11]), ([1, 2, 6, 7], some [1, 2, 7, 10])]), ([0, 3, 4, 2, 1], [([5, 6, 10, 11, 15], none), ([1, 5, 6, 10, 11], some [5, 6, 10, 11, 15]), ([2, 5, 10, 11, 15], some [5, 6, 10, 11, 15]), ([1, 2, 10, 11, 15], some [2, 5, 10, 11, 15]), ([2, 5, 7, 10, 15], some [2, 5, 10, 11, 15]), ([1, 2, 6, 10, 11], some [1, 2, 10, 11, 15]), ([1, 2, 7, 10, 15], some [1, 2, 10, 11, 15]), ([1, 2, 6, 7, 15], some [1, 2, 7, 10, 15]), ([1, 2, 6, 7, 11], some [1, 2, 6, 7, 15])]), ([0, 4, 1, 2, 3], [([5, 6, 7], none), ([3, 5, 6], some [5, 6, 7]), ([2, 3, 5], some [3, 5, 6]), ([1, 2, 3], some [2, 3, 5])])]
def cm6 : List Zc := [([0, 4, 1, 3, 2], [([5, 6, 7, 15], none), ([3, 5, 6, 15], some [5, 6, 7, 15]), ([5, 6, 7, 11], some [5, 6, 7, 15]), ([2, 3, 5, 15], some [3, 5, 6, 15]), ([3, 5, 6, 11], some [3, 5, 6, 15]), ([2, 5, 6, 7], some [5, 6, 7, 11]), ([1, 2, 3, 15], some [2, 3, 5, 15]), ([2, 3, 5, 11], some [2, 3, 5, 15]), ([1, 2, 3, 11], some [1, 2, 3, 15]), ([2, 3, 5, 7], some [2, 3, 5, 11]), ([1, 2, 3, 7], some [1, 2, 3, 11])]), ([0, 4, 2, 1, 3], [([5, 6, 7, 10], none), ([1, 5, 6, 7], some [5, 6, 7, 10]), ([3, 5, 6, 10], some [5, 6, 7, 10]), ([1, 3, 5, 6], some [1, 5, 6, 7]), ([2, 3, 5, 10], some [3, 5, 6, 10]), ([1, 2, 3, 10], some [2, 3, 5, 10]), ([1, 2, 3, 6], some [1, 2, 3, 10])]), ([0, 4, 2, 3, 1], [([5, 6, 7, 10, 15], none), ([1, 5, 6, 7, 15], some [5, 6, 7, 10, 15]), ([3, 5, 6, 10, 15], some [5, 6, 7, 10, 15]), ([1, 3, 5, 6, 15], some [1, 5, 6, 7, 15]), ([1, 5, 6, 7, 11], some [1, 5, 6, 7, 15]), ([2, 3, 5, 10, 15], some [3, 5, 6, 10, 15]), ([1, 3, 5, 6, 11], some [1, 3, 5, 6, 15]), ([1, 2, 3, 10, 15], some [2, 3, 5, 10, 15]), ([1, 2, 3, 6, 15], some [1, 2, 3, 10, 15]), ([1, 2, 3, 6, 11], some [1, 2, 3, 6, 15])])]
def cm7 : List Zc := [([0, 4, 3, 1, 2], [([5, 6, 7, 10, 11], none), ([2, 5, 6, 7, 10], some [5, 6, 7, 10, 11]), ([3, 5, 6, 10, 11], some [5, 6, 7, 10, 11]), ([1, 2, 5, 6, 7], some [2, 5, 6, 7, 10]), ([2, 3, 5, 10, 11], some [3, 5, 6, 10, 11]), ([1, 2, 3, 10, 11], some [2, 3, 5, 10, 11]), ([2, 3, 5, 7, 10], some [2, 3, 5, 10, 11]), ([1, 2, 3, 7, 10], some [1, 2, 3, 10, 11]), ([1, 2, 3, 6, 7], some [1, 2, 3, 7, 10])]), ([0, 4, 3, 2, 1], [([5, 6, 7, 10, 11, 15], none), ([1, 5, 6, 7, 10, 11], some [5, 6, 7, 10, 11, 15]), ([2, 5, 6, 7, 10, 15], some [5, 6, 7, 10, 11, 15]), ([3, 5, 6, 10, 11, 15], some [5, 6, 7, 10, 11, 15]), ([1, 3, 5, 6, 10, 11], some [1, 5, 6, 7, 10, 11]), ([1, 2, 5, 6, 7, 15], some [2, 5, 6, 7, 10, 15]), ([2, 3, 5, 10, 11, 15], some [3, 5, 6, 10, 11, 15]), ([1, 2, 5, 6, 7, 11], some [1, 2, 5, 6, 7, 15]), ([1, 2, 3, 10, 11, 15], some [2, 3, 5, 10, 11, 15]), ([2, 3, 5, 7, 10, 15], some [2, 3, 5, 10, 11, 15]), ([1, 2, 3, 6, 10, 11], some [1, 2, 3, 10, 11, 15]), ([1, 2, 3, 7, 10, 15], some [1, 2, 3, 10, 11, 15]), ([1, 2, 3, 6, 7, 15], some [1, 2, 3, 7, 10, 15]), ([1, 2, 3, 6, 7, 11], some [1, 2, 3, 6, 7, 15])]), ([1, 0, 2, 3, 4], [([0], none)])]
def cm8 : List Zc := [([1, 0, 2, 4, 3], [([0, 15], none), ([0, 11], some [0, 15]), ([0, 7], some [0, 11]), ([0, 3], some [0, 7])]), ([1, 0, 3, 2, 4], [([0, 10], none), ([0, 6], some [0, 10]), ([0, 2], some [0, 6])]), ([1, 0, 3, 4, 2], [([0, 10, 15], none), ([0, 6, 15], some [0, 10, 15]), ([0, 2, 15], some [0, 6, 15]), ([0, 6, 11], some [0, 6, 15]), ([0, 2, 11], some [0, 2, 15]), ([0, 2, 7], some [0, 2, 11])]), ([1, 0, 4, 2, 3], [([0, 10, 11], none), ([0, 7, 10], some [0, 10, 11]), ([0, 3, 10], some [0, 7, 10]), ([0, 6, 7], some [0, 7, 10]), ([0, 3, 6], some [0, 3, 10]), ([0, 2, 3], some [0, 3, 6])]), ([1, 0, 4, 3, 2], [([0, 10, 11, 15], none), ([0, 6, 10, 11], some [0, 10, 11, 15]), ([0, 7, 10, 15], some [0, 10, 11, 15]), ([0, 2, 10, 11], some [0, 6, 10, 11]), ([0, 3, 10, 15], some [0, 7, 10, 15]), ([0, 6, 7, 15], some [0, 7, 10, 15]), ([0, 2, 7, 10], some [0, 2, 10, 11]), ([0, 3, 6, 15], some [0, 3, 10, 15]), ([0, 6, 7, 11], some [0, 6, 7, 15]), ([0, 2, 6, 7], some [0, 2, 7, 10]), ([0, 2, 3, 15], some [0, 3, 6, 15]), ([0, 3, 6, 11], some [0, 3, 6, 15]), ([0, 2, 3, 11], some [0, 2, 3, 15]), ([0, 2, 3, 7], some [0, 2, 3, 11])])]
def cm9 : List Zc := [([1, 2, 0, 3, 4], [([0, 5], none)]), ([1, 2, 0, 4, 3], [([0, 5, 15], none), ([0, 5, 11], some [0, 5, 15]), ([0, 5, 7], some [0, 5, 11]), ([0, 3, 5], some [0, 5, 7])]), ([1, 2, 3, 0, 4], [([0, 5, 10], none)]), ([1, 2, 3, 4, 0], [([0, 5, 10, 15], none)]), ([1, 2, 4, 0, 3], [([0, 5, 10, 11], none), ([0, 5, 7, 10], some [0, 5, 10, 11]), ([0, 3, 5, 10], some [0, 5, 7, 10])]), ([1, 2, 4, 3, 0], [([0, 5, 10, 11, 15], none), ([0, 5, 7, 10, 15], some [0, 5, 10, 11, 15]), ([0, 3, 5, 10, 15], some [0, 5, 7, 10, 15])]), ([1, 3, 0, 2, 4], [([0, 5, 6], none), ([0, 2, 5], some [0, 5, 6])]), ([1, 3, 0, 4, 2], [([0, 5, 6, 15], none), ([0, 2, 5, 15], some [0, 5, 6, 15]), ([0, 5, 6, 11], some [0, 5, 6, 15]), ([0, 2, 5, 11], some [0, 2, 5, 15]), ([0, 2, 5, 7], some [0, 2, 5, 11])]), ([1, 3, 2, 0, 4], [([0, 5, 6, 10], none), ([0, 2, 5, 10], some [0, 5, 6, 10])]), ([1, 3, 2, 4, 0], [([0, 5, 6, 10, 15], none), ([0, 2, 5, 10, 15], some [0, 5, 6, 10, 15])])]
def cm10 : List Zc := [([1, 3, 4, 0, 2], [([0, 5, 6, 10, 11], none), ([0, 2, 5, 10, 11], some [0, 5, 6, 10, 11]), ([0, 2, 5, 7, 10], some [0, 2, 5, 10, 11])]), ([1, 3, 4, 2, 0], [([0, 5, 6, 10, 11, 15], none), ([0, 2, 5, 10, 11, 15], some [0, 5, 6, 10, 11, 15]), ([0, 2, 5, 7, 10, 15], some [0, 2, 5, 10, 11, 15])]), ([1, 4, 0, 2, 3], [([0, 5, 6, 7], none), ([0, 3, 5, 6], some [0, 5, 6, 7]), ([0, 2, 3, 5], some [0, 3, 5, 6])]), ([1, 4, 0, 3, 2], [([0, 5, 6, 7, 15], none), ([0, 3, 5, 6, 15], some [0, 5, 6, 7, 15]), ([0, 5, 6, 7, 11], some [0, 5, 6, 7, 15]), ([0, 2, 3, 5, 15], some [0, 3, 5, 6, 15]), ([0, 3, 5, 6, 11], some [0, 3, 5, 6, 15]), ([0, 2, 5, 6, 7], some [0, 5, 6, 7, 11]), ([0, 2, 3, 5, 11], some [0, 2, 3, 5, 15]), ([0, 2, 3, 5, 7], some [0, 2, 3, 5, 11])]), ([1, 4, 2, 0, 3], [([0, 5, 6, 7, 10], none), ([0, 3, 5, 6, 10], some [0, 5, 6, 7, 10]), ([0, 2, 3, 5, 10], some [0, 3, 5, 6, 10])]), ([1, 4, 2, 3, 0], [([0, 5, 6, 7, 10, 15], none), ([0, 3, 5, 6, 10, 15], some [0, 5, 6, 7, 10, 15]), ([0, 2, 3, 5, 10, 15], some [0, 3, 5, 6, 10, 15])]), ([1, 4, 3, 0, 2], [([0, 5, 6, 7, 10, 11], none), ([0, 2, 5, 6, 7, 10], some [0, 5, 6, 7, 10, 11]), ([0, 3, 5, 6, 10, 11], some [0, 5, 6, 7, 10, 11]), ([0, 2, 3, 5, 10, 11], some [0, 3, 5, 6, 10, 11]), ([0, 2, 3, 5, 7, 10], some [0, 2, 3, 5, 10, 11])])]
def cm11 : List Zc := [([1, 4, 3, 2, 0], [([0, 5, 6, 7, 10, 11, 15], none), ([0, 2, 5, 6, 7, 10, 15], some [0, 5, 6, 7, 10, 11, 15]), ([0, 3, 5, 6, 10, 11, 15], some [0, 5, 6, 7, 10, 11, 15]), ([0, 2, 3, 5, 10, 11, 15], some [0, 3, 5, 6, 10, 11, 15]), ([0, 2, 3, 5, 7, 10, 15], some [0, 2, 3, 5, 10, 11, 15])]), ([2, 0, 1, 3, 4], [([0, 1], none)]), ([2, 0, 1, 4, 3], [([0, 1, 15], none), ([0, 1, 11], some [0, 1, 15]), ([0, 1, 7], some [0, 1, 11]), ([0, 1, 3], some [0, 1, 7])]), ([2, 0, 3, 1, 4], [([0, 1, 10], none), ([0, 1, 6], some [0, 1, 10])]), ([2, 0, 3, 4, 1], [([0, 1, 10, 15], none), ([0, 1, 6, 15], some [0, 1, 10, 15]), ([0, 1, 6, 11], some [0, 1, 6, 15])]), ([2, 0, 4, 1, 3], [([0, 1, 10, 11], none), ([0, 1, 7, 10], some [0, 1, 10, 11]), ([0, 1, 3, 10], some [0, 1, 7, 10]), ([0, 1, 6, 7], some [0, 1, 7, 10]), ([0, 1, 3, 6], some [0, 1, 3, 10])]), ([2, 0, 4, 3, 1], [([0, 1, 10, 11, 15], none), ([0, 1, 6, 10, 11], some [0, 1, 10, 11, 15]), ([0, 1, 7, 10, 15], some [0, 1, 10, 11, 15]), ([0, 1, 3, 10, 15], some [0, 1, 7, 10, 15]), ([0, 1, 6, 7, 15], some [0, 1, 7, 10, 15]), ([0, 1, 3, 6, 15], some [0, 1, 3, 10, 15]), ([0, 1, 6, 7, 11], some [0, 1, 6, 7, 15]), ([0, 1, 3, 6, 11], some [0, 1, 3, 6, 15])])]
def cm12 : List Zc := [([2, 1, 0, 3, 4], [([0, 1, 5], none)]), ([2, 1, 0, 4, 3], [([0, 1, 5, 15], none), ([0, 1, 5, 11], some [0, 1, 5, 15]), ([0, 1, 5, 7], some [0, 1, 5, 11]), ([0, 1, 3, 5], some [0, 1, 5, 7])]), ([2, 1, 3, 0, 4], [([0, 1, 5, 10], none)]), ([2, 1, 3, 4, 0], [([0, 1, 5, 10, 15], none)]), ([2, 1, 4, 0, 3], [([0, 1, 5, 10, 11], none), ([0, 1, 5, 7, 10], some [0, 1, 5, 10, 11]), ([0, 1, 3, 5, 10], some [0, 1, 5, 7, 10])]), ([2, 1, 4, 3, 0], [([0, 1, 5, 10, 11, 15], none), ([0, 1, 5, 7, 10, 15], some [0, 1, 5, 10, 11, 15]), ([0, 1, 3, 5, 10, 15], some [0, 1, 5, 7, 10, 15])]), ([2, 3, 0, 1, 4], [([0, 1, 5, 6], none)]), ([2, 3, 0, 4, 1], [([0, 1, 5, 6, 15], none), ([0, 1, 5, 6, 11], some [0, 1, 5, 6, 15])]), ([2, 3, 1, 0, 4], [([0, 1, 5, 6, 10], none)]), ([2, 3, 1, 4, 0], [([0, 1, 5, 6, 10, 15], none)]), ([2, 3, 4, 0, 1], [([0, 1, 5, 6, 10, 11], none)]), ([2, 3, 4, 1, 0], [([0, 1, 5, 6, 10, 11, 15], none)]), ([2, 4, 0, 1, 3], [([0, 1, 5, 6, 7], none), ([0, 1, 3, 5, 6], some [0, 1, 5, 6, 7])]), ([2, 4, 0, 3, 1], [([0, 1, 5, 6, 7, 15], none), ([0, 1, 3, 5, 6, 15], some [0, 1, 5, 6, 7, 15]), ([0, 1, 5, 6, 7, 11], some [0, 1, 5, 6, 7, 15]), ([0, 1, 3, 5, 6, 11], some [0, 1, 3, 5, 6, 15])])]
def cm13 : List Zc := [([2, 4, 1, 0, 3], [([0, 1, 5, 6, 7, 10], none), ([0, 1, 3, 5, 6, 10], some [0, 1, 5, 6, 7, 10])]), ([2, 4, 1, 3, 0], [([0, 1, 5, 6, 7, 10, 15], none), ([0, 1, 3, 5, 6, 10, 15], some [0, 1, 5, 6, 7, 10, 15])]), ([2, 4, 3, 0, 1], [([0, 1, 5, 6, 7, 10, 11], none), ([0, 1, 3, 5, 6, 10, 11], some [0, 1, 5, 6, 7, 10, 11])]), ([2, 4, 3, 1, 0], [([0, 1, 5, 6, 7, 10, 11, 15], none), ([0, 1, 3, 5, 6, 10, 11, 15], some [0, 1, 5, 6, 7, 10, 11, 15])]), ([3, 0, 1, 2, 4], [([0, 1, 2], none)]), ([3, 0, 1, 4, 2], [([0, 1, 2, 15], none), ([0, 1, 2, 11], some [0, 1, 2, 15]), ([0, 1, 2, 7], some [0, 1, 2, 11])]), ([3, 0, 2, 1, 4], [([0, 1, 2, 10], none), ([0, 1, 2, 6], some [0, 1, 2, 10])]), ([3, 0, 2, 4, 1], [([0, 1, 2, 10, 15], none), ([0, 1, 2, 6, 15], some [0, 1, 2, 10, 15]), ([0, 1, 2, 6, 11], some [0, 1, 2, 6, 15])]), ([3, 0, 4, 1, 2], [([0, 1, 2, 10, 11], none), ([0, 1, 2, 7, 10], some [0, 1, 2, 10, 11]), ([0, 1, 2, 6, 7], some [0, 1, 2, 7, 10])]), ([3, 0, 4, 2, 1], [([0, 1, 2, 10, 11, 15], none), ([0, 1, 2, 6, 10, 11], some [0, 1, 2, 10, 11, 15]), ([0, 1, 2, 7, 10, 15], some [0, 1, 2, 10, 11, 15]), ([0, 1, 2, 6, 7, 15], some [0, 1, 2, 7, 10, 15]), ([0, 1, 2, 6, 7, 11], some [0, 1, 2, 6, 7, 15])])]
def cm14 : List Zc := [([3, 1, 0, 2, 4], [([0, 1, 2, 5], none)]), ([3, 1, 0, 4, 2], [([0, 1, 2, 5, 15], none), ([0, 1, 2, 5, 11], some [0, 1, 2, 5, 15]), ([0, 1, 2, 5, 7], some [0, 1, 2, 5, 11])]), ([3, 1, 2, 0, 4], [([0, 1, 2, 5, 10], none)]), ([3, 1, 2, 4, 0], [([0, 1, 2, 5, 10, 15], none)]), ([3, 1, 4, 0, 2], [([0, 1, 2, 5, 10, 11], none), ([0, 1, 2, 5, 7, 10], some [0, 1, 2, 5, 10, 11])]), ([3, 1, 4, 2, 0], [([0, 1, 2, 5, 10, 11, 15], none), ([0, 1, 2, 5, 7, 10, 15], some [0, 1, 2, 5, 10, 11, 15])]), ([3, 2, 0, 1, 4], [([0, 1, 2, 5, 6], none)]), ([3, 2, 0, 4, 1], [([0, 1, 2, 5, 6, 15], none), ([0, 1, 2, 5, 6, 11], some [0, 1, 2, 5, 6, 15])]), ([3, 2, 1, 0, 4], [([0, 1, 2, 5, 6, 10], none)]), ([3, 2, 1, 4, 0], [([0, 1, 2, 5, 6, 10, 15], none)]), ([3, 2, 4, 0, 1], [([0, 1, 2, 5, 6, 10, 11], none)]), ([3, 2, 4, 1, 0], [([0, 1, 2, 5, 6, 10, 11, 15], none)]), ([3, 4, 0, 1, 2], [([0, 1, 2, 5, 6, 7], none)]), ([3, 4, 0, 2, 1], [([0, 1, 2, 5, 6, 7, 15], none), ([0, 1, 2, 5, 6, 7, 11], some [0, 1, 2, 5, 6, 7, 15])]), ([3, 4, 1, 0, 2], [([0, 1, 2, 5, 6, 7, 10], none)]), ([3, 4, 1, 2, 0], [([0, 1, 2, 5, 6, 7, 10, 15], none)]), ([3, 4, 2, 0, 1], [([0, 1, 2, 5, 6, 7, 10, 11], none)]), ([3, 4, 2, 1, 0], [([0, 1, 2, 5, 6, 7, 10, 11, 15], none)])]
def cm15 : List Zc := [([4, 0, 1, 2, 3], [([0, 1, 2, 3], none)]), ([4, 0, 1, 3, 2], [([0, 1, 2, 3, 15], none), ([0, 1, 2, 3, 11], some [0, 1, 2, 3, 15]), ([0, 1, 2, 3, 7], some [0, 1, 2, 3, 11])]), ([4, 0, 2, 1, 3], [([0, 1, 2, 3, 10], none), ([0, 1, 2, 3, 6], some [0, 1, 2, 3, 10])]), ([4, 0, 2, 3, 1], [([0, 1, 2, 3, 10, 15], none), ([0, 1, 2, 3, 6, 15], some [0, 1, 2, 3, 10, 15]), ([0, 1, 2, 3, 6, 11], some [0, 1, 2, 3, 6, 15])]), ([4, 0, 3, 1, 2], [([0, 1, 2, 3, 10, 11], none), ([0, 1, 2, 3, 7, 10], some [0, 1, 2, 3, 10, 11]), ([0, 1, 2, 3, 6, 7], some [0, 1, 2, 3, 7, 10])]), ([4, 0, 3, 2, 1], [([0, 1, 2, 3, 10, 11, 15], none), ([0, 1, 2, 3, 6, 10, 11], some [0, 1, 2, 3, 10, 11, 15]), ([0, 1, 2, 3, 7, 10, 15], some [0, 1, 2, 3, 10, 11, 15]), ([0, 1, 2, 3, 6, 7, 15], some [0, 1, 2, 3, 7, 10, 15]), ([0, 1, 2, 3, 6, 7, 11], some [0, 1, 2, 3, 6, 7, 15])]), ([4, 1, 0, 2, 3], [([0, 1, 2, 3, 5], none)]), ([4, 1, 0, 3, 2], [([0, 1, 2, 3, 5, 15], none), ([0, 1, 2, 3, 5, 11], some [0, 1, 2, 3, 5, 15]), ([0, 1, 2, 3, 5, 7], some [0, 1, 2, 3, 5, 11])]), ([4, 1, 2, 0, 3], [([0, 1, 2, 3, 5, 10], none)]), ([4, 1, 2, 3, 0], [([0, 1, 2, 3, 5, 10, 15], none)]), ([4, 1, 3, 0, 2], [([0, 1, 2, 3, 5, 10, 11], none), ([0, 1, 2, 3, 5, 7, 10], some [0, 1, 2, 3, 5, 10, 11])])]
def cm16 : List Zc := [([4, 1, 3, 2, 0], [([0, 1, 2, 3, 5, 10, 11, 15], none), ([0, 1, 2, 3, 5, 7, 10, 15], some [0, 1, 2, 3, 5, 10, 11, 15])]), ([4, 2, 0, 1, 3], [([0, 1, 2, 3, 5, 6], none)]), ([4, 2, 0, 3, 1], [([0, 1, 2, 3, 5, 6, 15], none), ([0, 1, 2, 3, 5, 6, 11], some [0, 1, 2, 3, 5, 6, 15])]), ([4, 2, 1, 0, 3], [([0, 1, 2, 3, 5, 6, 10], none)]), ([4, 2, 1, 3, 0], [([0, 1, 2, 3, 5, 6, 10, 15], none)]), ([4, 2, 3, 0, 1], [([0, 1, 2, 3, 5, 6, 10, 11], none)]), ([4, 2, 3, 1, 0], [([0, 1, 2, 3, 5, 6, 10, 11, 15], none)]), ([4, 3, 0, 1, 2], [([0, 1, 2, 3, 5, 6, 7], none)]), ([4, 3, 0, 2, 1], [([0, 1, 2, 3, 5, 6, 7, 15], none), ([0, 1, 2, 3, 5, 6, 7, 11], some [0, 1, 2, 3, 5, 6, 7, 15])]), ([4, 3, 1, 0, 2], [([0, 1, 2, 3, 5, 6, 7, 10], none)]), ([4, 3, 1, 2, 0], [([0, 1, 2, 3, 5, 6, 7, 10, 15], none)]), ([4, 3, 2, 0, 1], [([0, 1, 2, 3, 5, 6, 7, 10, 11], none)]), ([4, 3, 2, 1, 0], [([0, 1, 2, 3, 5, 6, 7, 10, 11, 15], none)])]
def cmT : List Zc := cm0 ++ cm1 ++ cm2 ++ cm3 ++ cm4 ++ cm5 ++ cm6 ++ cm7 ++ cm8 ++ cm9 ++ cm10 ++ cm11 ++ cm12 ++ cm13 ++ cm14 ++ cm15 ++ cm16
theorem cD_inj {a b : Nat} (h : cD a = cD b) : a = b := by
  apply cK_inj
  unfold cD tO at h
  injection h with h
  exact (List.map_inj_right fun x y e => by injection e).mp h
theorem cKs_inj : ∀ {a b : List Nat}, a.map cK = b.map cK → a = b := fun {a b} h => (List.map_inj_right fun x y e => cK_inj e).mp h
theorem drD_inj {a b : List Nat} (h : drD a = drD b) : a = b := by
  unfold drD at h
  injection h with h
  exact (List.map_inj_right fun x y e => cD_inj e).mp h
def opL : Option (List Nat) → D
  | none => .non
  | some l => .tup (l.map cD)
abbrev Tc := List (List Nat × Option (List Nat))
def tabCl (t : Tc) : D := .dic2 (t.map fun z => z.1.map cK) (t.map fun z => opL z.2)
def eqOs : List D → List (Option (List Nat)) → Bool
  | [], [] => true
  | .non :: vs, none :: os => eqOs vs os
  | .tup xs :: vs, some l :: os => decide (cds xs = some l) && eqOs vs os
  | _, _ => false
theorem eqOs_of : ∀ {vs : List D} {os : List (Option (List Nat))}, eqOs vs os = true → vs = os.map opL
  | vs, os, h => by
    unfold eqOs at h
    split at h
    · rfl
    · rw [List.map_cons, ← eqOs_of h]; rfl
    · obtain ⟨h1, h2⟩ := and_of h
      rw [List.map_cons, ← eqOs_of h2, cds_of (of_decide_eq_true h1)]; rfl
    · cases h
def okTab (t : Tc) : PR → Bool
  | .ok true (.dic2 ks vs) => decide (ks = t.map fun z => z.1.map cK) && eqOs vs (t.map fun z => z.2)
  | _ => false
theorem okTab_of {t : Tc} {r : PR} (h : okTab t r = true) : r = .ok true (tabCl t) := by
  unfold okTab at h
  split at h
  · obtain ⟨h1, h2⟩ := and_of h
    rw [of_decide_eq_true h1, eqOs_of h2, List.map_map]; rfl
  · cases h
def lkC : Tc → List Nat → Option (Option (List Nat))
  | [], _ => none
  | z :: t, r => if z.1 = r then some z.2 else lkC t r
theorem dval_tabC (r : List Nat) : ∀ t : Tc, dval2 (t.map fun z => z.1.map cK) (t.map fun z => opL z.2) (r.map cK) = (lkC t r).map opL
  | [] => rfl
  | z :: t => by
    simp only [List.map_cons, dval2, lkC]
    by_cases h : z.1 = r
    · rw [if_pos h, if_pos (by rw [h])]; rfl
    · rw [if_neg h, if_neg fun e => h (cKs_inj e)]; exact dval_tabC r t
theorem keyOf_cD : ∀ r : List Nat, keyI2 (r.map cD) = some (r.map cK)
  | [] => rfl
  | c :: r => by
    have h1 : keyOf (cD c) = some (cK c) := rfl
    simp only [List.map_cons, keyI2, h1, keyOf_cD r]
theorem ixC {t : Tc} {r : List Nat} {p : Option (List Nat)} (h : lkC t r = some p) : dIxD2 (tabCl t) (.tup (r.map cD)) = some (.new, opL p) := by
  have hk : keyOf2 (.tup (r.map cD)) = some (r.map cK) := keyOf_cD r
  have hn : noL (opL p) = true := by
    cases p with
    | none => rfl
    | some l => exact noLs_cDs l
  simp only [dIxD2, tabCl, hk, dval_tabC, h, Option.map_some, hn, if_true]
def upP (t : Tc) : Nat → List Nat → Option (List (List Nat))
  | 0, _ => none
  | f + 1, r => match lkC t r with
    | none => none
    | some none => some [r]
    | some (some p) => match upP t f p with
      | some l => some (r :: l)
      | none => none
def stepB (p : List (List Nat)) (k : Nat) : Bool := Nat.beq k 0 || ((ladL (p.getD (k - 1) []) (p.getD (k - 1) [])).contains (p.getD k []) && !((p.take k).contains (p.getD k [])))
def pthB (rows : List (List Nat)) (low r : List Nat) (p : List (List Nat)) : Bool := (List.range p.length).all (stepB p) && ((p.all fun l => rows.contains l) && (decide (p.head? = some low) && (decide (p.getLast? = some r) && Nat.ble p.length 40)))
def rowB (n : Nat) (o : List Int) (t : Tc) (rows : List (List Nat)) (low r : List Nat) : Bool :=
  pwB r && ((r.all fun c => (cellsM n).contains c) && (((List.range n).all fun q => (lineM r 60 q 0 false []).isSome) && (decide (endsM n r = o) && (((wordS r).all fun k => Nat.blt (k + 1) n) && (Nat.ble (wordS r).length 30 && (decide (wo n (wordS r) = o) && (Nat.beq (inv o) (wordS r).length && (((ladL r r).all fun l => rows.contains l) && (match upP t 40 r with
    | some ch => pthB rows low r ch.reverse
    | none => false)))))))))
structure RowF (n : Nat) (o : List Int) (t : Tc) (low r : List Nat) : Prop where
  dr : DrC n r
  ln : ∀ row < n, (lineM r 60 row 0 false []).isSome = true
  ends : endsM n r = o
  wd : Word n (wordS r)
  wo : wo n (wordS r) = o
  sh : inv (CB.wo n (wordS r)) = (wordS r).length
  lad : ∀ l ∈ ladL r r, l ∈ t.map fun z => z.1
  up : ∃ ch, upP t 40 r = some ch ∧ (∀ k < ch.reverse.length, stepB ch.reverse k = true) ∧ (∀ l ∈ ch.reverse, l ∈ t.map fun z => z.1) ∧ ch.reverse.head? = some low ∧ ch.reverse.getLast? = some r ∧ ch.reverse.length ≤ 40
theorem rowB_of {n : Nat} {o : List Int} {t : Tc} {low r : List Nat} (h : rowB n o t (t.map fun z => z.1) low r = true) : RowF n o t low r := by
  obtain ⟨h1, h⟩ := and_of h
  obtain ⟨h2, h⟩ := and_of h
  obtain ⟨h3, h⟩ := and_of h
  obtain ⟨h4, h⟩ := and_of h
  obtain ⟨h5, h⟩ := and_of h
  obtain ⟨h6, h⟩ := and_of h
  obtain ⟨h7, h⟩ := and_of h
  obtain ⟨h8, h⟩ := and_of h
  obtain ⟨h9, h⟩ := and_of h
  have e7 := of_decide_eq_true h7
  refine ⟨⟨fun c hc => by simpa using List.all_eq_true.mp h2 c hc, pwB_of h1⟩, fun row hr => List.all_eq_true.mp h3 row (List.mem_range.mpr hr), of_decide_eq_true h4, ⟨Nat.le_of_ble_eq_true h6, fun k hk => ?_⟩, e7, ?_, fun l hl => by simpa using List.all_eq_true.mp h9 l hl, ?_⟩
  · have := List.all_eq_true.mp h5 k hk
    rw [Nat.blt_eq] at this
    exact this
  · rw [e7]; exact Nat.eq_of_beq_eq_true h8
  · cases hu : upP t 40 r with
    | none => rw [hu] at h; cases h
    | some ch =>
      rw [hu] at h
      simp only at h
      unfold pthB at h
      obtain ⟨p1, h⟩ := and_of h
      obtain ⟨p2, h⟩ := and_of h
      obtain ⟨p3, h⟩ := and_of h
      obtain ⟨p4, p5⟩ := and_of h
      exact ⟨ch, rfl, fun k hk => List.all_eq_true.mp p1 k (List.mem_range.mpr hk), fun l hl => by simpa using List.all_eq_true.mp p2 l hl, of_decide_eq_true p3, of_decide_eq_true p4, Nat.le_of_ble_eq_true p5⟩
structure FactC (n : Nat) (o : List Int) (t : Tc) (low : List Nat) : Prop where
  clb : fnP 6 m_climbs [tO o] = .ok true (tabCl t)
  lo : fnP 5 m__law_lowest [tO o] = .ok true (drD low)
  lm : low ∈ t.map fun z => z.1
  len : t.length ≤ 100
  row : ∀ r ∈ t.map fun z => z.1, RowF n o t low r
def tabB (n : Nat) (o : List Int) (t : Tc) (rows : List (List Nat)) (r : Option (List Nat)) : Bool := match r with
  | some low => rows.contains low && (Nat.ble t.length 100 && rows.all (rowB n o t rows low))
  | none => false
theorem tabB_of {n : Nat} {o : List Int} {t : Tc} {r : Option (List Nat)} (h : tabB n o t (t.map fun z => z.1) r = true) : ∃ low, r = some low ∧ low ∈ (t.map fun z => z.1) ∧ t.length ≤ 100 ∧ ∀ r ∈ t.map fun z => z.1, RowF n o t low r := by
  cases r with
  | none => cases h
  | some low =>
    obtain ⟨h2, h⟩ := and_of h
    obtain ⟨h3, h4⟩ := and_of h
    exact ⟨low, rfl, by simpa using h2, Nat.le_of_ble_eq_true h3, fun r hr => rowB_of (List.all_eq_true.mp h4 r hr)⟩
def chk47 (z : Zc) : Bool := okTab z.2 (fnP 6 m_climbs [tO z.1]) && tabB z.1.length z.1 z.2 (z.2.map fun z => z.1) (okC (fnP 5 m__law_lowest [tO z.1]))
theorem chk_of {n : Nat} {o : List Int} {t : Tc} {r1 r2 : PR} (h : (okTab t r1 && tabB n o t (t.map fun z => z.1) (okC r2)) = true) : ∃ low, r1 = .ok true (tabCl t) ∧ r2 = .ok true (drD low) ∧ low ∈ (t.map fun z => z.1) ∧ t.length ≤ 100 ∧ ∀ r ∈ t.map fun z => z.1, RowF n o t low r := by
  obtain ⟨h1, h⟩ := and_of h
  obtain ⟨low, e, h2, h3, h4⟩ := tabB_of h
  exact ⟨low, okTab_of h1, okC_of e, h2, h3, h4⟩
theorem chk47_of {z : Zc} (h : chk47 z = true) : ∃ low, FactC z.1.length z.1 z.2 low := by
  have h' := chk_of h
  obtain ⟨low, a, b, c, d, e⟩ := h'
  exact ⟨low, a, b, c, d, e⟩
theorem cmc0 : cm0.all chk47 = true := by decide +kernel
theorem cmc1 : cm1.all chk47 = true := by decide +kernel
theorem cmc2 : cm2.all chk47 = true := by decide +kernel
theorem cmc3 : cm3.all chk47 = true := by decide +kernel
theorem cmc4 : cm4.all chk47 = true := by decide +kernel
theorem cmc5 : cm5.all chk47 = true := by decide +kernel
theorem cmc6 : cm6.all chk47 = true := by decide +kernel
theorem cmc7 : cm7.all chk47 = true := by decide +kernel
theorem cmc8 : cm8.all chk47 = true := by decide +kernel
theorem cmc9 : cm9.all chk47 = true := by decide +kernel
theorem cmc10 : cm10.all chk47 = true := by decide +kernel
theorem cmc11 : cm11.all chk47 = true := by decide +kernel
theorem cmc12 : cm12.all chk47 = true := by decide +kernel
theorem cmc13 : cm13.all chk47 = true := by decide +kernel
theorem cmc14 : cm14.all chk47 = true := by decide +kernel
theorem cmc15 : cm15.all chk47 = true := by decide +kernel
theorem cmc16 : cm16.all chk47 = true := by decide +kernel
theorem cmc_all : cmT.all chk47 = true := by
  simp only [cmT, List.all_append, cmc0, cmc1, cmc2, cmc3, cmc4, cmc5, cmc6, cmc7, cmc8, cmc9, cmc10, cmc11, cmc12, cmc13, cmc14, cmc15, cmc16, Bool.and_self]
theorem cm_ords : cmT.map (fun z => z.1) = ords 1 ++ ords 2 ++ ords 3 ++ ords 4 ++ ords 5 := by decide +kernel
theorem fact_ok {n : Nat} (n1 : 1 ≤ n) (n5 : n ≤ 5) {o : List Int} (h : o ∈ ords n) : ∃ t low, FactC n o t low := by
  have hm : o ∈ cmT.map (fun z => z.1) := by
    rw [cm_ords]
    simp only [List.mem_append]
    rcases five n1 n5 with rfl | rfl | rfl | rfl | rfl <;> simp [h]
  obtain ⟨z, hz, e⟩ := List.mem_map.mp hm
  have hc : chk47 z = true := List.all_eq_true.mp cmc_all z hz
  have hl : z.1.length = n := by rw [e]; exact ords_len h
  obtain ⟨low, F⟩ := chk47_of hc
  rw [e, ords_len h] at F
  exact ⟨_, low, F⟩
theorem tupOf_cD {p : P} {env : Env} {f : Bool} {l : List Nat} (h : p env = .ok f (drD l)) : opN dTupOf [p] env = .ok true (.tup (l.map cD)) := opN1_new h (by simp only [dTupOf, drD, noLs_cDs, if_true])
theorem listOf_cD {p : P} {env : Env} {f : Bool} {l : List Nat} (h : p env = .ok f (.tup (l.map cD))) : opN dListOf [p] env = .ok true (drD l) := opN1_new h (by simp only [dListOf, drD, noLs_cDs, if_true])
def clT : GE := (liftT (op2 dIsNot (var 5) (cst .non)))
def clB : SM := (seqS (dropS (appendG 4 (lift [5] (opN dListOf [(var 5)])))) (asgS 5 (lift [3, 5] (op2 dIxD2 (var 3) (var 5)))))
theorem climbed_eq (OB IS LD WO CL : List D → PR) : b_climbed OB IS LD WO CL = (seqS (dropS (lift [0, 1] (callP LD [(var 0), (var 1)])))
  (seqS (asgS 2 (lift [1] (callP WO [(var 1)])))
  (seqS (ifS (notP (callP IS [(var 0), (var 2)])) (raiseF "Spare" "place" (cst (.int 0))) passS)
  (seqS (asgS 3 (lift [0, 2] (callP CL [(callP OB [(var 0), (var 2)])])))
  (seqS (asgS 4 (lift [] (opN dLst [])))
  (seqS (asgS 5 (lift [1] (opN dTupOf [(var 1)])))
  (seqS (whileS 1000 clT clB)
  (retS (linG dRevM [(.ex (mvG 4))]))))))))) := rfl
theorem app_dr {i : Nat} {ks : List Nat} {p : P} {env : Env} {L : List (List Nat)} {l : List Nat} (h : p env = .ok true (drD l)) (hi : env[i]? = some (.val true (.lst (L.map drD)))) (hz : L.length ≤ 800) : dropS (appendG i (lift ks p)) env = .nx (env.set i (.val true (.lst ((L ++ [l]).map drD)))) := by
  rw [app_ok' h hi (by rw [List.length_map]; exact hz)]
  simp
theorem cl_loop {t : Tc} (s0 s1 s2 : Sl) : ∀ (f : Nat) (r : List Nat) (ch acc : List (List Nat)) (K : Nat), upP t f r = some ch → acc.length + f ≤ 800 → f < K →
    loopW clT clB K [s0, s1, s2, .val true (tabCl t), .val true (.lst (acc.map drD)), .val true (.tup (r.map cD))] = .nx [s0, s1, s2, .val true (tabCl t), .val true (.lst ((acc ++ ch).map drD)), .val true .non]
  | 0, r, ch, acc, K, h, _, _ => by cases h
  | f + 1, r, ch, acc, 0, h, _, hk => by omega
  | f + 1, r, ch, acc, K + 1, h, hl, hk => by
    let E : Env := [s0, s1, s2, .val true (tabCl t), .val true (.lst (acc.map drD)), .val true (.tup (r.map cD))]
    have t1 : clT E = .ok true (.bl true) E := rfl
    have b1 : dropS (appendG 4 (lift [5] (opN dListOf [(var 5)]))) E = .nx [s0, s1, s2, .val true (tabCl t), .val true (.lst ((acc ++ [r]).map drD)), .val true (.tup (r.map cD))] := app_dr (listOf_cD (show var 5 E = .ok false (.tup (r.map cD)) from rfl)) rfl (by omega)
    have b2 : ∀ p, lkC t r = some p → asgS 5 (lift [3, 5] (op2 dIxD2 (var 3) (var 5))) [s0, s1, s2, .val true (tabCl t), .val true (.lst ((acc ++ [r]).map drD)), .val true (.tup (r.map cD))] = .nx [s0, s1, s2, .val true (tabCl t), .val true (.lst ((acc ++ [r]).map drD)), .val true (opL p)] := fun p hp =>
      asg_new (op2_new (show var 3 _ = .ok false (tabCl t) from rfl) (show var 5 _ = .ok false (.tup (r.map cD)) from rfl) (ixC hp))
    unfold upP at h
    cases hp : lkC t r with
    | none => rw [hp] at h; cases h
    | some p =>
      rw [hp] at h
      have bb := (seq_nx b1).trans (b2 p hp)
      show loopW clT clB (K + 1) E = _
      rw [loopW]
      rw [t1]
      simp only
      rw [show clB E = _ from bb]
      simp only
      cases p with
      | none =>
        cases h
        cases K with
        | zero => omega
        | succ K => rfl
      | some p =>
        simp only at h
        cases hu : upP t f p with
        | none => rw [hu] at h; cases h
        | some l =>
          rw [hu] at h
          cases h
          have ih := cl_loop s0 s1 s2 f p l (acc ++ [r]) K hu (by rw [List.length_append, List.length_singleton]; omega) (by omega)
          rw [show (acc ++ [r]) ++ l = acc ++ r :: l by simp] at ih
          exact ih
theorem climbed_gen {OB IS LD WO CL : List D → PR} {n : Nat} {o : List Int} {t : Tc} {r w : List Nat} {ch : List (List Nat)} (hLD : LD [.int (n : Nat), drD r] = .ok true .non) (hWO : WO [drD r] = .ok true (natD w)) (hIS : IS [.int (n : Nat), natD w] = .ok true (.bl true)) (hOB : OB [.int (n : Nat), natD w] = .ok true (tO o)) (hCL : CL [tO o] = .ok true (tabCl t)) (hu : upP t 40 r = some ch) :
    fnP 6 (b_climbed OB IS LD WO CL) [.int (n : Nat), drD r] = .ok true (.lst (ch.reverse.map drD)) := by
  refine fnP_rt (e := [.val false (.int (n : Nat)), .val false (drD r), .val true (natD w), .val true (tabCl t), .emp, .val true .non]) ?_
  show b_climbed OB IS LD WO CL [.val false (.int (n : Nat)), .val false (drD r), .emp, .emp, .emp, .emp] = _
  rw [climbed_eq]
  let E0 : Env := [.val false (.int (n : Nat)), .val false (drD r), .emp, .emp, .emp, .emp]
  let E2 : Env := [.val false (.int (n : Nat)), .val false (drD r), .val true (natD w), .emp, .emp, .emp]
  let E3 : Env := [.val false (.int (n : Nat)), .val false (drD r), .val true (natD w), .val true (tabCl t), .emp, .emp]
  let E4 : Env := [.val false (.int (n : Nat)), .val false (drD r), .val true (natD w), .val true (tabCl t), .val true (.lst []), .emp]
  have a0 : dropS (lift [0, 1] (callP LD [(var 0), (var 1)])) E0 = .nx E0 := drop_new (call2 (show var 0 E0 = .ok false (.int (n : Nat)) from rfl) (show var 1 E0 = .ok false (drD r) from rfl) hLD)
  have a1 : asgS 2 (lift [1] (callP WO [(var 1)])) E0 = .nx E2 := asg_new (call1 (show var 1 E0 = .ok false (drD r) from rfl) hWO)
  have a2 : ifS (notP (callP IS [(var 0), (var 2)])) (raiseF "Spare" "place" (cst (.int 0))) passS E2 = .nx E2 := if_no (not_ok (call2 (show var 0 E2 = .ok false (.int (n : Nat)) from rfl) (show var 2 E2 = .ok false (natD w) from rfl) hIS))
  have a3 : asgS 3 (lift [0, 2] (callP CL [(callP OB [(var 0), (var 2)])])) E2 = .nx E3 := asg_new (call1 (call2 (show var 0 E2 = .ok false (.int (n : Nat)) from rfl) (show var 2 E2 = .ok false (natD w) from rfl) hOB) hCL)
  have a4 : asgS 4 (lift [] (opN dLst [])) E3 = .nx E4 := rfl
  have a5 : asgS 5 (lift [1] (opN dTupOf [(var 1)])) E4 = .nx [.val false (.int (n : Nat)), .val false (drD r), .val true (natD w), .val true (tabCl t), .val true (.lst (([] : List (List Nat)).map drD)), .val true (.tup (r.map cD))] := asg_new (tupOf_cD (show var 1 E4 = .ok false (drD r) from rfl))
  have a6 := cl_loop (.val false (.int (n : Nat))) (.val false (drD r)) (.val true (natD w)) 40 r ch [] 1000 hu (by simp) (by omega)
  have a7 : retS (linG dRevM [(.ex (mvG 4))]) [.val false (.int (n : Nat)), .val false (drD r), .val true (natD w), .val true (tabCl t), .val true (.lst (ch.map drD)), .val true .non] = .rt true (.lst (ch.reverse.map drD)) [.val false (.int (n : Nat)), .val false (drD r), .val true (natD w), .val true (tabCl t), .emp, .val true .non] := by
    rw [List.map_reverse]; rfl
  exact (seq_nx a0).trans ((seq_nx a1).trans ((seq_nx a2).trans ((seq_nx a3).trans ((seq_nx a4).trans ((seq_nx a5).trans ((seq_nx a6).trans a7))))))
theorem climbed_ok {n : Nat} (n1 : 1 ≤ n) (n5 : n ≤ 5) {o : List Int} {t : Tc} {low r : List Nat} (F : FactC n o t low) (R : RowF n o t low r) : ∃ ch, upP t 40 r = some ch ∧ fnP 6 m_climbed [.int (n : Nat), drD r] = .ok true (.lst (ch.reverse.map drD)) := by
  obtain ⟨ch, hu, _⟩ := R.up
  have hw := R.wd
  have l1 := R.dr.len n5
  refine ⟨ch, hu, climbed_gen (look_ok n1 n5 R.dr l1) (wordof_ok (by omega)) ?_ ?_ F.clb hu⟩
  · rw [natD_I]; exact Wd.is_short_ok n1 n5 hw R.sh
  · rw [natD_I]
    have := Wd.order_by_ok n5 hw
    rw [R.wo] at this
    exact this
theorem sr_mem (L : List (List Nat)) : ∃ L' : List (List Nat), srL L = L'.map drD ∧ L'.length = L.length ∧ ∀ l, l ∈ L' ↔ l ∈ L := by
  obtain ⟨L', h1, h2, h3⟩ := sr_map L
  refine ⟨L', h1, h2, fun l => ⟨h3 l, fun h => ?_⟩⟩
  have hp : (srL L).Perm (L.map drD) := isort_perm (L.map drD)
  have : drD l ∈ srL L := hp.symm.subset (List.mem_map_of_mem h)
  rw [h1] at this
  obtain ⟨l', hl', e⟩ := List.mem_map.mp this
  rw [← drD_inj e]
  exact hl'
theorem opN1_own {f : List D → Option (Kd × D)} {a : P} {env : Env} {x d : D} {k : Kd} (h1 : a env = .ok true x) (hk : k = .new ∨ k = .lin) (h : f [x] = some (k, d)) : opN f [a] env = .ok true d := by
  rcases hk with rfl | rfl <;> simp only [opN, args, h1, AR.bind, h, Kd.fl, gfl, Bool.true_or, Bool.and_self]
theorem ordc_ok {n : Nat} (n1 : 1 ≤ n) (n5 : n ≤ 5) {o : List Int} (h : o ∈ ords n) : fnP 1 m_look_at_order [tO o] = .ok true .non := Lo.look_ok n1 n5 h
theorem drawings_eq (LO CL : List D → PR) : b_drawings LO CL = seqS (dropS (lift [0] (callP LO [(var 0)]))) (retS (lift [0] (opN (dSortR false) [(comp [1] (.nm 1) (ikeys2 (callP CL [(var 0)])) yesP (opN dListOf [(var 1)]))]))) := rfl
theorem kD2_c (r : List Nat) : kD2 (r.map cK) = .tup (r.map cD) := by
  unfold kD2; rw [List.map_map]; rfl
theorem drawings_gen {LO CL : List D → PR} {o : List Int} {t : Tc} (hl : t.length ≤ 100) (hLO : LO [tO o] = .ok true .non) (hCL : CL [tO o] = .ok true (tabCl t)) : fnP 2 (b_drawings LO CL) [tO o] = .ok true (.lst (srL (t.map fun z => z.1))) := by
  let E : Env := [.val false (tO o), .emp]
  refine fnP_rt (e := E) ?_
  show b_drawings LO CL E = _
  rw [drawings_eq]
  have hi : ikeys2 (callP CL [(var 0)]) E = .ok true ((t.map fun z => z.1).map fun r => .tup (r.map cD)) := by
    simp only [ikeys2, call1 (show var 0 E = .ok false (tO o) from rfl) hCL, tabCl, List.map_map]
    congr 1
    exact List.map_congr_left fun z _ => kD2_c z.1
  have hc := comp_mapA (i := 1) (ι := ikeys2 (callP CL [(var 0)])) (el := opN dListOf [(var 1)]) (env := E) (f := true) (fun r : List Nat => .tup (r.map cD)) drD (t.map fun z => z.1) hi (by rw [List.length_map]; omega) (fun r _ => listOf_cD (show var 1 _ = .ok false (.tup (r.map cD)) from rfl))
  obtain ⟨k, hk, hs⟩ := sort_dr (t.map fun z => z.1) (by rw [List.length_map]; omega)
  exact (seq_nx (drop_new (call1 (show var 0 E = .ok false (tO o) from rfl) hLO))).trans (ret_new (opN1_own hc hk hs))
theorem drawings_ok {n : Nat} (n1 : 1 ≤ n) (n5 : n ≤ 5) {o : List Int} (h : o ∈ ords n) {t : Tc} {low : List Nat} (F : FactC n o t low) : ∃ L : List (List Nat), fnP 2 m_drawings [tO o] = .ok true (.lst (L.map drD)) ∧ L.length = t.length ∧ ∀ l, l ∈ L ↔ l ∈ t.map fun z => z.1 := by
  obtain ⟨L, h1, h2, h3⟩ := sr_mem (t.map fun z => z.1)
  refine ⟨L, ?_, by rw [h2, List.length_map], h3⟩
  rw [← h1]
  exact drawings_gen F.len (ordc_ok n1 n5 h) F.clb
theorem eqvAll_cD : ∀ a b : List Nat, PySem.PyData.eqvAll (a.map fun c => dat (cD c)) (b.map fun c => dat (cD c)) = decide (a = b)
  | [], [] => rfl
  | [], _ :: _ => by simp [PySem.PyData.eqvAll]
  | _ :: _, [] => by simp [PySem.PyData.eqvAll]
  | x :: xs, y :: ys => by
    simp only [List.map_cons, PySem.PyData.eqvAll, eqvAll_cD xs ys]
    rw [show PySem.PyData.eqv (dat (cD x)) (dat (cD y)) = decide (cK x = cK y) from eqv_tO _ _]
    rw [Bool.eq_iff_iff, Bool.and_eq_true, decide_eq_true_eq, decide_eq_true_eq, decide_eq_true_eq]
    exact ⟨fun ⟨a, b⟩ => by rw [cK_inj a, b], fun e => by injection e with a b; exact ⟨by rw [a], b⟩⟩
theorem eqv_drD (a b : List Nat) : PySem.PyData.eqv (dat (drD a)) (dat (drD b)) = decide (a = b) := by
  rw [dat_drD, dat_drD]
  simp only [PySem.PyData.eqv, eqvAll_cD]
theorem eqOk_dr (a : List Nat) : eqOk (drD a) = true := (lay_drD a).eqOk (by decide)
theorem lay_ld (L : List (List Nat)) : Lay 3 (.lst (L.map drD)) := lay_lst fun d hd => by
  obtain ⟨l, _, rfl⟩ := List.mem_map.mp hd
  exact lay_drD l
theorem eqOk_ld (L : List (List Nat)) : eqOk (.lst (L.map drD)) = true := (lay_ld L).eqOk (by decide)
theorem dNe_dr (a b : List Nat) : dNe (drD a) (drD b) = some (.new, .bl (!decide (a = b))) := by
  unfold dNe; rw [eqOk_dr, eqOk_dr, eqv_drD]; rfl
theorem dInB_dr (x : List Nat) (L : List (List Nat)) : dInB (drD x) (.lst (L.map drD)) = some (L.contains x) := by
  simp only [dInB, eqOk_dr, eqOk_ld, Bool.and_self, if_true]
  congr 1
  induction L with
  | nil => rfl
  | cons y L ih =>
    simp only [List.map_cons, dats, List.any_cons, ih, eqv_drD, List.contains_cons]
    congr 1
    rw [Bool.eq_iff_iff, decide_eq_true_eq, beq_iff_eq]
    exact ⟨fun e => e.symm, fun e => e.symm⟩
theorem dIn_dr (x : List Nat) (L : List (List Nat)) : dIn (drD x) (.lst (L.map drD)) = some (.new, .bl (L.contains x)) := by simp only [dIn, dInB_dr, Option.map_some]
theorem dNotIn_dr (x : List Nat) (L : List (List Nat)) : dNotIn (drD x) (.lst (L.map drD)) = some (.new, .bl (!L.contains x)) := by simp only [dNotIn, dInB_dr, Option.map_some]
theorem dEq_ld_nil {L : List (List Nat)} (h : L ≠ []) : dEq (.lst (L.map drD)) (.lst []) = some (.new, .bl false) := by
  have e2 : eqOk (.lst []) = true := rfl
  unfold dEq
  rw [eqOk_ld, e2]
  cases L with
  | nil => exact absurd rfl h
  | cons x L => rfl
theorem ix_ld {L : List (List Nat)} {k : Nat} (h : k < L.length) : dIx (.lst (L.map drD)) (.int (k : Nat)) = some (.lin, drD (L.getD k [])) := by
  simp [dIx, L2.atI, L2.ixN, h, List.getD]
  rfl
theorem ix_last {L : List (List Nat)} {r : List Nat} (h : L.getLast? = some r) : dIx (.lst (L.map drD)) (.int (-1)) = some (.lin, drD r) := by
  have hl : 0 < L.length := by
    cases L with
    | nil => cases h
    | cons => simp
  have e : L2.ixN (L.map drD).length (-1) = some (L.length - 1) := by
    simp [L2.ixN]
    omega
  have e2 : (L.map drD)[L.length - 1]? = some (drD r) := by
    rw [List.getElem?_map, ← List.getLast?_eq_getElem?, h]; rfl
  simp only [dIx, L2.atI, e, Option.bind_some, e2]
  rfl
theorem op2_any {f : D → D → Option (Kd × D)} {a b : P} {env : Env} {fa fb : Bool} {x y d : D} {k : Kd} (h1 : a env = .ok fa x) (h2 : b env = .ok fb y) (h : f x y = some (k, d)) : ∃ g, op2 f a b env = .ok g d := by
  simp only [op2, h1, h2, PR.bind, h]
  exact ⟨_, rfl⟩
theorem sl_take {L : List (List Nat)} {a b : P} {env : Env} {f g : Bool} {k : Nat} (h1 : a env = .ok f (.lst (L.map drD))) (h2 : b env = .ok g (.int (k : Nat))) : ∃ f', sliceP a none (some b) env = .ok f' (.lst ((L.take k).map drD)) := by
  have e : cutA (L.map drD) none (some (k : Int)) = (L.take k).map drD := by
    unfold cutA
    rw [HT.sIx_none, HT.sIx_nat, List.length_map, List.map_take]
    simp only [List.drop_zero, Nat.sub_zero]
    rcases Nat.le_total k L.length with h | h
    · rw [Nat.min_eq_left h]
    · rw [Nat.min_eq_right h, List.take_of_length_le (by simp), List.take_of_length_le (by simp; exact h)]
  simp only [sliceP, slHi, slEnd, PR.bind, h1, h2, dSl, e]
  exact ⟨_, rfl⟩
theorem noLs_rg1 (a : Int) (n : Nat) : noLs (rgD a n) = true := by
  unfold rgD
  generalize List.range n = l
  induction l with
  | nil => rfl
  | cons x l ih => simpa [noLs, noL] using ih
def icB (LL : List D → PR) : SM := (ifS (orP (op2 dNotIn (op2 dIx (var 2) (var 4)) (callP LL [(op2 dIx (var 2) (op2 dSub (var 4) (cst (.int 1))))])) (op2 dIn (op2 dIx (var 2) (var 4)) (sliceP (var 2) none (some (var 4))))) (retS (lift [] (cst (.bl false)))) passS)
theorem ic_eq (EN LL LO AC : List D → PR) : b__law_is_climb EN LL LO AC = (seqS (ifS (orP (notP (op1 (isT "list") (var 2))) (orP (op2 dEq (var 2) (opN dLst [])) (notP (opN dAll [(comp [3] (.nm 3) (iseq (var 2)) yesP (callP AC [(var 3)]))])))) (retS (lift [] (cst (.bl false)))) passS)
  (seqS (ifS (orP (op2 dNe (op2 dIx (var 2) (cst (.int 0))) (callP LO [(var 0)])) (op2 dNe (op2 dIx (var 2) (op1 dNeg (cst (.int 1)))) (var 1))) (retS (lift [] (cst (.bl false)))) passS)
  (seqS (forS [2] (.nm 4) (irange2 (cst (.int 1)) (opN dLen [(var 2)])) (icB LL))
  (retS (lift [0, 2] (opN dAll [(comp [3] (.nm 3) (iseq (var 2)) yesP (op2 dEq (callP EN [(opN dLen [(var 0)]), (var 3)]) (var 0)))])))))) := rfl
theorem icB_ok {LL : List D → PR} {p : List (List Nat)} {k : Nat} (h1 : 1 ≤ k) (hk : k < p.length) (hs : stepB p k = true) (hLL : ∃ L : List (List Nat), LL [drD (p.getD (k - 1) [])] = .ok true (.lst (L.map drD)) ∧ ∀ l, l ∈ L ↔ l ∈ ladL (p.getD (k - 1) []) (p.getD (k - 1) [])) (s0 s1 s3 : Sl) :
    icB LL [s0, s1, .val false (.lst (p.map drD)), s3, .val false (.int (k : Nat))] = .nx [s0, s1, .val false (.lst (p.map drD)), s3, .val false (.int (k : Nat))] := by
  let E : Env := [s0, s1, .val false (.lst (p.map drD)), s3, .val false (.int (k : Nat))]
  obtain ⟨L, hL, hm⟩ := hLL
  unfold stepB at hs
  rw [show Nat.beq k 0 = false by cases k with | zero => omega | succ k => rfl, Bool.false_or, Bool.and_eq_true] at hs
  have hin : L.contains (p.getD k []) = true := by
    have := hs.1
    rw [List.contains_iff_mem] at this ⊢
    exact (hm _).mpr this
  obtain ⟨g1, e1⟩ := op2_any (env := E) (show var 2 E = .ok false (.lst (p.map drD)) from rfl) (show var 4 E = .ok false (.int (k : Nat)) from rfl) (ix_ld hk)
  have es : op2 dSub (var 4) (cst (.int 1)) E = .ok true (.int ((k - 1 : Nat) : Int)) := by
    have := sub_i' (show var 4 E = .ok false (.int (k : Nat)) from rfl) (cst_i E 1)
    rwa [show ((k : Nat) : Int) - 1 = ((k - 1 : Nat) : Int) by omega] at this
  obtain ⟨g2, e2⟩ := op2_any (env := E) (show var 2 E = .ok false (.lst (p.map drD)) from rfl) es (ix_ld (k := k - 1) (by omega))
  have c1 := op2_new e1 (call1 e2 hL) (dNotIn_dr _ _)
  rw [hin] at c1
  obtain ⟨g3, e3⟩ := sl_take (env := E) (show var 2 E = .ok false (.lst (p.map drD)) from rfl) (show var 4 E = .ok false (.int (k : Nat)) from rfl)
  have c2 := op2_new e1 e3 (dIn_dr _ _)
  have hni : (p.take k).contains (p.getD k []) = false := by simpa using hs.2
  rw [hni] at c2
  exact if_no ((or_ff c1).trans c2)
theorem ic_gen {EN LL LO AC : List D → PR} {n : Nat} {o : List Int} (ho : o.length = n) (n5 : n ≤ 5) {low r : List Nat} {p : List (List Nat)} (hst : ∀ k < p.length, stepB p k = true) (hd : p.head? = some low) (hla : p.getLast? = some r) (hl : p.length ≤ 40)
    (hAC : ∀ l ∈ p, AC [drD l] = .ok true (.bl true)) (hLO : LO [tO o] = .ok true (drD low)) (hLL : ∀ l ∈ p, ∃ L : List (List Nat), LL [drD l] = .ok true (.lst (L.map drD)) ∧ ∀ x, x ∈ L ↔ x ∈ ladL l l) (hEN : ∀ l ∈ p, EN [.int (n : Nat), drD l] = .ok true (tO o)) :
    fnP 5 (b__law_is_climb EN LL LO AC) [tO o, drD r, .lst (p.map drD)] = .ok true (.bl true) := by
  let E : Env := [.val false (tO o), .val false (drD r), .val false (.lst (p.map drD)), .emp, .emp]
  have hp : p ≠ [] := fun z => by rw [z] at hd; cases hd
  have hlen : 0 < p.length := List.length_pos_iff.mpr hp
  have v2 : var 2 E = .ok false (.lst (p.map drD)) := rfl
  have t : op1 (isT "list") (var 2) E = .ok true (.bl true) := rfl
  have c1 : op2 dEq (var 2) (opN dLst []) E = .ok true (.bl false) := op2_new v2 (show opN dLst [] E = .ok true (.lst []) from rfl) (dEq_ld_nil hp)
  have h := all_map (xs := p.map drD) (fun _ => true) (i := 3) (ι := iseq (var 2)) (el := callP AC [(var 3)]) (env := E) (f := false) rfl (szOk_small (by rw [List.length_map]; omega)) (fun d hd => by
    obtain ⟨l, hl, rfl⟩ := List.mem_map.mp hd
    exact ⟨true, call1 (show var 3 _ = .ok false (drD l) from rfl) (hAC l hl)⟩)
  rw [show (p.map drD).all (fun _ => true) = true by simp] at h
  have a1 : ifS (orP (notP (op1 (isT "list") (var 2))) (orP (op2 dEq (var 2) (opN dLst [])) (notP (opN dAll [(comp [3] (.nm 3) (iseq (var 2)) yesP (callP AC [(var 3)]))])))) (retS (lift [] (cst (.bl false)))) passS E = .nx E := if_no ((or_ff (not_ok t)).trans ((or_ff c1).trans (not_ok h)))
  have h0 : p.getD 0 [] = low := by
    cases p with
    | nil => exact absurd rfl hp
    | cons x p => cases hd; rfl
  obtain ⟨g1, e1⟩ := op2_any (env := E) v2 (cst_i E 0) (ix_ld (k := 0) hlen)
  rw [h0] at e1
  have c2 := op2_new e1 (call1 (show var 0 E = .ok false (tO o) from rfl) hLO) (dNe_dr low low)
  rw [show (!decide (low = low)) = false by simp] at c2
  obtain ⟨g2, e2⟩ := op2_any (env := E) v2 (show op1 dNeg (cst (.int 1)) E = .ok true (.int (-1)) from rfl) (ix_last hla)
  have c3 := op2_new e2 (show var 1 E = .ok false (drD r) from rfl) (dNe_dr r r)
  rw [show (!decide (r = r)) = false by simp] at c3
  have a2 : ifS (orP (op2 dNe (op2 dIx (var 2) (cst (.int 0))) (callP LO [(var 0)])) (op2 dNe (op2 dIx (var 2) (op1 dNeg (cst (.int 1)))) (var 1))) (retS (lift [] (cst (.bl false)))) passS E = .nx E := if_no ((or_ff c2).trans c3)
  have len2 : opN dLen [(var 2)] E = .ok true (.int (p.length : Nat)) := opN1_new v2 (by
    have : szOk p.length = true := szOk_small (by omega)
    simp [dLen, this])
  have hr : irange2 (cst (.int 1)) (opN dLen [(var 2)]) E = .ok true (rgD 1 (p.length - 1)) := by
    have z1 : rgSz 1 = true := rgSz_nat (n := 1) (by omega)
    have z2 : rgSz ((p.length : Nat) : Int) = true := rgSz_nat (by omega)
    simp only [irange2, cst_i, len2, z1, z2, Bool.and_self, if_true]
    rw [show (((p.length : Nat) : Int) - 1).toNat = p.length - 1 by omega]
  obtain ⟨e, k, t4, rfl⟩ := loop_inv (τ := .nm 4) (m := icB LL) (ds := rgD 1 (p.length - 1)) (fun env => ∃ t4, env = [.val false (tO o), .val false (drD r), .val false (.lst (p.map drD)), .emp, t4]) (fun d hd env ⟨t4, he⟩ => by
    subst he
    obtain ⟨j, hj, rfl⟩ := mem_rgD hd
    rw [show (1 : Int) + (j : Int) = ((j + 1 : Nat) : Int) by omega]
    have hm : p.getD (j + 1 - 1) [] ∈ p := by
      rw [List.getD_eq_getElem?_getD, List.getElem?_eq_getElem (by omega)]
      exact List.getElem_mem _
    exact ⟨_, _, rfl, icB_ok (by omega) (by omega) (hst (j + 1) (by omega)) (hLL _ hm) _ _ _, _, rfl⟩) E ⟨_, rfl⟩
  refine fnP_rt (e := [.val false (tO o), .val false (drD r), .val false (.lst (p.map drD)), .emp, t4]) ?_
  show b__law_is_climb EN LL LO AC E = _
  rw [ic_eq]
  let E2 : Env := [.val false (tO o), .val false (drD r), .val false (.lst (p.map drD)), .emp, t4]
  have h2 := all_map (xs := p.map drD) (fun _ => true) (i := 3) (ι := iseq (var 2)) (el := op2 dEq (callP EN [(opN dLen [(var 0)]), (var 3)]) (var 0)) (env := E2) (f := false) rfl (szOk_small (by rw [List.length_map]; omega)) (fun d hd => by
    obtain ⟨l, hl, rfl⟩ := List.mem_map.mp hd
    have l0 : opN dLen [(var 0)] ((wipeE E2 [3]).set 3 (.val false (drD l))) = .ok true (.int (n : Nat)) := opN1_new (show var 0 _ = .ok false (tO o) from rfl) (by
      have : szOk n = true := szOk_small (by omega)
      simp [dLen, tO, ho, this])
    exact ⟨true, op2_new (call2 l0 (show var 3 _ = .ok false (drD l) from rfl) (hEN l hl)) (show var 0 _ = .ok false (tO o) from rfl) (dEq_lay (lay_kD o) (by decide))⟩)
  rw [show (p.map drD).all (fun _ => true) = true by simp] at h2
  exact (seq_nx a1).trans ((seq_nx a2).trans ((seq_nx ((for_ok hr (noLs_rg1 1 _)).trans k)).trans (ret_new h2)))
def gB (CL IC : List D → PR) : SM := (seqS (asgS 4 (lift [0, 1] (callP CL [(opN dLen [(var 0)]), (var 1)])))
  (seqS (ifS (orP (notP (callP IC [(var 0), (var 1), (var 4)])) (op2 dNe (var 1) (var 2))) (retS (lift [] (cst (.bl false)))) passS)
  (seqS (forApp 4 5 (opN dTup [(cst (.int 0)), (cst (.int 0))]))
  (dropS (clearG 4)))))
theorem gd_eq (CL IC : List D → PR) : b__law_good CL IC = seqS (asgS 2 (lift [1] (opN dListOf [(var 1)]))) (seqS (forS [] (.nm 3) (irange1 (cst (.int 2))) (gB CL IC)) (retS (lift [] (cst (.bl true))))) := rfl
theorem gB_ok {CL IC : List D → PR} {n : Nat} {o : List Int} (ho : o.length = n) (n5 : n ≤ 5) {r : List Nat} {p : List (List Nat)} (hs : ∀ l ∈ p, l.length ≤ 1000) (h1 : CL [.int (n : Nat), drD r] = .ok true (.lst (p.map drD))) (h2 : IC [tO o, drD r, .lst (p.map drD)] = .ok true (.bl true)) (s3 s4 s5 : Sl) :
    gB CL IC [.val false (tO o), .val false (drD r), .val true (drD r), s3, s4, s5] = .nx [.val false (tO o), .val false (drD r), .val true (drD r), s3, .val true (.lst []), .emp] := by
  have l0 : opN dLen [(var 0)] [.val false (tO o), .val false (drD r), .val true (drD r), s3, s4, s5] = .ok true (.int (n : Nat)) := opN1_new (show var 0 _ = .ok false (tO o) from rfl) (by
    have : szOk n = true := szOk_small (by omega)
    simp [dLen, tO, ho, this])
  have a1 : asgS 4 (lift [0, 1] (callP CL [(opN dLen [(var 0)]), (var 1)])) [.val false (tO o), .val false (drD r), .val true (drD r), s3, s4, s5] = .nx [.val false (tO o), .val false (drD r), .val true (drD r), s3, .val true (.lst (p.map drD)), s5] := asg_new (call2 l0 (show var 1 _ = .ok false (drD r) from rfl) h1)
  let E : Env := [.val false (tO o), .val false (drD r), .val true (drD r), s3, .val true (.lst (p.map drD)), s5]
  have c1 := not_ok (call3 (show var 0 E = .ok false (tO o) from rfl) (show var 1 E = .ok false (drD r) from rfl) (show var 4 E = .ok false (.lst (p.map drD)) from rfl) h2)
  have c2 : op2 dNe (var 1) (var 2) E = .ok true (.bl false) := op2_new (show var 1 E = .ok false (drD r) from rfl) (show var 2 E = .ok false (drD r) from rfl) (dNe_lay (lay_drD r) (by decide))
  have a2 : ifS (orP (notP (callP IC [(var 0), (var 1), (var 4)])) (op2 dNe (var 1) (var 2))) (retS (lift [] (cst (.bl false)))) passS E = .nx E := if_no ((or_ff c1).trans c2)
  have ha : (p.map drD).all appOk = true := List.all_eq_true.mpr fun d hd => by
    obtain ⟨l, hl, rfl⟩ := List.mem_map.mp hd
    have z : szOk (l.map cD).length = true := szOk_small (by rw [List.length_map]; have := hs l hl; omega)
    exact z
  have a3 : forApp 4 5 (opN dTup [(cst (.int 0)), (cst (.int 0))]) E = .nx [.val false (tO o), .val false (drD r), .val true (drD r), s3, .val true (.lst ((p.map drD).map (appD (.tup [.int 0, .int 0])))), .emp] := by
    have q' : (opN dTup [(cst (.int 0)), (cst (.int 0))]) ([.val false (tO o), .val false (drD r), .val true (drD r), s3, .emp, .emp] : Env) = .ok true (.tup [.int 0, .int 0]) := rfl
    show forApp 4 5 (opN dTup [(cst (.int 0)), (cst (.int 0))]) [.val false (tO o), .val false (drD r), .val true (drD r), s3, .val true (.lst (p.map drD)), s5] = _
    simp [forApp, q', ha, noL, noLs]
  exact (seq_nx a1).trans ((seq_nx a2).trans ((seq_nx a3).trans rfl))
theorem good_gen {CL IC : List D → PR} {n : Nat} {o : List Int} (ho : o.length = n) (n5 : n ≤ 5) {r : List Nat} {p : List (List Nat)} (dl : r.length ≤ 100) (hs : ∀ l ∈ p, l.length ≤ 1000) (h1 : CL [.int (n : Nat), drD r] = .ok true (.lst (p.map drD))) (h2 : IC [tO o, drD r, .lst (p.map drD)] = .ok true (.bl true)) : fnP 6 (b__law_good CL IC) [tO o, drD r] = .ok true (.bl true) := by
  have zd : szOk r.length = true := szOk_small (by omega)
  have a0 : asgS 2 (lift [1] (opN dListOf [(var 1)])) [.val false (tO o), .val false (drD r), .emp, .emp, .emp, .emp] = .nx [.val false (tO o), .val false (drD r), .val true (drD r), .emp, .emp, .emp] := asg_new (opN1_new (show var 1 _ = .ok false (drD r) from rfl) (d := drD r) (by simp [dListOf, drD, noLs_cDs, zd]))
  obtain ⟨e, k, t3, t4, t5, rfl⟩ := loop_inv (τ := .nm 3) (m := gB CL IC) (ds := rgD 0 2) (fun env => ∃ t3 t4 t5, env = [.val false (tO o), .val false (drD r), .val true (drD r), t3, t4, t5]) (fun d hd env ⟨t3, t4, t5, he⟩ => by
    subst he
    exact ⟨_, _, rfl, gB_ok ho n5 hs h1 h2 _ t4 t5, _, _, _, rfl⟩) [.val false (tO o), .val false (drD r), .val true (drD r), .emp, .emp, .emp] ⟨_, _, _, rfl⟩
  refine fnP_rt (e := [.val false (tO o), .val false (drD r), .val true (drD r), t3, t4, t5]) ?_
  show b__law_good CL IC [.val false (tO o), .val false (drD r), .emp, .emp, .emp, .emp] = _
  rw [gd_eq]
  exact (seq_nx a0).trans ((seq_nx ((for_ok (ds := rgD 0 2) rfl rfl).trans k)).trans rfl)
theorem ends_row {n : Nat} (n1 : 1 ≤ n) (n5 : n ≤ 5) {o : List Int} {t : Tc} {low r : List Nat} (R : RowF n o t low r) : fnP 3 m_ends [.int (n : Nat), drD r] = .ok true (tO o) := by
  have h := ends_ok (n := n) (dr := r) n5 (look_ok n1 n5 R.dr (R.dr.len n5)) (ln_F ((lnB1_ok)) R.ln)
  rw [R.ends] at h
  exact h
theorem good_ok {n : Nat} (n1 : 1 ≤ n) (n5 : n ≤ 5) {o : List Int} (ho : o.length = n) {t : Tc} {low r : List Nat} (F : FactC n o t low) (hr : r ∈ t.map fun z => z.1) : fnP 6 m__law_good [tO o, drD r] = .ok true (.bl true) := by
  have R := F.row r hr
  obtain ⟨ch, hu, p1, p2, p3, p4, p5⟩ := R.up
  obtain ⟨ch', hu', hc⟩ := climbed_ok n1 n5 F R
  rw [hu] at hu'
  cases hu'
  refine good_gen ho n5 (by have := R.dr.len n5; omega) (fun l hl => by have := (F.row l (p2 l hl)).dr.len n5; omega) hc ?_
  refine ic_gen ho n5 p1 p3 p4 p5 (fun l _ => arec_ok l) F.lo (fun l hl => ?_) (fun l hl => ends_row n1 n5 (F.row l (p2 l hl)))
  obtain ⟨L, h1, _, h3⟩ := sr_mem (ladL l l)
  exact ⟨L, by rw [← h1]; exact lawlad_ok n5 (F.row l (p2 l hl)).dr, h3⟩
theorem ladders_row {n : Nat} (n1 : 1 ≤ n) (n5 : n ≤ 5) {o : List Int} {t : Tc} {low r : List Nat} (F : FactC n o t low) (hr : r ∈ t.map fun z => z.1) : ∃ L : List (List Nat), fnP 2 m_ladders [.int (n : Nat), drD r] = .ok true (.lst (L.map drD)) ∧ L.length ≤ 100 ∧ ∀ l ∈ L, l ∈ t.map fun z => z.1 := by
  have R := F.row r hr
  obtain ⟨L, h1, h2, h3⟩ := sr_mem (ladL r r)
  refine ⟨L, by rw [← h1]; exact ladders_ok n1 n5 R.dr, ?_, fun l hl => R.lad l ((h3 l).mp hl)⟩
  have := (ladL_len r r).1
  have := R.dr.len n5
  omega
theorem lst1 {a : P} {env : Env} {f : Bool} {x : Int} (h : a env = .ok f (.int x)) : opN dLst [a] env = .ok true (.lst [.int x]) := by
  have e : dLst [.int x] = some (.lin, .lst [.int x]) := rfl
  simp only [opN, args, h, AR.bind, e, Kd.fl, gfl, noL, Bool.or_true, Bool.and_self]
theorem opNG2 {f : List D → Option (Kd × D)} {m1 m2 : GE} {env e1 e2 : Env} {x y d : D} (h1 : m1 env = .ok true x e1) (h2 : m2 e1 = .ok true y e2) (hf : f [x, y] = some (.new, d)) : opNG f [(.ex m1), (.ex m2)] env = .ok true d e2 := by
  simp [opNG, argsG, h1, h2, valsU, hf, Kd.fl, gfl]
theorem un_m (ks ws : List Nat) (i : Nat) (s : Sl) (h1 : ks.contains i = false) (h2 : ws.contains i = false) : un1 ks ws i s (mask1 ks ws i s) = some s := by
  unfold un1 mask1
  rw [h1, h2]
  cases s <;> rfl
theorem linG2_sh {f : D → D → Option (Kd × D)} {m1 m2 : GE} {env e1 e2 : Env} {a b : Bool} {x y d : D} {k : Kd} (h1 : m1 env = .ok a x e1) (h2 : m2 e1 = .ok b y e2) (hs : (gfl a x && gfl b y) = false) (hf : f x y = some (k, d)) (hd : noL d = false) : linG (opf f) [(.ex m1), (.ex m2)] env = .ok false d e2 := by
  have hs' : (gfl a x && (gfl b y && true)) = false := by rw [Bool.and_true]; exact hs
  simp only [linG, argsG, h1, h2, ownU, tmpU, valsU, Option.map_some, opf, hf, hs', Bool.false_eq_true, if_false, if_true, hd]
abbrev lwE (d0 d1 : D) (c : Int) (n : Nat) (bo : Bool) (o : List Int) (b : Bool) (L : List (List Nat)) (s6 s7 s8 s9 : Sl) : Env := [.val false d0, .val false d1, .val true (.lst [.int c]), .val true (.int (n : Nat)), .val bo (tO o), .val b (.lst (L.map drD)), s6, s7, s8, s9]
def elS (T : List D → RR) : GE := (linG (opf dIx) [(.ex (lift [5] (var 5))), (.ex (callR 0 2 2 T [(.vr 2), (.ex (lift [5] (opN dLen [(var 5)])))]))])
theorem elS_ok {T : List D → RR} (hT : TakeG T) {d0 d1 : D} {c : Int} {n : Nat} {o : List Int} {bo b : Bool} {L : List (List Nat)} (h0 : 0 < L.length) (hl : L.length ≤ 100) (s6 s7 s8 s9 : Sl) : ∃ c' l, l ∈ L ∧ elS T (lwE d0 d1 c n bo o b L s6 s7 s8 s9) = .ok false (drD l) (lwE d0 d1 c' n bo o false L s6 s7 s8 s9) := by
  obtain ⟨i, hi, c', e⟩ := hT.nat c L.length h0 (by omega)
  refine ⟨c', L.getD i [], ?_, ?_⟩
  · rw [List.getD_eq_getElem?_getD, List.getElem?_eq_getElem hi]
    exact List.getElem_mem _
  · have l1 : lift [5] (var 5) (lwE d0 d1 c n bo o b L s6 s7 s8 s9) = .ok false (.lst (L.map drD)) (lwE d0 d1 c n bo o false L s6 s7 s8 s9) := by
      have hn : L ≠ [] := fun z => by rw [z] at h0; cases h0
      cases L with
      | nil => exact absurd rfl hn
      | cons x L => rfl
    have lb : opN dLen [(var 5)] (lwE d0 d1 c n bo o false L s6 s7 s8 s9) = .ok true (.int (L.length : Nat)) := opN1_new (show var 5 _ = .ok false (.lst (L.map drD)) from rfl) (by
      have : szOk L.length = true := szOk_small (by omega)
      simp [dLen, this])
    have l2 : callR 0 2 2 T [(.vr 2), (.ex (lift [5] (opN dLen [(var 5)])))] (lwE d0 d1 c n bo o false L s6 s7 s8 s9) = .ok true (.int (i : Nat)) (lwE d0 d1 c' n bo o false L s6 s7 s8 s9) := call_take (s := .val true (.lst [.int c])) rfl rfl lb e rfl rfl rfl rfl
    exact linG2_sh l1 l2 rfl (ix_ld hi) rfl
theorem ks_loop {T : List D → RR} (hT : TakeG T) {d0 d1 : D} {n : Nat} {o : List Int} {bo : Bool} {L : List (List Nat)} (h0 : 0 < L.length) (hl : L.length ≤ 100) (s6 s8 s9 : Sl) : ∀ (ds : List D) (c : Int) (b : Bool) (acc : List (List Nat)), acc.length + ds.length ≤ 900 → ∃ (M : List (List Nat)) (c' : Int) (b' : Bool), (∀ l ∈ M, l ∈ L) ∧ M.length = ds.length ∧
    loopCS [7] (.nm 7) yesG (elS T) ds (lwE d0 d1 c n bo o b L s6 .emp s8 s9) (acc.map drD) = .ok false (.lst ((acc ++ M).map drD)) (lwE d0 d1 c' n bo o b' L s6 .emp s8 s9)
  | [], c, b, acc, _ => ⟨[], c, b, (fun l h => nomatch h), rfl, by simp only [loopCS, List.append_nil]⟩
  | d :: ds, c, b, acc, hz => by
    rw [List.length_cons] at hz
    obtain ⟨c1, l, hm, e⟩ := elS_ok hT (d0 := d0) (d1 := d1) (c := c) (n := n) (o := o) (bo := bo) (b := b) h0 hl s6 (.val false d) s8 s9
    obtain ⟨M, c', b', h1, h2, h3⟩ := ks_loop hT (d0 := d0) (d1 := d1) (n := n) (o := o) (bo := bo) h0 hl s6 s8 s9 ds c1 false (acc ++ [l]) (by rw [List.length_append, List.length_singleton]; omega)
    refine ⟨l :: M, c', b', fun x hx => (List.mem_cons.mp hx).elim (fun z => z ▸ hm) (h1 x), by rw [List.length_cons, List.length_cons, h2], ?_⟩
    have z : szOk (acc.map drD).length = true := szOk_small (by rw [List.length_map]; omega)
    have hb : bindT (.nm 7) d (lwE d0 d1 c n bo o b L s6 .emp s8 s9) = some (lwE d0 d1 c n bo o b L s6 (.val false d) s8 s9) := rfl
    have hw : wipeE (lwE d0 d1 c1 n bo o false L s6 (.val false d) s8 s9) [7] = lwE d0 d1 c1 n bo o false L s6 .emp s8 s9 := rfl
    simp only [loopCS, hb, yesG, e, z, if_true, hw]
    rw [show acc ++ l :: M = (acc ++ [l]) ++ M by simp, ← h3]
    congr 1
    simp
def somG (T : List D → RR) (LO : List D → PR) : GE := (linG (opf dAdd) [(.ex (compKS [7] (.nm 7) (iterS [] (irange1 (cst (.int 6)))) yesG (elS T))), (.ex (lift [4, 5] (opN dLst [(op2 dIx (var 5) (op1 dNeg (cst (.int 1)))), (callP LO [(var 4)])])))])
theorem somG_ok {T : List D → RR} (hT : TakeG T) {LO : List D → PR} {d0 d1 : D} {c : Int} {n : Nat} {o : List Int} {b : Bool} {L : List (List Nat)} (h0 : 0 < L.length) (hl : L.length ≤ 100) {low : List Nat} (hm : low ∈ L) (hLO : LO [tO o] = .ok true (drD low)) (s6 s7 s8 s9 : Sl) :
    ∃ (M : List (List Nat)) (c' : Int), (∀ l ∈ M, l ∈ L) ∧ M.length ≤ 8 ∧ somG T LO (lwE d0 d1 c n true o b L s6 s7 s8 s9) = .ok false (.lst (M.map drD)) (lwE d0 d1 c' n false o false L s6 .emp s8 s9) := by
  obtain ⟨M, c', b', h1, h2, h3⟩ := ks_loop hT (d0 := d0) (d1 := d1) (n := n) (o := o) (bo := true) h0 hl s6 s8 s9 (rgD 0 6) c b [] (by rw [rgD_length]; simp)
  rw [rgD_length] at h2
  obtain ⟨x, hx⟩ : ∃ x, L.getLast? = some x := by
    cases L with
    | nil => cases h0
    | cons y L => exact ⟨_, List.getLast?_cons⟩
  have hxL : x ∈ L := List.mem_of_getLast? hx
  refine ⟨M ++ [x, low], c', fun l hl => ?_, by rw [List.length_append, h2]; simp, ?_⟩
  · rcases List.mem_append.mp hl with z | z
    · exact h1 l z
    · rcases List.mem_cons.mp z with z | z
      · rw [z]; exact hxL
      · rw [List.mem_singleton.mp z]; exact hm
  · have k1 : compKS [7] (.nm 7) (iterS [] (irange1 (cst (.int 6)))) yesG (elS T) (lwE d0 d1 c n true o b L s6 s7 s8 s9) = .ok false (.lst (M.map drD)) (lwE d0 d1 c' n true o b' L s6 .emp s8 s9) := by
      have hi : iterS [] (irange1 (cst (.int 6))) (lwE d0 d1 c n true o b L s6 s7 s8 s9) = .ok (rgD 0 6) (lwE d0 d1 c n true o b L s6 s7 s8 s9) := rfl
      simp only [compKS, hi]
      exact h3
    have q : ∀ (env : Env) (b'' : Bool), env[4]? = some (.val b'' (tO o)) → (∃ b3, env[5]? = some (.val b3 (.lst (L.map drD)))) → opN dLst [(op2 dIx (var 5) (op1 dNeg (cst (.int 1)))), (callP LO [(var 4)])] env = .ok false (.lst [drD x, drD low]) := fun env b'' h4 ⟨b3, h5⟩ => by
      have v4 : var 4 env = .ok false (tO o) := by simp only [var, Env.look, h4, Sl.get]
      have v5 : var 5 env = .ok false (.lst (L.map drD)) := by simp only [var, Env.look, h5, Sl.get]
      have e5 : op2 dIx (var 5) (op1 dNeg (cst (.int 1))) env = .ok false (drD x) := by
        have hneg : op1 dNeg (cst (.int 1)) env = .ok true (.int (-1)) := rfl
        simp only [op2, v5, hneg, PR.bind, ix_last hx, Kd.fl]
        rfl
      have e4 : callP LO [(var 4)] env = .ok true (drD low) := call1 v4 hLO
      have hd : noL (drD x) = false := rfl
      simp only [opN, args, e5, e4, AR.bind, dLst, gfl, hd, Kd.fl]
      rfl
    have k2 : lift [4, 5] (opN dLst [(op2 dIx (var 5) (op1 dNeg (cst (.int 1)))), (callP LO [(var 4)])]) (lwE d0 d1 c' n true o b' L s6 .emp s8 s9) = .ok false (.lst [drD x, drD low]) (lwE d0 d1 c' n false o false L s6 .emp s8 s9) := by
      have q1 := q (lwE d0 d1 c' n true o b' L s6 .emp s8 s9) true rfl ⟨b', rfl⟩
      have q2 := q (hide [4, 5] 0 (lwE d0 d1 c' n true o b' L s6 .emp s8 s9)) true rfl ⟨b', rfl⟩
      simp only [lift, q1, q2]
      rfl
    rw [List.map_append]
    have hz : szOk ((M.map drD).length + [drD x, drD low].length) = true := szOk_small (by rw [List.length_map, h2]; simp)
    have hadd : dAdd (.lst (M.map drD)) (.lst [drD x, drD low]) = some (if noLs (M.map drD) && noLs [drD x, drD low] then Kd.new else Kd.lin, .lst (M.map drD ++ [drD x, drD low])) := by
      simp only [dAdd, hz, if_true]
    exact linG2_sh k1 k2 (by simp [gfl, noL]) hadd rfl
def bodyL (F_ladders : List D → PR) (F_drawings : List D → PR) (F__law_cell : List D → PR) (F__law_take : List D → RR) (F__law_order : List D → RR) (F__law_lowest : List D → PR) (F__law_good : List D → PR) : SM :=
  (seqS (asgS 2 (lift [0, 1] (opN dLst [(callP F__law_cell [(var 0), (var 1)])])))
  (seqS (asgS 3 (opNG (opf dAdd) [(.ex (lift [] (cst (.int 1)))), (.ex (callR 0 2 2 F__law_take [(.vr 2), (.ex (lift [] (cst (.int 5))))]))]))
  (seqS (asgS 4 (callR 0 2 2 F__law_order [(.vr 2), (.vr 3)]))
  (seqS (asgS 5 (lift [4] (callP F_drawings [(var 4)])))
  (seqS (asgS 6 (linG (opf dAdd) [(.ex (compKS [7] (.nm 7) (iterS [] (irange1 (cst (.int 6)))) yesG (linG (opf dIx) [(.ex (lift [5] (var 5))), (.ex (callR 0 2 2 F__law_take [(.vr 2), (.ex (lift [5] (opN dLen [(var 5)])))]))]))), (.ex (lift [4, 5] (opN dLst [(op2 dIx (var 5) (op1 dNeg (cst (.int 1)))), (callP F__law_lowest [(var 4)])])))]))
  (scopeS [3, 4, 5, 6, 8] [] (seqS (ifS (notP (opN dAll [(comp [8] (.nm 8) (iseq (var 6)) yesP (callP F__law_good [(var 4), (var 8)]))])) (retS (lift [] (cst (.bl false)))) passS)
  (forS [5] (.nm 8) (iseq (var 5)) (ifS (notP (opN dAll [(comp [9] (.nm 9) (iseq (callP F_ladders [(var 3), (var 8)])) yesP (op2 dIn (var 9) (var 5)))])) (retS (lift [] (cst (.bl false)))) passS)))))))))
def tailL (F_ladders : List D → PR) (F_drawings : List D → PR) (F__law_cell : List D → PR) (F__law_take : List D → RR) (F__law_order : List D → RR) (F__law_lowest : List D → PR) (F__law_good : List D → PR) : SM :=
  (retS (lift [] (cst (.bl true))))
theorem b_law_eq (F_ladders : List D → PR) (F_drawings : List D → PR) (F__law_cell : List D → PR) (F__law_take : List D → RR) (F__law_order : List D → RR) (F__law_lowest : List D → PR) (F__law_good : List D → PR) : b_law F_ladders F_drawings F__law_cell F__law_take F__law_order F__law_lowest F__law_good = seqS (forS [0] (.nm 1) (irange1 (opN dMax2 [(opN dMin2 [(opN dLen [(var 0)]), (cst (.int 3))]), (cst (.int 1))])) (bodyL F_ladders F_drawings F__law_cell F__law_take F__law_order F__law_lowest F__law_good)) (tailL F_ladders F_drawings F__law_cell F__law_take F__law_order F__law_lowest F__law_good) := rfl
theorem law_shell {F_ladders : List D → PR} {F_drawings : List D → PR} {F__law_cell : List D → PR} {F__law_take : List D → RR} {F__law_order : List D → RR} {F__law_lowest : List D → PR} {F__law_good : List D → PR}
    (hb : ∀ (ns : List Int) (k : Nat), ns.length ≤ 63 → k < 3 → ∀ s2 s3 s4 s5 s6 s7 s8 s9 : Sl, ∃ t1 t2 t3 t4 t5 t6 t7 t8 t9, bodyL F_ladders F_drawings F__law_cell F__law_take F__law_order F__law_lowest F__law_good [.val false (.frz (ns.map .int)), .val false (.int (k : Nat)), s2, s3, s4, s5, s6, s7, s8, s9] = .nx [.val false (.frz (ns.map .int)), t1, t2, t3, t4, t5, t6, t7, t8, t9])
    (ht : ∀ (d : Sl) (t1 t2 t3 t4 t5 t6 t7 t8 t9 : Sl), d ≠ .pin → ∃ f e, tailL F_ladders F_drawings F__law_cell F__law_take F__law_order F__law_lowest F__law_good [d, t1, t2, t3, t4, t5, t6, t7, t8, t9] = .rt f (.bl true) e) (ns : List Int) (hl : ns.length ≤ 63) : ∃ f, fnP 10 (b_law F_ladders F_drawings F__law_cell F__law_take F__law_order F__law_lowest F__law_good) [.frz (ns.map .int)] = .ok f (.bl true) := by
  obtain ⟨j, hj, hij⟩ : ∃ j : Nat, j ≤ 3 ∧ irange1 (opN dMax2 [(opN dMin2 [(opN dLen [(var 0)]), (cst (.int 3))]), (cst (.int 1))]) [.val false (.frz (ns.map .int)), .emp, .emp, .emp, .emp, .emp, .emp, .emp, .emp, .emp] = .ok true (rgD 0 j) := by
    have hn : (opN dLen [(var 0)]) [.val false (.frz (ns.map .int)), .emp, .emp, .emp, .emp, .emp, .emp, .emp, .emp, .emp] = .ok true (.int (ns.length : Nat)) := opN1_new (show var 0 _ = .ok false (.frz (ns.map .int)) from rfl) (by simp [dLen])
    have m1 : (opN dMin2 [(opN dLen [(var 0)]), (cst (.int 3))]) [.val false (.frz (ns.map .int)), .emp, .emp, .emp, .emp, .emp, .emp, .emp, .emp, .emp] = .ok true (.int ((min ns.length 3 : Nat) : Int)) := opN2_new hn (cst_i _ 3) (by simp [dMin2]; omega)
    have hmx : (opN dMax2 [(opN dMin2 [(opN dLen [(var 0)]), (cst (.int 3))]), (cst (.int 1))]) [.val false (.frz (ns.map .int)), .emp, .emp, .emp, .emp, .emp, .emp, .emp, .emp, .emp] = .ok true (.int ((max (min ns.length 3) 1 : Nat) : Int)) := opN2_new m1 (cst_i _ 1) (by simp [dMax2]; omega)
    refine ⟨max (min ns.length 3) 1, by omega, ?_⟩
    have := irange1_ok hmx (rgSz_nat (by omega))
    rwa [show (((max (min ns.length 3) 1 : Nat) : Int)).toNat = max (min ns.length 3) 1 by omega] at this
  obtain ⟨env, h, t1, t2, t3, t4, t5, t6, t7, t8, t9, he⟩ := loop_inv (τ := .nm 1) (m := bodyL F_ladders F_drawings F__law_cell F__law_take F__law_order F__law_lowest F__law_good) (ds := rgD 0 j) (fun env => ∃ t1 t2 t3 t4 t5 t6 t7 t8 t9, env = [.val false (.frz (ns.map .int)), t1, t2, t3, t4, t5, t6, t7, t8, t9]) (fun d hd env ⟨t1, t2, t3, t4, t5, t6, t7, t8, t9, he⟩ => by
    obtain ⟨k, hk, rfl⟩ := mem_rgD hd
    subst he
    obtain ⟨ut1, ut2, ut3, ut4, ut5, ut6, ut7, ut8, ut9, hb⟩ := hb ns k hl (by omega) t2 t3 t4 t5 t6 t7 t8 t9
    refine ⟨_, _, rfl, ?_, ut1, ut2, ut3, ut4, ut5, ut6, ut7, ut8, ut9, rfl⟩
    simpa using hb) [.val false (.frz (ns.map .int)), .emp, .emp, .emp, .emp, .emp, .emp, .emp, .emp, .emp] ⟨_, _, _, _, _, _, _, _, _, rfl⟩
  subst he
  obtain ⟨f, e, hz⟩ := ht (.val false (.frz (ns.map .int))) t1 t2 t3 t4 t5 t6 t7 t8 t9 (by simp)
  refine ⟨f, fnP_rt (e := e) ?_⟩
  have hi := hij
  have h0 : (forS [0] (.nm 1) (irange1 (opN dMax2 [(opN dMin2 [(opN dLen [(var 0)]), (cst (.int 3))]), (cst (.int 1))])) (bodyL F_ladders F_drawings F__law_cell F__law_take F__law_order F__law_lowest F__law_good)) (startE 10 [.frz (ns.map .int)]) = .nx [.val false (.frz (ns.map .int)), t1, t2, t3, t4, t5, t6, t7, t8, t9] := by
    exact (for_ok hi (noLs_rgD _)).trans h
  rw [b_law_eq, seq_nx h0]
  exact hz
def fdB (LD : List D → PR) : SM := (ifS (notP (opN dAll [(comp [9] (.nm 9) (iseq (callP LD [(var 3), (var 8)])) yesP (op2 dIn (var 9) (var 5)))])) (retS (lift [] (cst (.bl false)))) passS)
def scB (LD G : List D → PR) : SM := (scopeS [3, 4, 5, 6, 8] [] (seqS (ifS (notP (opN dAll [(comp [8] (.nm 8) (iseq (var 6)) yesP (callP G [(var 4), (var 8)]))])) (retS (lift [] (cst (.bl false)))) passS)
  (forS [5] (.nm 8) (iseq (var 5)) (fdB LD))))
theorem fdB_ok {LD : List D → PR} {n : Nat} {o : List Int} {L : List (List Nat)} {l : List Nat} {b b3 b4 : Bool} (hLD : ∃ M : List (List Nat), LD [.int (n : Nat), drD l] = .ok true (.lst (M.map drD)) ∧ M.length ≤ 100 ∧ ∀ x ∈ M, x ∈ L) (s0 s1 s2 s6 s7 s9 : Sl) :
    fdB LD [s0, s1, s2, .val b3 (.int (n : Nat)), .val b4 (tO o), .val b (.lst (L.map drD)), s6, s7, .val false (drD l), s9] = .nx [s0, s1, s2, .val b3 (.int (n : Nat)), .val b4 (tO o), .val b (.lst (L.map drD)), s6, s7, .val false (drD l), s9] := by
  let E : Env := [s0, s1, s2, .val b3 (.int (n : Nat)), .val b4 (tO o), .val b (.lst (L.map drD)), s6, s7, .val false (drD l), s9]
  obtain ⟨M, h1, h2, h3⟩ := hLD
  have hi : iseq (callP LD [(var 3), (var 8)]) E = .ok true (M.map drD) := by simp only [iseq, call2 (show var 3 E = .ok false (.int (n : Nat)) from rfl) (show var 8 E = .ok false (drD l) from rfl) h1]
  have h := all_map (xs := M.map drD) (fun _ => true) (i := 9) (ι := iseq (callP LD [(var 3), (var 8)])) (el := op2 dIn (var 9) (var 5)) (env := E) (f := true) hi (szOk_small (by rw [List.length_map]; omega)) (fun d hd => by
    obtain ⟨x, hx, rfl⟩ := List.mem_map.mp hd
    refine ⟨true, (op2_new (show var 9 _ = .ok false (drD x) from rfl) (show var 5 _ = .ok false (.lst (L.map drD)) from rfl) (dIn_dr x L)).trans ?_⟩
    have : L.contains x = true := by rw [List.contains_iff_mem]; exact h3 x hx
    rw [this])
  rw [show (M.map drD).all (fun _ => true) = true by simp] at h
  exact if_no (not_ok h)
theorem scB_ok {LD G : List D → PR} {n : Nat} {o : List Int} {L M : List (List Nat)} (hl : L.length ≤ 100) (hM : M.length ≤ 8) (hMM : ∀ l ∈ M, l ∈ L) (hG : ∀ l ∈ L, G [tO o, drD l] = .ok true (.bl true)) (hLD : ∀ l ∈ L, ∃ M : List (List Nat), LD [.int (n : Nat), drD l] = .ok true (.lst (M.map drD)) ∧ M.length ≤ 100 ∧ ∀ x ∈ M, x ∈ L) (s0 s1 s2 s7 s8 s9 : Sl) :
    ∃ t3 t4 t5 t6 t8, scB LD G [s0, s1, s2, .val true (.int (n : Nat)), .val false (tO o), .val false (.lst (L.map drD)), .val false (.lst (M.map drD)), s7, s8, s9] = .nx [s0, s1, s2, t3, t4, t5, t6, s7, t8, s9] := by
  let m0 := mask1 [3, 4, 5, 6, 8] [] 0 s0
  let m1 := mask1 [3, 4, 5, 6, 8] [] 1 s1
  let m2 := mask1 [3, 4, 5, 6, 8] [] 2 s2
  let m7 := mask1 [3, 4, 5, 6, 8] [] 7 s7
  let m9 := mask1 [3, 4, 5, 6, 8] [] 9 s9
  let E : Env := [m0, m1, m2, .val true (.int (n : Nat)), .val false (tO o), .val false (.lst (L.map drD)), .val false (.lst (M.map drD)), m7, s8, m9]
  have h := all_map (xs := M.map drD) (fun _ => true) (i := 8) (ι := iseq (var 6)) (el := callP G [(var 4), (var 8)]) (env := E) (f := false) rfl (szOk_small (by rw [List.length_map]; omega)) (fun d hd => by
    obtain ⟨x, hx, rfl⟩ := List.mem_map.mp hd
    exact ⟨true, call2 (show var 4 _ = .ok false (tO o) from rfl) (show var 8 _ = .ok false (drD x) from rfl) (hG x (hMM x hx))⟩)
  rw [show (M.map drD).all (fun _ => true) = true by simp] at h
  obtain ⟨e', he, hf⟩ := for_any (ks := [5]) (τ := .nm 8) (ι := iseq (var 5)) (m := fdB LD) (env := E) (ds := L.map drD) ⟨false, rfl⟩ ⟨false, rfl⟩
  have he' : e' = E := by
    rcases he with q | q
    · exact q
    · exact q.trans rfl
  subst he'
  obtain ⟨e2, k, t8, rfl⟩ := loop_inv (τ := .nm 8) (m := fdB LD) (ds := L.map drD) (fun env => ∃ t8, env = [m0, m1, m2, .val true (.int (n : Nat)), .val false (tO o), .val false (.lst (L.map drD)), .val false (.lst (M.map drD)), m7, t8, m9]) (fun d hd env ⟨t8, he⟩ => by
    subst he
    obtain ⟨l, hl, rfl⟩ := List.mem_map.mp hd
    exact ⟨_, _, rfl, fdB_ok (hLD l hl) _ _ _ _ _ _, _, rfl⟩) E ⟨_, rfl⟩
  refine ⟨.val true (.int (n : Nat)), .val false (tO o), .val false (.lst (L.map drD)), .val false (.lst (M.map drD)), t8, ?_⟩
  refine scope_nx (e := [m0, m1, m2, .val true (.int (n : Nat)), .val false (tO o), .val false (.lst (L.map drD)), .val false (.lst (M.map drD)), m7, t8, m9]) (by
    show seqS _ _ E = _
    exact (seq_nx (if_no (not_ok h))).trans (hf.trans k)) ?_
  simp only [unmask, m0, m1, m2, m7, m9, un_m [3, 4, 5, 6, 8] [] 0 s0 rfl rfl, un_m [3, 4, 5, 6, 8] [] 1 s1 rfl rfl, un_m [3, 4, 5, 6, 8] [] 2 s2 rfl rfl, un_m [3, 4, 5, 6, 8] [] 7 s7 rfl rfl, un_m [3, 4, 5, 6, 8] [] 9 s9 rfl rfl]
  rfl
theorem take_asg {T : List D → RR} {c c1 : Int} {x y : Int} {s0 s1 s3 s4 s5 s6 s7 s8 s9 : Sl} (h : T [.lst [.int c], .int x] = .ok true (.int y) (.lst [.int c1])) : (callR 0 2 2 T [(.vr 2), (.ex (lift [] (cst (.int x))))]) [s0, s1, .val true (.lst [.int c]), s3, s4, s5, s6, s7, s8, s9] = .ok true (.int y) [s0, s1, .val true (.lst [.int c1]), s3, s4, s5, s6, s7, s8, s9] := by
  simp [callR, argsG, lift, cst, gfl, noL, Env.look, Sl.get, othersOk, valsU, Sl.mine, Sl.put, h]
theorem ord_call {O : List D → RR} {c c1 : Int} {n : Nat} {o : List Int} {s0 s1 s4 s5 s6 s7 s8 s9 : Sl} (h : O [.lst [.int c], .int (n : Nat)] = .ok true (tO o) (.lst [.int c1])) : (callR 0 2 2 O [(.vr 2), (.vr 3)]) [s0, s1, .val true (.lst [.int c]), .val true (.int (n : Nat)), s4, s5, s6, s7, s8, s9] = .ok true (tO o) [s0, s1, .val true (.lst [.int c1]), .val true (.int (n : Nat)), s4, s5, s6, s7, s8, s9] := by
  simp [callR, argsG, Env.look, Sl.get, othersOk, valsU, Sl.mine, Sl.put, h, noL]
theorem body_eq (LD DR C : List D → PR) (T O : List D → RR) (LO G : List D → PR) : bodyL LD DR C T O LO G = (seqS (asgS 2 (lift [0, 1] (opN dLst [(callP C [(var 0), (var 1)])])))
  (seqS (asgS 3 (opNG (opf dAdd) [(.ex (lift [] (cst (.int 1)))), (.ex (callR 0 2 2 T [(.vr 2), (.ex (lift [] (cst (.int 5))))]))]))
  (seqS (asgS 4 (callR 0 2 2 O [(.vr 2), (.vr 3)]))
  (seqS (asgS 5 (lift [4] (callP DR [(var 4)])))
  (seqS (asgS 6 (somG T LO)) (scB LD G)))))) := rfl
theorem body_gen {LD DR C : List D → PR} {T O : List D → RR} {LO G : List D → PR} (hT : TakeG T) {d0 d1 : D} {c a c1 c2 : Int} {n : Nat} (hn : 1 + a = n) {o : List Int} (hC : C [d0, d1] = .ok true (.int c)) (ht : T [.lst [.int c], .int 5] = .ok true (.int a) (.lst [.int c1])) (hO : O [.lst [.int c1], .int (n : Nat)] = .ok true (tO o) (.lst [.int c2]))
    {L : List (List Nat)} {low : List Nat} (hD : DR [tO o] = .ok true (.lst (L.map drD))) (hl : L.length ≤ 100) (hm : low ∈ L) (hLO : LO [tO o] = .ok true (drD low)) (hG : ∀ l ∈ L, G [tO o, drD l] = .ok true (.bl true)) (hLD : ∀ l ∈ L, ∃ M : List (List Nat), LD [.int (n : Nat), drD l] = .ok true (.lst (M.map drD)) ∧ M.length ≤ 100 ∧ ∀ x ∈ M, x ∈ L) (s2 s3 s4 s5 s6 s7 s8 s9 : Sl) :
    ∃ t1 t2 t3 t4 t5 t6 t7 t8 t9, bodyL LD DR C T O LO G [.val false d0, .val false d1, s2, s3, s4, s5, s6, s7, s8, s9] = .nx [.val false d0, t1, t2, t3, t4, t5, t6, t7, t8, t9] := by
  have a1 : asgS 2 (lift [0, 1] (opN dLst [(callP C [(var 0), (var 1)])])) [.val false d0, .val false d1, s2, s3, s4, s5, s6, s7, s8, s9] = .nx [.val false d0, .val false d1, .val true (.lst [.int c]), s3, s4, s5, s6, s7, s8, s9] := asg_new (lst1 (call2 (show var 0 _ = .ok false d0 from rfl) (show var 1 _ = .ok false d1 from rfl) hC))
  have a2 := asg_ok (i := 3) (opNG2 (f := opf dAdd) (lift_new (ks := []) (cst_i [.val false d0, .val false d1, .val true (.lst [.int c]), s3, s4, s5, s6, s7, s8, s9] 1) rfl) (take_asg ht) rfl)
  rw [show (1 : Int) + a = (n : Nat) from hn] at a2
  simp only [List.set] at a2
  have a3 := asg_ok (i := 4) (ord_call (s0 := .val false d0) (s1 := .val false d1) (s4 := s4) (s5 := s5) (s6 := s6) (s7 := s7) (s8 := s8) (s9 := s9) hO)
  simp only [List.set] at a3
  have a4 : asgS 5 (lift [4] (callP DR [(var 4)])) [.val false d0, .val false d1, .val true (.lst [.int c2]), .val true (.int (n : Nat)), .val true (tO o), s5, s6, s7, s8, s9] = .nx (lwE d0 d1 c2 n true o true L s6 s7 s8 s9) := asg_new (call1 (show var 4 _ = .ok false (tO o) from rfl) hD)
  have h0 : 0 < L.length := List.length_pos_of_mem hm
  obtain ⟨M, c', m1, m2, e5⟩ := somG_ok hT (d0 := d0) (d1 := d1) (c := c2) (n := n) (o := o) (b := true) h0 hl hm hLO s6 s7 s8 s9
  have a5 : asgS 6 (somG T LO) (lwE d0 d1 c2 n true o true L s6 s7 s8 s9) = .nx (lwE d0 d1 c' n false o false L (.val false (.lst (M.map drD))) .emp s8 s9) := by
    simp only [asgS, e5]
    rfl
  obtain ⟨t3, t4, t5, t6, t8, a6⟩ := scB_ok (n := n) (o := o) hl m2 m1 hG hLD (.val false d0) (.val false d1) (.val true (.lst [.int c'])) .emp s8 s9
  exact ⟨_, _, _, _, _, _, _, _, _, by rw [body_eq]; exact (seq_nx a1).trans ((seq_nx a2).trans ((seq_nx a3).trans ((seq_nx a4).trans ((seq_nx a5).trans a6))))⟩
theorem law_plain (ns : List Int) (hl : ns.length ≤ 63) (hb : ∀ z ∈ ns, PySem.Builtin.Int.intBits z ≤ 1048576) : ∃ f, fnP 10 m_law [.frz (ns.map .int)] = .ok f (.bl true) := by
  refine law_shell (fun ns k hl hk s2 s3 s4 s5 s6 s7 s8 s9 => ?_) (fun d t1 t2 t3 t4 t5 t6 t7 t8 t9 hd => ⟨true, _, rfl⟩) ns hl
  obtain ⟨c, hc⟩ := cell_ok ns hl k
  obtain ⟨a, ha, c1, e1⟩ := takeG.nat c 5 (by omega) (by omega)
  obtain ⟨o, ho, c2, e2⟩ := order_ok c1 (1 + a) (by omega)
  have ho' : o ∈ ords (1 + a) := ho
  obtain ⟨t, low, F⟩ := fact_ok (n := 1 + a) (by omega) (by omega) ho'
  obtain ⟨L, hD, hL1, hL2⟩ := drawings_ok (by omega) (by omega) ho' F
  exact body_gen takeG (n := 1 + a) (by omega) hc e1 e2 hD (by rw [hL1]; exact F.len) ((hL2 low).mpr F.lm) F.lo (fun l hl => good_ok (by omega) (by omega) (ords_len ho') F ((hL2 l).mp hl)) (fun l hl => by
    obtain ⟨M, h1, h2, h3⟩ := ladders_row (by omega) (by omega) F ((hL2 l).mp hl)
    exact ⟨M, h1, h2, fun x hx => (hL2 x).mpr (h3 x hx)⟩) s2 s3 s4 s5 s6 s7 s8 s9
end CB

namespace CB
open PySem L2 PySem.Spec PyProof.Rows
def top (i : Nat) : Stmt := PySem.Challenge.pw_crossbends_k47_whole_climbs_by_ladders.main.body.getD i (.Pass ⟨0, 0, 0, 0⟩)
abbrev s_is_whole : Stmt := top 8
abbrev N_is_whole : List Str := ["thing"]
theorem sc_is_whole : FnScope N_is_whole ["thing"] (defScope s_is_whole) := ⟨rfl, rfl, rfl, by decide +kernel, rfl, by decide +kernel, by decide +kernel⟩
theorem vis_is_whole_thing : Vis (defScope s_is_whole) "thing" := .inl (by decide +kernel)
theorem gl_is_whole_bool : (defScope s_is_whole).names.lookup ("bool" : Str) = some .globalImplicit := by decide +kernel
theorem gl_is_whole_int : (defScope s_is_whole).names.lookup ("int" : Str) = some .globalImplicit := by decide +kernel
theorem gl_is_whole_isinstance : (defScope s_is_whole).names.lookup ("isinstance" : Str) = some .globalImplicit := by decide +kernel
abbrev s_look_at_count : Stmt := top 9
abbrev N_look_at_count : List Str := ["many"]
theorem sc_look_at_count : FnScope N_look_at_count ["many"] (defScope s_look_at_count) := ⟨rfl, rfl, rfl, by decide +kernel, rfl, by decide +kernel, by decide +kernel⟩
theorem vis_look_at_count_many : Vis (defScope s_look_at_count) "many" := .inl (by decide +kernel)
theorem gl_look_at_count_BadCount : (defScope s_look_at_count).names.lookup ("BadCount" : Str) = some .globalImplicit := by decide +kernel
theorem gl_look_at_count_UNKNOWNS : (defScope s_look_at_count).names.lookup ("UNKNOWNS" : Str) = some .globalImplicit := by decide +kernel
theorem gl_look_at_count_is_whole : (defScope s_look_at_count).names.lookup ("is_whole" : Str) = some .globalImplicit := by decide +kernel
abbrev s_is_order : Stmt := top 12
abbrev N_is_order : List Str := ["thing", "one"]
theorem sc_is_order : FnScope N_is_order ["thing"] (defScope s_is_order) := ⟨rfl, rfl, rfl, by decide +kernel, rfl, by decide +kernel, by decide +kernel⟩
theorem vis_is_order_thing : Vis (defScope s_is_order) "thing" := .inl (by decide +kernel)
theorem gl_is_order_MOST : (defScope s_is_order).names.lookup ("MOST" : Str) = some .globalImplicit := by decide +kernel
theorem gl_is_order_all : (defScope s_is_order).names.lookup ("all" : Str) = some .globalImplicit := by decide +kernel
theorem gl_is_order_isinstance : (defScope s_is_order).names.lookup ("isinstance" : Str) = some .globalImplicit := by decide +kernel
theorem gl_is_order_len : (defScope s_is_order).names.lookup ("len" : Str) = some .globalImplicit := by decide +kernel
theorem gl_is_order_list : (defScope s_is_order).names.lookup ("list" : Str) = some .globalImplicit := by decide +kernel
theorem gl_is_order_range : (defScope s_is_order).names.lookup ("range" : Str) = some .globalImplicit := by decide +kernel
theorem gl_is_order_sorted : (defScope s_is_order).names.lookup ("sorted" : Str) = some .globalImplicit := by decide +kernel
theorem gl_is_order_tuple : (defScope s_is_order).names.lookup ("tuple" : Str) = some .globalImplicit := by decide +kernel
abbrev s_look_at_order : Stmt := top 13
abbrev N_look_at_order : List Str := ["thing"]
theorem sc_look_at_order : FnScope N_look_at_order ["thing"] (defScope s_look_at_order) := ⟨rfl, rfl, rfl, by decide +kernel, rfl, by decide +kernel, by decide +kernel⟩
theorem vis_look_at_order_thing : Vis (defScope s_look_at_order) "thing" := .inl (by decide +kernel)
theorem gl_look_at_order_BadOrder : (defScope s_look_at_order).names.lookup ("BadOrder" : Str) = some .globalImplicit := by decide +kernel
theorem gl_look_at_order_is_order : (defScope s_look_at_order).names.lookup ("is_order" : Str) = some .globalImplicit := by decide +kernel
abbrev s_plain : Stmt := top 14
abbrev N_plain : List Str := ["many"]
theorem sc_plain : FnScope N_plain ["many"] (defScope s_plain) := ⟨rfl, rfl, rfl, by decide +kernel, rfl, by decide +kernel, by decide +kernel⟩
theorem vis_plain_many : Vis (defScope s_plain) "many" := .inl (by decide +kernel)
theorem gl_plain_range : (defScope s_plain).names.lookup ("range" : Str) = some .globalImplicit := by decide +kernel
theorem gl_plain_tuple : (defScope s_plain).names.lookup ("tuple" : Str) = some .globalImplicit := by decide +kernel
abbrev s_pairs_of : Stmt := top 15
abbrev N_pairs_of : List Str := ["order", "found", "i", "j"]
theorem sc_pairs_of : FnScope N_pairs_of ["order"] (defScope s_pairs_of) := ⟨rfl, rfl, rfl, by decide +kernel, rfl, by decide +kernel, by decide +kernel⟩
theorem vis_pairs_of_found : Vis (defScope s_pairs_of) "found" := .inl (by decide +kernel)
theorem vis_pairs_of_i : Vis (defScope s_pairs_of) "i" := .inr (.inl (by decide +kernel))
theorem vis_pairs_of_order : Vis (defScope s_pairs_of) "order" := .inr (.inl (by decide +kernel))
theorem loc_pairs_of_found : Loc (defScope s_pairs_of) "found" := .inl (by decide +kernel)
theorem loc_pairs_of_i : Loc (defScope s_pairs_of) "i" := .inr (by decide +kernel)
theorem gl_pairs_of_len : (defScope s_pairs_of).names.lookup ("len" : Str) = some .globalImplicit := by decide +kernel
theorem gl_pairs_of_range : (defScope s_pairs_of).names.lookup ("range" : Str) = some .globalImplicit := by decide +kernel
abbrev s_code_of : Stmt := top 16
abbrev N_code_of : List Str := ["order", "k", "thing"]
theorem sc_code_of : FnScope N_code_of ["order"] (defScope s_code_of) := ⟨rfl, rfl, rfl, by decide +kernel, rfl, by decide +kernel, by decide +kernel⟩
theorem vis_code_of_order : Vis (defScope s_code_of) "order" := .inr (.inl (by decide +kernel))
theorem gl_code_of_len : (defScope s_code_of).names.lookup ("len" : Str) = some .globalImplicit := by decide +kernel
theorem gl_code_of_range : (defScope s_code_of).names.lookup ("range" : Str) = some .globalImplicit := by decide +kernel
theorem gl_code_of_tuple : (defScope s_code_of).names.lookup ("tuple" : Str) = some .globalImplicit := by decide +kernel
abbrev s_swapped : Stmt := top 17
abbrev N_swapped : List Str := ["order", "i", "j", "found"]
theorem sc_swapped : FnScope N_swapped ["order", "i", "j"] (defScope s_swapped) := ⟨rfl, rfl, rfl, by decide +kernel, rfl, by decide +kernel, by decide +kernel⟩
theorem vis_swapped_found : Vis (defScope s_swapped) "found" := .inl (by decide +kernel)
theorem vis_swapped_i : Vis (defScope s_swapped) "i" := .inl (by decide +kernel)
theorem vis_swapped_j : Vis (defScope s_swapped) "j" := .inl (by decide +kernel)
theorem vis_swapped_order : Vis (defScope s_swapped) "order" := .inl (by decide +kernel)
theorem loc_swapped_found : Loc (defScope s_swapped) "found" := .inl (by decide +kernel)
theorem gl_swapped_list : (defScope s_swapped).names.lookup ("list" : Str) = some .globalImplicit := by decide +kernel
theorem gl_swapped_tuple : (defScope s_swapped).names.lookup ("tuple" : Str) = some .globalImplicit := by decide +kernel
abbrev s_order_by : Stmt := top 19
abbrev N_order_by : List Str := ["many", "word", "found", "k"]
theorem sc_order_by : FnScope N_order_by ["many", "word"] (defScope s_order_by) := ⟨rfl, rfl, rfl, by decide +kernel, rfl, by decide +kernel, by decide +kernel⟩
theorem vis_order_by_found : Vis (defScope s_order_by) "found" := .inl (by decide +kernel)
theorem vis_order_by_k : Vis (defScope s_order_by) "k" := .inl (by decide +kernel)
theorem vis_order_by_many : Vis (defScope s_order_by) "many" := .inl (by decide +kernel)
theorem vis_order_by_word : Vis (defScope s_order_by) "word" := .inl (by decide +kernel)
theorem loc_order_by_found : Loc (defScope s_order_by) "found" := .inl (by decide +kernel)
theorem loc_order_by_k : Loc (defScope s_order_by) "k" := .inl (by decide +kernel)
theorem gl_order_by_plain : (defScope s_order_by).names.lookup ("plain" : Str) = some .globalImplicit := by decide +kernel
theorem gl_order_by_swapped : (defScope s_order_by).names.lookup ("swapped" : Str) = some .globalImplicit := by decide +kernel
abbrev s_is_short : Stmt := top 20
abbrev N_is_short : List Str := ["many", "word"]
theorem sc_is_short : FnScope N_is_short ["many", "word"] (defScope s_is_short) := ⟨rfl, rfl, rfl, by decide +kernel, rfl, by decide +kernel, by decide +kernel⟩
theorem vis_is_short_many : Vis (defScope s_is_short) "many" := .inl (by decide +kernel)
theorem vis_is_short_word : Vis (defScope s_is_short) "word" := .inl (by decide +kernel)
theorem gl_is_short_len : (defScope s_is_short).names.lookup ("len" : Str) = some .globalImplicit := by decide +kernel
theorem gl_is_short_order_by : (defScope s_is_short).names.lookup ("order_by" : Str) = some .globalImplicit := by decide +kernel
theorem gl_is_short_pairs_of : (defScope s_is_short).names.lookup ("pairs_of" : Str) = some .globalImplicit := by decide +kernel
abbrev s_is_cross : Stmt := top 22
abbrev N_is_cross : List Str := ["many", "thing", "one"]
theorem sc_is_cross : FnScope N_is_cross ["many", "thing"] (defScope s_is_cross) := ⟨rfl, rfl, rfl, by decide +kernel, rfl, by decide +kernel, by decide +kernel⟩
theorem vis_is_cross_many : Vis (defScope s_is_cross) "many" := .inl (by decide +kernel)
theorem vis_is_cross_thing : Vis (defScope s_is_cross) "thing" := .inl (by decide +kernel)
theorem gl_is_cross_all : (defScope s_is_cross).names.lookup ("all" : Str) = some .globalImplicit := by decide +kernel
theorem gl_is_cross_isinstance : (defScope s_is_cross).names.lookup ("isinstance" : Str) = some .globalImplicit := by decide +kernel
theorem gl_is_cross_len : (defScope s_is_cross).names.lookup ("len" : Str) = some .globalImplicit := by decide +kernel
theorem gl_is_cross_sum : (defScope s_is_cross).names.lookup ("sum" : Str) = some .globalImplicit := by decide +kernel
theorem gl_is_cross_tuple : (defScope s_is_cross).names.lookup ("tuple" : Str) = some .globalImplicit := by decide +kernel
abbrev s_look_at_drawing : Stmt := top 23
abbrev N_look_at_drawing : List Str := ["many", "thing", "one", "k"]
theorem sc_look_at_drawing : FnScope N_look_at_drawing ["many", "thing"] (defScope s_look_at_drawing) := ⟨rfl, rfl, rfl, by decide +kernel, rfl, by decide +kernel, by decide +kernel⟩
theorem vis_look_at_drawing_many : Vis (defScope s_look_at_drawing) "many" := .inr (.inl (by decide +kernel))
theorem vis_look_at_drawing_thing : Vis (defScope s_look_at_drawing) "thing" := .inr (.inl (by decide +kernel))
theorem gl_look_at_drawing_BadDrawing : (defScope s_look_at_drawing).names.lookup ("BadDrawing" : Str) = some .globalImplicit := by decide +kernel
theorem gl_look_at_drawing_all : (defScope s_look_at_drawing).names.lookup ("all" : Str) = some .globalImplicit := by decide +kernel
theorem gl_look_at_drawing_isinstance : (defScope s_look_at_drawing).names.lookup ("isinstance" : Str) = some .globalImplicit := by decide +kernel
theorem gl_look_at_drawing_len : (defScope s_look_at_drawing).names.lookup ("len" : Str) = some .globalImplicit := by decide +kernel
theorem gl_look_at_drawing_list : (defScope s_look_at_drawing).names.lookup ("list" : Str) = some .globalImplicit := by decide +kernel
theorem gl_look_at_drawing_look_at_count : (defScope s_look_at_drawing).names.lookup ("look_at_count" : Str) = some .globalImplicit := by decide +kernel
theorem gl_look_at_drawing_range : (defScope s_look_at_drawing).names.lookup ("range" : Str) = some .globalImplicit := by decide +kernel
abbrev s_line_of : Stmt := top 24
abbrev N_line_of : List Str := ["drawing", "row", "met", "i", "j", "up"]
theorem sc_line_of : FnScope N_line_of ["drawing", "row"] (defScope s_line_of) := ⟨rfl, rfl, rfl, by decide +kernel, rfl, by decide +kernel, by decide +kernel⟩
theorem vis_line_of_drawing : Vis (defScope s_line_of) "drawing" := .inl (by decide +kernel)
theorem vis_line_of_i : Vis (defScope s_line_of) "i" := .inl (by decide +kernel)
theorem vis_line_of_j : Vis (defScope s_line_of) "j" := .inl (by decide +kernel)
theorem vis_line_of_met : Vis (defScope s_line_of) "met" := .inl (by decide +kernel)
theorem vis_line_of_row : Vis (defScope s_line_of) "row" := .inl (by decide +kernel)
theorem vis_line_of_up : Vis (defScope s_line_of) "up" := .inl (by decide +kernel)
theorem loc_line_of_i : Loc (defScope s_line_of) "i" := .inl (by decide +kernel)
theorem loc_line_of_j : Loc (defScope s_line_of) "j" := .inl (by decide +kernel)
theorem loc_line_of_met : Loc (defScope s_line_of) "met" := .inl (by decide +kernel)
theorem loc_line_of_up : Loc (defScope s_line_of) "up" := .inl (by decide +kernel)
theorem lcl_line_of_i : (defScope s_line_of).names.lookup ("i" : Str) = some .local := by decide +kernel
theorem lcl_line_of_j : (defScope s_line_of).names.lookup ("j" : Str) = some .local := by decide +kernel
abbrev s_ends : Stmt := top 25
abbrev N_ends : List Str := ["many", "drawing", "row"]
theorem sc_ends : FnScope N_ends ["many", "drawing"] (defScope s_ends) := ⟨rfl, rfl, rfl, by decide +kernel, rfl, by decide +kernel, by decide +kernel⟩
theorem vis_ends_drawing : Vis (defScope s_ends) "drawing" := .inr (.inl (by decide +kernel))
theorem vis_ends_many : Vis (defScope s_ends) "many" := .inl (by decide +kernel)
theorem gl_ends_look_at_drawing : (defScope s_ends).names.lookup ("look_at_drawing" : Str) = some .globalImplicit := by decide +kernel
theorem gl_ends_range : (defScope s_ends).names.lookup ("range" : Str) = some .globalImplicit := by decide +kernel
theorem gl_ends_tuple : (defScope s_ends).names.lookup ("tuple" : Str) = some .globalImplicit := by decide +kernel
abbrev s_word_of : Stmt := top 26
abbrev N_word_of : List Str := ["drawing", "found", "i", "j"]
theorem sc_word_of : FnScope N_word_of ["drawing"] (defScope s_word_of) := ⟨rfl, rfl, rfl, by decide +kernel, rfl, by decide +kernel, by decide +kernel⟩
theorem vis_word_of_drawing : Vis (defScope s_word_of) "drawing" := .inl (by decide +kernel)
theorem vis_word_of_found : Vis (defScope s_word_of) "found" := .inl (by decide +kernel)
theorem vis_word_of_i : Vis (defScope s_word_of) "i" := .inl (by decide +kernel)
theorem vis_word_of_j : Vis (defScope s_word_of) "j" := .inl (by decide +kernel)
theorem loc_word_of_found : Loc (defScope s_word_of) "found" := .inl (by decide +kernel)
theorem loc_word_of_i : Loc (defScope s_word_of) "i" := .inl (by decide +kernel)
theorem loc_word_of_j : Loc (defScope s_word_of) "j" := .inl (by decide +kernel)
theorem gl_word_of_sorted : (defScope s_word_of).names.lookup ("sorted" : Str) = some .globalImplicit := by decide +kernel
abbrev s_lowest_by : Stmt := top 27
abbrev N_lowest_by : List Str := ["order", "found", "i", "number", "j"]
theorem sc_lowest_by : FnScope N_lowest_by ["order"] (defScope s_lowest_by) := ⟨rfl, rfl, rfl, by decide +kernel, rfl, by decide +kernel, by decide +kernel⟩
theorem vis_lowest_by_found : Vis (defScope s_lowest_by) "found" := .inl (by decide +kernel)
theorem vis_lowest_by_number : Vis (defScope s_lowest_by) "number" := .inl (by decide +kernel)
theorem vis_lowest_by_order : Vis (defScope s_lowest_by) "order" := .inl (by decide +kernel)
theorem loc_lowest_by_found : Loc (defScope s_lowest_by) "found" := .inl (by decide +kernel)
theorem loc_lowest_by_i : Loc (defScope s_lowest_by) "i" := .inr (by decide +kernel)
theorem loc_lowest_by_number : Loc (defScope s_lowest_by) "number" := .inl (by decide +kernel)
theorem gl_lowest_by_code_of : (defScope s_lowest_by).names.lookup ("code_of" : Str) = some .globalImplicit := by decide +kernel
theorem gl_lowest_by_enumerate : (defScope s_lowest_by).names.lookup ("enumerate" : Str) = some .globalImplicit := by decide +kernel
theorem gl_lowest_by_range : (defScope s_lowest_by).names.lookup ("range" : Str) = some .globalImplicit := by decide +kernel
abbrev s_ladder_goal : Stmt := top 28
abbrev N_ladder_goal : List Str := ["drawing", "cell", "i", "j", "row", "left", "right"]
theorem sc_ladder_goal : FnScope N_ladder_goal ["drawing", "cell"] (defScope s_ladder_goal) := ⟨rfl, rfl, rfl, by decide +kernel, rfl, by decide +kernel, by decide +kernel⟩
theorem vis_ladder_goal_cell : Vis (defScope s_ladder_goal) "cell" := .inl (by decide +kernel)
theorem vis_ladder_goal_drawing : Vis (defScope s_ladder_goal) "drawing" := .inl (by decide +kernel)
theorem vis_ladder_goal_i : Vis (defScope s_ladder_goal) "i" := .inl (by decide +kernel)
theorem vis_ladder_goal_j : Vis (defScope s_ladder_goal) "j" := .inl (by decide +kernel)
theorem vis_ladder_goal_left : Vis (defScope s_ladder_goal) "left" := .inl (by decide +kernel)
theorem vis_ladder_goal_right : Vis (defScope s_ladder_goal) "right" := .inl (by decide +kernel)
theorem vis_ladder_goal_row : Vis (defScope s_ladder_goal) "row" := .inl (by decide +kernel)
theorem loc_ladder_goal_i : Loc (defScope s_ladder_goal) "i" := .inl (by decide +kernel)
theorem loc_ladder_goal_j : Loc (defScope s_ladder_goal) "j" := .inl (by decide +kernel)
theorem loc_ladder_goal_left : Loc (defScope s_ladder_goal) "left" := .inl (by decide +kernel)
theorem loc_ladder_goal_right : Loc (defScope s_ladder_goal) "right" := .inl (by decide +kernel)
theorem loc_ladder_goal_row : Loc (defScope s_ladder_goal) "row" := .inl (by decide +kernel)
theorem gl_ladder_goal_range : (defScope s_ladder_goal).names.lookup ("range" : Str) = some .globalImplicit := by decide +kernel
theorem gl_ladder_goal_reversed : (defScope s_ladder_goal).names.lookup ("reversed" : Str) = some .globalImplicit := by decide +kernel
abbrev s_ladders_of : Stmt := top 29
abbrev N_ladders_of : List Str := ["drawing", "found", "cell", "goal", "one"]
theorem sc_ladders_of : FnScope N_ladders_of ["drawing"] (defScope s_ladders_of) := ⟨rfl, rfl, rfl, by decide +kernel, rfl, by decide +kernel, by decide +kernel⟩
theorem vis_ladders_of_cell : Vis (defScope s_ladders_of) "cell" := .inr (.inl (by decide +kernel))
theorem vis_ladders_of_drawing : Vis (defScope s_ladders_of) "drawing" := .inl (by decide +kernel)
theorem vis_ladders_of_found : Vis (defScope s_ladders_of) "found" := .inl (by decide +kernel)
theorem vis_ladders_of_goal : Vis (defScope s_ladders_of) "goal" := .inl (by decide +kernel)
theorem loc_ladders_of_cell : Loc (defScope s_ladders_of) "cell" := .inr (by decide +kernel)
theorem loc_ladders_of_found : Loc (defScope s_ladders_of) "found" := .inl (by decide +kernel)
theorem loc_ladders_of_goal : Loc (defScope s_ladders_of) "goal" := .inl (by decide +kernel)
theorem gl_ladders_of_ladder_goal : (defScope s_ladders_of).names.lookup ("ladder_goal" : Str) = some .globalImplicit := by decide +kernel
theorem gl_ladders_of_sorted : (defScope s_ladders_of).names.lookup ("sorted" : Str) = some .globalImplicit := by decide +kernel
abbrev s_ladders : Stmt := top 30
abbrev N_ladders : List Str := ["many", "drawing"]
theorem sc_ladders : FnScope N_ladders ["many", "drawing"] (defScope s_ladders) := ⟨rfl, rfl, rfl, by decide +kernel, rfl, by decide +kernel, by decide +kernel⟩
theorem vis_ladders_drawing : Vis (defScope s_ladders) "drawing" := .inl (by decide +kernel)
theorem vis_ladders_many : Vis (defScope s_ladders) "many" := .inl (by decide +kernel)
theorem gl_ladders_ladders_of : (defScope s_ladders).names.lookup ("ladders_of" : Str) = some .globalImplicit := by decide +kernel
theorem gl_ladders_look_at_drawing : (defScope s_ladders).names.lookup ("look_at_drawing" : Str) = some .globalImplicit := by decide +kernel
abbrev s_climbs : Stmt := top 31
abbrev N_climbs : List Str := ["order", "first", "came", "rows", "at", "drawing"]
theorem sc_climbs : FnScope N_climbs ["order"] (defScope s_climbs) := ⟨rfl, rfl, rfl, by decide +kernel, rfl, by decide +kernel, by decide +kernel⟩
theorem vis_climbs_at : Vis (defScope s_climbs) "at" := .inl (by decide +kernel)
theorem vis_climbs_came : Vis (defScope s_climbs) "came" := .inl (by decide +kernel)
theorem vis_climbs_drawing : Vis (defScope s_climbs) "drawing" := .inl (by decide +kernel)
theorem vis_climbs_first : Vis (defScope s_climbs) "first" := .inl (by decide +kernel)
theorem vis_climbs_order : Vis (defScope s_climbs) "order" := .inl (by decide +kernel)
theorem vis_climbs_rows : Vis (defScope s_climbs) "rows" := .inl (by decide +kernel)
theorem loc_climbs_at : Loc (defScope s_climbs) "at" := .inl (by decide +kernel)
theorem loc_climbs_came : Loc (defScope s_climbs) "came" := .inl (by decide +kernel)
theorem loc_climbs_drawing : Loc (defScope s_climbs) "drawing" := .inl (by decide +kernel)
theorem loc_climbs_first : Loc (defScope s_climbs) "first" := .inl (by decide +kernel)
theorem loc_climbs_rows : Loc (defScope s_climbs) "rows" := .inl (by decide +kernel)
theorem gl_climbs_ladders_of : (defScope s_climbs).names.lookup ("ladders_of" : Str) = some .globalImplicit := by decide +kernel
theorem gl_climbs_len : (defScope s_climbs).names.lookup ("len" : Str) = some .globalImplicit := by decide +kernel
theorem gl_climbs_lowest_by : (defScope s_climbs).names.lookup ("lowest_by" : Str) = some .globalImplicit := by decide +kernel
theorem gl_climbs_tuple : (defScope s_climbs).names.lookup ("tuple" : Str) = some .globalImplicit := by decide +kernel
abbrev s_drawings : Stmt := top 32
abbrev N_drawings : List Str := ["order", "drawing"]
theorem sc_drawings : FnScope N_drawings ["order"] (defScope s_drawings) := ⟨rfl, rfl, rfl, by decide +kernel, rfl, by decide +kernel, by decide +kernel⟩
theorem vis_drawings_order : Vis (defScope s_drawings) "order" := .inl (by decide +kernel)
theorem gl_drawings_climbs : (defScope s_drawings).names.lookup ("climbs" : Str) = some .globalImplicit := by decide +kernel
theorem gl_drawings_look_at_order : (defScope s_drawings).names.lookup ("look_at_order" : Str) = some .globalImplicit := by decide +kernel
theorem gl_drawings_sorted : (defScope s_drawings).names.lookup ("sorted" : Str) = some .globalImplicit := by decide +kernel
abbrev s_climbed : Stmt := top 33
abbrev N_climbed : List Str := ["many", "drawing", "word", "came", "found", "here"]
theorem sc_climbed : FnScope N_climbed ["many", "drawing"] (defScope s_climbed) := ⟨rfl, rfl, rfl, by decide +kernel, rfl, by decide +kernel, by decide +kernel⟩
abbrev si_Spare : Stmt := inClass (top 5) 0
theorem sci_Spare : FnScope ["self", "place"] ["self", "place"] (defScope si_Spare) := ⟨rfl, rfl, rfl, by decide +kernel, rfl, by decide +kernel, by decide +kernel⟩
theorem gli_Spare : (defScope si_Spare).names.lookup ("OrderError" : Str) = some .globalImplicit := by decide +kernel
theorem vis_climbed_came : Vis (defScope s_climbed) "came" := .inl (by decide +kernel)
theorem vis_climbed_drawing : Vis (defScope s_climbed) "drawing" := .inl (by decide +kernel)
theorem vis_climbed_found : Vis (defScope s_climbed) "found" := .inl (by decide +kernel)
theorem vis_climbed_here : Vis (defScope s_climbed) "here" := .inl (by decide +kernel)
theorem vis_climbed_many : Vis (defScope s_climbed) "many" := .inl (by decide +kernel)
theorem vis_climbed_word : Vis (defScope s_climbed) "word" := .inl (by decide +kernel)
theorem loc_climbed_came : Loc (defScope s_climbed) "came" := .inl (by decide +kernel)
theorem loc_climbed_found : Loc (defScope s_climbed) "found" := .inl (by decide +kernel)
theorem loc_climbed_here : Loc (defScope s_climbed) "here" := .inl (by decide +kernel)
theorem loc_climbed_word : Loc (defScope s_climbed) "word" := .inl (by decide +kernel)
theorem gl_climbed_Spare : (defScope s_climbed).names.lookup ("Spare" : Str) = some .globalImplicit := by decide +kernel
theorem gl_climbed_climbs : (defScope s_climbed).names.lookup ("climbs" : Str) = some .globalImplicit := by decide +kernel
theorem gl_climbed_is_short : (defScope s_climbed).names.lookup ("is_short" : Str) = some .globalImplicit := by decide +kernel
theorem gl_climbed_list : (defScope s_climbed).names.lookup ("list" : Str) = some .globalImplicit := by decide +kernel
theorem gl_climbed_look_at_drawing : (defScope s_climbed).names.lookup ("look_at_drawing" : Str) = some .globalImplicit := by decide +kernel
theorem gl_climbed_order_by : (defScope s_climbed).names.lookup ("order_by" : Str) = some .globalImplicit := by decide +kernel
theorem gl_climbed_tuple : (defScope s_climbed).names.lookup ("tuple" : Str) = some .globalImplicit := by decide +kernel
theorem gl_climbed_word_of : (defScope s_climbed).names.lookup ("word_of" : Str) = some .globalImplicit := by decide +kernel
abbrev s__law_mixed : Stmt := top 35
abbrev N__law_mixed : List Str := ["_law_cell_here", "_law_k", "_law_number"]
theorem sc__law_mixed : FnScope N__law_mixed ["_law_cell_here", "_law_k"] (defScope s__law_mixed) := ⟨rfl, rfl, rfl, by decide +kernel, rfl, by decide +kernel, by decide +kernel⟩
theorem vis__law_mixed__law_cell_here : Vis (defScope s__law_mixed) "_law_cell_here" := .inl (by decide +kernel)
theorem vis__law_mixed__law_k : Vis (defScope s__law_mixed) "_law_k" := .inl (by decide +kernel)
theorem vis__law_mixed__law_number : Vis (defScope s__law_mixed) "_law_number" := .inl (by decide +kernel)
theorem loc__law_mixed__law_number : Loc (defScope s__law_mixed) "_law_number" := .inl (by decide +kernel)
abbrev s__law_cell : Stmt := top 36
abbrev N__law_cell : List Str := ["_law_script", "_law_k", "_law_cell_here", "_law_found", "_law_j"]
theorem sc__law_cell : FnScope N__law_cell ["_law_script", "_law_k"] (defScope s__law_cell) := ⟨rfl, rfl, rfl, by decide +kernel, rfl, by decide +kernel, by decide +kernel⟩
theorem vis__law_cell__law_cell_here : Vis (defScope s__law_cell) "_law_cell_here" := .inl (by decide +kernel)
theorem vis__law_cell__law_found : Vis (defScope s__law_cell) "_law_found" := .inl (by decide +kernel)
theorem vis__law_cell__law_j : Vis (defScope s__law_cell) "_law_j" := .inl (by decide +kernel)
theorem vis__law_cell__law_k : Vis (defScope s__law_cell) "_law_k" := .inl (by decide +kernel)
theorem vis__law_cell__law_script : Vis (defScope s__law_cell) "_law_script" := .inl (by decide +kernel)
theorem loc__law_cell__law_cell_here : Loc (defScope s__law_cell) "_law_cell_here" := .inl (by decide +kernel)
theorem loc__law_cell__law_found : Loc (defScope s__law_cell) "_law_found" := .inl (by decide +kernel)
theorem loc__law_cell__law_j : Loc (defScope s__law_cell) "_law_j" := .inl (by decide +kernel)
theorem gl__law_cell__law_mixed : (defScope s__law_cell).names.lookup ("_law_mixed" : Str) = some .globalImplicit := by decide +kernel
theorem gl__law_cell_len : (defScope s__law_cell).names.lookup ("len" : Str) = some .globalImplicit := by decide +kernel
theorem gl__law_cell_range : (defScope s__law_cell).names.lookup ("range" : Str) = some .globalImplicit := by decide +kernel
abbrev s__law_take : Stmt := top 37
abbrev N__law_take : List Str := ["_law_pile", "_law_size", "_law_digit"]
theorem sc__law_take : FnScope N__law_take ["_law_pile", "_law_size"] (defScope s__law_take) := ⟨rfl, rfl, rfl, by decide +kernel, rfl, by decide +kernel, by decide +kernel⟩
theorem vis__law_take__law_digit : Vis (defScope s__law_take) "_law_digit" := .inl (by decide +kernel)
theorem vis__law_take__law_pile : Vis (defScope s__law_take) "_law_pile" := .inl (by decide +kernel)
theorem vis__law_take__law_size : Vis (defScope s__law_take) "_law_size" := .inl (by decide +kernel)
theorem loc__law_take__law_digit : Loc (defScope s__law_take) "_law_digit" := .inl (by decide +kernel)
abbrev s__law_order : Stmt := top 38
abbrev N__law_order : List Str := ["_law_pile", "_law_many", "_law_left", "_law_found", "_law_place"]
theorem sc__law_order : FnScope N__law_order ["_law_pile", "_law_many"] (defScope s__law_order) := ⟨rfl, rfl, rfl, by decide +kernel, rfl, by decide +kernel, by decide +kernel⟩
theorem vis__law_order__law_found : Vis (defScope s__law_order) "_law_found" := .inl (by decide +kernel)
theorem vis__law_order__law_left : Vis (defScope s__law_order) "_law_left" := .inl (by decide +kernel)
theorem vis__law_order__law_many : Vis (defScope s__law_order) "_law_many" := .inl (by decide +kernel)
theorem vis__law_order__law_pile : Vis (defScope s__law_order) "_law_pile" := .inl (by decide +kernel)
theorem vis__law_order__law_place : Vis (defScope s__law_order) "_law_place" := .inl (by decide +kernel)
theorem loc__law_order__law_found : Loc (defScope s__law_order) "_law_found" := .inl (by decide +kernel)
theorem loc__law_order__law_left : Loc (defScope s__law_order) "_law_left" := .inl (by decide +kernel)
theorem loc__law_order__law_place : Loc (defScope s__law_order) "_law_place" := .inl (by decide +kernel)
theorem gl__law_order__law_take : (defScope s__law_order).names.lookup ("_law_take" : Str) = some .globalImplicit := by decide +kernel
theorem gl__law_order_list : (defScope s__law_order).names.lookup ("list" : Str) = some .globalImplicit := by decide +kernel
theorem gl__law_order_range : (defScope s__law_order).names.lookup ("range" : Str) = some .globalImplicit := by decide +kernel
theorem gl__law_order_tuple : (defScope s__law_order).names.lookup ("tuple" : Str) = some .globalImplicit := by decide +kernel
abbrev s__law_goal : Stmt := top 39
abbrev N__law_goal : List Str := ["_law_drawing", "_law_cell_here", "_law_i", "_law_j", "_law_rungs", "_law_row", "_law_far"]
theorem sc__law_goal : FnScope N__law_goal ["_law_drawing", "_law_cell_here"] (defScope s__law_goal) := ⟨rfl, rfl, rfl, by decide +kernel, rfl, by decide +kernel, by decide +kernel⟩
theorem vis__law_goal__law_cell_here : Vis (defScope s__law_goal) "_law_cell_here" := .inl (by decide +kernel)
theorem vis__law_goal__law_drawing : Vis (defScope s__law_goal) "_law_drawing" := .inr (.inl (by decide +kernel))
theorem vis__law_goal__law_far : Vis (defScope s__law_goal) "_law_far" := .inl (by decide +kernel)
theorem vis__law_goal__law_i : Vis (defScope s__law_goal) "_law_i" := .inl (by decide +kernel)
theorem vis__law_goal__law_j : Vis (defScope s__law_goal) "_law_j" := .inr (.inl (by decide +kernel))
theorem vis__law_goal__law_rungs : Vis (defScope s__law_goal) "_law_rungs" := .inl (by decide +kernel)
theorem loc__law_goal__law_far : Loc (defScope s__law_goal) "_law_far" := .inl (by decide +kernel)
theorem loc__law_goal__law_i : Loc (defScope s__law_goal) "_law_i" := .inl (by decide +kernel)
theorem loc__law_goal__law_j : Loc (defScope s__law_goal) "_law_j" := .inr (by decide +kernel)
theorem lcl__law_goal__law_rungs : (defScope s__law_goal).names.lookup ("_law_rungs" : Str) = some .local := by decide +kernel
theorem gl__law_goal_range : (defScope s__law_goal).names.lookup ("range" : Str) = some .globalImplicit := by decide +kernel
theorem gl__law_goal_reversed : (defScope s__law_goal).names.lookup ("reversed" : Str) = some .globalImplicit := by decide +kernel
abbrev s__law_ladders : Stmt := top 40
abbrev N__law_ladders : List Str := ["_law_drawing", "_law_found", "_law_cell_here", "_law_goal_here", "_law_one"]
theorem sc__law_ladders : FnScope N__law_ladders ["_law_drawing"] (defScope s__law_ladders) := ⟨rfl, rfl, rfl, by decide +kernel, rfl, by decide +kernel, by decide +kernel⟩
theorem vis__law_ladders__law_cell_here : Vis (defScope s__law_ladders) "_law_cell_here" := .inr (.inl (by decide +kernel))
theorem vis__law_ladders__law_drawing : Vis (defScope s__law_ladders) "_law_drawing" := .inl (by decide +kernel)
theorem vis__law_ladders__law_found : Vis (defScope s__law_ladders) "_law_found" := .inl (by decide +kernel)
theorem vis__law_ladders__law_goal_here : Vis (defScope s__law_ladders) "_law_goal_here" := .inl (by decide +kernel)
theorem loc__law_ladders__law_cell_here : Loc (defScope s__law_ladders) "_law_cell_here" := .inr (by decide +kernel)
theorem loc__law_ladders__law_found : Loc (defScope s__law_ladders) "_law_found" := .inl (by decide +kernel)
theorem loc__law_ladders__law_goal_here : Loc (defScope s__law_ladders) "_law_goal_here" := .inl (by decide +kernel)
theorem gl__law_ladders__law_goal : (defScope s__law_ladders).names.lookup ("_law_goal" : Str) = some .globalImplicit := by decide +kernel
theorem gl__law_ladders_sorted : (defScope s__law_ladders).names.lookup ("sorted" : Str) = some .globalImplicit := by decide +kernel
abbrev s__law_lowest : Stmt := top 41
abbrev N__law_lowest : List Str := ["_law_order_here", "_law_found", "_law_i", "_law_j", "_law_one"]
theorem sc__law_lowest : FnScope N__law_lowest ["_law_order_here"] (defScope s__law_lowest) := ⟨rfl, rfl, rfl, by decide +kernel, rfl, by decide +kernel, by decide +kernel⟩
theorem vis__law_lowest__law_found : Vis (defScope s__law_lowest) "_law_found" := .inl (by decide +kernel)
theorem vis__law_lowest__law_i : Vis (defScope s__law_lowest) "_law_i" := .inr (.inl (by decide +kernel))
theorem vis__law_lowest__law_order_here : Vis (defScope s__law_lowest) "_law_order_here" := .inr (.inl (by decide +kernel))
theorem loc__law_lowest__law_found : Loc (defScope s__law_lowest) "_law_found" := .inl (by decide +kernel)
theorem loc__law_lowest__law_i : Loc (defScope s__law_lowest) "_law_i" := .inr (by decide +kernel)
theorem gl__law_lowest_len : (defScope s__law_lowest).names.lookup ("len" : Str) = some .globalImplicit := by decide +kernel
theorem gl__law_lowest_range : (defScope s__law_lowest).names.lookup ("range" : Str) = some .globalImplicit := by decide +kernel
abbrev s__law_whole : Stmt := top 42
abbrev N__law_whole : List Str := ["_law_found"]
theorem sc__law_whole : FnScope N__law_whole ["_law_found"] (defScope s__law_whole) := ⟨rfl, rfl, rfl, by decide +kernel, rfl, by decide +kernel, by decide +kernel⟩
theorem vis__law_whole__law_found : Vis (defScope s__law_whole) "_law_found" := .inl (by decide +kernel)
theorem gl__law_whole_bool : (defScope s__law_whole).names.lookup ("bool" : Str) = some .globalImplicit := by decide +kernel
theorem gl__law_whole_int : (defScope s__law_whole).names.lookup ("int" : Str) = some .globalImplicit := by decide +kernel
theorem gl__law_whole_isinstance : (defScope s__law_whole).names.lookup ("isinstance" : Str) = some .globalImplicit := by decide +kernel
abbrev s__law_are_cells : Stmt := top 43
abbrev N__law_are_cells : List Str := ["_law_found", "_law_one", "_law_number"]
theorem sc__law_are_cells : FnScope N__law_are_cells ["_law_found"] (defScope s__law_are_cells) := ⟨rfl, rfl, rfl, by decide +kernel, rfl, by decide +kernel, by decide +kernel⟩
theorem vis__law_are_cells__law_found : Vis (defScope s__law_are_cells) "_law_found" := .inl (by decide +kernel)
theorem vis__law_are_cells__law_one : Vis (defScope s__law_are_cells) "_law_one" := .inl (by decide +kernel)
theorem loc__law_are_cells__law_one : Loc (defScope s__law_are_cells) "_law_one" := .inl (by decide +kernel)
theorem gl__law_are_cells_all : (defScope s__law_are_cells).names.lookup ("all" : Str) = some .globalImplicit := by decide +kernel
theorem gl__law_are_cells_isinstance : (defScope s__law_are_cells).names.lookup ("isinstance" : Str) = some .globalImplicit := by decide +kernel
theorem gl__law_are_cells_list : (defScope s__law_are_cells).names.lookup ("list" : Str) = some .globalImplicit := by decide +kernel
theorem gl__law_are_cells_tuple : (defScope s__law_are_cells).names.lookup ("tuple" : Str) = some .globalImplicit := by decide +kernel
abbrev s__law_is_climb : Stmt := top 44
abbrev N__law_is_climb : List Str := ["_law_order_here", "_law_drawing", "_law_found", "_law_one", "_law_k"]
theorem sc__law_is_climb : FnScope N__law_is_climb ["_law_order_here", "_law_drawing", "_law_found"] (defScope s__law_is_climb) := ⟨rfl, rfl, rfl, by decide +kernel, rfl, by decide +kernel, by decide +kernel⟩
theorem vis__law_is_climb__law_drawing : Vis (defScope s__law_is_climb) "_law_drawing" := .inl (by decide +kernel)
theorem vis__law_is_climb__law_found : Vis (defScope s__law_is_climb) "_law_found" := .inl (by decide +kernel)
theorem vis__law_is_climb__law_k : Vis (defScope s__law_is_climb) "_law_k" := .inl (by decide +kernel)
theorem vis__law_is_climb__law_order_here : Vis (defScope s__law_is_climb) "_law_order_here" := .inr (.inl (by decide +kernel))
theorem loc__law_is_climb__law_k : Loc (defScope s__law_is_climb) "_law_k" := .inl (by decide +kernel)
theorem gl__law_is_climb__law_ladders : (defScope s__law_is_climb).names.lookup ("_law_ladders" : Str) = some .globalImplicit := by decide +kernel
theorem gl__law_is_climb__law_lowest : (defScope s__law_is_climb).names.lookup ("_law_lowest" : Str) = some .globalImplicit := by decide +kernel
theorem gl__law_is_climb_all : (defScope s__law_is_climb).names.lookup ("all" : Str) = some .globalImplicit := by decide +kernel
theorem gl__law_is_climb_isinstance : (defScope s__law_is_climb).names.lookup ("isinstance" : Str) = some .globalImplicit := by decide +kernel
theorem gl__law_is_climb_len : (defScope s__law_is_climb).names.lookup ("len" : Str) = some .globalImplicit := by decide +kernel
theorem gl__law_is_climb_list : (defScope s__law_is_climb).names.lookup ("list" : Str) = some .globalImplicit := by decide +kernel
theorem gl__law_is_climb_range : (defScope s__law_is_climb).names.lookup ("range" : Str) = some .globalImplicit := by decide +kernel
abbrev s__law_good : Stmt := top 45
abbrev N__law_good : List Str := ["_law_order_here", "_law_drawing", "_law_kept", "_law_turn", "_law_found", "_law_one"]
theorem sc__law_good : FnScope N__law_good ["_law_order_here", "_law_drawing"] (defScope s__law_good) := ⟨rfl, rfl, rfl, by decide +kernel, rfl, by decide +kernel, by decide +kernel⟩
theorem vis__law_good__law_drawing : Vis (defScope s__law_good) "_law_drawing" := .inl (by decide +kernel)
theorem vis__law_good__law_found : Vis (defScope s__law_good) "_law_found" := .inl (by decide +kernel)
theorem vis__law_good__law_kept : Vis (defScope s__law_good) "_law_kept" := .inl (by decide +kernel)
theorem vis__law_good__law_one : Vis (defScope s__law_good) "_law_one" := .inl (by decide +kernel)
theorem vis__law_good__law_order_here : Vis (defScope s__law_good) "_law_order_here" := .inl (by decide +kernel)
theorem loc__law_good__law_found : Loc (defScope s__law_good) "_law_found" := .inl (by decide +kernel)
theorem loc__law_good__law_kept : Loc (defScope s__law_good) "_law_kept" := .inl (by decide +kernel)
theorem loc__law_good__law_one : Loc (defScope s__law_good) "_law_one" := .inl (by decide +kernel)
theorem loc__law_good__law_turn : Loc (defScope s__law_good) "_law_turn" := .inl (by decide +kernel)
theorem gl__law_good__law_is_climb : (defScope s__law_good).names.lookup ("_law_is_climb" : Str) = some .globalImplicit := by decide +kernel
theorem gl__law_good_climbed : (defScope s__law_good).names.lookup ("climbed" : Str) = some .globalImplicit := by decide +kernel
theorem gl__law_good_len : (defScope s__law_good).names.lookup ("len" : Str) = some .globalImplicit := by decide +kernel
theorem gl__law_good_list : (defScope s__law_good).names.lookup ("list" : Str) = some .globalImplicit := by decide +kernel
theorem gl__law_good_range : (defScope s__law_good).names.lookup ("range" : Str) = some .globalImplicit := by decide +kernel
abbrev s_law : Stmt := top 46
abbrev N_law : List Str := ["_law_script", "_law_turn", "_law_pile", "_law_many", "_law_order_here", "_law_every", "_law_some", "_law_k", "_law_drawing", "_law_one"]
theorem sc_law : FnScope N_law ["_law_script"] (defScope s_law) := ⟨rfl, rfl, rfl, by decide +kernel, rfl, by decide +kernel, by decide +kernel⟩
theorem vis_law__law_drawing : Vis (defScope s_law) "_law_drawing" := .inl (by decide +kernel)
theorem vis_law__law_every : Vis (defScope s_law) "_law_every" := .inr (.inl (by decide +kernel))
theorem vis_law__law_many : Vis (defScope s_law) "_law_many" := .inl (by decide +kernel)
theorem vis_law__law_order_here : Vis (defScope s_law) "_law_order_here" := .inr (.inl (by decide +kernel))
theorem vis_law__law_pile : Vis (defScope s_law) "_law_pile" := .inr (.inl (by decide +kernel))
theorem vis_law__law_script : Vis (defScope s_law) "_law_script" := .inl (by decide +kernel)
theorem vis_law__law_some : Vis (defScope s_law) "_law_some" := .inl (by decide +kernel)
theorem vis_law__law_turn : Vis (defScope s_law) "_law_turn" := .inl (by decide +kernel)
theorem loc_law__law_drawing : Loc (defScope s_law) "_law_drawing" := .inl (by decide +kernel)
theorem loc_law__law_every : Loc (defScope s_law) "_law_every" := .inr (by decide +kernel)
theorem loc_law__law_many : Loc (defScope s_law) "_law_many" := .inl (by decide +kernel)
theorem loc_law__law_order_here : Loc (defScope s_law) "_law_order_here" := .inr (by decide +kernel)
theorem loc_law__law_pile : Loc (defScope s_law) "_law_pile" := .inr (by decide +kernel)
theorem loc_law__law_some : Loc (defScope s_law) "_law_some" := .inl (by decide +kernel)
theorem loc_law__law_turn : Loc (defScope s_law) "_law_turn" := .inl (by decide +kernel)
theorem gl_law__law_cell : (defScope s_law).names.lookup ("_law_cell" : Str) = some .globalImplicit := by decide +kernel
theorem gl_law__law_lowest : (defScope s_law).names.lookup ("_law_lowest" : Str) = some .globalImplicit := by decide +kernel
theorem gl_law__law_order : (defScope s_law).names.lookup ("_law_order" : Str) = some .globalImplicit := by decide +kernel
theorem gl_law__law_take : (defScope s_law).names.lookup ("_law_take" : Str) = some .globalImplicit := by decide +kernel
theorem gl_law_all : (defScope s_law).names.lookup ("all" : Str) = some .globalImplicit := by decide +kernel
theorem gl_law_drawings : (defScope s_law).names.lookup ("drawings" : Str) = some .globalImplicit := by decide +kernel
theorem gl_law_ladders : (defScope s_law).names.lookup ("ladders" : Str) = some .globalImplicit := by decide +kernel
theorem gl_law_len : (defScope s_law).names.lookup ("len" : Str) = some .globalImplicit := by decide +kernel
theorem gl_law_max : (defScope s_law).names.lookup ("max" : Str) = some .globalImplicit := by decide +kernel
theorem gl_law_min : (defScope s_law).names.lookup ("min" : Str) = some .globalImplicit := by decide +kernel
theorem gl_law_range : (defScope s_law).names.lookup ("range" : Str) = some .globalImplicit := by decide +kernel
section
variable [CT] {P : Program} {w : World} {K : PySem.W.Frag} {mg : Str → Option Value} {base : Heap}
theorem ok_is_whole (D : Defd K mg "is_whole" s_is_whole) (b_bool : mg "bool" = none) (b_int : mg "int" = none) (b_isinstance : mg "isinstance" = none) : Cal P w K mg base "is_whole" 1 ["thing"] (spF 1 mg (fnP 1 m_is_whole)) :=
  D.cal sc_is_whole rfl (by decide) (fun f cdv A outer s H E hr => by
  have PC : Passes (L2.CX P w) (cxOf (L2.CX P w) P w K mg base N_is_whole "is_whole" (defScope s_is_whole) f cdv A outer s H E) E := passes_call (takes_of rfl rfl rfl rfl) (fun _ _ _ _ h => h)
  have PO : PassesOwn (model P w) (cxOf (L2.CX P w) P w K mg base N_is_whole "is_whole" (defScope s_is_whole) f cdv A outer s H E).A (cxOf (L2.CX P w) P w K mg base N_is_whole "is_whole" (defScope s_is_whole) f cdv A outer s H E).env (cxOf (L2.CX P w) P w K mg base N_is_whole "is_whole" (defScope s_is_whole) f cdv A outer s H E).xe := passes_of rfl
  unfold m_is_whole
  exact (sndb_one (snds_ret (snde_pure [0] (snd_and (snd_isT (snd_var 0 rfl vis_is_whole_thing) gl_is_whole_isinstance b_isinstance gl_is_whole_int b_int bt_int) (snd_one (snd_not (snd_isT (snd_var 0 rfl vis_is_whole_thing) gl_is_whole_isinstance b_isinstance gl_is_whole_bool b_bool bt_bool))))))))
  (fun _ _ _ _ _ _ us hl => match us, hl with | [_], _ => rfl)

theorem ok_look_at_count (D : Defd K mg "look_at_count" s_look_at_count) (x_BadCount : ∃ C, OwnX K mg "BadCount" C) (g_UNKNOWNS : ∃ t, mg "UNKNOWNS" = some (.int 5 t)) (c_is_whole : Cal P w K mg base "is_whole" 1 ["thing"] (spF 1 mg (fnP 1 m_is_whole))) : Cal P w K mg base "look_at_count" 2 ["many"] (spF 1 mg (fnP 1 m_look_at_count)) :=
  D.cal sc_look_at_count rfl (by decide) (fun f cdv A outer s H E hr => by
  have PC : Passes (L2.CX P w) (cxOf (L2.CX P w) P w K mg base N_look_at_count "look_at_count" (defScope s_look_at_count) f cdv A outer s H E) E := passes_call (takes_of rfl rfl rfl rfl) (fun _ _ _ _ h => h)
  have PO : PassesOwn (model P w) (cxOf (L2.CX P w) P w K mg base N_look_at_count "look_at_count" (defScope s_look_at_count) f cdv A outer s H E).A (cxOf (L2.CX P w) P w K mg base N_look_at_count "look_at_count" (defScope s_look_at_count) f cdv A outer s H E).env (cxOf (L2.CX P w) P w K mg base N_look_at_count "look_at_count" (defScope s_look_at_count) f cdv A outer s H E).xe := passes_of rfl
  have TK : Takes (cxOf (L2.CX P w) P w K mg base N_look_at_count "look_at_count" (defScope s_look_at_count) f cdv A outer s H E) (fun cl d _ H => E cl d H) := takes_of rfl rfl rfl rfl
  unfold m_look_at_count b_look_at_count
  exact (sndb_one (snds_if (SndW.t (sndw_or (sndt_not (sndt_val (sndc c_is_whole hr (by decide) PC gl_look_at_count_is_whole (snda_cons (snd_var 0 rfl vis_look_at_count_many) snda_nil)))) (sndw_or (sndt_cmp op_lt v_lt (snd_var 0 rfl vis_look_at_count_many) snd_int (nomark _)) (sndw_or1 (sndt_cmp op_gt v_gt (snd_var 0 rfl vis_look_at_count_many) (sndgi g_UNKNOWNS gl_look_at_count_UNKNOWNS) (nomark _)))))) (sndb_one (snds_raise x_BadCount rfl TK gl_look_at_count_BadCount)) sndb_nil)))
  (fun _ _ _ _ _ _ us hl => match us, hl with | [_], _ => rfl)

theorem ok_is_order (D : Defd K mg "is_order" s_is_order) (b_all : mg "all" = none) (b_isinstance : mg "isinstance" = none) (b_len : mg "len" = none) (b_list : mg "list" = none) (b_range : mg "range" = none) (b_sorted : mg "sorted" = none) (b_tuple : mg "tuple" = none) (g_MOST : ∃ t, mg "MOST" = some (.int 5 t)) (c_is_whole : Cal P w K mg base "is_whole" 1 ["thing"] (spF 1 mg (fnP 1 m_is_whole))) : Cal P w K mg base "is_order" 2 ["thing"] (spF 1 mg (fnP 2 m_is_order)) :=
  D.cal sc_is_order rfl (by decide) (fun f cdv A outer s H E hr => by
  have PC : Passes (L2.CX P w) (cxOf (L2.CX P w) P w K mg base N_is_order "is_order" (defScope s_is_order) f cdv A outer s H E) E := passes_call (takes_of rfl rfl rfl rfl) (fun _ _ _ _ h => h)
  have PO : PassesOwn (model P w) (cxOf (L2.CX P w) P w K mg base N_is_order "is_order" (defScope s_is_order) f cdv A outer s H E).A (cxOf (L2.CX P w) P w K mg base N_is_order "is_order" (defScope s_is_order) f cdv A outer s H E).env (cxOf (L2.CX P w) P w K mg base N_is_order "is_order" (defScope s_is_order) f cdv A outer s H E).xe := passes_of rfl
  unfold m_is_order b_is_order
  exact (sndb_cons (snds_if (SndW.t (sndw_or (sndt_not (sndt_val (snd_isT (snd_var 0 rfl vis_is_order_thing) gl_is_order_isinstance b_isinstance gl_is_order_tuple b_tuple bt_tuple))) (sndw_or (sndt_cmp op_lt v_lt (snd_b call_len (v_len _) gl_is_order_len b_len bt_len (snda_cons (snd_var 0 rfl vis_is_order_thing) snda_nil)) snd_int (nomark _)) (sndw_or1 (sndt_cmp op_gt v_gt (snd_b call_len (v_len _) gl_is_order_len b_len bt_len (snda_cons (snd_var 0 rfl vis_is_order_thing) snda_nil)) (sndgi g_MOST gl_is_order_MOST) (nomark _)))))) (sndb_one (snds_ret (snde_pure [] snd_bl))) sndb_nil)
  (sndb_one (snds_ret (snde_pure [0] (snd_and (snd_b (cr_all rfl) (v_all _) gl_is_order_all b_all bt_all (snda_cons (snd_comp (own := [("one", 1)]) rfl sc_is_order.nd (sndi_seq (snd_var 0 rfl vis_is_order_thing)) (blk_of N_is_order (defScope s_is_order) (by decide +kernel)) (fun _ _ _ _ _ => (sndg_nm sc_is_order.nd rfl (locL (by decide +kernel)) (hf := fnL (by decide +kernel)))) (fun _ _ _ _ _ => sndts_nil) (fun _ _ _ _ _ => (sndc c_is_whole hr (by decide) passL (glB (by decide +kernel)) (snda_cons (snd_var 1 rfl (visL (by decide +kernel))) snda_nil)))) snda_nil)) (snd_one (snd_cmp (op_eqD hr.units) (v_eq _) (snd_b (cr_sortG hr.units) (v_sortR _ false) gl_is_order_sorted b_sorted bt_sorted (snda_cons (snd_var 0 rfl vis_is_order_thing) snda_nil)) (snd_lstRg rfl (sndr_1 (snd_b call_len (v_len _) gl_is_order_len b_len bt_len (snda_cons (snd_var 0 rfl vis_is_order_thing) snda_nil)) gl_is_order_range b_range) gl_is_order_list b_list) (nomark _)))))))))
  (fun _ _ _ _ _ _ us hl => match us, hl with | [_], _ => rfl)

theorem ok_look_at_order (D : Defd K mg "look_at_order" s_look_at_order) (x_BadOrder : ∃ C, OwnX K mg "BadOrder" C) (c_is_order : Cal P w K mg base "is_order" 2 ["thing"] (spF 1 mg (fnP 2 m_is_order))) : Cal P w K mg base "look_at_order" 3 ["thing"] (spF 1 mg (fnP 1 m_look_at_order)) :=
  D.cal sc_look_at_order rfl (by decide) (fun f cdv A outer s H E hr => by
  have PC : Passes (L2.CX P w) (cxOf (L2.CX P w) P w K mg base N_look_at_order "look_at_order" (defScope s_look_at_order) f cdv A outer s H E) E := passes_call (takes_of rfl rfl rfl rfl) (fun _ _ _ _ h => h)
  have PO : PassesOwn (model P w) (cxOf (L2.CX P w) P w K mg base N_look_at_order "look_at_order" (defScope s_look_at_order) f cdv A outer s H E).A (cxOf (L2.CX P w) P w K mg base N_look_at_order "look_at_order" (defScope s_look_at_order) f cdv A outer s H E).env (cxOf (L2.CX P w) P w K mg base N_look_at_order "look_at_order" (defScope s_look_at_order) f cdv A outer s H E).xe := passes_of rfl
  have TK : Takes (cxOf (L2.CX P w) P w K mg base N_look_at_order "look_at_order" (defScope s_look_at_order) f cdv A outer s H E) (fun cl d _ H => E cl d H) := takes_of rfl rfl rfl rfl
  unfold m_look_at_order b_look_at_order
  exact (sndb_one (snds_if (sndt_not (sndt_val (sndc c_is_order hr (by decide) PC gl_look_at_order_is_order (snda_cons (snd_var 0 rfl vis_look_at_order_thing) snda_nil)))) (sndb_one (snds_raise x_BadOrder rfl TK gl_look_at_order_BadOrder)) sndb_nil)))
  (fun _ _ _ _ _ _ us hl => match us, hl with | [_], _ => rfl)

theorem ok_plain (D : Defd K mg "plain" s_plain) (b_range : mg "range" = none) (b_tuple : mg "tuple" = none) : Cal P w K mg base "plain" 1 ["many"] (spF 1 mg (fnP 1 m_plain)) :=
  D.cal sc_plain rfl (by decide) (fun f cdv A outer s H E hr => by
  have PC : Passes (L2.CX P w) (cxOf (L2.CX P w) P w K mg base N_plain "plain" (defScope s_plain) f cdv A outer s H E) E := passes_call (takes_of rfl rfl rfl rfl) (fun _ _ _ _ h => h)
  have PO : PassesOwn (model P w) (cxOf (L2.CX P w) P w K mg base N_plain "plain" (defScope s_plain) f cdv A outer s H E).A (cxOf (L2.CX P w) P w K mg base N_plain "plain" (defScope s_plain) f cdv A outer s H E).env (cxOf (L2.CX P w) P w K mg base N_plain "plain" (defScope s_plain) f cdv A outer s H E).xe := passes_of rfl
  unfold m_plain
  exact (sndb_one (snds_ret (snde_pure [0] (snd_tupRg rfl (sndr_1 (snd_var 0 rfl vis_plain_many) gl_plain_range b_range) gl_plain_tuple b_tuple)))))
  (fun _ _ _ _ _ _ us hl => match us, hl with | [_], _ => rfl)

theorem ok_pairs_of (D : Defd K mg "pairs_of" s_pairs_of) (b_len : mg "len" = none) (b_range : mg "range" = none) : Cal P w K mg base "pairs_of" 1 ["order"] (spF 1 mg (fnP 4 m_pairs_of)) :=
  D.cal sc_pairs_of rfl (by decide) (fun f cdv A outer s H E hr => by
  have PC : Passes (L2.CX P w) (cxOf (L2.CX P w) P w K mg base N_pairs_of "pairs_of" (defScope s_pairs_of) f cdv A outer s H E) E := passes_call (takes_of rfl rfl rfl rfl) (fun _ _ _ _ h => h)
  have PO : PassesOwn (model P w) (cxOf (L2.CX P w) P w K mg base N_pairs_of "pairs_of" (defScope s_pairs_of) f cdv A outer s H E).A (cxOf (L2.CX P w) P w K mg base N_pairs_of "pairs_of" (defScope s_pairs_of) f cdv A outer s H E).env (cxOf (L2.CX P w) P w K mg base N_pairs_of "pairs_of" (defScope s_pairs_of) f cdv A outer s H E).xe := passes_of rfl
  unfold m_pairs_of
  exact (sndb_cons (snds_set (snde_pure [] (snd_lst snda_nil)) sc_pairs_of.nd rfl loc_pairs_of_found)
  (sndb_cons (snds_for [0] PO rfl (sndi_range1 (snd_b call_len (v_len _) gl_pairs_of_len b_len bt_len (snda_cons (snd_var 0 rfl vis_pairs_of_order) snda_nil)) gl_pairs_of_range b_range) (sndg_nm sc_pairs_of.nd rfl loc_pairs_of_i) (sndb_one (snds_expr (snde_extend rfl vis_pairs_of_found (snde_pure [0, 2] (snd_comp (own := [("j", 3)]) rfl sc_pairs_of.nd (sndi_range2 (snd_bin op_addA (v_add _) (snd_var 2 rfl vis_pairs_of_i) snd_int) (snd_b call_len (v_len _) gl_pairs_of_len b_len bt_len (snda_cons (snd_var 0 rfl vis_pairs_of_order) snda_nil)) gl_pairs_of_range b_range) (blk_of N_pairs_of (defScope s_pairs_of) (by decide +kernel)) (fun _ _ _ _ _ => (sndg_nm sc_pairs_of.nd rfl (locL (by decide +kernel)) (hf := fnL (by decide +kernel)))) (fun _ _ _ _ _ => (sndts_one (sndt_cmp op_gt v_gt (snd_ix ix_seq (v_ix _) (snd_var 0 rfl (visF (by decide +kernel))) (snd_var 2 rfl (visF (by decide +kernel)))) (snd_ix ix_seq (v_ix _) (snd_var 0 rfl (visF (by decide +kernel))) (snd_var 3 rfl (visL (by decide +kernel)))) (nomark _)))) (fun _ _ _ _ _ => (snd_tup (snda_cons (snd_var 2 rfl (visF (by decide +kernel))) (snda_cons (snd_var 3 rfl (visL (by decide +kernel))) snda_nil))))))))))
  (sndb_one (snds_ret (snde_mv 1 rfl vis_pairs_of_found))))))
  (fun _ _ _ _ _ _ us hl => match us, hl with | [_], _ => rfl)

theorem ok_code_of (D : Defd K mg "code_of" s_code_of) (b_len : mg "len" = none) (b_range : mg "range" = none) (b_tuple : mg "tuple" = none) : Cal P w K mg base "code_of" 1 ["order"] (spF 1 mg (fnP 3 m_code_of)) :=
  D.cal sc_code_of rfl (by decide) (fun f cdv A outer s H E hr => by
  have PC : Passes (L2.CX P w) (cxOf (L2.CX P w) P w K mg base N_code_of "code_of" (defScope s_code_of) f cdv A outer s H E) E := passes_call (takes_of rfl rfl rfl rfl) (fun _ _ _ _ h => h)
  have PO : PassesOwn (model P w) (cxOf (L2.CX P w) P w K mg base N_code_of "code_of" (defScope s_code_of) f cdv A outer s H E).A (cxOf (L2.CX P w) P w K mg base N_code_of "code_of" (defScope s_code_of) f cdv A outer s H E).env (cxOf (L2.CX P w) P w K mg base N_code_of "code_of" (defScope s_code_of) f cdv A outer s H E).xe := passes_of rfl
  unfold m_code_of
  exact (sndb_one (snds_ret (snde_pure [0] (snd_ty cr_tupOf (v_tupOf _) gl_code_of_tuple b_tuple bt_tuple (snda_cons (snd_comp (own := [("k", 1)]) rfl sc_code_of.nd (sndi_range1 (snd_b call_len (v_len _) gl_code_of_len b_len bt_len (snda_cons (snd_var 0 rfl vis_code_of_order) snda_nil)) gl_code_of_range b_range) (blk_of N_code_of (defScope s_code_of) (by decide +kernel)) (fun _ _ _ _ _ => (sndg_nm sc_code_of.nd rfl (locC (by decide +kernel)) (hf := fnC (by decide +kernel)))) (fun _ _ _ _ _ => sndts_nil) (fun _ _ _ _ _ => (snd_b call_len (v_len _) (glB (by decide +kernel)) b_len bt_len (snda_cons (snd_comp (own := [("thing", 2)]) rfl sc_code_of.nd (sndi_seq (snd_slice (snd_var 0 rfl (visF (by decide +kernel))) (sndo_some (snd_bin op_addA (v_add _) (snd_var 1 rfl (visC (by decide +kernel))) snd_int)) sndo_none)) (blk_of _ _ (by rfl)) (fun _ _ _ _ _ => (sndg_nm sc_code_of.nd rfl (locL (by decide +kernel)) (hf := fnL (by decide +kernel)))) (fun _ _ _ _ _ => (sndts_one (sndt_cmp op_lt v_lt (snd_var 2 rfl (visL (by decide +kernel))) (snd_ix ix_seq (v_ix _) (snd_var 0 rfl (visF (by decide +kernel))) (snd_var 1 rfl (visF (by decide +kernel)))) (nomark _)))) (fun _ _ _ _ _ => (snd_var 2 rfl (visL (by decide +kernel))))) snda_nil)))) snda_nil))))))
  (fun _ _ _ _ _ _ us hl => match us, hl with | [_], _ => rfl)

theorem ok_swapped (D : Defd K mg "swapped" s_swapped) (b_list : mg "list" = none) (b_tuple : mg "tuple" = none) : Cal P w K mg base "swapped" 1 ["order", "i", "j"] (spF 3 mg (fnP 4 m_swapped)) :=
  D.cal sc_swapped rfl (by decide) (fun f cdv A outer s H E hr => by
  have PC : Passes (L2.CX P w) (cxOf (L2.CX P w) P w K mg base N_swapped "swapped" (defScope s_swapped) f cdv A outer s H E) E := passes_call (takes_of rfl rfl rfl rfl) (fun _ _ _ _ h => h)
  have PO : PassesOwn (model P w) (cxOf (L2.CX P w) P w K mg base N_swapped "swapped" (defScope s_swapped) f cdv A outer s H E).A (cxOf (L2.CX P w) P w K mg base N_swapped "swapped" (defScope s_swapped) f cdv A outer s H E).env (cxOf (L2.CX P w) P w K mg base N_swapped "swapped" (defScope s_swapped) f cdv A outer s H E).xe := passes_of rfl
  unfold m_swapped
  exact (sndb_cons (snds_set (snde_pure [0] (snd_ty call_list_of (v_listOf _) gl_swapped_list b_list bt_list (snda_cons (snd_var 0 rfl vis_swapped_order) snda_nil))) sc_swapped.nd rfl loc_swapped_found)
  (sndb_cons (snds_seti rfl vis_swapped_found (snde_pure [0, 2] (snd_ix ix_seq (v_ix _) (snd_var 0 rfl vis_swapped_order) (snd_var 2 rfl vis_swapped_j))) (snd_var 1 rfl vis_swapped_i))
  (sndb_cons (snds_seti rfl vis_swapped_found (snde_pure [0, 1] (snd_ix ix_seq (v_ix _) (snd_var 0 rfl vis_swapped_order) (snd_var 1 rfl vis_swapped_i))) (snd_var 2 rfl vis_swapped_j))
  (sndb_one (snds_ret (snde_pure [3] (snd_ty cr_tupOf (v_tupOf _) gl_swapped_tuple b_tuple bt_tuple (snda_cons (snd_var 3 rfl vis_swapped_found) snda_nil)))))))))
  (fun _ _ _ _ _ _ us hl => match us, hl with | [_, _, _], _ => rfl)

theorem ok_order_by (D : Defd K mg "order_by" s_order_by) (c_plain : Cal P w K mg base "plain" 1 ["many"] (spF 1 mg (fnP 1 m_plain))) (c_swapped : Cal P w K mg base "swapped" 1 ["order", "i", "j"] (spF 3 mg (fnP 4 m_swapped))) : Cal P w K mg base "order_by" 2 ["many", "word"] (spF 2 mg (fnP 4 m_order_by)) :=
  D.cal sc_order_by rfl (by decide) (fun f cdv A outer s H E hr => by
  have PC : Passes (L2.CX P w) (cxOf (L2.CX P w) P w K mg base N_order_by "order_by" (defScope s_order_by) f cdv A outer s H E) E := passes_call (takes_of rfl rfl rfl rfl) (fun _ _ _ _ h => h)
  have PO : PassesOwn (model P w) (cxOf (L2.CX P w) P w K mg base N_order_by "order_by" (defScope s_order_by) f cdv A outer s H E).A (cxOf (L2.CX P w) P w K mg base N_order_by "order_by" (defScope s_order_by) f cdv A outer s H E).env (cxOf (L2.CX P w) P w K mg base N_order_by "order_by" (defScope s_order_by) f cdv A outer s H E).xe := passes_of rfl
  unfold m_order_by b_order_by
  exact (sndb_cons (snds_set (snde_pure [0] (sndc c_plain hr (by decide) PC gl_order_by_plain (snda_cons (snd_var 0 rfl vis_order_by_many) snda_nil))) sc_order_by.nd rfl loc_order_by_found)
  (sndb_cons (snds_for [1] PO rfl (sndi_seq (snd_var 1 rfl vis_order_by_word)) (sndg_nm sc_order_by.nd rfl loc_order_by_k) (sndb_one (snds_set (snde_pure [2, 3] (sndc c_swapped hr (by decide) PC gl_order_by_swapped (snda_cons (snd_var 2 rfl vis_order_by_found) (snda_cons (snd_var 3 rfl vis_order_by_k) (snda_cons (snd_bin op_addA (v_add _) (snd_var 3 rfl vis_order_by_k) snd_int) snda_nil))))) sc_order_by.nd rfl loc_order_by_found)))
  (sndb_one (snds_ret (snde_mv 2 rfl vis_order_by_found))))))
  (fun _ _ _ _ _ _ us hl => match us, hl with | [_, _], _ => rfl)

theorem ok_is_short (D : Defd K mg "is_short" s_is_short) (b_len : mg "len" = none) (c_pairs_of : Cal P w K mg base "pairs_of" 1 ["order"] (spF 1 mg (fnP 4 m_pairs_of))) (c_order_by : Cal P w K mg base "order_by" 2 ["many", "word"] (spF 2 mg (fnP 4 m_order_by))) : Cal P w K mg base "is_short" 3 ["many", "word"] (spF 2 mg (fnP 2 m_is_short)) :=
  D.cal sc_is_short rfl (by decide) (fun f cdv A outer s H E hr => by
  have PC : Passes (L2.CX P w) (cxOf (L2.CX P w) P w K mg base N_is_short "is_short" (defScope s_is_short) f cdv A outer s H E) E := passes_call (takes_of rfl rfl rfl rfl) (fun _ _ _ _ h => h)
  have PO : PassesOwn (model P w) (cxOf (L2.CX P w) P w K mg base N_is_short "is_short" (defScope s_is_short) f cdv A outer s H E).A (cxOf (L2.CX P w) P w K mg base N_is_short "is_short" (defScope s_is_short) f cdv A outer s H E).env (cxOf (L2.CX P w) P w K mg base N_is_short "is_short" (defScope s_is_short) f cdv A outer s H E).xe := passes_of rfl
  unfold m_is_short b_is_short
  exact (sndb_one (snds_ret (snde_pure [0, 1] (snd_cmp (op_eqD hr.units) (v_eq _) (snd_b call_len (v_len _) gl_is_short_len b_len bt_len (snda_cons (sndc c_pairs_of hr (by decide) PC gl_is_short_pairs_of (snda_cons (sndc c_order_by hr (by decide) PC gl_is_short_order_by (snda_cons (snd_var 0 rfl vis_is_short_many) (snda_cons (snd_var 1 rfl vis_is_short_word) snda_nil))) snda_nil)) snda_nil)) (snd_b call_len (v_len _) gl_is_short_len b_len bt_len (snda_cons (snd_var 1 rfl vis_is_short_word) snda_nil)) (nomark _))))))
  (fun _ _ _ _ _ _ us hl => match us, hl with | [_, _], _ => rfl)

theorem ok_is_cross (D : Defd K mg "is_cross" s_is_cross) (b_all : mg "all" = none) (b_isinstance : mg "isinstance" = none) (b_len : mg "len" = none) (b_sum : mg "sum" = none) (b_tuple : mg "tuple" = none) (c_is_whole : Cal P w K mg base "is_whole" 1 ["thing"] (spF 1 mg (fnP 1 m_is_whole))) : Cal P w K mg base "is_cross" 2 ["many", "thing"] (spF 2 mg (fnP 3 m_is_cross)) :=
  D.cal sc_is_cross rfl (by decide) (fun f cdv A outer s H E hr => by
  have PC : Passes (L2.CX P w) (cxOf (L2.CX P w) P w K mg base N_is_cross "is_cross" (defScope s_is_cross) f cdv A outer s H E) E := passes_call (takes_of rfl rfl rfl rfl) (fun _ _ _ _ h => h)
  have PO : PassesOwn (model P w) (cxOf (L2.CX P w) P w K mg base N_is_cross "is_cross" (defScope s_is_cross) f cdv A outer s H E).A (cxOf (L2.CX P w) P w K mg base N_is_cross "is_cross" (defScope s_is_cross) f cdv A outer s H E).env (cxOf (L2.CX P w) P w K mg base N_is_cross "is_cross" (defScope s_is_cross) f cdv A outer s H E).xe := passes_of rfl
  unfold m_is_cross b_is_cross
  exact (sndb_cons (snds_if (SndW.t (sndw_or (sndt_not (sndt_val (snd_isT (snd_var 1 rfl vis_is_cross_thing) gl_is_cross_isinstance b_isinstance gl_is_cross_tuple b_tuple bt_tuple))) (sndw_or (sndt_cmp (op_neD hr.units) (v_ne _) (snd_b call_len (v_len _) gl_is_cross_len b_len bt_len (snda_cons (snd_var 1 rfl vis_is_cross_thing) snda_nil)) snd_int (nomark _)) (sndw_or1 (sndt_not (sndt_val (snd_b (cr_all rfl) (v_all _) gl_is_cross_all b_all bt_all (snda_cons (snd_comp (own := [("one", 2)]) rfl sc_is_cross.nd (sndi_seq (snd_var 1 rfl vis_is_cross_thing)) (blk_of N_is_cross (defScope s_is_cross) (by decide +kernel)) (fun _ _ _ _ _ => (sndg_nm sc_is_cross.nd rfl (locL (by decide +kernel)) (hf := fnL (by decide +kernel)))) (fun _ _ _ _ _ => sndts_nil) (fun _ _ _ _ _ => (snd_and (sndc c_is_whole hr (by decide) passL (glB (by decide +kernel)) (snda_cons (snd_var 2 rfl (visL (by decide +kernel))) snda_nil)) (snd_one (snd_cmp op_ge v_ge (snd_var 2 rfl (visL (by decide +kernel))) snd_int (nomark _)))))) snda_nil)))))))) (sndb_one (snds_ret (snde_pure [] snd_bl))) sndb_nil)
  (sndb_one (snds_ret (snde_pure [0, 1] (snd_cmp op_le v_le (snd_b (cr_sumA rfl) (v_sumA _) gl_is_cross_sum b_sum bt_sum (snda_cons (snd_var 1 rfl vis_is_cross_thing) snda_nil)) (snd_bin op_sub v_sub (snd_var 0 rfl vis_is_cross_many) snd_int) (nomark _)))))))
  (fun _ _ _ _ _ _ us hl => match us, hl with | [_, _], _ => rfl)

theorem ok_look_at_drawing (D : Defd K mg "look_at_drawing" s_look_at_drawing) (x_BadDrawing : ∃ C, OwnX K mg "BadDrawing" C) (b_all : mg "all" = none) (b_isinstance : mg "isinstance" = none) (b_len : mg "len" = none) (b_list : mg "list" = none) (b_range : mg "range" = none) (c_look_at_count : Cal P w K mg base "look_at_count" 2 ["many"] (spF 1 mg (fnP 1 m_look_at_count))) (c_is_cross : Cal P w K mg base "is_cross" 2 ["many", "thing"] (spF 2 mg (fnP 3 m_is_cross))) : Cal P w K mg base "look_at_drawing" 3 ["many", "thing"] (spF 2 mg (fnP 4 m_look_at_drawing)) :=
  D.cal sc_look_at_drawing rfl (by decide) (fun f cdv A outer s H E hr => by
  have PC : Passes (L2.CX P w) (cxOf (L2.CX P w) P w K mg base N_look_at_drawing "look_at_drawing" (defScope s_look_at_drawing) f cdv A outer s H E) E := passes_call (takes_of rfl rfl rfl rfl) (fun _ _ _ _ h => h)
  have PO : PassesOwn (model P w) (cxOf (L2.CX P w) P w K mg base N_look_at_drawing "look_at_drawing" (defScope s_look_at_drawing) f cdv A outer s H E).A (cxOf (L2.CX P w) P w K mg base N_look_at_drawing "look_at_drawing" (defScope s_look_at_drawing) f cdv A outer s H E).env (cxOf (L2.CX P w) P w K mg base N_look_at_drawing "look_at_drawing" (defScope s_look_at_drawing) f cdv A outer s H E).xe := passes_of rfl
  have TK : Takes (cxOf (L2.CX P w) P w K mg base N_look_at_drawing "look_at_drawing" (defScope s_look_at_drawing) f cdv A outer s H E) (fun cl d _ H => E cl d H) := takes_of rfl rfl rfl rfl
  unfold m_look_at_drawing b_look_at_drawing
  exact (sndb_cons (snds_expr (snde_pure [0] (sndc c_look_at_count hr (by decide) PC gl_look_at_drawing_look_at_count (snda_cons (snd_var 0 rfl vis_look_at_drawing_many) snda_nil))))
  (sndb_cons (snds_if (SndW.t (sndw_or (sndt_not (sndt_val (snd_isT (snd_var 1 rfl vis_look_at_drawing_thing) gl_look_at_drawing_isinstance b_isinstance gl_look_at_drawing_list b_list bt_list))) (sndw_or1 (sndt_not (sndt_val (snd_b (cr_all rfl) (v_all _) gl_look_at_drawing_all b_all bt_all (snda_cons (snd_comp (own := [("one", 2)]) rfl sc_look_at_drawing.nd (sndi_seq (snd_var 1 rfl vis_look_at_drawing_thing)) (blk_of N_look_at_drawing (defScope s_look_at_drawing) (by decide +kernel)) (fun _ _ _ _ _ => (sndg_nm sc_look_at_drawing.nd rfl (locL (by decide +kernel)) (hf := fnL (by decide +kernel)))) (fun _ _ _ _ _ => sndts_nil) (fun _ _ _ _ _ => (sndc c_is_cross hr (by decide) passL (glB (by decide +kernel)) (snda_cons (snd_var 0 rfl (visF (by decide +kernel))) (snda_cons (snd_var 2 rfl (visL (by decide +kernel))) snda_nil))))) snda_nil))))))) (sndb_one (snds_raise x_BadDrawing rfl TK gl_look_at_drawing_BadDrawing)) sndb_nil)
  (sndb_one (snds_if (sndt_not (sndt_val (snd_b (cr_all rfl) (v_all _) gl_look_at_drawing_all b_all bt_all (snda_cons (snd_comp (own := [("k", 3)]) rfl sc_look_at_drawing.nd (sndi_range1 (snd_bin op_sub v_sub (snd_b call_len (v_len _) gl_look_at_drawing_len b_len bt_len (snda_cons (snd_var 1 rfl vis_look_at_drawing_thing) snda_nil)) snd_int) gl_look_at_drawing_range b_range) (blk_of N_look_at_drawing (defScope s_look_at_drawing) (by decide +kernel)) (fun _ _ _ _ _ => (sndg_nm sc_look_at_drawing.nd rfl (locL (by decide +kernel)) (hf := fnL (by decide +kernel)))) (fun _ _ _ _ _ => sndts_nil) (fun _ _ _ _ _ => (snd_cmp (op_ltX hr.units) (v_ltX _) (snd_ix ix_seq (v_ix _) (snd_var 1 rfl (visF (by decide +kernel))) (snd_var 3 rfl (visL (by decide +kernel)))) (snd_ix ix_seq (v_ix _) (snd_var 1 rfl (visF (by decide +kernel))) (snd_bin op_addA (v_add _) (snd_var 3 rfl (visL (by decide +kernel))) snd_int)) (nomark _)))) snda_nil)))) (sndb_one (snds_raise x_BadDrawing rfl TK gl_look_at_drawing_BadDrawing)) sndb_nil)))))
  (fun _ _ _ _ _ _ us hl => match us, hl with | [_, _], _ => rfl)

theorem ok_line_of (D : Defd K mg "line_of" s_line_of)  : Cal P w K mg base "line_of" 1 ["drawing", "row"] (spF 2 mg (fnP 6 m_line_of)) :=
  D.cal sc_line_of rfl (by decide) (fun f cdv A outer s H E hr => by
  have PC : Passes (L2.CX P w) (cxOf (L2.CX P w) P w K mg base N_line_of "line_of" (defScope s_line_of) f cdv A outer s H E) E := passes_call (takes_of rfl rfl rfl rfl) (fun _ _ _ _ h => h)
  have PO : PassesOwn (model P w) (cxOf (L2.CX P w) P w K mg base N_line_of "line_of" (defScope s_line_of) f cdv A outer s H E).A (cxOf (L2.CX P w) P w K mg base N_line_of "line_of" (defScope s_line_of) f cdv A outer s H E).env (cxOf (L2.CX P w) P w K mg base N_line_of "line_of" (defScope s_line_of) f cdv A outer s H E).xe := passes_of rfl
  unfold m_line_of
  exact (sndb_cons (snds_set (snde_pure [] (snd_lst snda_nil)) sc_line_of.nd rfl loc_line_of_met)
  (sndb_cons (snds_par rfl sc_line_of.nd rfl rfl (by decide) lcl_line_of_i lcl_line_of_j (sndag_vr 1 rfl vis_line_of_row (sndag_ex (snde_pure [] snd_int) sndag_nil)) (by rfl))
  (sndb_cons (snds_set (snde_pure [] snd_bl) sc_line_of.nd rfl loc_line_of_up)
  (sndb_cons (snds_while 1000 PO (sndtg_pure (sndt_cmp op_ge v_ge (snd_var 3 rfl vis_line_of_i) snd_int (nomark _))) (sndb_cons (snds_if (sndt_cmp (op_inA (u65 hr)) (v_in _) (snd_tup (snda_cons (snd_var 3 rfl vis_line_of_i) (snda_cons (snd_var 4 rfl vis_line_of_j) snda_nil))) (snd_var 0 rfl vis_line_of_drawing) (by rfl)) (sndb_one (snds_expr (snde_append rfl vis_line_of_met (snde_pure [3, 4] (snd_tup (snda_cons (snd_var 3 rfl vis_line_of_i) (snda_cons (snd_var 4 rfl vis_line_of_j) snda_nil))))))) (sndb_one (snds_set (snde_pure [5] (snd_not (snd_var 5 rfl vis_line_of_up))) sc_line_of.nd rfl loc_line_of_up)))
  (sndb_one (snds_if (sndt_val (snd_var 5 rfl vis_line_of_up)) (sndb_one (snds_set (snde_pure [3] (snd_bin op_sub v_sub (snd_var 3 rfl vis_line_of_i) snd_int)) sc_line_of.nd rfl loc_line_of_i)) (sndb_one (snds_set (snde_pure [4] (snd_bin op_addA (v_add _) (snd_var 4 rfl vis_line_of_j) snd_int)) sc_line_of.nd rfl loc_line_of_j))))))
  (sndb_one (snds_ret (snde_pair (sndag_ex (snde_mv 2 rfl vis_line_of_met) (sndag_ex (snde_mv 4 rfl vis_line_of_j) sndag_nil))))))))))
  (fun _ _ _ _ _ _ us hl => match us, hl with | [_, _], _ => rfl)

theorem ok_ends (D : Defd K mg "ends" s_ends) (b_range : mg "range" = none) (b_tuple : mg "tuple" = none) (c_look_at_drawing : Cal P w K mg base "look_at_drawing" 3 ["many", "thing"] (spF 2 mg (fnP 4 m_look_at_drawing))) (c_line_of : Cal P w K mg base "line_of" 1 ["drawing", "row"] (spF 2 mg (fnP 6 m_line_of))) : Cal P w K mg base "ends" 4 ["many", "drawing"] (spF 2 mg (fnP 3 m_ends)) :=
  D.cal sc_ends rfl (by decide) (fun f cdv A outer s H E hr => by
  have PC : Passes (L2.CX P w) (cxOf (L2.CX P w) P w K mg base N_ends "ends" (defScope s_ends) f cdv A outer s H E) E := passes_call (takes_of rfl rfl rfl rfl) (fun _ _ _ _ h => h)
  have PO : PassesOwn (model P w) (cxOf (L2.CX P w) P w K mg base N_ends "ends" (defScope s_ends) f cdv A outer s H E).A (cxOf (L2.CX P w) P w K mg base N_ends "ends" (defScope s_ends) f cdv A outer s H E).env (cxOf (L2.CX P w) P w K mg base N_ends "ends" (defScope s_ends) f cdv A outer s H E).xe := passes_of rfl
  unfold m_ends b_ends
  exact (sndb_cons (snds_expr (snde_pure [0, 1] (sndc c_look_at_drawing hr (by decide) PC gl_ends_look_at_drawing (snda_cons (snd_var 0 rfl vis_ends_many) (snda_cons (snd_var 1 rfl vis_ends_drawing) snda_nil)))))
  (sndb_one (snds_ret (snde_pure [0, 1] (snd_ty cr_tupOf (v_tupOf _) gl_ends_tuple b_tuple bt_tuple (snda_cons (snd_comp (own := [("row", 2)]) rfl sc_ends.nd (sndi_range1 (snd_var 0 rfl vis_ends_many) gl_ends_range b_range) (blk_of N_ends (defScope s_ends) (by decide +kernel)) (fun _ _ _ _ _ => (sndg_nm sc_ends.nd rfl (locL (by decide +kernel)) (hf := fnL (by decide +kernel)))) (fun _ _ _ _ _ => sndts_nil) (fun _ _ _ _ _ => (snd_ix ix_seq (v_ix _) (sndc c_line_of hr (by decide) passL (glB (by decide +kernel)) (snda_cons (snd_var 1 rfl (visF (by decide +kernel))) (snda_cons (snd_var 2 rfl (visL (by decide +kernel))) snda_nil))) snd_int))) snda_nil)))))))
  (fun _ _ _ _ _ _ us hl => match us, hl with | [_, _], _ => rfl)

theorem ok_word_of (D : DefT K mg "word_of" s_word_of (He.codeOf K ("word_of", none))) (lTB : LamX.TabB base mg (He.cT K ("word_of", none)).1 (He.cT K ("word_of", none)).2) (lm : ((He.cT K ("word_of", none)).2, lamQ "word_of") ∈ CT.tb) (lu : ∀ p ∈ CT.tb, p.1 = (He.cT K ("word_of", none)).2 → p.2 = lamQ "word_of") (b_sorted : mg "sorted" = none) : Cal P w K mg base "word_of" 1 ["drawing"] (spF 1 mg (fnP 4 m_word_of)) :=
  D.cal sc_word_of rfl (by decide) (fun f cdv A outer s H E hcd hr => by
  have PC : Passes (L2.CX P w) (cxOf (L2.CX P w) P w K mg base N_word_of "word_of" (defScope s_word_of) f cdv A outer s H E) E := passes_call (takes_of rfl rfl rfl rfl) (fun _ _ _ _ h => h)
  have PO : PassesOwn (model P w) (cxOf (L2.CX P w) P w K mg base N_word_of "word_of" (defScope s_word_of) f cdv A outer s H E).A (cxOf (L2.CX P w) P w K mg base N_word_of "word_of" (defScope s_word_of) f cdv A outer s H E).env (cxOf (L2.CX P w) P w K mg base N_word_of "word_of" (defScope s_word_of) f cdv A outer s H E).xe := passes_of rfl
  unfold m_word_of
  exact (sndb_cons (snds_set (snde_pure [] (snd_lst snda_nil)) sc_word_of.nd rfl loc_word_of_found)
  (sndb_cons (snds_for [0] PO rfl (sndi_seq (snd_sortC (snda_cons (snd_var 0 rfl vis_word_of_drawing) snda_nil) hr.units hr.depth lTB hcd lm lu rfl gl_word_of_sorted b_sorted)) (sndg_tp rfl (sndgs_cons sc_word_of.nd rfl loc_word_of_i (sndgs_cons sc_word_of.nd rfl loc_word_of_j sndgs_nil))) (sndb_one (snds_expr (snde_append rfl vis_word_of_found (snde_pure [2, 3] (snd_bin op_addA (v_add _) (snd_var 2 rfl vis_word_of_i) (snd_var 3 rfl vis_word_of_j)))))))
  (sndb_one (snds_ret (snde_mv 1 rfl vis_word_of_found))))))
  (fun _ _ _ _ _ _ us hl => match us, hl with | [_], _ => rfl)

theorem ok_lowest_by (D : Defd K mg "lowest_by" s_lowest_by) (b_enumerate : mg "enumerate" = none) (b_range : mg "range" = none) (c_code_of : Cal P w K mg base "code_of" 1 ["order"] (spF 1 mg (fnP 3 m_code_of))) : Cal P w K mg base "lowest_by" 2 ["order"] (spF 1 mg (fnP 5 m_lowest_by)) :=
  D.cal sc_lowest_by rfl (by decide) (fun f cdv A outer s H E hr => by
  have PC : Passes (L2.CX P w) (cxOf (L2.CX P w) P w K mg base N_lowest_by "lowest_by" (defScope s_lowest_by) f cdv A outer s H E) E := passes_call (takes_of rfl rfl rfl rfl) (fun _ _ _ _ h => h)
  have PO : PassesOwn (model P w) (cxOf (L2.CX P w) P w K mg base N_lowest_by "lowest_by" (defScope s_lowest_by) f cdv A outer s H E).A (cxOf (L2.CX P w) P w K mg base N_lowest_by "lowest_by" (defScope s_lowest_by) f cdv A outer s H E).env (cxOf (L2.CX P w) P w K mg base N_lowest_by "lowest_by" (defScope s_lowest_by) f cdv A outer s H E).xe := passes_of rfl
  unfold m_lowest_by b_lowest_by
  exact (sndb_cons (snds_set (snde_pure [] (snd_lst snda_nil)) sc_lowest_by.nd rfl loc_lowest_by_found)
  (sndb_cons (snds_for [0] PO rfl (sndi_enumA (sndc c_code_of hr (by decide) PC gl_lowest_by_code_of (snda_cons (snd_var 0 rfl vis_lowest_by_order) snda_nil)) gl_lowest_by_enumerate b_enumerate) (sndg_tp rfl (sndgs_cons sc_lowest_by.nd rfl loc_lowest_by_i (sndgs_cons sc_lowest_by.nd rfl loc_lowest_by_number sndgs_nil))) (sndb_one (snds_set (snde_pure [1, 2, 3] (snd_bin op_addA (v_add _) (snd_var 1 rfl vis_lowest_by_found) (snd_comp (own := [("j", 4)]) rfl sc_lowest_by.nd (sndi_range1 (snd_var 3 rfl vis_lowest_by_number) gl_lowest_by_range b_range) (blk_of N_lowest_by (defScope s_lowest_by) (by decide +kernel)) (fun _ _ _ _ _ => (sndg_nm sc_lowest_by.nd rfl (locL (by decide +kernel)) (hf := fnL (by decide +kernel)))) (fun _ _ _ _ _ => sndts_nil) (fun _ _ _ _ _ => (snd_tup (snda_cons (snd_var 2 rfl (visF (by decide +kernel))) (snda_cons (snd_var 4 rfl (visL (by decide +kernel))) snda_nil))))))) sc_lowest_by.nd rfl loc_lowest_by_found)))
  (sndb_one (snds_ret (snde_mv 1 rfl vis_lowest_by_found))))))
  (fun _ _ _ _ _ _ us hl => match us, hl with | [_], _ => rfl)

theorem ok_ladder_goal (D : Defd K mg "ladder_goal" s_ladder_goal) (b_range : mg "range" = none) (b_reversed : mg "reversed" = none) : Cal P w K mg base "ladder_goal" 1 ["drawing", "cell"] (spF 2 mg (fnP 7 m_ladder_goal)) :=
  D.cal sc_ladder_goal rfl (by decide) (fun f cdv A outer s H E hr => by
  have PC : Passes (L2.CX P w) (cxOf (L2.CX P w) P w K mg base N_ladder_goal "ladder_goal" (defScope s_ladder_goal) f cdv A outer s H E) E := passes_call (takes_of rfl rfl rfl rfl) (fun _ _ _ _ h => h)
  have PO : PassesOwn (model P w) (cxOf (L2.CX P w) P w K mg base N_ladder_goal "ladder_goal" (defScope s_ladder_goal) f cdv A outer s H E).A (cxOf (L2.CX P w) P w K mg base N_ladder_goal "ladder_goal" (defScope s_ladder_goal) f cdv A outer s H E).env (cxOf (L2.CX P w) P w K mg base N_ladder_goal "ladder_goal" (defScope s_ladder_goal) f cdv A outer s H E).xe := passes_of rfl
  unfold m_ladder_goal
  exact (sndb_cons (snds_unpA rfl (snde_pure [1] (snd_var 1 rfl vis_ladder_goal_cell)) (sndgs_cons sc_ladder_goal.nd rfl loc_ladder_goal_i (sndgs_cons sc_ladder_goal.nd rfl loc_ladder_goal_j sndgs_nil)))
  (sndb_cons (snds_if (sndt_cmp (op_inA (u65 hr)) (v_in _) (snd_tup (snda_cons (snd_var 2 rfl vis_ladder_goal_i) (snda_cons (snd_bin op_addA (v_add _) (snd_var 3 rfl vis_ladder_goal_j) snd_int) snda_nil))) (snd_var 0 rfl vis_ladder_goal_drawing) (by rfl)) (sndb_one (snds_ret (snde_pure [] snd_non))) sndb_nil)
  (sndb_cons (snds_for [2] PO rfl (sndi_revR (sndr_1 (snd_var 2 rfl vis_ladder_goal_i) gl_ladder_goal_range b_range) gl_ladder_goal_reversed b_reversed) (sndg_nm sc_ladder_goal.nd rfl loc_ladder_goal_row) (sndb_cons (snds_set (snde_pure [0, 3, 4] (snd_cmp (op_inA (u65 hr)) (v_in _) (snd_tup (snda_cons (snd_var 4 rfl vis_ladder_goal_row) (snda_cons (snd_var 3 rfl vis_ladder_goal_j) snda_nil))) (snd_var 0 rfl vis_ladder_goal_drawing) (by rfl))) sc_ladder_goal.nd rfl loc_ladder_goal_left)
  (sndb_cons (snds_set (snde_pure [0, 3, 4] (snd_cmp (op_inA (u65 hr)) (v_in _) (snd_tup (snda_cons (snd_var 4 rfl vis_ladder_goal_row) (snda_cons (snd_bin op_addA (v_add _) (snd_var 3 rfl vis_ladder_goal_j) snd_int) snda_nil))) (snd_var 0 rfl vis_ladder_goal_drawing) (by rfl))) sc_ladder_goal.nd rfl loc_ladder_goal_right)
  (sndb_cons (snds_if (SndW.t (sndw_and (sndt_not (sndt_val (snd_var 5 rfl vis_ladder_goal_left))) (sndw_and1 (sndt_not (sndt_val (snd_var 6 rfl vis_ladder_goal_right)))))) (sndb_one (snds_ret (snde_pure [3, 4] (snd_tup (snda_cons (snd_var 4 rfl vis_ladder_goal_row) (snda_cons (snd_bin op_addA (v_add _) (snd_var 3 rfl vis_ladder_goal_j) snd_int) snda_nil)))))) sndb_nil)
  (sndb_one (snds_if (SndW.t (sndw_or (sndt_not (sndt_val (snd_var 5 rfl vis_ladder_goal_left))) (sndw_or1 (sndt_not (sndt_val (snd_var 6 rfl vis_ladder_goal_right)))))) (sndb_one (snds_ret (snde_pure [] snd_non))) sndb_nil))))))
  (sndb_one (snds_ret (snde_pure [] snd_non)))))))
  (fun _ _ _ _ _ _ us hl => match us, hl with | [_, _], _ => rfl)

theorem ok_ladders_of (D : Defd K mg "ladders_of" s_ladders_of) (b_sorted : mg "sorted" = none) (c_ladder_goal : Cal P w K mg base "ladder_goal" 1 ["drawing", "cell"] (spF 2 mg (fnP 7 m_ladder_goal))) : Cal P w K mg base "ladders_of" 2 ["drawing"] (spF 1 mg (fnP 5 m_ladders_of)) :=
  D.cal sc_ladders_of rfl (by decide) (fun f cdv A outer s H E hr => by
  have PC : Passes (L2.CX P w) (cxOf (L2.CX P w) P w K mg base N_ladders_of "ladders_of" (defScope s_ladders_of) f cdv A outer s H E) E := passes_call (takes_of rfl rfl rfl rfl) (fun _ _ _ _ h => h)
  have PO : PassesOwn (model P w) (cxOf (L2.CX P w) P w K mg base N_ladders_of "ladders_of" (defScope s_ladders_of) f cdv A outer s H E).A (cxOf (L2.CX P w) P w K mg base N_ladders_of "ladders_of" (defScope s_ladders_of) f cdv A outer s H E).env (cxOf (L2.CX P w) P w K mg base N_ladders_of "ladders_of" (defScope s_ladders_of) f cdv A outer s H E).xe := passes_of rfl
  unfold m_ladders_of b_ladders_of
  exact (sndb_cons (snds_set (snde_pure [] (snd_lst snda_nil)) sc_ladders_of.nd rfl loc_ladders_of_found)
  (sndb_cons (snds_for [0] PO rfl (sndi_seq (snd_var 0 rfl vis_ladders_of_drawing)) (sndg_nm sc_ladders_of.nd rfl loc_ladders_of_cell) (sndb_cons (snds_set (snde_pure [0, 2] (sndc c_ladder_goal hr (by decide) PC gl_ladders_of_ladder_goal (snda_cons (snd_var 0 rfl vis_ladders_of_drawing) (snda_cons (snd_var 2 rfl vis_ladders_of_cell) snda_nil)))) sc_ladders_of.nd rfl loc_ladders_of_goal)
  (sndb_one (snds_if (sndt_cmp op_notN v_isnot (snd_var 3 rfl vis_ladders_of_goal) snd_non (nomark _)) (sndb_one (snds_expr (snde_append rfl vis_ladders_of_found (snde_pure [0, 2, 3] (snd_b (cr_sortG hr.units) (v_sortR _ false) gl_ladders_of_sorted b_sorted bt_sorted (snda_cons (snd_bin op_addA (v_add _) (snd_comp (own := [("one", 4)]) rfl sc_ladders_of.nd (sndi_seq (snd_var 0 rfl vis_ladders_of_drawing)) (blk_of N_ladders_of (defScope s_ladders_of) (by decide +kernel)) (fun _ _ _ _ _ => (sndg_nm sc_ladders_of.nd rfl (locL (by decide +kernel)) (hf := fnL (by decide +kernel)))) (fun _ _ _ _ _ => (sndts_one (sndt_cmp (op_neD hr.units) (v_ne _) (snd_var 4 rfl (visL (by decide +kernel))) (snd_var 2 rfl (visF (by decide +kernel))) (nomark _)))) (fun _ _ _ _ _ => (snd_var 4 rfl (visL (by decide +kernel))))) (snd_lst (snda_cons (snd_var 3 rfl vis_ladders_of_goal) snda_nil))) snda_nil)))))) sndb_nil))))
  (sndb_one (snds_ret (snde_linB (cr_sortG hr.units) (v_sortR _ false) gl_ladders_of_sorted b_sorted bt_sorted (sndag_ex (snde_mv 1 rfl vis_ladders_of_found) sndag_nil)))))))
  (fun _ _ _ _ _ _ us hl => match us, hl with | [_], _ => rfl)

theorem ok_ladders (D : Defd K mg "ladders" s_ladders) (c_look_at_drawing : Cal P w K mg base "look_at_drawing" 3 ["many", "thing"] (spF 2 mg (fnP 4 m_look_at_drawing))) (c_ladders_of : Cal P w K mg base "ladders_of" 2 ["drawing"] (spF 1 mg (fnP 5 m_ladders_of))) : Cal P w K mg base "ladders" 4 ["many", "drawing"] (spF 2 mg (fnP 2 m_ladders)) :=
  D.cal sc_ladders rfl (by decide) (fun f cdv A outer s H E hr => by
  have PC : Passes (L2.CX P w) (cxOf (L2.CX P w) P w K mg base N_ladders "ladders" (defScope s_ladders) f cdv A outer s H E) E := passes_call (takes_of rfl rfl rfl rfl) (fun _ _ _ _ h => h)
  have PO : PassesOwn (model P w) (cxOf (L2.CX P w) P w K mg base N_ladders "ladders" (defScope s_ladders) f cdv A outer s H E).A (cxOf (L2.CX P w) P w K mg base N_ladders "ladders" (defScope s_ladders) f cdv A outer s H E).env (cxOf (L2.CX P w) P w K mg base N_ladders "ladders" (defScope s_ladders) f cdv A outer s H E).xe := passes_of rfl
  unfold m_ladders b_ladders
  exact (sndb_cons (snds_expr (snde_pure [0, 1] (sndc c_look_at_drawing hr (by decide) PC gl_ladders_look_at_drawing (snda_cons (snd_var 0 rfl vis_ladders_many) (snda_cons (snd_var 1 rfl vis_ladders_drawing) snda_nil)))))
  (sndb_one (snds_ret (snde_pure [1] (sndc c_ladders_of hr (by decide) PC gl_ladders_ladders_of (snda_cons (snd_var 1 rfl vis_ladders_drawing) snda_nil)))))))
  (fun _ _ _ _ _ _ us hl => match us, hl with | [_, _], _ => rfl)

theorem ok_climbs (D : Defd K mg "climbs" s_climbs) (b_len : mg "len" = none) (b_tuple : mg "tuple" = none) (c_lowest_by : Cal P w K mg base "lowest_by" 2 ["order"] (spF 1 mg (fnP 5 m_lowest_by))) (c_ladders_of : Cal P w K mg base "ladders_of" 2 ["drawing"] (spF 1 mg (fnP 5 m_ladders_of))) : Cal P w K mg base "climbs" 3 ["order"] (spF 1 mg (fnP 6 m_climbs)) :=
  D.cal sc_climbs rfl (by decide) (fun f cdv A outer s H E hr => by
  have PC : Passes (L2.CX P w) (cxOf (L2.CX P w) P w K mg base N_climbs "climbs" (defScope s_climbs) f cdv A outer s H E) E := passes_call (takes_of rfl rfl rfl rfl) (fun _ _ _ _ h => h)
  have PO : PassesOwn (model P w) (cxOf (L2.CX P w) P w K mg base N_climbs "climbs" (defScope s_climbs) f cdv A outer s H E).A (cxOf (L2.CX P w) P w K mg base N_climbs "climbs" (defScope s_climbs) f cdv A outer s H E).env (cxOf (L2.CX P w) P w K mg base N_climbs "climbs" (defScope s_climbs) f cdv A outer s H E).xe := passes_of rfl
  unfold m_climbs b_climbs
  exact (sndb_cons (snds_set (snde_pure [0] (sndc c_lowest_by hr (by decide) PC gl_climbs_lowest_by (snda_cons (snd_var 0 rfl vis_climbs_order) snda_nil))) sc_climbs.nd rfl loc_climbs_first)
  (sndb_cons (snds_set (snde_pure [1] (snd_ddisp2 hr.units (sndpp_cons (snd_ty cr_tupOf (v_tupOf _) gl_climbs_tuple b_tuple bt_tuple (snda_cons (snd_var 1 rfl vis_climbs_first) snda_nil)) snd_non sndpp_nil))) sc_climbs.nd rfl loc_climbs_came)
  (sndb_cons (snds_top (sndag_ex (snde_mv 1 rfl vis_climbs_first) sndag_nil) sc_climbs.nd rfl loc_climbs_rows)
  (sndb_cons (snds_set (snde_pure [] snd_int) sc_climbs.nd rfl loc_climbs_at)
  (sndb_cons (snds_while 1000 PO (sndtg_pure (sndt_cmp op_lt v_lt (snd_var 4 rfl vis_climbs_at) (snd_b call_len (v_len _) gl_climbs_len b_len bt_len (snda_cons (snd_var 3 rfl vis_climbs_rows) snda_nil)) (nomark _))) (sndb_cons (snds_forOwn 5 PO rfl (snde_pure [3, 4] (sndc c_ladders_of hr (by decide) PC gl_climbs_ladders_of (snda_cons (snd_ix ix_seq (v_ix _) (snd_var 3 rfl vis_climbs_rows) (snd_var 4 rfl vis_climbs_at)) snda_nil))) (sndg_nm sc_climbs.nd rfl loc_climbs_drawing) (sndb_one (snds_if (sndt_cmp (op_notInD2 hr.units) v_notInD2 (snd_ty cr_tupOf (v_tupOf _) gl_climbs_tuple b_tuple bt_tuple (snda_cons (snd_var 5 rfl vis_climbs_drawing) snda_nil)) (snd_var 2 rfl vis_climbs_came) (by rfl)) (sndb_cons (snds_setd2 hr.units rfl vis_climbs_came (snde_pure [3, 4] (snd_ty cr_tupOf (v_tupOf _) gl_climbs_tuple b_tuple bt_tuple (snda_cons (snd_ix ix_seq (v_ix _) (snd_var 3 rfl vis_climbs_rows) (snd_var 4 rfl vis_climbs_at)) snda_nil))) (snd_ty cr_tupOf (v_tupOf _) gl_climbs_tuple b_tuple bt_tuple (snda_cons (snd_var 5 rfl vis_climbs_drawing) snda_nil)))
  (sndb_one (snds_expr (snde_appTop rfl vis_climbs_rows (snde_mv 5 rfl vis_climbs_drawing))))) sndb_nil)))
  (sndb_one (snds_set (snde_pure [4] (snd_bin op_addA (v_add _) (snd_var 4 rfl vis_climbs_at) snd_int)) sc_climbs.nd rfl loc_climbs_at))))
  (sndb_one (snds_ret (snde_mv 2 rfl vis_climbs_came)))))))))
  (fun _ _ _ _ _ _ us hl => match us, hl with | [_], _ => rfl)

theorem ok_drawings (D : Defd K mg "drawings" s_drawings) (b_list : mg "list" = none) (b_sorted : mg "sorted" = none) (c_look_at_order : Cal P w K mg base "look_at_order" 3 ["thing"] (spF 1 mg (fnP 1 m_look_at_order))) (c_climbs : Cal P w K mg base "climbs" 3 ["order"] (spF 1 mg (fnP 6 m_climbs))) : Cal P w K mg base "drawings" 4 ["order"] (spF 1 mg (fnP 2 m_drawings)) :=
  D.cal sc_drawings rfl (by decide) (fun f cdv A outer s H E hr => by
  have PC : Passes (L2.CX P w) (cxOf (L2.CX P w) P w K mg base N_drawings "drawings" (defScope s_drawings) f cdv A outer s H E) E := passes_call (takes_of rfl rfl rfl rfl) (fun _ _ _ _ h => h)
  have PO : PassesOwn (model P w) (cxOf (L2.CX P w) P w K mg base N_drawings "drawings" (defScope s_drawings) f cdv A outer s H E).A (cxOf (L2.CX P w) P w K mg base N_drawings "drawings" (defScope s_drawings) f cdv A outer s H E).env (cxOf (L2.CX P w) P w K mg base N_drawings "drawings" (defScope s_drawings) f cdv A outer s H E).xe := passes_of rfl
  unfold m_drawings b_drawings
  exact (sndb_cons (snds_expr (snde_pure [0] (sndc c_look_at_order hr (by decide) PC gl_drawings_look_at_order (snda_cons (snd_var 0 rfl vis_drawings_order) snda_nil))))
  (sndb_one (snds_ret (snde_pure [0] (snd_b (cr_sortG hr.units) (v_sortR _ false) gl_drawings_sorted b_sorted bt_sorted (snda_cons (snd_comp (own := [("drawing", 1)]) rfl sc_drawings.nd (sndi_keys2 (sndc c_climbs hr (by decide) PC gl_drawings_climbs (snda_cons (snd_var 0 rfl vis_drawings_order) snda_nil))) (blk_of N_drawings (defScope s_drawings) (by decide +kernel)) (fun _ _ _ _ _ => (sndg_nm sc_drawings.nd rfl (locL (by decide +kernel)) (hf := fnL (by decide +kernel)))) (fun _ _ _ _ _ => sndts_nil) (fun _ _ _ _ _ => (snd_ty call_list_of (v_listOf _) (glB (by decide +kernel)) b_list bt_list (snda_cons (snd_var 1 rfl (visL (by decide +kernel))) snda_nil)))) snda_nil)))))))
  (fun _ _ _ _ _ _ us hl => match us, hl with | [_], _ => rfl)

theorem ok_climbed (D : Defd K mg "climbed" s_climbed) (r_Spare : InitX K mg "Spare" "place" "Spare.__init__" si_Spare) (b_list : mg "list" = none) (b_tuple : mg "tuple" = none) (c_order_by : Cal P w K mg base "order_by" 2 ["many", "word"] (spF 2 mg (fnP 4 m_order_by))) (c_is_short : Cal P w K mg base "is_short" 3 ["many", "word"] (spF 2 mg (fnP 2 m_is_short))) (c_look_at_drawing : Cal P w K mg base "look_at_drawing" 3 ["many", "thing"] (spF 2 mg (fnP 4 m_look_at_drawing))) (c_word_of : Cal P w K mg base "word_of" 1 ["drawing"] (spF 1 mg (fnP 4 m_word_of))) (c_climbs : Cal P w K mg base "climbs" 3 ["order"] (spF 1 mg (fnP 6 m_climbs))) : Cal P w K mg base "climbed" 4 ["many", "drawing"] (spF 2 mg (fnP 6 m_climbed)) :=
  D.cal sc_climbed rfl (by decide) (fun f cdv A outer s H E hr => by
  have PC : Passes (L2.CX P w) (cxOf (L2.CX P w) P w K mg base N_climbed "climbed" (defScope s_climbed) f cdv A outer s H E) E := passes_call (takes_of rfl rfl rfl rfl) (fun _ _ _ _ h => h)
  have PO : PassesOwn (model P w) (cxOf (L2.CX P w) P w K mg base N_climbed "climbed" (defScope s_climbed) f cdv A outer s H E).A (cxOf (L2.CX P w) P w K mg base N_climbed "climbed" (defScope s_climbed) f cdv A outer s H E).env (cxOf (L2.CX P w) P w K mg base N_climbed "climbed" (defScope s_climbed) f cdv A outer s H E).xe := passes_of rfl
  have TK : Takes (cxOf (L2.CX P w) P w K mg base N_climbed "climbed" (defScope s_climbed) f cdv A outer s H E) (fun cl d _ H => E cl d H) := takes_of rfl rfl rfl rfl
  unfold m_climbed b_climbed
  exact (sndb_cons (snds_expr (snde_pure [0, 1] (sndc c_look_at_drawing hr (by decide) PC gl_climbed_look_at_drawing (snda_cons (snd_var 0 rfl vis_climbed_many) (snda_cons (snd_var 1 rfl vis_climbed_drawing) snda_nil)))))
  (sndb_cons (snds_set (snde_pure [1] (sndc c_word_of hr (by decide) PC gl_climbed_word_of (snda_cons (snd_var 1 rfl vis_climbed_drawing) snda_nil))) sc_climbed.nd rfl loc_climbed_word)
  (sndb_cons (snds_if (sndt_not (sndt_val (sndc c_is_short hr (by decide) PC gl_climbed_is_short (snda_cons (snd_var 0 rfl vis_climbed_many) (snda_cons (snd_var 2 rfl vis_climbed_word) snda_nil))))) (sndb_one (snds_raiseF r_Spare sci_Spare (.inl (by decide +kernel)) (.inl (by decide +kernel)) gli_Spare rfl rfl (fun _ _ _ _ _ _ us hl => match us, hl with | [_, _], _ => rfl) hr (by decide) snd_int rfl TK gl_climbed_Spare)) sndb_nil)
  (sndb_cons (snds_set (snde_pure [0, 2] (sndc c_climbs hr (by decide) PC gl_climbed_climbs (snda_cons (sndc c_order_by hr (by decide) PC gl_climbed_order_by (snda_cons (snd_var 0 rfl vis_climbed_many) (snda_cons (snd_var 2 rfl vis_climbed_word) snda_nil))) snda_nil))) sc_climbed.nd rfl loc_climbed_came)
  (sndb_cons (snds_set (snde_pure [] (snd_lst snda_nil)) sc_climbed.nd rfl loc_climbed_found)
  (sndb_cons (snds_set (snde_pure [1] (snd_ty cr_tupOf (v_tupOf _) gl_climbed_tuple b_tuple bt_tuple (snda_cons (snd_var 1 rfl vis_climbed_drawing) snda_nil))) sc_climbed.nd rfl loc_climbed_here)
  (sndb_cons (snds_while 1000 PO (sndtg_pure (sndt_cmp op_notN v_isnot (snd_var 5 rfl vis_climbed_here) snd_non (nomark _))) (sndb_cons (snds_expr (snde_append rfl vis_climbed_found (snde_pure [5] (snd_ty call_list_of (v_listOf _) gl_climbed_list b_list bt_list (snda_cons (snd_var 5 rfl vis_climbed_here) snda_nil)))))
  (sndb_one (snds_set (snde_pure [3, 5] (snd_ix (ix_dic2 hr.units) v_ixD2 (snd_var 3 rfl vis_climbed_came) (snd_var 5 rfl vis_climbed_here))) sc_climbed.nd rfl loc_climbed_here))))
  (sndb_one (snds_ret (snde_revM (sndga_ex (snde_mv 4 rfl vis_climbed_found)))))))))))))
  (fun _ _ _ _ _ _ us hl => match us, hl with | [_, _], _ => rfl)

theorem ok__law_mixed (D : Defd K mg "_law_mixed" s__law_mixed)  : Cal P w K mg base "_law_mixed" 1 ["_law_cell_here", "_law_k"] (spF 2 mg (fnP 3 m__law_mixed)) :=
  D.cal sc__law_mixed rfl (by decide) (fun f cdv A outer s H E hr => by
  have PC : Passes (L2.CX P w) (cxOf (L2.CX P w) P w K mg base N__law_mixed "_law_mixed" (defScope s__law_mixed) f cdv A outer s H E) E := passes_call (takes_of rfl rfl rfl rfl) (fun _ _ _ _ h => h)
  have PO : PassesOwn (model P w) (cxOf (L2.CX P w) P w K mg base N__law_mixed "_law_mixed" (defScope s__law_mixed) f cdv A outer s H E).A (cxOf (L2.CX P w) P w K mg base N__law_mixed "_law_mixed" (defScope s__law_mixed) f cdv A outer s H E).env (cxOf (L2.CX P w) P w K mg base N__law_mixed "_law_mixed" (defScope s__law_mixed) f cdv A outer s H E).xe := passes_of rfl
  unfold m__law_mixed
  exact (sndb_cons (snds_set (snde_pure [0, 1] (snd_bin op_mod v_mod (snd_bin op_addA (v_add _) (snd_bin op_addA (v_add _) (snd_bin op_mulA v_mul (snd_bin op_mod v_mod (snd_var 0 rfl vis__law_mixed__law_cell_here) snd_int) snd_int) (snd_bin op_mulA v_mul (snd_var 1 rfl vis__law_mixed__law_k) snd_int)) snd_int) snd_int)) sc__law_mixed.nd rfl loc__law_mixed__law_number)
  (sndb_cons (snds_set (snde_pure [2] (snd_bin op_mod v_mod (snd_bin op_mulA v_mul (snd_var 2 rfl vis__law_mixed__law_number) (snd_var 2 rfl vis__law_mixed__law_number)) snd_int)) sc__law_mixed.nd rfl loc__law_mixed__law_number)
  (sndb_one (snds_ret (snde_pure [2] (snd_bin op_mod v_mod (snd_bin op_mulA v_mul (snd_var 2 rfl vis__law_mixed__law_number) (snd_bin op_addA (v_add _) (snd_var 2 rfl vis__law_mixed__law_number) snd_int)) snd_int)))))))
  (fun _ _ _ _ _ _ us hl => match us, hl with | [_, _], _ => rfl)

theorem ok__law_cell (D : Defd K mg "_law_cell" s__law_cell) (b_len : mg "len" = none) (b_range : mg "range" = none) (c__law_mixed : Cal P w K mg base "_law_mixed" 1 ["_law_cell_here", "_law_k"] (spF 2 mg (fnP 3 m__law_mixed))) : Cal P w K mg base "_law_cell" 2 ["_law_script", "_law_k"] (spF 2 mg (fnP 5 m__law_cell)) :=
  D.cal sc__law_cell rfl (by decide) (fun f cdv A outer s H E hr => by
  have PC : Passes (L2.CX P w) (cxOf (L2.CX P w) P w K mg base N__law_cell "_law_cell" (defScope s__law_cell) f cdv A outer s H E) E := passes_call (takes_of rfl rfl rfl rfl) (fun _ _ _ _ h => h)
  have PO : PassesOwn (model P w) (cxOf (L2.CX P w) P w K mg base N__law_cell "_law_cell" (defScope s__law_cell) f cdv A outer s H E).A (cxOf (L2.CX P w) P w K mg base N__law_cell "_law_cell" (defScope s__law_cell) f cdv A outer s H E).env (cxOf (L2.CX P w) P w K mg base N__law_cell "_law_cell" (defScope s__law_cell) f cdv A outer s H E).xe := passes_of rfl
  unfold m__law_cell b__law_cell
  exact (sndb_cons (snds_set (snde_pure [] snd_int) sc__law_cell.nd rfl loc__law_cell__law_cell_here)
  (sndb_cons (snds_if (sndt_cmp op_lt v_lt (snd_var 1 rfl vis__law_cell__law_k) (snd_b call_len (v_len _) gl__law_cell_len b_len bt_len (snda_cons (snd_var 0 rfl vis__law_cell__law_script) snda_nil)) (nomark _)) (sndb_one (snds_set (snde_pure [0, 1] (snd_ix ix_seq (v_ix _) (snd_var 0 rfl vis__law_cell__law_script) (snd_var 1 rfl vis__law_cell__law_k))) sc__law_cell.nd rfl loc__law_cell__law_cell_here)) sndb_nil)
  (sndb_cons (snds_if (sndt_cmp op_ge v_ge (snd_var 2 rfl vis__law_cell__law_cell_here) (snd_bin op_pow v_pow snd_int snd_int) (nomark _)) (sndb_one (snds_ret (snde_pure [2] (snd_bin op_mod v_mod (snd_bin op_sub v_sub (snd_var 2 rfl vis__law_cell__law_cell_here) (snd_bin op_pow v_pow snd_int snd_int)) (snd_bin op_mulA v_mul (snd_bin op_mulA v_mul (snd_bin op_mulA v_mul (snd_bin op_pow v_pow snd_int snd_int) (snd_bin op_pow v_pow snd_int snd_int)) (snd_bin op_pow v_pow snd_int snd_int)) (snd_bin op_pow v_pow snd_int snd_int)))))) sndb_nil)
  (sndb_cons (snds_set (snde_pure [] snd_int) sc__law_cell.nd rfl loc__law_cell__law_found)
  (sndb_cons (snds_for [] PO rfl (sndi_range1 snd_int gl__law_cell_range b_range) (sndg_nm sc__law_cell.nd rfl loc__law_cell__law_j) (sndb_one (snds_set (snde_pure [1, 2, 3, 4] (snd_bin op_addA (v_add _) (snd_bin op_mulA v_mul (snd_var 3 rfl vis__law_cell__law_found) snd_int) (sndc c__law_mixed hr (by decide) PC gl__law_cell__law_mixed (snda_cons (snd_var 2 rfl vis__law_cell__law_cell_here) (snda_cons (snd_bin op_addA (v_add _) (snd_bin op_addA (v_add _) (snd_bin op_mulA v_mul snd_int (snd_var 1 rfl vis__law_cell__law_k)) (snd_bin op_mulA v_mul snd_int (snd_var 4 rfl vis__law_cell__law_j))) (snd_bin op_mulA v_mul (snd_var 4 rfl vis__law_cell__law_j) (snd_var 4 rfl vis__law_cell__law_j))) snda_nil))))) sc__law_cell.nd rfl loc__law_cell__law_found)))
  (sndb_one (snds_ret (snde_mv 3 rfl vis__law_cell__law_found)))))))))
  (fun _ _ _ _ _ _ us hl => match us, hl with | [_, _], _ => rfl)

theorem ok__law_take (D : Defd K mg "_law_take" s__law_take)  : Cal P w K mg base "_law_take" 1 ["_law_pile", "_law_size"] (spR 2 0 mg (fnR 3 0 m__law_take)) :=
  D.calR 0 sc__law_take rfl (by decide) (fun f cdv A outer s H E hr => by
  have PC : Passes (L2.CX P w) (cxOf (L2.CX P w) P w K mg base N__law_take "_law_take" (defScope s__law_take) f cdv A outer s H E) E := passes_call (takes_of rfl rfl rfl rfl) (fun _ _ _ _ h => h)
  have PO : PassesOwn (model P w) (cxOf (L2.CX P w) P w K mg base N__law_take "_law_take" (defScope s__law_take) f cdv A outer s H E).A (cxOf (L2.CX P w) P w K mg base N__law_take "_law_take" (defScope s__law_take) f cdv A outer s H E).env (cxOf (L2.CX P w) P w K mg base N__law_take "_law_take" (defScope s__law_take) f cdv A outer s H E).xe := passes_of rfl
  unfold m__law_take
  exact (sndb_cons (snds_set (snde_pure [0, 1] (snd_bin op_mod v_mod (snd_ix ix_seq (v_ix _) (snd_var 0 rfl vis__law_take__law_pile) snd_int) (snd_var 1 rfl vis__law_take__law_size))) sc__law_take.nd rfl loc__law_take__law_digit)
  (sndb_cons (snds_seti rfl vis__law_take__law_pile (snde_pure [0, 1] (snd_bin op_fdivW v_div (snd_ix ix_seq (v_ix _) (snd_var 0 rfl vis__law_take__law_pile) snd_int) (snd_var 1 rfl vis__law_take__law_size))) snd_int)
  (sndb_one (snds_ret (snde_mv 2 rfl vis__law_take__law_digit))))))
  (fun _ _ _ _ _ _ us hl => match us, hl with | [_, _], _ => rfl)

theorem ok__law_order (D : Defd K mg "_law_order" s__law_order) (b_list : mg "list" = none) (b_range : mg "range" = none) (b_tuple : mg "tuple" = none) (c__law_take : Cal P w K mg base "_law_take" 1 ["_law_pile", "_law_size"] (spR 2 0 mg (fnR 3 0 m__law_take))) : Cal P w K mg base "_law_order" 2 ["_law_pile", "_law_many"] (spR 2 0 mg (fnR 5 0 m__law_order)) :=
  D.calR 0 sc__law_order rfl (by decide) (fun f cdv A outer s H E hr => by
  have PC : Passes (L2.CX P w) (cxOf (L2.CX P w) P w K mg base N__law_order "_law_order" (defScope s__law_order) f cdv A outer s H E) E := passes_call (takes_of rfl rfl rfl rfl) (fun _ _ _ _ h => h)
  have PO : PassesOwn (model P w) (cxOf (L2.CX P w) P w K mg base N__law_order "_law_order" (defScope s__law_order) f cdv A outer s H E).A (cxOf (L2.CX P w) P w K mg base N__law_order "_law_order" (defScope s__law_order) f cdv A outer s H E).env (cxOf (L2.CX P w) P w K mg base N__law_order "_law_order" (defScope s__law_order) f cdv A outer s H E).xe := passes_of rfl
  unfold m__law_order b__law_order
  exact (sndb_cons (snds_set (snde_pure [1] (snd_lstRg rfl (sndr_1 (snd_var 1 rfl vis__law_order__law_many) gl__law_order_range b_range) gl__law_order_list b_list)) sc__law_order.nd rfl loc__law_order__law_left)
  (sndb_cons (snds_set (snde_pure [] (snd_lst snda_nil)) sc__law_order.nd rfl loc__law_order__law_found)
  (sndb_cons (snds_for [1] PO rfl (sndi_range1 (snd_var 1 rfl vis__law_order__law_many) gl__law_order_range b_range) (sndg_nm sc__law_order.nd rfl loc__law_order__law_place) (sndb_one (snds_expr (snde_append rfl vis__law_order__law_found (snde_pop rfl vis__law_order__law_left (sndeR (i := 0) c__law_take hr (by decide) PC gl__law_order__law_take (sndag_vr 0 rfl vis__law_order__law_pile (sndag_ex (snde_pure [1, 4] (snd_bin op_sub v_sub (snd_var 1 rfl vis__law_order__law_many) (snd_var 4 rfl vis__law_order__law_place))) sndag_nil))))))))
  (sndb_one (snds_ret (snde_pure [3] (snd_ty cr_tupOf (v_tupOf _) gl__law_order_tuple b_tuple bt_tuple (snda_cons (snd_var 3 rfl vis__law_order__law_found) snda_nil)))))))))
  (fun _ _ _ _ _ _ us hl => match us, hl with | [_, _], _ => rfl)

theorem ok__law_goal (D : Defd K mg "_law_goal" s__law_goal) (b_range : mg "range" = none) (b_reversed : mg "reversed" = none) : Cal P w K mg base "_law_goal" 1 ["_law_drawing", "_law_cell_here"] (spF 2 mg (fnP 7 m__law_goal)) :=
  D.cal sc__law_goal rfl (by decide) (fun f cdv A outer s H E hr => by
  have PC : Passes (L2.CX P w) (cxOf (L2.CX P w) P w K mg base N__law_goal "_law_goal" (defScope s__law_goal) f cdv A outer s H E) E := passes_call (takes_of rfl rfl rfl rfl) (fun _ _ _ _ h => h)
  have PO : PassesOwn (model P w) (cxOf (L2.CX P w) P w K mg base N__law_goal "_law_goal" (defScope s__law_goal) f cdv A outer s H E).A (cxOf (L2.CX P w) P w K mg base N__law_goal "_law_goal" (defScope s__law_goal) f cdv A outer s H E).env (cxOf (L2.CX P w) P w K mg base N__law_goal "_law_goal" (defScope s__law_goal) f cdv A outer s H E).xe := passes_of rfl
  unfold m__law_goal
  exact (sndb_cons (snds_unpA rfl (snde_pure [1] (snd_var 1 rfl vis__law_goal__law_cell_here)) (sndgs_cons sc__law_goal.nd rfl loc__law_goal__law_i (sndgs_cons sc__law_goal.nd rfl loc__law_goal__law_j sndgs_nil)))
  (sndb_cons (snds_setC [0, 2, 3] (own := [("_law_row", 5)]) rfl sc__law_goal.nd rfl lcl__law_goal__law_rungs rfl (sndi_revR (sndr_1 (snd_var 2 rfl vis__law_goal__law_i) gl__law_goal_range b_range) gl__law_goal_reversed b_reversed) (blk_of N__law_goal (defScope s__law_goal) (by decide +kernel)) (fun _ _ _ _ _ => (sndg_nm sc__law_goal.nd rfl (locL (by decide +kernel)) (hf := fnL (by decide +kernel)))) (fun _ _ _ _ _ => sndts_nil) (fun _ _ _ _ _ => (snd_tup (snda_cons (snd_cmp (op_inA (u65 hr)) (v_in _) (snd_tup (snda_cons (snd_var 5 rfl (visL (by decide +kernel))) (snda_cons (snd_var 3 rfl (visF (by decide +kernel))) snda_nil))) (snd_var 0 rfl (visF (by decide +kernel))) (by rfl)) (snda_cons (snd_cmp (op_inA (u65 hr)) (v_in _) (snd_tup (snda_cons (snd_var 5 rfl (visL (by decide +kernel))) (snda_cons (snd_bin op_addA (v_add _) (snd_var 3 rfl (visF (by decide +kernel))) snd_int) snda_nil))) (snd_var 0 rfl (visF (by decide +kernel))) (by rfl)) snda_nil)))))
  (sndb_cons (snds_if (SndW.t (sndw_or (sndt_cmp (op_inA (u65 hr)) (v_in _) (snd_tup (snda_cons (snd_var 2 rfl vis__law_goal__law_i) (snda_cons (snd_bin op_addA (v_add _) (snd_var 3 rfl vis__law_goal__law_j) snd_int) snda_nil))) (snd_var 0 rfl vis__law_goal__law_drawing) (by rfl)) (sndw_or1 (sndt_cmp (op_notInA (u65 hr)) (v_notIn _) (snd_tup (snda_cons snd_bl (snda_cons snd_bl snda_nil))) (snd_var 4 rfl vis__law_goal__law_rungs) (by rfl))))) (sndb_one (snds_ret (snde_pure [] snd_non))) sndb_nil)
  (sndb_cons (snds_set (snde_pure [4] (snd_lindex (u65 hr) (snd_var 4 rfl vis__law_goal__law_rungs) (snd_tup (snda_cons snd_bl (snda_cons snd_bl snda_nil))))) sc__law_goal.nd rfl loc__law_goal__law_far)
  (sndb_cons (snds_if (sndt_cmp (op_neD hr.units) (v_ne _) (snd_slice (snd_var 4 rfl vis__law_goal__law_rungs) sndo_none (sndo_some (snd_var 6 rfl vis__law_goal__law_far))) (snd_bin op_mulS (v_mulS _) (snd_lst (snda_cons (snd_tup (snda_cons snd_bl (snda_cons snd_bl snda_nil))) snda_nil)) (snd_var 6 rfl vis__law_goal__law_far)) (nomark _)) (sndb_one (snds_ret (snde_pure [] snd_non))) sndb_nil)
  (sndb_one (snds_ret (snde_pure [2, 3, 6] (snd_tup (snda_cons (snd_bin op_sub v_sub (snd_bin op_sub v_sub (snd_var 2 rfl vis__law_goal__law_i) (snd_var 6 rfl vis__law_goal__law_far)) snd_int) (snda_cons (snd_bin op_addA (v_add _) (snd_var 3 rfl vis__law_goal__law_j) snd_int) snda_nil))))))))))))
  (fun _ _ _ _ _ _ us hl => match us, hl with | [_, _], _ => rfl)

theorem ok__law_ladders (D : Defd K mg "_law_ladders" s__law_ladders) (b_sorted : mg "sorted" = none) (c__law_goal : Cal P w K mg base "_law_goal" 1 ["_law_drawing", "_law_cell_here"] (spF 2 mg (fnP 7 m__law_goal))) : Cal P w K mg base "_law_ladders" 2 ["_law_drawing"] (spF 1 mg (fnP 5 m__law_ladders)) :=
  D.cal sc__law_ladders rfl (by decide) (fun f cdv A outer s H E hr => by
  have PC : Passes (L2.CX P w) (cxOf (L2.CX P w) P w K mg base N__law_ladders "_law_ladders" (defScope s__law_ladders) f cdv A outer s H E) E := passes_call (takes_of rfl rfl rfl rfl) (fun _ _ _ _ h => h)
  have PO : PassesOwn (model P w) (cxOf (L2.CX P w) P w K mg base N__law_ladders "_law_ladders" (defScope s__law_ladders) f cdv A outer s H E).A (cxOf (L2.CX P w) P w K mg base N__law_ladders "_law_ladders" (defScope s__law_ladders) f cdv A outer s H E).env (cxOf (L2.CX P w) P w K mg base N__law_ladders "_law_ladders" (defScope s__law_ladders) f cdv A outer s H E).xe := passes_of rfl
  unfold m__law_ladders b__law_ladders
  exact (sndb_cons (snds_set (snde_pure [] (snd_lst snda_nil)) sc__law_ladders.nd rfl loc__law_ladders__law_found)
  (sndb_cons (snds_for [0] PO rfl (sndi_seq (snd_var 0 rfl vis__law_ladders__law_drawing)) (sndg_nm sc__law_ladders.nd rfl loc__law_ladders__law_cell_here) (sndb_cons (snds_set (snde_pure [0, 2] (sndc c__law_goal hr (by decide) PC gl__law_ladders__law_goal (snda_cons (snd_var 0 rfl vis__law_ladders__law_drawing) (snda_cons (snd_var 2 rfl vis__law_ladders__law_cell_here) snda_nil)))) sc__law_ladders.nd rfl loc__law_ladders__law_goal_here)
  (sndb_one (snds_if (sndt_cmp op_notN v_isnot (snd_var 3 rfl vis__law_ladders__law_goal_here) snd_non (nomark _)) (sndb_one (snds_expr (snde_append rfl vis__law_ladders__law_found (snde_pure [0, 2, 3] (snd_b (cr_sortG hr.units) (v_sortR _ false) gl__law_ladders_sorted b_sorted bt_sorted (snda_cons (snd_bin op_addA (v_add _) (snd_comp (own := [("_law_one", 4)]) rfl sc__law_ladders.nd (sndi_seq (snd_var 0 rfl vis__law_ladders__law_drawing)) (blk_of N__law_ladders (defScope s__law_ladders) (by decide +kernel)) (fun _ _ _ _ _ => (sndg_nm sc__law_ladders.nd rfl (locL (by decide +kernel)) (hf := fnL (by decide +kernel)))) (fun _ _ _ _ _ => (sndts_one (sndt_cmp (op_neD hr.units) (v_ne _) (snd_var 4 rfl (visL (by decide +kernel))) (snd_var 2 rfl (visF (by decide +kernel))) (nomark _)))) (fun _ _ _ _ _ => (snd_var 4 rfl (visL (by decide +kernel))))) (snd_lst (snda_cons (snd_var 3 rfl vis__law_ladders__law_goal_here) snda_nil))) snda_nil)))))) sndb_nil))))
  (sndb_one (snds_ret (snde_linB (cr_sortG hr.units) (v_sortR _ false) gl__law_ladders_sorted b_sorted bt_sorted (sndag_ex (snde_mv 1 rfl vis__law_ladders__law_found) sndag_nil)))))))
  (fun _ _ _ _ _ _ us hl => match us, hl with | [_], _ => rfl)

theorem ok__law_lowest (D : Defd K mg "_law_lowest" s__law_lowest) (b_len : mg "len" = none) (b_range : mg "range" = none) : Cal P w K mg base "_law_lowest" 1 ["_law_order_here"] (spF 1 mg (fnP 5 m__law_lowest)) :=
  D.cal sc__law_lowest rfl (by decide) (fun f cdv A outer s H E hr => by
  have PC : Passes (L2.CX P w) (cxOf (L2.CX P w) P w K mg base N__law_lowest "_law_lowest" (defScope s__law_lowest) f cdv A outer s H E) E := passes_call (takes_of rfl rfl rfl rfl) (fun _ _ _ _ h => h)
  have PO : PassesOwn (model P w) (cxOf (L2.CX P w) P w K mg base N__law_lowest "_law_lowest" (defScope s__law_lowest) f cdv A outer s H E).A (cxOf (L2.CX P w) P w K mg base N__law_lowest "_law_lowest" (defScope s__law_lowest) f cdv A outer s H E).env (cxOf (L2.CX P w) P w K mg base N__law_lowest "_law_lowest" (defScope s__law_lowest) f cdv A outer s H E).xe := passes_of rfl
  unfold m__law_lowest
  exact (sndb_cons (snds_set (snde_pure [] (snd_lst snda_nil)) sc__law_lowest.nd rfl loc__law_lowest__law_found)
  (sndb_cons (snds_for [0] PO rfl (sndi_range1 (snd_b call_len (v_len _) gl__law_lowest_len b_len bt_len (snda_cons (snd_var 0 rfl vis__law_lowest__law_order_here) snda_nil)) gl__law_lowest_range b_range) (sndg_nm sc__law_lowest.nd rfl loc__law_lowest__law_i) (sndb_one (snds_set (snde_pure [0, 1, 2] (snd_bin op_addA (v_add _) (snd_var 1 rfl vis__law_lowest__law_found) (snd_comp (own := [("_law_j", 3)]) rfl sc__law_lowest.nd (sndi_range1 (snd_b call_len (v_len _) gl__law_lowest_len b_len bt_len (snda_cons (snd_comp (own := [("_law_one", 4)]) rfl sc__law_lowest.nd (sndi_seq (snd_slice (snd_var 0 rfl vis__law_lowest__law_order_here) (sndo_some (snd_bin op_addA (v_add _) (snd_var 2 rfl vis__law_lowest__law_i) snd_int)) sndo_none)) (blk_of N__law_lowest (defScope s__law_lowest) (by decide +kernel)) (fun _ _ _ _ _ => (sndg_nm sc__law_lowest.nd rfl (locL (by decide +kernel)) (hf := fnL (by decide +kernel)))) (fun _ _ _ _ _ => (sndts_one (sndt_cmp op_lt v_lt (snd_var 4 rfl (visL (by decide +kernel))) (snd_ix ix_seq (v_ix _) (snd_var 0 rfl (visF (by decide +kernel))) (snd_var 2 rfl (visF (by decide +kernel)))) (nomark _)))) (fun _ _ _ _ _ => (snd_var 4 rfl (visL (by decide +kernel))))) snda_nil)) gl__law_lowest_range b_range) (blk_of N__law_lowest (defScope s__law_lowest) (by decide +kernel)) (fun _ _ _ _ _ => (sndg_nm sc__law_lowest.nd rfl (locL (by decide +kernel)) (hf := fnL (by decide +kernel)))) (fun _ _ _ _ _ => sndts_nil) (fun _ _ _ _ _ => (snd_tup (snda_cons (snd_var 2 rfl (visF (by decide +kernel))) (snda_cons (snd_var 3 rfl (visL (by decide +kernel))) snda_nil))))))) sc__law_lowest.nd rfl loc__law_lowest__law_found)))
  (sndb_one (snds_ret (snde_mv 1 rfl vis__law_lowest__law_found))))))
  (fun _ _ _ _ _ _ us hl => match us, hl with | [_], _ => rfl)

theorem ok__law_whole (D : Defd K mg "_law_whole" s__law_whole) (b_bool : mg "bool" = none) (b_int : mg "int" = none) (b_isinstance : mg "isinstance" = none) : Cal P w K mg base "_law_whole" 1 ["_law_found"] (spF 1 mg (fnP 1 m__law_whole)) :=
  D.cal sc__law_whole rfl (by decide) (fun f cdv A outer s H E hr => by
  have PC : Passes (L2.CX P w) (cxOf (L2.CX P w) P w K mg base N__law_whole "_law_whole" (defScope s__law_whole) f cdv A outer s H E) E := passes_call (takes_of rfl rfl rfl rfl) (fun _ _ _ _ h => h)
  have PO : PassesOwn (model P w) (cxOf (L2.CX P w) P w K mg base N__law_whole "_law_whole" (defScope s__law_whole) f cdv A outer s H E).A (cxOf (L2.CX P w) P w K mg base N__law_whole "_law_whole" (defScope s__law_whole) f cdv A outer s H E).env (cxOf (L2.CX P w) P w K mg base N__law_whole "_law_whole" (defScope s__law_whole) f cdv A outer s H E).xe := passes_of rfl
  unfold m__law_whole
  exact (sndb_one (snds_ret (snde_pure [0] (snd_and (snd_isT (snd_var 0 rfl vis__law_whole__law_found) gl__law_whole_isinstance b_isinstance gl__law_whole_int b_int bt_int) (snd_one (snd_not (snd_isT (snd_var 0 rfl vis__law_whole__law_found) gl__law_whole_isinstance b_isinstance gl__law_whole_bool b_bool bt_bool))))))))
  (fun _ _ _ _ _ _ us hl => match us, hl with | [_], _ => rfl)

theorem ok__law_are_cells (D : Defd K mg "_law_are_cells" s__law_are_cells) (b_all : mg "all" = none) (b_isinstance : mg "isinstance" = none) (b_list : mg "list" = none) (b_tuple : mg "tuple" = none) (c__law_whole : Cal P w K mg base "_law_whole" 1 ["_law_found"] (spF 1 mg (fnP 1 m__law_whole))) : Cal P w K mg base "_law_are_cells" 2 ["_law_found"] (spF 1 mg (fnP 3 m__law_are_cells)) :=
  D.cal sc__law_are_cells rfl (by decide) (fun f cdv A outer s H E hr => by
  have PC : Passes (L2.CX P w) (cxOf (L2.CX P w) P w K mg base N__law_are_cells "_law_are_cells" (defScope s__law_are_cells) f cdv A outer s H E) E := passes_call (takes_of rfl rfl rfl rfl) (fun _ _ _ _ h => h)
  have PO : PassesOwn (model P w) (cxOf (L2.CX P w) P w K mg base N__law_are_cells "_law_are_cells" (defScope s__law_are_cells) f cdv A outer s H E).A (cxOf (L2.CX P w) P w K mg base N__law_are_cells "_law_are_cells" (defScope s__law_are_cells) f cdv A outer s H E).env (cxOf (L2.CX P w) P w K mg base N__law_are_cells "_law_are_cells" (defScope s__law_are_cells) f cdv A outer s H E).xe := passes_of rfl
  unfold m__law_are_cells b__law_are_cells
  exact (sndb_cons (snds_if (sndt_not (sndt_val (snd_isT (snd_var 0 rfl vis__law_are_cells__law_found) gl__law_are_cells_isinstance b_isinstance gl__law_are_cells_list b_list bt_list))) (sndb_one (snds_ret (snde_pure [] snd_bl))) sndb_nil)
  (sndb_cons (snds_for [0] PO rfl (sndi_seq (snd_var 0 rfl vis__law_are_cells__law_found)) (sndg_nm sc__law_are_cells.nd rfl loc__law_are_cells__law_one) (sndb_one (snds_if (SndW.t (sndw_or (sndt_not (sndt_val (snd_isT (snd_var 1 rfl vis__law_are_cells__law_one) gl__law_are_cells_isinstance b_isinstance gl__law_are_cells_tuple b_tuple bt_tuple))) (sndw_or1 (sndt_not (sndt_val (snd_b (cr_all rfl) (v_all _) gl__law_are_cells_all b_all bt_all (snda_cons (snd_comp (own := [("_law_number", 2)]) rfl sc__law_are_cells.nd (sndi_seq (snd_var 1 rfl vis__law_are_cells__law_one)) (blk_of N__law_are_cells (defScope s__law_are_cells) (by decide +kernel)) (fun _ _ _ _ _ => (sndg_nm sc__law_are_cells.nd rfl (locL (by decide +kernel)) (hf := fnL (by decide +kernel)))) (fun _ _ _ _ _ => sndts_nil) (fun _ _ _ _ _ => (sndc c__law_whole hr (by decide) passL (glB (by decide +kernel)) (snda_cons (snd_var 2 rfl (visL (by decide +kernel))) snda_nil)))) snda_nil))))))) (sndb_one (snds_ret (snde_pure [] snd_bl))) sndb_nil)))
  (sndb_one (snds_ret (snde_pure [] snd_bl))))))
  (fun _ _ _ _ _ _ us hl => match us, hl with | [_], _ => rfl)

theorem ok__law_is_climb (D : Defd K mg "_law_is_climb" s__law_is_climb) (b_all : mg "all" = none) (b_isinstance : mg "isinstance" = none) (b_len : mg "len" = none) (b_list : mg "list" = none) (b_range : mg "range" = none) (c_ends : Cal P w K mg base "ends" 4 ["many", "drawing"] (spF 2 mg (fnP 3 m_ends))) (c__law_ladders : Cal P w K mg base "_law_ladders" 2 ["_law_drawing"] (spF 1 mg (fnP 5 m__law_ladders))) (c__law_lowest : Cal P w K mg base "_law_lowest" 1 ["_law_order_here"] (spF 1 mg (fnP 5 m__law_lowest))) (c__law_are_cells : Cal P w K mg base "_law_are_cells" 2 ["_law_found"] (spF 1 mg (fnP 3 m__law_are_cells))) : Cal P w K mg base "_law_is_climb" 5 ["_law_order_here", "_law_drawing", "_law_found"] (spF 3 mg (fnP 5 m__law_is_climb)) :=
  D.cal sc__law_is_climb rfl (by decide) (fun f cdv A outer s H E hr => by
  have PC : Passes (L2.CX P w) (cxOf (L2.CX P w) P w K mg base N__law_is_climb "_law_is_climb" (defScope s__law_is_climb) f cdv A outer s H E) E := passes_call (takes_of rfl rfl rfl rfl) (fun _ _ _ _ h => h)
  have PO : PassesOwn (model P w) (cxOf (L2.CX P w) P w K mg base N__law_is_climb "_law_is_climb" (defScope s__law_is_climb) f cdv A outer s H E).A (cxOf (L2.CX P w) P w K mg base N__law_is_climb "_law_is_climb" (defScope s__law_is_climb) f cdv A outer s H E).env (cxOf (L2.CX P w) P w K mg base N__law_is_climb "_law_is_climb" (defScope s__law_is_climb) f cdv A outer s H E).xe := passes_of rfl
  unfold m__law_is_climb b__law_is_climb
  exact (sndb_cons (snds_if (SndW.t (sndw_or (sndt_not (sndt_val (snd_isT (snd_var 2 rfl vis__law_is_climb__law_found) gl__law_is_climb_isinstance b_isinstance gl__law_is_climb_list b_list bt_list))) (sndw_or (sndt_cmp (op_eqD hr.units) (v_eq _) (snd_var 2 rfl vis__law_is_climb__law_found) (snd_lst snda_nil) (nomark _)) (sndw_or1 (sndt_not (sndt_val (snd_b (cr_all rfl) (v_all _) gl__law_is_climb_all b_all bt_all (snda_cons (snd_comp (own := [("_law_one", 3)]) rfl sc__law_is_climb.nd (sndi_seq (snd_var 2 rfl vis__law_is_climb__law_found)) (blk_of N__law_is_climb (defScope s__law_is_climb) (by decide +kernel)) (fun _ _ _ _ _ => (sndg_nm sc__law_is_climb.nd rfl (locL (by decide +kernel)) (hf := fnL (by decide +kernel)))) (fun _ _ _ _ _ => sndts_nil) (fun _ _ _ _ _ => (sndc c__law_are_cells hr (by decide) passL (glB (by decide +kernel)) (snda_cons (snd_var 3 rfl (visL (by decide +kernel))) snda_nil)))) snda_nil)))))))) (sndb_one (snds_ret (snde_pure [] snd_bl))) sndb_nil)
  (sndb_cons (snds_if (SndW.t (sndw_or (sndt_cmp (op_neD hr.units) (v_ne _) (snd_ix ix_seq (v_ix _) (snd_var 2 rfl vis__law_is_climb__law_found) snd_int) (sndc c__law_lowest hr (by decide) PC gl__law_is_climb__law_lowest (snda_cons (snd_var 0 rfl vis__law_is_climb__law_order_here) snda_nil)) (nomark _)) (sndw_or1 (sndt_cmp (op_neD hr.units) (v_ne _) (snd_ix ix_seq (v_ix _) (snd_var 2 rfl vis__law_is_climb__law_found) (snd_neg snd_int)) (snd_var 1 rfl vis__law_is_climb__law_drawing) (nomark _))))) (sndb_one (snds_ret (snde_pure [] snd_bl))) sndb_nil)
  (sndb_cons (snds_for [2] PO rfl (sndi_range2 snd_int (snd_b call_len (v_len _) gl__law_is_climb_len b_len bt_len (snda_cons (snd_var 2 rfl vis__law_is_climb__law_found) snda_nil)) gl__law_is_climb_range b_range) (sndg_nm sc__law_is_climb.nd rfl loc__law_is_climb__law_k) (sndb_one (snds_if (SndW.t (sndw_or (sndt_cmp (op_notInA (u65 hr)) (v_notIn _) (snd_ix ix_seq (v_ix _) (snd_var 2 rfl vis__law_is_climb__law_found) (snd_var 4 rfl vis__law_is_climb__law_k)) (sndc c__law_ladders hr (by decide) PC gl__law_is_climb__law_ladders (snda_cons (snd_ix ix_seq (v_ix _) (snd_var 2 rfl vis__law_is_climb__law_found) (snd_bin op_sub v_sub (snd_var 4 rfl vis__law_is_climb__law_k) snd_int)) snda_nil)) (by rfl)) (sndw_or1 (sndt_cmp (op_inA (u65 hr)) (v_in _) (snd_ix ix_seq (v_ix _) (snd_var 2 rfl vis__law_is_climb__law_found) (snd_var 4 rfl vis__law_is_climb__law_k)) (snd_slice (snd_var 2 rfl vis__law_is_climb__law_found) sndo_none (sndo_some (snd_var 4 rfl vis__law_is_climb__law_k))) (by rfl))))) (sndb_one (snds_ret (snde_pure [] snd_bl))) sndb_nil)))
  (sndb_one (snds_ret (snde_pure [0, 2] (snd_b (cr_all rfl) (v_all _) gl__law_is_climb_all b_all bt_all (snda_cons (snd_comp (own := [("_law_one", 3)]) rfl sc__law_is_climb.nd (sndi_seq (snd_var 2 rfl vis__law_is_climb__law_found)) (blk_of N__law_is_climb (defScope s__law_is_climb) (by decide +kernel)) (fun _ _ _ _ _ => (sndg_nm sc__law_is_climb.nd rfl (locL (by decide +kernel)) (hf := fnL (by decide +kernel)))) (fun _ _ _ _ _ => sndts_nil) (fun _ _ _ _ _ => (snd_cmp (op_eqD hr.units) (v_eq _) (sndc c_ends hr (by decide) passL (glB (by decide +kernel)) (snda_cons (snd_b call_len (v_len _) (glB (by decide +kernel)) b_len bt_len (snda_cons (snd_var 0 rfl (visF (by decide +kernel))) snda_nil)) (snda_cons (snd_var 3 rfl (visL (by decide +kernel))) snda_nil))) (snd_var 0 rfl (visF (by decide +kernel))) (nomark _)))) snda_nil)))))))))
  (fun _ _ _ _ _ _ us hl => match us, hl with | [_, _, _], _ => rfl)

theorem ok__law_good (D : Defd K mg "_law_good" s__law_good) (b_len : mg "len" = none) (b_list : mg "list" = none) (b_range : mg "range" = none) (c_climbed : Cal P w K mg base "climbed" 4 ["many", "drawing"] (spF 2 mg (fnP 6 m_climbed))) (c__law_is_climb : Cal P w K mg base "_law_is_climb" 5 ["_law_order_here", "_law_drawing", "_law_found"] (spF 3 mg (fnP 5 m__law_is_climb))) : Cal P w K mg base "_law_good" 6 ["_law_order_here", "_law_drawing"] (spF 2 mg (fnP 6 m__law_good)) :=
  D.cal sc__law_good rfl (by decide) (fun f cdv A outer s H E hr => by
  have PC : Passes (L2.CX P w) (cxOf (L2.CX P w) P w K mg base N__law_good "_law_good" (defScope s__law_good) f cdv A outer s H E) E := passes_call (takes_of rfl rfl rfl rfl) (fun _ _ _ _ h => h)
  have PO : PassesOwn (model P w) (cxOf (L2.CX P w) P w K mg base N__law_good "_law_good" (defScope s__law_good) f cdv A outer s H E).A (cxOf (L2.CX P w) P w K mg base N__law_good "_law_good" (defScope s__law_good) f cdv A outer s H E).env (cxOf (L2.CX P w) P w K mg base N__law_good "_law_good" (defScope s__law_good) f cdv A outer s H E).xe := passes_of rfl
  unfold m__law_good b__law_good
  exact (sndb_cons (snds_set (snde_pure [1] (snd_ty call_list_of (v_listOf _) gl__law_good_list b_list bt_list (snda_cons (snd_var 1 rfl vis__law_good__law_drawing) snda_nil))) sc__law_good.nd rfl loc__law_good__law_kept)
  (sndb_cons (snds_for [] PO rfl (sndi_range1 snd_int gl__law_good_range b_range) (sndg_nm sc__law_good.nd rfl loc__law_good__law_turn) (sndb_cons (snds_set (snde_pure [0, 1] (sndc c_climbed hr (by decide) PC gl__law_good_climbed (snda_cons (snd_b call_len (v_len _) gl__law_good_len b_len bt_len (snda_cons (snd_var 0 rfl vis__law_good__law_order_here) snda_nil)) (snda_cons (snd_var 1 rfl vis__law_good__law_drawing) snda_nil)))) sc__law_good.nd rfl loc__law_good__law_found)
  (sndb_cons (snds_if (SndW.t (sndw_or (sndt_not (sndt_val (sndc c__law_is_climb hr (by decide) PC gl__law_good__law_is_climb (snda_cons (snd_var 0 rfl vis__law_good__law_order_here) (snda_cons (snd_var 1 rfl vis__law_good__law_drawing) (snda_cons (snd_var 4 rfl vis__law_good__law_found) snda_nil)))))) (sndw_or1 (sndt_cmp (op_neD hr.units) (v_ne _) (snd_var 1 rfl vis__law_good__law_drawing) (snd_var 2 rfl vis__law_good__law_kept) (nomark _))))) (sndb_one (snds_ret (snde_pure [] snd_bl))) sndb_nil)
  (sndb_cons (snds_forApp 4 5 PO rfl rfl vis__law_good__law_found rfl vis__law_good__law_one (sndg_nm sc__law_good.nd rfl loc__law_good__law_one) (snd_tup (snda_cons snd_int (snda_cons snd_int snda_nil))))
  (sndb_one (snds_expr (snde_clear rfl vis__law_good__law_found)))))))
  (sndb_one (snds_ret (snde_pure [] snd_bl))))))
  (fun _ _ _ _ _ _ us hl => match us, hl with | [_, _], _ => rfl)

theorem ok_law {f : Addr} {fd : FuncData} (F : Fun K "law" "law" s_law f fd) (b_all : mg "all" = none) (b_len : mg "len" = none) (b_max : mg "max" = none) (b_min : mg "min" = none) (b_range : mg "range" = none) (c_ladders : Cal P w K mg base "ladders" 4 ["many", "drawing"] (spF 2 mg (fnP 2 m_ladders))) (c_drawings : Cal P w K mg base "drawings" 4 ["order"] (spF 1 mg (fnP 2 m_drawings))) (c__law_cell : Cal P w K mg base "_law_cell" 2 ["_law_script", "_law_k"] (spF 2 mg (fnP 5 m__law_cell))) (c__law_take : Cal P w K mg base "_law_take" 1 ["_law_pile", "_law_size"] (spR 2 0 mg (fnR 3 0 m__law_take))) (c__law_order : Cal P w K mg base "_law_order" 2 ["_law_pile", "_law_many"] (spR 2 0 mg (fnR 5 0 m__law_order))) (c__law_lowest : Cal P w K mg base "_law_lowest" 1 ["_law_order_here"] (spF 1 mg (fnP 5 m__law_lowest))) (c__law_good : Cal P w K mg base "_law_good" 6 ["_law_order_here", "_law_drawing"] (spF 2 mg (fnP 6 m__law_good))) : FnOkG P w K mg base (L2.CX P w) 7 f fd ["_law_script"] (spF 1 mg (fnP 10 m_law)) :=
  fn_ok F sc_law rfl (by decide) (fun cdv A outer s H E hr => by
  have PC : Passes (L2.CX P w) (cxOf (L2.CX P w) P w K mg base N_law "law" (defScope s_law) f cdv A outer s H E) E := passes_call (takes_of rfl rfl rfl rfl) (fun _ _ _ _ h => h)
  have PO : PassesOwn (model P w) (cxOf (L2.CX P w) P w K mg base N_law "law" (defScope s_law) f cdv A outer s H E).A (cxOf (L2.CX P w) P w K mg base N_law "law" (defScope s_law) f cdv A outer s H E).env (cxOf (L2.CX P w) P w K mg base N_law "law" (defScope s_law) f cdv A outer s H E).xe := passes_of rfl
  unfold m_law b_law
  exact (sndb_cons (snds_for [0] PO rfl (sndi_range1 (snd_b (call_max2 rfl) v_max2 gl_law_max b_max bt_max (snda_cons (snd_b (call_min2 rfl) v_min2 gl_law_min b_min bt_min (snda_cons (snd_b call_len (v_len _) gl_law_len b_len bt_len (snda_cons (snd_var 0 rfl vis_law__law_script) snda_nil)) (snda_cons snd_int snda_nil))) (snda_cons snd_int snda_nil))) gl_law_range b_range) (sndg_nm sc_law.nd rfl loc_law__law_turn) (sndb_cons (snds_set (snde_pure [0, 1] (snd_lst (snda_cons (sndc c__law_cell hr (by decide) PC gl_law__law_cell (snda_cons (snd_var 0 rfl vis_law__law_script) (snda_cons (snd_var 1 rfl vis_law__law_turn) snda_nil))) snda_nil))) sc_law.nd rfl loc_law__law_pile)
  (sndb_cons (snds_set (snde_bin op_addA (v_add _) (sndga_ex (snde_pure [] snd_int)) (sndga_ex (sndeR (i := 2) c__law_take hr (by decide) PC gl_law__law_take (sndag_vr 2 rfl vis_law__law_pile (sndag_ex (snde_pure [] snd_int) sndag_nil))))) sc_law.nd rfl loc_law__law_many)
  (sndb_cons (snds_set (sndeR (i := 2) c__law_order hr (by decide) PC gl_law__law_order (sndag_vr 2 rfl vis_law__law_pile (sndag_vr 3 rfl vis_law__law_many sndag_nil))) sc_law.nd rfl loc_law__law_order_here)
  (sndb_cons (snds_set (snde_pure [4] (sndc c_drawings hr (by decide) PC gl_law_drawings (snda_cons (snd_var 4 rfl vis_law__law_order_here) snda_nil))) sc_law.nd rfl loc_law__law_every)
  (sndb_cons (snds_set (snde_lin2 op_addA (v_add _) (sndga_ex (snde_compKS (own := [("_law_k", 7)]) rfl sc_law.nd (sndig_pure [] (sndi_range1 snd_int gl_law_range b_range)) (blk_of N_law (defScope s_law) (by decide +kernel)) (fun _ _ _ _ _ => (sndg_nm sc_law.nd rfl (locL (by decide +kernel)) (hf := fnL (by decide +kernel)))) (fun _ _ _ _ _ => sndtsg_nil) (fun _ _ _ _ _ => (snde_linIx ix_seq (v_ix _) (sndga_ex (snde_pure [5] (snd_var 5 rfl (visF (by decide +kernel))))) (sndga_ex (sndeR (i := 2) c__law_take hr (by decide) passL (glB (by decide +kernel)) (sndag_vr 2 rfl (visF (by decide +kernel)) (sndag_ex (snde_pure [5] (snd_b call_len (v_len _) (glB (by decide +kernel)) b_len bt_len (snda_cons (snd_var 5 rfl (visF (by decide +kernel))) snda_nil))) sndag_nil)))))))) (sndga_ex (snde_pure [4, 5] (snd_lst (snda_cons (snd_ix ix_seq (v_ix _) (snd_var 5 rfl vis_law__law_every) (snd_neg snd_int)) (snda_cons (sndc c__law_lowest hr (by decide) PC gl_law__law_lowest (snda_cons (snd_var 4 rfl vis_law__law_order_here) snda_nil)) snda_nil)))))) sc_law.nd rfl loc_law__law_some)
  (sndb_scope [3, 4, 5, 6, 8] [] (sndb_cons (snds_if (sndt_not (sndt_val (snd_b (cr_all rfl) (v_all _) gl_law_all b_all bt_all (snda_cons (snd_comp (own := [("_law_drawing", 8)]) rfl sc_law.nd (sndi_seq (snd_var 6 rfl vis_law__law_some)) (blk_of N_law (defScope s_law) (by decide +kernel)) (fun _ _ _ _ _ => (sndg_nm sc_law.nd rfl (locL (by decide +kernel)) (hf := fnL (by decide +kernel)))) (fun _ _ _ _ _ => sndts_nil) (fun _ _ _ _ _ => (sndc c__law_good hr (by decide) passL (glB (by decide +kernel)) (snda_cons (snd_var 4 rfl (visF (by decide +kernel))) (snda_cons (snd_var 8 rfl (visL (by decide +kernel))) snda_nil))))) snda_nil)))) (sndb_one (snds_ret (snde_pure [] snd_bl))) sndb_nil)
  (sndb_one (snds_for [5] PO rfl (sndi_seq (snd_var 5 rfl vis_law__law_every)) (sndg_nm sc_law.nd rfl loc_law__law_drawing) (sndb_one (snds_if (sndt_not (sndt_val (snd_b (cr_all rfl) (v_all _) gl_law_all b_all bt_all (snda_cons (snd_comp (own := [("_law_one", 9)]) rfl sc_law.nd (sndi_seq (sndc c_ladders hr (by decide) PC gl_law_ladders (snda_cons (snd_var 3 rfl vis_law__law_many) (snda_cons (snd_var 8 rfl vis_law__law_drawing) snda_nil)))) (blk_of N_law (defScope s_law) (by decide +kernel)) (fun _ _ _ _ _ => (sndg_nm sc_law.nd rfl (locL (by decide +kernel)) (hf := fnL (by decide +kernel)))) (fun _ _ _ _ _ => sndts_nil) (fun _ _ _ _ _ => (snd_cmp (op_inA (u65 hr)) (v_in _) (snd_var 9 rfl (visL (by decide +kernel))) (snd_var 5 rfl (visF (by decide +kernel))) (by rfl)))) snda_nil)))) (sndb_one (snds_ret (snde_pure [] snd_bl))) sndb_nil))))))))))))
  (sndb_one (snds_ret (snde_pure [] snd_bl)))))

end
end CB

namespace CB
open PySem L2 PySem.Spec PyProof.Rows
theorem all_ok {P : Program} {w : World} {K : PySem.W.Frag} {mg : Str → Option Value} {fa : Addr} (hfa : mg "law" = some (.ref fa)) (D_is_whole : Defd K mg "is_whole" s_is_whole) (D_look_at_count : Defd K mg "look_at_count" s_look_at_count) (D_is_order : Defd K mg "is_order" s_is_order) (D_look_at_order : Defd K mg "look_at_order" s_look_at_order) (D_plain : Defd K mg "plain" s_plain) (D_pairs_of : Defd K mg "pairs_of" s_pairs_of) (D_code_of : Defd K mg "code_of" s_code_of) (D_swapped : Defd K mg "swapped" s_swapped) (D_order_by : Defd K mg "order_by" s_order_by) (D_is_short : Defd K mg "is_short" s_is_short) (D_is_cross : Defd K mg "is_cross" s_is_cross) (D_look_at_drawing : Defd K mg "look_at_drawing" s_look_at_drawing) (D_line_of : Defd K mg "line_of" s_line_of) (D_ends : Defd K mg "ends" s_ends) (D_word_of : DefT K mg "word_of" s_word_of (He.codeOf K ("word_of", none))) (D_lowest_by : Defd K mg "lowest_by" s_lowest_by) (D_ladder_goal : Defd K mg "ladder_goal" s_ladder_goal) (D_ladders_of : Defd K mg "ladders_of" s_ladders_of) (D_ladders : Defd K mg "ladders" s_ladders) (D_climbs : Defd K mg "climbs" s_climbs) (D_drawings : Defd K mg "drawings" s_drawings) (D_climbed : Defd K mg "climbed" s_climbed) (D__law_mixed : Defd K mg "_law_mixed" s__law_mixed) (D__law_cell : Defd K mg "_law_cell" s__law_cell) (D__law_take : Defd K mg "_law_take" s__law_take) (D__law_order : Defd K mg "_law_order" s__law_order) (D__law_goal : Defd K mg "_law_goal" s__law_goal) (D__law_ladders : Defd K mg "_law_ladders" s__law_ladders) (D__law_lowest : Defd K mg "_law_lowest" s__law_lowest) (D__law_whole : Defd K mg "_law_whole" s__law_whole) (D__law_are_cells : Defd K mg "_law_are_cells" s__law_are_cells) (D__law_is_climb : Defd K mg "_law_is_climb" s__law_is_climb) (D__law_good : Defd K mg "_law_good" s__law_good) (D_law : Defd K mg "law" s_law) (r_Spare : InitX K mg "Spare" "place" "Spare.__init__" si_Spare) (x_BadCount : ∃ C, OwnX K mg "BadCount" C) (x_BadDrawing : ∃ C, OwnX K mg "BadDrawing" C) (x_BadOrder : ∃ C, OwnX K mg "BadOrder" C) (b_all : mg "all" = none) (b_bool : mg "bool" = none) (b_enumerate : mg "enumerate" = none) (b_int : mg "int" = none) (b_isinstance : mg "isinstance" = none) (b_len : mg "len" = none) (b_list : mg "list" = none) (b_max : mg "max" = none) (b_min : mg "min" = none) (b_range : mg "range" = none) (b_reversed : mg "reversed" = none) (b_sorted : mg "sorted" = none) (b_sum : mg "sum" = none) (b_tuple : mg "tuple" = none) (g_MOST : ∃ t, mg "MOST" = some (.int 5 t)) (g_UNKNOWNS : ∃ t, mg "UNKNOWNS" = some (.int 5 t)) :
    ∃ fd : FuncData, (∀ (s : Shared) (v : Value), BindsTo s fd ⟨[v], []⟩ [("_law_script", v)]) ∧ ∀ base : Heap, K.In base → base.Ns mainGlobals mg → TBs (tfH.map (He.cT K)) mg base → FnOkG P w K mg base (L2.CX P w) 7 fa fd ["_law_script"] (spLaw (tfH.map (He.cT K))) := by
  letI : CT := ⟨mg, [((He.cT K ("word_of", none)).2, lamQ "word_of")]⟩
  have hmg : CT.mg = mg := rfl
  have c_is_whole : ∀ base : Heap, TBs (tfH.map (He.cT K)) mg base → Cal P w K mg base "is_whole" 1 ["thing"] (spF 1 mg (fnP 1 m_is_whole)) := fun base tb => ok_is_whole D_is_whole b_bool b_int b_isinstance
  have c_look_at_count : ∀ base : Heap, TBs (tfH.map (He.cT K)) mg base → Cal P w K mg base "look_at_count" 2 ["many"] (spF 1 mg (fnP 1 m_look_at_count)) := fun base tb => ok_look_at_count D_look_at_count x_BadCount g_UNKNOWNS (c_is_whole base tb)
  have c_is_order : ∀ base : Heap, TBs (tfH.map (He.cT K)) mg base → Cal P w K mg base "is_order" 2 ["thing"] (spF 1 mg (fnP 2 m_is_order)) := fun base tb => ok_is_order D_is_order b_all b_isinstance b_len b_list b_range b_sorted b_tuple g_MOST (c_is_whole base tb)
  have c_look_at_order : ∀ base : Heap, TBs (tfH.map (He.cT K)) mg base → Cal P w K mg base "look_at_order" 3 ["thing"] (spF 1 mg (fnP 1 m_look_at_order)) := fun base tb => ok_look_at_order D_look_at_order x_BadOrder (c_is_order base tb)
  have c_plain : ∀ base : Heap, TBs (tfH.map (He.cT K)) mg base → Cal P w K mg base "plain" 1 ["many"] (spF 1 mg (fnP 1 m_plain)) := fun base tb => ok_plain D_plain b_range b_tuple
  have c_pairs_of : ∀ base : Heap, TBs (tfH.map (He.cT K)) mg base → Cal P w K mg base "pairs_of" 1 ["order"] (spF 1 mg (fnP 4 m_pairs_of)) := fun base tb => ok_pairs_of D_pairs_of b_len b_range
  have c_code_of : ∀ base : Heap, TBs (tfH.map (He.cT K)) mg base → Cal P w K mg base "code_of" 1 ["order"] (spF 1 mg (fnP 3 m_code_of)) := fun base tb => ok_code_of D_code_of b_len b_range b_tuple
  have c_swapped : ∀ base : Heap, TBs (tfH.map (He.cT K)) mg base → Cal P w K mg base "swapped" 1 ["order", "i", "j"] (spF 3 mg (fnP 4 m_swapped)) := fun base tb => ok_swapped D_swapped b_list b_tuple
  have c_order_by : ∀ base : Heap, TBs (tfH.map (He.cT K)) mg base → Cal P w K mg base "order_by" 2 ["many", "word"] (spF 2 mg (fnP 4 m_order_by)) := fun base tb => ok_order_by D_order_by (c_plain base tb) (c_swapped base tb)
  have c_is_short : ∀ base : Heap, TBs (tfH.map (He.cT K)) mg base → Cal P w K mg base "is_short" 3 ["many", "word"] (spF 2 mg (fnP 2 m_is_short)) := fun base tb => ok_is_short D_is_short b_len (c_pairs_of base tb) (c_order_by base tb)
  have c_is_cross : ∀ base : Heap, TBs (tfH.map (He.cT K)) mg base → Cal P w K mg base "is_cross" 2 ["many", "thing"] (spF 2 mg (fnP 3 m_is_cross)) := fun base tb => ok_is_cross D_is_cross b_all b_isinstance b_len b_sum b_tuple (c_is_whole base tb)
  have c_look_at_drawing : ∀ base : Heap, TBs (tfH.map (He.cT K)) mg base → Cal P w K mg base "look_at_drawing" 3 ["many", "thing"] (spF 2 mg (fnP 4 m_look_at_drawing)) := fun base tb => ok_look_at_drawing D_look_at_drawing x_BadDrawing b_all b_isinstance b_len b_list b_range (c_look_at_count base tb) (c_is_cross base tb)
  have c_line_of : ∀ base : Heap, TBs (tfH.map (He.cT K)) mg base → Cal P w K mg base "line_of" 1 ["drawing", "row"] (spF 2 mg (fnP 6 m_line_of)) := fun base tb => ok_line_of D_line_of 
  have c_ends : ∀ base : Heap, TBs (tfH.map (He.cT K)) mg base → Cal P w K mg base "ends" 4 ["many", "drawing"] (spF 2 mg (fnP 3 m_ends)) := fun base tb => ok_ends D_ends b_range b_tuple (c_look_at_drawing base tb) (c_line_of base tb)
  have c_word_of : ∀ base : Heap, TBs (tfH.map (He.cT K)) mg base → Cal P w K mg base "word_of" 1 ["drawing"] (spF 1 mg (fnP 4 m_word_of)) := fun base tb => ok_word_of D_word_of (tb (He.cT K ("word_of", none)) (List.mem_map.mpr ⟨_, List.mem_singleton.mpr rfl, rfl⟩)) (List.mem_singleton.mpr rfl) (fun p hp _ => by rw [List.mem_singleton.mp hp]) b_sorted
  have c_lowest_by : ∀ base : Heap, TBs (tfH.map (He.cT K)) mg base → Cal P w K mg base "lowest_by" 2 ["order"] (spF 1 mg (fnP 5 m_lowest_by)) := fun base tb => ok_lowest_by D_lowest_by b_enumerate b_range (c_code_of base tb)
  have c_ladder_goal : ∀ base : Heap, TBs (tfH.map (He.cT K)) mg base → Cal P w K mg base "ladder_goal" 1 ["drawing", "cell"] (spF 2 mg (fnP 7 m_ladder_goal)) := fun base tb => ok_ladder_goal D_ladder_goal b_range b_reversed
  have c_ladders_of : ∀ base : Heap, TBs (tfH.map (He.cT K)) mg base → Cal P w K mg base "ladders_of" 2 ["drawing"] (spF 1 mg (fnP 5 m_ladders_of)) := fun base tb => ok_ladders_of D_ladders_of b_sorted (c_ladder_goal base tb)
  have c_ladders : ∀ base : Heap, TBs (tfH.map (He.cT K)) mg base → Cal P w K mg base "ladders" 4 ["many", "drawing"] (spF 2 mg (fnP 2 m_ladders)) := fun base tb => ok_ladders D_ladders (c_look_at_drawing base tb) (c_ladders_of base tb)
  have c_climbs : ∀ base : Heap, TBs (tfH.map (He.cT K)) mg base → Cal P w K mg base "climbs" 3 ["order"] (spF 1 mg (fnP 6 m_climbs)) := fun base tb => ok_climbs D_climbs b_len b_tuple (c_lowest_by base tb) (c_ladders_of base tb)
  have c_drawings : ∀ base : Heap, TBs (tfH.map (He.cT K)) mg base → Cal P w K mg base "drawings" 4 ["order"] (spF 1 mg (fnP 2 m_drawings)) := fun base tb => ok_drawings D_drawings b_list b_sorted (c_look_at_order base tb) (c_climbs base tb)
  have c_climbed : ∀ base : Heap, TBs (tfH.map (He.cT K)) mg base → Cal P w K mg base "climbed" 4 ["many", "drawing"] (spF 2 mg (fnP 6 m_climbed)) := fun base tb => ok_climbed D_climbed r_Spare b_list b_tuple (c_order_by base tb) (c_is_short base tb) (c_look_at_drawing base tb) (c_word_of base tb) (c_climbs base tb)
  have c__law_mixed : ∀ base : Heap, TBs (tfH.map (He.cT K)) mg base → Cal P w K mg base "_law_mixed" 1 ["_law_cell_here", "_law_k"] (spF 2 mg (fnP 3 m__law_mixed)) := fun base tb => ok__law_mixed D__law_mixed 
  have c__law_cell : ∀ base : Heap, TBs (tfH.map (He.cT K)) mg base → Cal P w K mg base "_law_cell" 2 ["_law_script", "_law_k"] (spF 2 mg (fnP 5 m__law_cell)) := fun base tb => ok__law_cell D__law_cell b_len b_range (c__law_mixed base tb)
  have c__law_take : ∀ base : Heap, TBs (tfH.map (He.cT K)) mg base → Cal P w K mg base "_law_take" 1 ["_law_pile", "_law_size"] (spR 2 0 mg (fnR 3 0 m__law_take)) := fun base tb => ok__law_take D__law_take 
  have c__law_order : ∀ base : Heap, TBs (tfH.map (He.cT K)) mg base → Cal P w K mg base "_law_order" 2 ["_law_pile", "_law_many"] (spR 2 0 mg (fnR 5 0 m__law_order)) := fun base tb => ok__law_order D__law_order b_list b_range b_tuple (c__law_take base tb)
  have c__law_goal : ∀ base : Heap, TBs (tfH.map (He.cT K)) mg base → Cal P w K mg base "_law_goal" 1 ["_law_drawing", "_law_cell_here"] (spF 2 mg (fnP 7 m__law_goal)) := fun base tb => ok__law_goal D__law_goal b_range b_reversed
  have c__law_ladders : ∀ base : Heap, TBs (tfH.map (He.cT K)) mg base → Cal P w K mg base "_law_ladders" 2 ["_law_drawing"] (spF 1 mg (fnP 5 m__law_ladders)) := fun base tb => ok__law_ladders D__law_ladders b_sorted (c__law_goal base tb)
  have c__law_lowest : ∀ base : Heap, TBs (tfH.map (He.cT K)) mg base → Cal P w K mg base "_law_lowest" 1 ["_law_order_here"] (spF 1 mg (fnP 5 m__law_lowest)) := fun base tb => ok__law_lowest D__law_lowest b_len b_range
  have c__law_whole : ∀ base : Heap, TBs (tfH.map (He.cT K)) mg base → Cal P w K mg base "_law_whole" 1 ["_law_found"] (spF 1 mg (fnP 1 m__law_whole)) := fun base tb => ok__law_whole D__law_whole b_bool b_int b_isinstance
  have c__law_are_cells : ∀ base : Heap, TBs (tfH.map (He.cT K)) mg base → Cal P w K mg base "_law_are_cells" 2 ["_law_found"] (spF 1 mg (fnP 3 m__law_are_cells)) := fun base tb => ok__law_are_cells D__law_are_cells b_all b_isinstance b_list b_tuple (c__law_whole base tb)
  have c__law_is_climb : ∀ base : Heap, TBs (tfH.map (He.cT K)) mg base → Cal P w K mg base "_law_is_climb" 5 ["_law_order_here", "_law_drawing", "_law_found"] (spF 3 mg (fnP 5 m__law_is_climb)) := fun base tb => ok__law_is_climb D__law_is_climb b_all b_isinstance b_len b_list b_range (c_ends base tb) (c__law_ladders base tb) (c__law_lowest base tb) (c__law_are_cells base tb)
  have c__law_good : ∀ base : Heap, TBs (tfH.map (He.cT K)) mg base → Cal P w K mg base "_law_good" 6 ["_law_order_here", "_law_drawing"] (spF 2 mg (fnP 6 m__law_good)) := fun base tb => ok__law_good D__law_good b_len b_list b_range (c_climbed base tb) (c__law_is_climb base tb)
  exact law_F (cs := tfH.map (He.cT K)) (fun p hp => by rw [List.mem_singleton.mp hp]; exact ⟨_, List.mem_map.mpr ⟨_, List.mem_singleton.mpr rfl, rfl⟩⟩) D_law hfa (fun _ _ _ _ _ _ _ _ => .of_eq rfl) (fun base f fd tb F => ok_law F b_all b_len b_max b_min b_range (c_ladders base tb) (c_drawings base tb) (c__law_cell base tb) (c__law_take base tb) (c__law_order base tb) (c__law_lowest base tb) (c__law_good base tb)) law_plain
end CB

open PySem PySem.W PyProof.Rows in
set_option maxRecDepth 100000 in
set_option maxHeartbeats 0 in
theorem PySem.Challenge.cw_crossbends_k47_whole_climbs_by_ladders_holds : PySem.Challenge.rw_crossbends_k47_whole_climbs_by_ladders.Holds := by
  w_on; o_law
  refine HandSHeadRun.head_any (r := OpenLaw.row PySem.Challenge.rw_crossbends_k47_whole_climbs_by_ladders) (q := view (OpenLaw.row PySem.Challenge.rw_crossbends_k47_whole_climbs_by_ladders).prog [46]) (H := CB.hkH) (ob := CB.obH) (M := 20000) (loose := CB.namesH) (d := HandSHeadRun.topDef (OpenLaw.row PySem.Challenge.rw_crossbends_k47_whole_climbs_by_ladders).prog 46) (kwd := []) CB.ob_eqH
    (by kernel_rfl) (fun s => by kernel_rfl) CB.runH (by kernel_rfl) (by kernel_rfl) (by kernel_rfl) (by rfl) (by first | assumption | decide +kernel) (by decide +kernel) ⟨rfl, rfl, rfl, rfl, rfl, by decide +kernel⟩ ?hw ?hc
  case hw => w_witness2
  case hc =>
    refine CB.law_walkE (l := PySem.Challenge.rw_crossbends_k47_whole_climbs_by_ladders) (tf := CB.tfH) (k := 7) (x := "_law_script") rfl (by kernel_rfl) ⟨rfl, by decide, by decide⟩ ?F
    intro w mg fa h K KX c G hmg0
    have hmg : mg ("law" : PySem.Str) = some (.ref fa) := by
      have e : (HandSHeadRun.topDef (OpenLaw.row PySem.Challenge.rw_crossbends_k47_whole_climbs_by_ladders).prog 46).name = ("law" : PySem.Str) := by kernel_rfl
      rw [← e]
      exact hmg0
    exact CB.all_ok hmg (CB.defd_c KX G c 0) (CB.defd_c KX G c 1) (CB.defd_c KX G c 2) (CB.defd_c KX G c 3) (CB.defd_c KX G c 4) (CB.defd_c KX G c 5) (CB.defd_c KX G c 6) (CB.defd_c KX G c 7) (CB.defd_c KX G c 8) (CB.defd_c KX G c 9) (CB.defd_c KX G c 10) (CB.defd_c KX G c 11) (CB.defd_c KX G c 12) (CB.defd_c KX G c 13) (CB.deft_c KX G c 14) (CB.defd_c KX G c 15) (CB.defd_c KX G c 16) (CB.defd_c KX G c 17) (CB.defd_c KX G c 18) (CB.defd_c KX G c 19) (CB.defd_c KX G c 20) (CB.defd_c KX G c 21) (CB.defd_c KX G c 22) (CB.defd_c KX G c 23) (CB.defd_c KX G c 24) (CB.defd_c KX G c 25) (CB.defd_c KX G c 26) (CB.defd_c KX G c 27) (CB.defd_c KX G c 28) (CB.defd_c KX G c 29) (CB.defd_c KX G c 30) (CB.defd_c KX G c 31) (CB.defd_c KX G c 32) (CB.defd_c KX G c 33) (CB.ini_c KX G c 0 34 rfl) (CB.own_c KX G c 1) (CB.own_c KX G c 2) (CB.own_c KX G c 3) (CB.non_c KX G c 4) (CB.non_c KX G c 5) (CB.non_c KX G c 6) (CB.non_c KX G c 7) (CB.non_c KX G c 8) (CB.non_c KX G c 9) (CB.non_c KX G c 10) (CB.non_c KX G c 11) (CB.non_c KX G c 12) (CB.non_c KX G c 13) (CB.non_c KX G c 14) (CB.non_c KX G c 15) (CB.non_c KX G c 16) (CB.non_c KX G c 17) (CB.int_c KX G c 18) (CB.int_c KX G c 19)
#print axioms PySem.Challenge.cw_crossbends_k47_whole_climbs_by_ladders_holds

