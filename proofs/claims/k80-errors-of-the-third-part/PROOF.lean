import PyProof.Rows.All
import Wide.All
import OpenK.AllK
import Wide.FinOn
import HandS.HeadHook4
import HandS.HeadWalk
import HandS.ExcInit
import HandS.ExcField
import KE.KExcSuper
import KE.KTryMore
import HandS.ExcIs
import HandS.ForMost
import HandS.ForExc
import HandS.ExcBuiltin
import KE.KExcInit
import HandS.Zip
import HandS.Star
import HandS.TupMul
import HandS.Walk
import HandS.Wide
import HandS.Deep
import HandS.TupAny
import HandS.TupLe
import HandS.IsInst
import HandS.Conv
import HandS.Style
import HandS.Flow
import KE.GoesMore
import KE.DataMinMax
import KE.KTupSum
import PyProof.ReprRoads
import HandS.TryMany
import HandS.Lambda
import HandS.ExcValue
import KE.KDflt
import HandS.MakeKw
import HandS.MakeKwOnly
import HandS.Property
import HandS.Dict
import HandS.WordsExc
import HandS.Defaults
import HandS.HeadEnd
import HandS.Ends
import HandS.EndTab
import HandS.SetFor
import HandS.Strs
import HandS.SortInts
import PyProof.P3In
import PyProof.MinMaxWalk
import KE.SortData
import HandS.SortOrd
import HandS.TupSets
import HandS.Text
import HandS.Iter
import PyProof.InstSpecial
import HandS.TryOnly
import KE.KStateDown
import Lean
import HandS.Base
import HandS.Call
import HandS.More
import HandS.Words
import HandS.Head0
import HandS.Head1
import HandS.Head2
import HandS.HeadHook1
import HandS.HeadHook2
import PySem.Challenge.RW_pilerules_k80_errors_of_the_third_part
set_option Elab.async false
set_option linter.all false
set_option maxRecDepth 100000
set_option maxHeartbeats 2000000
/-! Hk1: the hook of the head: own exceptions' classes, makers' tables. -/
namespace Q
open PySem PySem.Spec PyProof.Rows L2 LamX
/-- the objects at which the module's own __builtins__ stand -/
def BmAt (mg : Str → Option Value) (h : Heap) : Prop :=
  ∃ (bm : Addr) (ob : Obj), mg "__builtins__" = some (.ref bm) ∧ bm ≠ builtinsNs ∧ h.get? bm = some ob ∧ ob.cls = .type "module" ∧ ob.dict = some builtinsNs ∧ ob.data = .plain
/-- the tables cs at the heap h, apart from the part K -/
structure TabsAt (K : PySem.W.Frag) (h : Heap) (cs : List (Addr × Addr)) : Prop where
  nil : ∀ p ∈ cs, h.get? p.2 = some { cls := .none, data := .fields #[] }
  out : ∀ p ∈ cs, K.lookup p.2 = none
  hd : ∀ p ∈ cs, PySem.W.CodeHd h p.1 p.2
/-- the part of the heap that is looked at: empty tables are left out -/
def kQ (n : Nat) (g : Addr → Option Obj) : PySem.W.Frag := He.frT g (He.asD g n ++ [cStatics, sysModules])
abbrev IniV : Type := Option (Str × Str × Arguments × FuncBody × Scope × Addr × Addr)
/-- a class over ValueError: its name, its field, its __init__ -/
structure IniD where
  cls : Str
  fld : Str
  qual : Str
  params : Arguments
  body : List Stmt
  scope : Scope
def iniOf (K : PySem.W.Frag) (x : Str) : IniV := match K.lookup (He.ma K (He.ga K x) "__init__") with
  | some ⟨_, _, .func fd, _⟩ => some (fd.name, fd.qualname, fd.params, fd.body, fd.scope, fd.globals, fd.builtins)
  | _ => none
def IniD.val (d : IniD) : IniV := some ("__init__", d.qual, d.params, .stmts d.body, d.scope, mainGlobals, builtinsNs)
def oexB (K : PySem.W.Frag) (C : Addr) : Bool := (match K.lookup C with
  | some ⟨.type t, _, .cls cd, sl⟩ => (match cd.mro, sl.toList with
    | .ref C' :: bm, [_, _, _, _, some (.builtin n), _] => decide (t = "type") && (decide (C' = C) && (decide (n = "ValueError.__new__") && (cd.hasDict && (!cd.hasDel && PySem.HandSPX.refsVE bm))))
    | _, _ => false)
  | _ => false) && (decide (PySem.W.findIn K (.ref C) "__setattr__" = some (some (.builtin "object.__setattr__"))) && (decide (PySem.W.subIn K (.ref C) (.type "BaseException") = some true) && (decide (PySem.W.typeIn K (.ref C) = some (.type "type")) && PySem.W.keepIn K (.ref C))))
theorem oexB_ok {K : PySem.W.Frag} {C : Addr} (h : oexB K C = true) : OexC K C := by
  obtain ⟨h1, h⟩ := He.ba h
  obtain ⟨h2, h⟩ := He.ba h
  obtain ⟨h3, h⟩ := He.ba h
  obtain ⟨h4, h5⟩ := He.ba h
  refine ⟨?_, of_decide_eq_true h2, of_decide_eq_true h3, of_decide_eq_true h4, h5⟩
  split at h1
  · rename_i t dd cd sl lk
    split at h1
    · rename_i C' bm k0 k1 k2 k3 n k5 hm hs
      obtain ⟨a1, h1⟩ := He.ba h1
      obtain ⟨a2, h1⟩ := He.ba h1
      obtain ⟨a3, h1⟩ := He.ba h1
      obtain ⟨a4, h1⟩ := He.ba h1
      obtain ⟨a5, a6⟩ := He.ba h1
      have e1 := of_decide_eq_true a1
      have e2 := of_decide_eq_true a2
      have e3 := of_decide_eq_true a3
      subst e1 e2 e3
      obtain ⟨nm, bs, mro, ns, qn, hd, sn, sub, ab, col, del⟩ := cd
      dsimp only at hm a4 a5
      have e4 : del = false := by simpa using a5
      subst hm a4 e4
      obtain ⟨l⟩ := sl
      dsimp only at hs
      subst hs
      exact ⟨nm, qn, ns, bs, bm, sn, sub, ab, col, dd, k0, k1, k2, k3, k5, lk, a6⟩
    · cases h1
  · cases h1
/-- the rest of what is asked of such a class -/
def supB (K : PySem.W.Frag) (file x fl : Str) : Bool := oexB K (He.ga K x) && (decide (PySem.W.mroIn K (He.ga K x) (.ref (He.ga K x)) = some true) && (decide (PySem.W.subIn K (.ref (He.ga K x)) (.type "ValueError") = some true) &&
  (decide (PySem.W.ks_superIn K (He.ga K x) (He.ga K x) "__init__" = some (some (.builtin "ValueError.__init__"))) && (decide (PySem.W.findIn K (.ref (He.ga K x)) fl = some none) && (decide (PySem.W.nsIn K cStatics "thirdparty.any" = some none) &&
  (decide (PySem.W.findIn K (.ref (He.ga K x)) "__init__" = some (some (.ref (He.ma K (He.ga K x) "__init__")))) && (decide (PySem.W.typeIn K (.ref (He.ma K (He.ga K x) "__init__")) = some (.type "function")) && (match K.lookup (He.ma K (He.ga K x) "__init__") with
    | some ⟨_, _, .func fd, _⟩ => (match fd.defaults, fd.closure, fd.code with
      | .none, [(y, cc)], .ref cda => decide (y = ("__class__" : Str)) && (PySem.W.codeIn K (.ref cda) fd.qualname && ((match K.lookup cda with
        | some ⟨_, _, .fields vs, _⟩ => (match (vs[2]? : Option Value) with
          | some (Value.str f _) => decide (f = file)
          | _ => false)
        | _ => false) && (match K.lookup cc with
        | some ⟨_, _, .cell (some (.ref C)), _⟩ => decide (C = He.ga K x)
        | _ => false)))
      | _, _, _ => false)
    | _ => false))))))))
theorem supB_ok {K : PySem.W.Frag} {file : Str} {d : IniD} (e : iniOf K d.cls = d.val) (h : supB K file d.cls d.fld = true) : (OexC K (He.ga K d.cls) ∧ PySem.W.mroIn K (He.ga K d.cls) (.ref (He.ga K d.cls)) = some true ∧ PySem.W.subIn K (.ref (He.ga K d.cls)) (.type "ValueError") = some true ∧
    PySem.W.ks_superIn K (He.ga K d.cls) (He.ga K d.cls) "__init__" = some (some (.builtin "ValueError.__init__")) ∧ PySem.W.findIn K (.ref (He.ga K d.cls)) d.fld = some none ∧ PySem.W.nsIn K cStatics "thirdparty.any" = some none ∧
    PySem.W.findIn K (.ref (He.ga K d.cls)) "__init__" = some (some (.ref (He.ma K (He.ga K d.cls) "__init__"))) ∧ PySem.W.typeIn K (.ref (He.ma K (He.ga K d.cls) "__init__")) = some (.type "function")) ∧
    ∃ (oc : Value) (od : Option Addr) (kV doc pm ct : Value) (an : Option Addr) (osl : Array (Option Value)) (cda cc : Addr) (ccl cl : Value) (cdd cld : Option Addr) (ccs csl : Array (Option Value)) (vs0 : Array Value) (tf : Tok),
      K.lookup (He.ma K (He.ga K d.cls) "__init__") = some ⟨oc, od, .func (PySem.W.ksFn "__init__" d.qual d.params d.body d.scope .none kV doc pm an (.ref cda) ct cc), osl⟩ ∧ PySem.W.codeIn K (.ref cda) d.qual = true ∧ K.lookup cda = some ⟨ccl, cdd, .fields vs0, ccs⟩ ∧ vs0[2]? = some (.str file tf) ∧
      K.lookup cc = some ⟨cl, cld, .cell (some (.ref (He.ga K d.cls))), csl⟩ := by
  obtain ⟨h1, h⟩ := He.ba h
  obtain ⟨h2, h⟩ := He.ba h
  obtain ⟨h3, h⟩ := He.ba h
  obtain ⟨h4, h⟩ := He.ba h
  obtain ⟨h5, h⟩ := He.ba h
  obtain ⟨h6, h⟩ := He.ba h
  obtain ⟨h7, h⟩ := He.ba h
  obtain ⟨h8, h⟩ := He.ba h
  refine ⟨⟨oexB_ok h1, of_decide_eq_true h2, of_decide_eq_true h3, of_decide_eq_true h4, of_decide_eq_true h5, of_decide_eq_true h6, of_decide_eq_true h7, of_decide_eq_true h8⟩, ?_⟩
  unfold iniOf at e
  split at h
  · rename_i oc od fd osl lk
    rw [lk] at e
    dsimp only at e
    obtain ⟨n1, n2, n3, n4, n5, n6, n7, n8, n9, n10, n11, n12, n13, n14, n15⟩ := fd
    dsimp only at h e
    unfold IniD.val at e
    simp only [Option.some.injEq, Prod.mk.injEq] at e
    obtain ⟨e1, e2, e3, e4, e5, e6, e7⟩ := e
    subst e1 e2 e3 e4 e5 e6 e7
    split at h
    · rename_i y cc cda
      obtain ⟨b1, h⟩ := He.ba h
      obtain ⟨b2, h⟩ := He.ba h
      obtain ⟨b3, b4⟩ := He.ba h
      have ey := of_decide_eq_true b1
      subst ey
      split at b3
      · rename_i ccl cdd vs0 ccs lk2
        split at b3
        · rename_i f tf hv
          have ef := of_decide_eq_true b3
          subst ef
          split at b4
          · rename_i cl cld C csl lk3
            have ec := of_decide_eq_true b4
            subst ec
            exact ⟨oc, od, n9, n10, n11, n14, n12, osl, cda, cc, ccl, cl, cdd, cld, ccs, csl, vs0, tf, lk, b2, lk2, hv, lk3⟩
          · cases b4
        · cases b3
      · cases b3
    · cases h
  · cases h
/-- sys.modules is no list -/
def sysB (K : PySem.W.Frag) : Bool := match K.lookup sysModules with
  | some o => !(o.cls == .type "list")
  | none => false
/-- what isinstance asks of own exceptions' classes -/
def excB (K : PySem.W.Frag) (D : Addr) : Bool := decide (PySem.W.findIn K (.ref D) "__getattribute__" = some (some (.builtin "BaseException.__getattribute__"))) && (decide (PySem.W.findIn K (.ref D) "__getattr__" = some none) && (decide (PySem.W.subIn K (.ref D) (.type "BaseException") = some true) && (PySem.W.hasDictIn K D &&
  (decide (PySem.W.findIn K (.ref D) "__class__" = some (some (.builtin "object.__class__"))) && (decide (PySem.W.specialIn K (.builtin "object.__class__") "__get__" = some (some (.builtin "getset_descriptor.__get__"))) && (decide (PySem.W.takesIn K (.builtin "object.__class__") = some true) && decide (PySem.W.mroIn K D (.type "object") = some true)))))))
theorem excB_ok {K : PySem.W.Frag} {D : Addr} (h : excB K D = true) : ExcC K D := by
  obtain ⟨h1, h⟩ := He.ba h
  obtain ⟨h2, h⟩ := He.ba h
  obtain ⟨h3, h⟩ := He.ba h
  obtain ⟨h4, h⟩ := He.ba h
  obtain ⟨h5, h⟩ := He.ba h
  obtain ⟨h6, h⟩ := He.ba h
  obtain ⟨h7, h8⟩ := He.ba h
  exact ⟨of_decide_eq_true h1, of_decide_eq_true h2, of_decide_eq_true h3, h4, of_decide_eq_true h5, of_decide_eq_true h6, of_decide_eq_true h7, of_decide_eq_true h8⟩
def heardB (ns : List Str) (K : PySem.W.Frag) : Bool := ns.all fun x => excB K (He.ga K x) && (decide (PySem.W.exmAny K (.ref (He.ga K x)) [.ref (He.ga K "PileError"), .ref (He.ga K "TooGreat")] = some true) && ns.all fun y => decide (PySem.W.kitOne K (.ref (He.ga K x)) (.ref (He.ga K y)) = some (decide (x = y))))
/-! ### the hook -/
abbrev AlQ : Type := He.AlD × List IniV × Bool
def obsK (fa : List He.Fa) (fn : List He.DefD) (ini : List IniD) (tf : List He.Defn) (ex : PySem.W.Frag → Bool) (g : Addr → Option Obj) (K : PySem.W.Frag) : AlQ := (He.obsD fa fn K, ini.map (fun d => iniOf K d.cls), ex K && He.tabsB g tf K)
def obsQ (n : Nat) (fa : List He.Fa) (fn : List He.DefD) (ini : List IniD) (tf : List He.Defn) (ex : PySem.W.Frag → Bool) (g : Addr → Option Obj) : AlQ := obsK fa fn ini tf ex g (kQ n g)
/-- what is told of the part K of the heap h -/
structure SaysQ (fa : List He.Fa) (fn : List He.DefD) (ini : List IniD) (tf : List He.Defn) (ex : PySem.W.Frag → Bool) (h : Heap) (K : PySem.W.Frag) : Prop where
  d : He.SaysD fa fn K
  ini : ini.map (fun d => iniOf K d.cls) = ini.map IniD.val
  more : ex K = true
  tabs : TabsAt K h (tf.map (He.cT K))
  hd : ∀ p ∈ tf, PySem.W.codeHdIn K (He.cT K p).1 (He.cT K p).2 = true
theorem kQ_in {n : Nat} {h : Heap} : (kQ n h.get?).In h := fun _ _ e => (He.frT_mem e).1
theorem saysQ_of {n : Nat} {fa : List He.Fa} {fn : List He.DefD} {ini : List IniD} {tf : List He.Defn} {ex : PySem.W.Frag → Bool} {h : Heap} (e : obsQ n fa fn ini tf ex h.get? = (He.valD fn, ini.map IniD.val, true)) : SaysQ fa fn ini tf ex h (kQ n h.get?) := by
  unfold obsQ obsK at e
  simp only [Prod.mk.injEq] at e
  obtain ⟨e1, e2, e3⟩ := e
  obtain ⟨e4, e5⟩ := He.ba e3
  have key : ∀ p ∈ tf, PySem.W.codeHdIn (kQ n h.get?) (He.cT (kQ n h.get?) p).1 (He.cT (kQ n h.get?) p).2 = true ∧ h.get? (He.cT (kQ n h.get?) p).2 = some { cls := .none, data := .fields #[] } ∧ (kQ n h.get?).lookup (He.cT (kQ n h.get?) p).2 = none := by
    intro p hp
    obtain ⟨a1, a2⟩ := He.ba (List.all_eq_true.mp e5 p hp)
    split at a2
    · rename_i o ho
      exact ⟨a1, by rw [ho, He.emptyTab_eq a2], He.frT_none ho a2⟩
    · cases a2
  refine ⟨e1, e2, e4, ⟨fun q hq => ?_, fun q hq => ?_, fun q hq => ?_⟩, fun p hp => (key p hp).1⟩ <;> obtain ⟨p, hp, rfl⟩ := List.mem_map.mp hq
  · exact (key p hp).2.1
  · exact (key p hp).2.2
  · exact PySem.W.codeHd_of_K kQ_in (key p hp).1
def hookQ (n : Nat) (fa : List He.Fa) (fn : List He.DefD) (ini : List IniD) (tf : List He.Defn) (ex : PySem.W.Frag → Bool) : PySem.W.Hook where
  α := AlQ
  obs := fun s => obsQ n fa fn ini tf ex s.heap.get?
  val := fun _ => (He.valD fn, ini.map IniD.val, true)
  says := fun _ h => ∃ K : PySem.W.Frag, K.In h ∧ SaysQ fa fn ini tf ex h K
  of := fun _ _ e => ⟨_, kQ_in, saysQ_of e⟩
  keeps := fun _ _ _ ⟨K, kin, c⟩ k => ⟨K, PySem.W.Frag.In.keeps kin k, c.d, c.ini, c.more, ⟨fun q hq => k _ _ (c.tabs.nil q hq), c.tabs.out, fun q hq => by
    obtain ⟨p, hp, rfl⟩ := List.mem_map.mp hq
    exact PySem.W.codeHd_of_K (PySem.W.Frag.In.keeps kin k) (c.hd p hp)⟩, c.hd⟩
theorem obsQ_eq {n : Nat} {fa : List He.Fa} {fn : List He.DefD} {ini : List IniD} {tf : List He.Defn} {ex : PySem.W.Frag → Bool} {g : Addr → Option Obj} {s : Shared} (h : ∀ a, g a = s.heap.get? a) : obsQ n fa fn ini tf ex g = (hookQ n fa fn ini tf ex).obs s := by
  rw [show g = s.heap.get? from funext h]
  rfl
theorem SaysQ.iniAt {fa : List He.Fa} {fn : List He.DefD} {ini : List IniD} {tf : List He.Defn} {ex : PySem.W.Frag → Bool} {h : Heap} {K : PySem.W.Frag} (c : SaysQ fa fn ini tf ex h K) {d : IniD} (hd : d ∈ ini) : iniOf K d.cls = d.val := by
  obtain ⟨i, hi, e⟩ := List.mem_iff_getElem.mp hd
  have z : (ini.map (fun d => iniOf K d.cls))[i]? = (ini.map IniD.val)[i]? := by rw [c.ini]
  rw [List.getElem?_map, List.getElem?_map, List.getElem?_eq_getElem hi, e] at z
  exact Option.some.inj z
end Q

/-! Lay1: plain data D over the abstract heap; the state of an activation; what an expression, a statement is read as. -/
namespace Q
open PySem L2

/-- a caught or made exception that is kept: its class, its dict -/
def ExK (cls : Value) (d : Option Addr) (a : Addr) : HO := .ext fun h => ∃ (oe : Obj) (vs : Array Value), h.get? a = some oe ∧ Zc cls d oe ∧ oe.data = .fields vs
/-- the address of a class, by its name -/
def gaQ (K : PySem.W.Frag) (x : Str) : Addr := match PySem.W.nsIn K mainGlobals x with
  | some (some (.ref a)) => a
  | _ => 0
/-- a thing that never changes: a dict by texts; an exception of a class, by its fields -/
inductive Bx where
  | dS (ks : List Str) | exc (n : Str) (fs : List Str)
def Bx.Is (K : PySem.W.Frag) : Bx → Hp → Addr → List V → Prop
  | .dS ks, H, a, vs => ks.length = vs.length ∧ H a = some (.dK ((ks.map .inr).zip vs))
  | .exc n fs, H, a, vs => fs.length = vs.length ∧ ∃ dx, H a = some (ExK (.ref (gaQ K n)) (some dx) a) ∧ H dx = some (.xd (fs.zip vs))
theorem Bx.Is.at {K : PySem.W.Frag} {b : Bx} {H : Hp} {a : Addr} {vs : List V} (h : b.Is K H a vs) : ∃ o, H a = some o := by
  cases b with
  | dS ks => exact ⟨_, h.2⟩
  | exc n fs => obtain ⟨_, dx, e, _⟩ := h; exact ⟨_, e⟩
theorem Bx.Is.keep {K : PySem.W.Frag} {b : Bx} {H H' : Hp} {a : Addr} {vs : List V} (h : b.Is K H a vs) (e : ∀ o, H a = some o → H' a = some o) (k : ∀ c fs, H c = some (.xd fs) → H' c = some (.xd fs)) : b.Is K H' a vs := by
  cases b with
  | dS ks => exact ⟨h.1, e _ h.2⟩
  | exc n fs => obtain ⟨q, dx, h1, h2⟩ := h; exact ⟨q, dx, e _ h1, k _ _ h2⟩
/-- plain data: what a value is, without addresses; scr: a list that is read alone (the script); opq: a thing that is only handed on; emp: an empty dict -/
inductive D where
  | non | bl (b : Bool) | int (i : Int) | str (x : Str) | tup (ds : List D) | lst (ds : List D) | scr (ds : List D) | opq (v : V) | emp | box (b : Bx) (ds : List D)

/-- a list that never changes: the script, or one of the written part -/
def KL (K : PySem.W.Frag) (a : Addr) (xs : List V) : Prop := ∃ (o : Obj) (its : Array Value) (n : Nat), K.lookup a = some o ∧ o.cls = .type "list" ∧ o.dict = none ∧ o.data = .seq its n ∧ its.size ≤ sizeLine ∧ Vals xs its.toList
def Frz (K : PySem.W.Frag) (H : Hp) (a : Addr) (xs : List V) : Prop := (∃ o, H a = some (.frz o (.lst xs))) ∨ KL K a xs
theorem Frz.sq {K : PySem.W.Frag} {H : Hp} {a : Addr} {xs : List V} (h : Frz K H a xs) : SqL K H a xs := h.elim (fun h => .inl (.inr h)) .inr
mutual
/-- the value v is the data d on the heap H; each list in it lies where F is -/
inductive Rp (K : PySem.W.Frag) (H : Hp) (F : Addr → Prop) : V → D → Prop
  | non : Rp K H F .non .non
  | bl (b : Bool) : Rp K H F (.bl b) (.bl b)
  | int (i : Int) : Rp K H F (.int i) (.int i)
  | str (x : Str) : Rp K H F (.str x) (.str x)
  | opq (v : V) : Rp K H F v (.opq v)
  | emp {a : Addr} : F a → H a = some (.dK []) → Rp K H F (.ref a) .emp
  | tup {a : Addr} {xs : List V} {ds : List D} : SqT K H a xs → RpL K H F xs ds → Rp K H F (.ref a) (.tup ds)
  | lst {a : Addr} {xs : List V} {ds : List D} : F a → H a = some (.lst xs) → RpL K H F xs ds → Rp K H F (.ref a) (.lst ds)
  | scr {a : Addr} {xs : List V} {ds : List D} : Frz K H a xs → RpL K H F xs ds → Rp K H F (.ref a) (.scr ds)
  | box {a : Addr} {b : Bx} {xs : List V} {ds : List D} : F a → b.Is K H a xs → RpL K H F xs ds → Rp K H F (.ref a) (.box b ds)
inductive RpL (K : PySem.W.Frag) (H : Hp) (F : Addr → Prop) : List V → List D → Prop
  | nil : RpL K H F [] []
  | cons {v : V} {vs : List V} {d : D} {ds : List D} : Rp K H F v d → RpL K H F vs ds → RpL K H F (v :: vs) (d :: ds)
end

/-- one heap behind another: what may be leaned on stays -/
structure Stays (F : Addr → Prop) (H H' : Hp) : Prop where
  tup : ∀ a xs, H a = some (.tup xs) → H' a = some (.tup xs)
  frz : ∀ a o u, H a = some (.frz o u) → H' a = some (.frz o u)
  lst : ∀ a xs, F a → H a = some (.lst xs) → H' a = some (.lst xs)
  emp : ∀ a, F a → H a = some (.dK []) → H' a = some (.dK [])
  val : ∀ a o, F a → H a = some o → H' a = some o
  xd : ∀ a fs, H a = some (.xd fs) → H' a = some (.xd fs)
theorem Stays.of {F : Addr → Prop} {H H' : Hp} (h : ∀ a o, H a = some o → H' a = some o) : Stays F H H' := ⟨fun a _ e => h a _ e, fun a _ _ e => h a _ e, fun a _ _ e => h a _ e, fun a _ e => h a _ e, fun a _ _ e => h a _ e, fun a _ e => h a _ e⟩
theorem Frz.stays {K : PySem.W.Frag} {F : Addr → Prop} {H H' : Hp} {a : Addr} {xs : List V} (s : Stays F H H') (h : Frz K H a xs) : Frz K H' a xs := h.imp (fun ⟨o, h⟩ => ⟨o, s.frz _ _ _ h⟩) id
theorem sqT_stays {K : PySem.W.Frag} {F : Addr → Prop} {H H' : Hp} {a : Addr} {xs : List V} (s : Stays F H H') (h : SqT K H a xs) : SqT K H' a xs := by
  rcases h with (h | ⟨o, h⟩) | h
  · exact .inl (.inl (s.tup _ _ h))
  · exact .inl (.inr ⟨o, s.frz _ _ _ h⟩)
  · exact .inr h
mutual
theorem Rp.step {K : PySem.W.Frag} {H H' : Hp} {F F' : Addr → Prop} (s : Stays F H H') (hF : ∀ a, F a → H a ≠ none → F' a) : ∀ {v : V} {d : D}, Rp K H F v d → Rp K H' F' v d
  | _, _, .non => .non
  | _, _, .bl b => .bl b
  | _, _, .int i => .int i
  | _, _, .str x => .str x
  | _, _, .opq v => .opq v
  | _, _, .emp f h => .emp (hF _ f (by rw [h]; simp)) (s.emp _ f h)
  | _, _, .tup h r => .tup (sqT_stays s h) (RpL.step s hF r)
  | _, _, .lst f h r => .lst (hF _ f (by rw [h]; simp)) (s.lst _ _ f h) (RpL.step s hF r)
  | _, _, .scr h r => .scr (h.stays s) (RpL.step s hF r)
  | _, _, .box f h r => .box (hF _ f (by obtain ⟨o, e⟩ := h.at; rw [e]; simp)) (h.keep (fun _ e => s.val _ _ f e) s.xd) (RpL.step s hF r)
theorem RpL.step {K : PySem.W.Frag} {H H' : Hp} {F F' : Addr → Prop} (s : Stays F H H') (hF : ∀ a, F a → H a ≠ none → F' a) : ∀ {vs : List V} {ds : List D}, RpL K H F vs ds → RpL K H' F' vs ds
  | _, _, .nil => .nil
  | _, _, .cons h r => .cons (Rp.step s hF h) (RpL.step s hF r)
end
theorem Rp.wk {K : PySem.W.Frag} {H : Hp} {F F' : Addr → Prop} {v : V} {d : D} (h : Rp K H F v d) (hF : ∀ a, F a → H a ≠ none → F' a) : Rp K H F' v d := h.step (Stays.of fun _ _ e => e) hF
theorem RpL.wk {K : PySem.W.Frag} {H : Hp} {F F' : Addr → Prop} {v : List V} {d : List D} (h : RpL K H F v d) (hF : ∀ a, F a → H a ≠ none → F' a) : RpL K H F' v d := h.step (Stays.of fun _ _ e => e) hF
theorem RpL.length {K : PySem.W.Frag} {H : Hp} {F : Addr → Prop} : ∀ {vs : List V} {ds : List D}, RpL K H F vs ds → vs.length = ds.length
  | _, _, .nil => rfl
  | _, _, .cons _ r => congrArg (· + 1) (RpL.length r)
theorem RpL.append {K : PySem.W.Frag} {H : Hp} {F : Addr → Prop} : ∀ {vs ws : List V} {ds es : List D}, RpL K H F vs ds → RpL K H F ws es → RpL K H F (vs ++ ws) (ds ++ es)
  | _, _, _, _, .nil, s => s
  | _, _, _, _, .cons h r, s => .cons h (RpL.append r s)
theorem RpL.get {K : PySem.W.Frag} {H : Hp} {F : Addr → Prop} : ∀ {vs : List V} {ds : List D} {i : Nat} {d : D}, RpL K H F vs ds → ds[i]? = some d → ∃ v, vs[i]? = some v ∧ Rp K H F v d
  | _, _, _, _, .nil, e => by simp at e
  | _, _, 0, _, .cons h _, e => by simp at e; subst e; exact ⟨_, rfl, h⟩
  | _, _, i + 1, d, .cons _ r, e => by
    obtain ⟨v, h1, h2⟩ := RpL.get (i := i) (d := d) r (by simpa using e)
    exact ⟨v, by simpa using h1, h2⟩
theorem RpL.get' {K : PySem.W.Frag} {H : Hp} {F : Addr → Prop} : ∀ {vs : List V} {ds : List D} {i : Nat} {v : V}, RpL K H F vs ds → vs[i]? = some v → ∃ d, ds[i]? = some d ∧ Rp K H F v d
  | _, _, _, _, .nil, e => by simp at e
  | _, _, 0, _, .cons h _, e => by simp at e; subst e; exact ⟨_, rfl, h⟩
  | _, _, i + 1, d, .cons _ r, e => by
    obtain ⟨v, h1, h2⟩ := RpL.get' (i := i) (v := d) r (by simpa using e)
    exact ⟨v, by simpa using h1, h2⟩
theorem RpL.take {K : PySem.W.Frag} {H : Hp} {F : Addr → Prop} : ∀ (n : Nat) {vs : List V} {ds : List D}, RpL K H F vs ds → RpL K H F (vs.take n) (ds.take n)
  | 0, _, _, _ => .nil
  | _ + 1, _, _, .nil => .nil
  | n + 1, _, _, .cons h r => .cons h (RpL.take n r)
theorem RpL.drop {K : PySem.W.Frag} {H : Hp} {F : Addr → Prop} : ∀ (n : Nat) {vs : List V} {ds : List D}, RpL K H F vs ds → RpL K H F (vs.drop n) (ds.drop n)
  | 0, _, _, r => r
  | _ + 1, _, _, .nil => .nil
  | n + 1, _, _, .cons _ r => RpL.drop n r
theorem RpL.set {K : PySem.W.Frag} {H : Hp} {F : Addr → Prop} {v : V} {d : D} (h : Rp K H F v d) : ∀ (i : Nat) {vs : List V} {ds : List D}, RpL K H F vs ds → RpL K H F (vs.set i v) (ds.set i d)
  | _, _, _, .nil => .nil
  | 0, _, _, .cons _ r => .cons h r
  | i + 1, _, _, .cons q r => .cons q (RpL.set h i r)
theorem RpL.reverse {K : PySem.W.Frag} {H : Hp} {F : Addr → Prop} : ∀ {vs : List V} {ds : List D}, RpL K H F vs ds → RpL K H F vs.reverse ds.reverse
  | _, _, .nil => .nil
  | _, _, .cons h r => by
    rw [List.reverse_cons, List.reverse_cons]
    exact (RpL.reverse r).append (.cons h .nil)

/-- the shape of a thing that nothing else leads to: a list; a dict by tuples, by plain keys; an object of a class, by its fields -/
inductive Sh where
  | lst | dT (ks : List (List Key)) | dK (ks : List Key) | ins (c : Addr) (fs : List Str)
/-- what a statement may write at -/
def Soft : HO → Prop
  | .lst _ => True
  | .dT _ => True
  | .dK _ => True
  | .ins _ _ _ => True
  | _ => False
def Sh.Is : Sh → Hp → Addr → List V → Prop
  | .lst, H, a, vs => H a = some (.lst vs)
  | .dT ks, H, a, vs => ks.length = vs.length ∧ H a = some (.dT (ks.zip vs))
  | .dK ks, H, a, vs => ks.length = vs.length ∧ H a = some (.dK (ks.zip vs))
  | .ins c fs, H, a, vs => fs.length = vs.length ∧ ∃ dx, H a = some (.ins c dx (fs.zip vs)) ∧ H dx = some (.own a)
theorem Sh.Is.soft {sh : Sh} {H : Hp} {a : Addr} {vs : List V} (h : sh.Is H a vs) : ∃ o, H a = some o ∧ Soft o := by
  cases sh with
  | lst => exact ⟨_, h, trivial⟩
  | dT ks => exact ⟨_, h.2, trivial⟩
  | dK ks => exact ⟨_, h.2, trivial⟩
  | ins c fs => obtain ⟨_, dx, e, _⟩ := h; exact ⟨_, e, trivial⟩
theorem Sh.Is.keep {sh : Sh} {H H' : Hp} {a : Addr} {vs : List V} (h : sh.Is H a vs) (e : ∀ o, H a = some o → H' a = some o) (k : ∀ b c, H b = some (.own c) → H' b = some (.own c)) : sh.Is H' a vs := by
  cases sh with
  | lst => exact e _ h
  | dT ks => exact ⟨h.1, e _ h.2⟩
  | dK ks => exact ⟨h.1, e _ h.2⟩
  | ins c fs => obtain ⟨q, dx, h1, h2⟩ := h; exact ⟨q, dx, e _ h1, k _ _ h2⟩
theorem Sh.Is.zmod {sh : Sh} {H : Hp} {a r : Addr} {vs : List V} {o o2 : HO} (h : sh.Is H r vs) (hx : H a = some o) (so : Soft o) (n : r ≠ a) : sh.Is (upd H a o2) r vs :=
  h.keep (fun u e => by rw [upd_ne n]; exact e) fun b c e => by rw [upd_ne (fun z => by rw [z, hx] at e; cases e; exact so)]; exact e
theorem Sh.Is.ne {sh : Sh} {H : Hp} {a : Addr} {vs : List V} (h : sh.Is H a vs) : H a ≠ none := by
  obtain ⟨o, e, _⟩ := h.soft
  rw [e]; simp
abbrev Pay := Sh × List D
/-- a slot of the environment: not known; a value; a list that nothing else leads to; such a one while it is walked; another thing that nothing else leads to -/
inductive Sl where
  | no | val (d : D) | own (ds : List D) | lck (ds : List D) | obj (sh : Sh) (ds : List D)

/-- an exception: its class's name, its fields -/
structure Exn where
  cls : Str
  flds : List (Str × D)
inductive Res (S : Type) (α : Type) where
  | ok (a : α) (s : S) | err (x : Exn) (s : S) | stuck
  /-- whatever the address is at which a new thing lies, of those that are let -/
  | new (ok : Addr → Bool) (k : Addr → Res S α)
def Res.bind {S α β : Type} : Res S α → (α → S → Res S β) → Res S β
  | .ok a s, k => k a s
  | .err x s, _ => .err x s
  | .stuck, _ => .stuck
  | .new p g, k => .new p fun a => (g a).bind k

/-- what may change: as L2.Mut has it, and tables of code objects -/
def MutQ : Option HO → Prop
  | some (.tbl _) => True
  | o => L2.Mut o
/-- what a kind of state is on the heap, and where it lies; it may lean on what is no list, too -/
structure StK (S : Type) where
  R : S → Hp → Prop
  A : S → Addr → Prop
  tr : ∀ {s H a}, R s H → A s a → MutQ (H a)
  mono : ∀ {s H H'}, R s H → (∀ a o, (A s a ∨ ¬ Soft o) → H a = some o → H' a = some o) → R s H'

/-- an activation: the written part, the state's kind, the heap and the state at its entry, where the lists of its arguments lie, the classes by name -/
structure Cn (S : Type) where
  K : PySem.W.Frag
  T : StK S
  H0 : Hp
  s0 : S
  F0 : Addr → Prop
  cls : Str → Option Addr
/-- where it stands: where own lists lie, what no value leads to, the slots -/
structure Pt where
  r : Nat → Addr
  Z : Addr → Prop
  ρ : List Sl
def isOwn : Sl → Option Pay
  | .own ds => some (.lst, ds)
  | .lck ds => some (.lst, ds)
  | .obj sh ds => some (sh, ds)
  | _ => none
def Pt.root (P : Pt) (a : Addr) : Prop := ∃ (i : Nat) (sl : Sl) (ds : Pay), P.ρ[i]? = some sl ∧ isOwn sl = some ds ∧ P.r i = a

section
variable {S : Type}
/-- where the lists of values lie -/
def Fc (C : Cn S) (P : Pt) (s : S) (a : Addr) : Prop := (C.F0 a ∨ C.H0 a = none) ∧ ¬ P.root a ∧ ¬ P.Z a ∧ ¬ C.T.A s a
structure OwnOk (C : Cn S) (P : Pt) (σ : L2.St) (H : Hp) (s : S) (i : Nat) (ds : Pay) : Prop where
  at_ : σ[i]? = some (some (.ref (P.r i)))
  new : C.H0 (P.r i) = none
  na : ¬ C.T.A s (P.r i)
  nz : ¬ P.Z (P.r i)
  one : ∀ j sl es, P.ρ[j]? = some sl → isOwn sl = some es → P.r j = P.r i → j = i
  is : ∃ vs, ds.1.Is H (P.r i) vs ∧ RpL C.K H (Fc C P s) vs ds.2
def SlotOk (C : Cn S) (P : Pt) (σ : L2.St) (H : Hp) (s : S) (i : Nat) : Sl → Prop
  | .no => True
  | .val d => ∃ v, σ[i]? = some (some v) ∧ Rp C.K H (Fc C P s) v d
  | .own ds => OwnOk C P σ H s i (.lst, ds)
  | .lck ds => OwnOk C P σ H s i (.lst, ds)
  | .obj sh ds => OwnOk C P σ H s i (sh, ds)
/-- a list that nothing else leads to -/
theorem OwnOk.isL {C : Cn S} {P : Pt} {σ : L2.St} {H : Hp} {s : S} {i : Nat} {ds : List D} (o : OwnOk C P σ H s i (.lst, ds)) : ∃ vs, H (P.r i) = some (.lst vs) ∧ RpL C.K H (Fc C P s) vs ds := o.is
structure Rel (C : Cn S) (P : Pt) (σ : L2.St) (H : Hp) (s : S) : Prop where
  len : σ.length = P.ρ.length
  st : C.T.R s H
  frm : ∀ a o, C.H0 a = some o → ¬ C.T.A C.s0 a → H a = some o
  live : ∀ a, C.H0 a ≠ none → H a ≠ none
  grow : ∀ a, C.T.A s a → C.T.A C.s0 a ∨ C.H0 a = none
  za : ∀ a, P.Z a → C.H0 a = none ∧ H a ≠ none ∧ ¬ C.T.A s a
  slot : ∀ i sl, P.ρ[i]? = some sl → SlotOk C P σ H s i sl
theorem Rel.own {C : Cn S} {P : Pt} {σ : L2.St} {H : Hp} {s : S} (R : Rel C P σ H s) {i : Nat} {sl : Sl} {ds : Pay} (h : P.ρ[i]? = some sl) (e : isOwn sl = some ds) : OwnOk C P σ H s i ds := by
  have q := R.slot i sl h
  cases sl <;> cases e <;> exact q

/-- behind an expression: all but the state stays -/
structure Xt (T : StK S) (s s' : S) (H H' : Hp) : Prop where
  keep : ∀ a o, H a = some o → ¬ T.A s a → H' a = some o
  live : ∀ a, H a ≠ none → H' a ≠ none
  grow : ∀ a, T.A s' a → T.A s a ∨ H a = none
theorem Xt.refl {T : StK S} {s : S} {H : Hp} : Xt T s s H H := ⟨fun _ _ e _ => e, fun _ h => h, fun _ h => .inl h⟩
theorem Xt.none_of {T : StK S} {s s' : S} {H H' : Hp} (x : Xt T s s' H H') {a : Addr} (h : H' a = none) : H a = none := by
  cases e : H a with
  | none => rfl
  | some o => exact absurd h (x.live a (by rw [e]; simp))
theorem Xt.trans {T : StK S} {s s1 s2 : S} {H H1 H2 : Hp} (a : Xt T s s1 H H1) (b : Xt T s1 s2 H1 H2) : Xt T s s2 H H2 := by
  refine ⟨fun x o e n => b.keep x o (a.keep x o e n) fun h => ?_, fun x h => b.live x (a.live x h), fun x h => ?_⟩
  · rcases a.grow x h with q | q
    · exact n q
    · rw [q] at e; cases e
  · rcases b.grow x h with q | q
    · exact a.grow x q
    · exact .inr (a.none_of q)
theorem Xt.new {T : StK S} {s : S} {H : Hp} {p : Addr} {o : HO} (hp : H p = none) : Xt T s s H (upd H p o) :=
  ⟨fun a u e _ => by rw [upd_ne (ne_of_none e hp)]; exact e, fun a h => by
    by_cases q : a = p
    · subst q; rw [upd_same]; simp
    · rw [upd_ne q]; exact h, fun _ h => .inl h⟩
theorem nT {T : StK S} {s : S} {H : Hp} {a : Addr} {xs : List V} (st : T.R s H) (h : H a = some (.tup xs)) : ¬ T.A s a := fun q => by
  have := T.tr st q; rw [h] at this; exact this
theorem nZ {T : StK S} {s : S} {H : Hp} {a : Addr} {o : Obj} {u : HO} (st : T.R s H) (h : H a = some (.frz o u)) : ¬ T.A s a := fun q => by
  have := T.tr st q; rw [h] at this; exact this
theorem nN {T : StK S} {s : S} {H : Hp} {a : Addr} (st : T.R s H) (h : H a = none) : ¬ T.A s a := fun q => by
  have := T.tr st q; rw [h] at this; exact this
theorem nXd {T : StK S} {s : S} {H : Hp} {a : Addr} {fs : List (Str × V)} (st : T.R s H) (h : H a = some (.xd fs)) : ¬ T.A s a := fun q => by
  have := T.tr st q; rw [h] at this; exact this
theorem Xt.stays {T : StK S} {s s' : S} {H H' : Hp} {F : Addr → Prop} (x : Xt T s s' H H') (st : T.R s H) (hF : ∀ a, F a → ¬ T.A s a) : Stays F H H' :=
  ⟨fun a xs e => x.keep a _ e (nT st e), fun a o xs e => x.keep a _ e (nZ st e), fun a xs f e => x.keep a _ e (hF a f), fun a f e => x.keep a _ e (hF a f), fun a o f e => x.keep a _ e (hF a f), fun a fs e => x.keep a _ e (nXd st e)⟩
theorem Xt.fc {C : Cn S} {P : Pt} {s s' : S} {H H' : Hp} (x : Xt C.T s s' H H') : ∀ a, Fc C P s a → H a ≠ none → Fc C P s' a := fun a f n =>
  ⟨f.1, f.2.1, f.2.2.1, fun q => (x.grow a q).elim f.2.2.2 n⟩
theorem Rp.xt {C : Cn S} {P : Pt} {s s' : S} {H H' : Hp} {v : V} {d : D} (h : Rp C.K H (Fc C P s) v d) (x : Xt C.T s s' H H') (st : C.T.R s H) : Rp C.K H' (Fc C P s') v d :=
  h.step (x.stays st fun _ f => f.2.2.2) x.fc
theorem RpL.xt {C : Cn S} {P : Pt} {s s' : S} {H H' : Hp} {v : List V} {d : List D} (h : RpL C.K H (Fc C P s) v d) (x : Xt C.T s s' H H') (st : C.T.R s H) : RpL C.K H' (Fc C P s') v d :=
  h.step (x.stays st fun _ f => f.2.2.2) x.fc
/-- the mark of an object's dict stays -/
theorem nO {T : StK S} {s : S} {H : Hp} {a b : Addr} (st : T.R s H) (h : H a = some (.own b)) : ¬ T.A s a := fun q => by
  have := T.tr st q; rw [h] at this; exact this
theorem Sh.Is.xt {T : StK S} {s s' : S} {H H' : Hp} {sh : Sh} {a : Addr} {vs : List V} (h : sh.Is H a vs) (x : Xt T s s' H H') (st : T.R s H) (na : ¬ T.A s a) : sh.Is H' a vs :=
  h.keep (fun o e => x.keep _ _ e na) fun b c e => x.keep _ _ e (nO st e)
theorem OwnOk.xt {C : Cn S} {P : Pt} {σ : L2.St} {s s' : S} {H H' : Hp} {i : Nat} {ds : Pay} (h : OwnOk C P σ H s i ds) (x : Xt C.T s s' H H') (st : C.T.R s H) : OwnOk C P σ H' s' i ds := by
  obtain ⟨vs, e, q⟩ := h.is
  refine ⟨h.at_, h.new, fun a => ?_, h.nz, h.one, vs, e.xt x st h.na, q.xt x st⟩
  rcases x.grow _ a with z | z
  · exact h.na z
  · exact e.ne z
theorem Rel.xt {C : Cn S} {P : Pt} {σ : L2.St} {s s' : S} {H H' : Hp} (R : Rel C P σ H s) (x : Xt C.T s s' H H') (st' : C.T.R s' H') : Rel C P σ H' s' := by
  refine ⟨R.len, st', fun a o e n => x.keep a o (R.frm a o e n) fun q => ?_, fun a h => x.live a (R.live a h), fun a q => ?_, fun a z => ?_, fun i sl e => ?_⟩
  · rcases R.grow a q with z | z
    · exact n z
    · rw [z] at e; cases e
  · rcases x.grow a q with z | z
    · exact R.grow a z
    · right
      cases e : C.H0 a with
      | none => rfl
      | some o => exact absurd z (R.live a (by rw [e]; simp))
  · obtain ⟨z1, z2, z3⟩ := R.za a z
    exact ⟨z1, x.live a z2, fun q => (x.grow a q).elim z3 z2⟩
  · have h := R.slot i sl e
    cases sl with
    | no => trivial
    | val d => obtain ⟨v, e1, e2⟩ := h; exact ⟨v, e1, e2.xt x R.st⟩
    | own ds => exact OwnOk.xt h x R.st
    | lck ds => exact OwnOk.xt h x R.st
    | obj sh ds => exact OwnOk.xt h x R.st
theorem st_new {T : StK S} {s : S} {H : Hp} {p : Addr} {o : HO} (st : T.R s H) (hp : H p = none) : T.R s (upd H p o) := T.mono st fun a u q e => by
    rw [upd_ne (ne_of_none e hp)]; exact e
theorem Rel.new {C : Cn S} {P : Pt} {σ : L2.St} {s : S} {H : Hp} {p : Addr} {o : HO} (R : Rel C P σ H s) (hp : H p = none) : Rel C P σ (upd H p o) s :=
  R.xt (Xt.new hp) (st_new R.st hp)
theorem Rel.none0 {C : Cn S} {P : Pt} {σ : L2.St} {s : S} {H : Hp} {p : Addr} (R : Rel C P σ H s) (hp : H p = none) : C.H0 p = none := by
  cases e : C.H0 p with
  | none => rfl
  | some o => exact absurd hp (R.live p (by rw [e]; simp))
theorem Rel.noRoot {C : Cn S} {P : Pt} {σ : L2.St} {s : S} {H : Hp} {p : Addr} (R : Rel C P σ H s) (hp : H p = none) : ¬ P.root p := fun ⟨i, sl, ds, h, e, q⟩ => by
  obtain ⟨vs, e2, _⟩ := (R.own h e).is
  rw [q] at e2
  exact e2.ne hp
/-- a new address is of no root, no state -/
theorem Rel.fresh {C : Cn S} {P : Pt} {σ : L2.St} {s : S} {H : Hp} {p : Addr} (R : Rel C P σ H s) (hp : H p = none) : Fc C P s p :=
  ⟨.inr (R.none0 hp), R.noRoot hp, fun z => (R.za p z).2.1 hp, nN R.st hp⟩

/-- the top of a value may be an own list: what looks at it alone is served -/
def TopK (C : Cn S) (P : Pt) (s : S) (H : Hp) (v : V) (d : D) : Prop :=
  Rp C.K H (Fc C P s) v d ∨ ∃ a vs ds, v = .ref a ∧ d = .lst ds ∧ ¬ C.T.A s a ∧ H a = some (.lst vs) ∧ RpL C.K H (Fc C P s) vs ds
/-- .. or a list of the state, at this very moment -/
def Top (C : Cn S) (P : Pt) (s : S) (H : Hp) (v : V) (d : D) : Prop :=
  Rp C.K H (Fc C P s) v d ∨ ∃ a vs ds, v = .ref a ∧ d = .lst ds ∧ True ∧ H a = some (.lst vs) ∧ RpL C.K H (Fc C P s) vs ds
theorem TopK.weak {C : Cn S} {P : Pt} {s : S} {H : Hp} {v : V} {d : D} (h : TopK C P s H v d) : Top C P s H v d := h.imp id fun ⟨a, vs, ds, e1, e2, _, e, q⟩ => ⟨a, vs, ds, e1, e2, trivial, e, q⟩
instance {C : Cn S} {P : Pt} {s : S} {H : Hp} {v : V} {d : D} : CoeOut (TopK C P s H v d) (Top C P s H v d) := ⟨TopK.weak⟩
theorem TopK.xt {C : Cn S} {P : Pt} {s s' : S} {H H' : Hp} {v : V} {d : D} (h : TopK C P s H v d) (x : Xt C.T s s' H H') (st : C.T.R s H) : TopK C P s' H' v d := by
  rcases h with h | ⟨a, vs, ds, e1, e2, na, e, q⟩
  · exact .inl (h.xt x st)
  · refine .inr ⟨a, vs, ds, e1, e2, fun z => ?_, x.keep _ _ e na, q.xt x st⟩
    rcases x.grow _ z with z | z
    · exact na z
    · rw [e] at z; cases z
/-- a list's top -/
theorem Top.lst {C : Cn S} {P : Pt} {s : S} {H : Hp} {v : V} {ds : List D} (h : Top C P s H v (.lst ds)) : ∃ a vs, v = .ref a ∧ H a = some (.lst vs) ∧ RpL C.K H (Fc C P s) vs ds := by
  rcases h with h | ⟨a, vs, ds', e1, e2, na, e, q⟩
  · cases h with
    | lst f h q => exact ⟨_, _, rfl, h, q⟩
  · cases e2
    exact ⟨a, vs, e1, e, q⟩
theorem Top.tup {C : Cn S} {P : Pt} {s : S} {H : Hp} {v : V} {ds : List D} (h : Top C P s H v (.tup ds)) : ∃ a vs, v = .ref a ∧ SqT C.K H a vs ∧ RpL C.K H (Fc C P s) vs ds := by
  rcases h with h | ⟨a, vs, ds', e1, e2, na, e, q⟩
  · cases h with
    | tup h q => exact ⟨_, _, rfl, h, q⟩
  · cases e2
theorem TopK.lst {C : Cn S} {P : Pt} {s : S} {H : Hp} {v : V} {ds : List D} (h : TopK C P s H v (.lst ds)) : ∃ a vs, v = .ref a ∧ H a = some (.lst vs) ∧ RpL C.K H (Fc C P s) vs ds := h.weak.lst
theorem TopK.tup {C : Cn S} {P : Pt} {s : S} {H : Hp} {v : V} {ds : List D} (h : TopK C P s H v (.tup ds)) : ∃ a vs, v = .ref a ∧ SqT C.K H a vs ∧ RpL C.K H (Fc C P s) vs ds := h.weak.tup
/-- a value whose top, if it is a list, is new since H and leads nowhere back to itself -/
def Fr (C : Cn S) (P : Pt) (s' : S) (H H' : Hp) (v : V) (d : D) : Prop :=
  Rp C.K H' (Fc C P s') v d ∧ ∀ ds, d = .lst ds → ∃ a vs, v = .ref a ∧ H a = none ∧ H' a = some (.lst vs) ∧ RpL C.K H' (fun x => Fc C P s' x ∧ x ≠ a) vs ds

/-- an exception on the heap: its class's address, its own dict -/
def RX (C : Cn S) (F : Addr → Prop) (H : Hp) (x : Exn) (cls : Value) (d : Option Addr) : Prop :=
  ∃ c, C.cls x.cls = some c ∧ cls = .ref c ∧ (x.flds = [] → d = none) ∧ (x.flds ≠ [] → ∃ dx vs, d = some dx ∧ H dx = some (.xd ((x.flds.map (·.1)).zip vs)) ∧ RpL C.K H F vs (x.flds.map (·.2)))

abbrev EvF (S : Type) := List Sl → S → Res S D
/-- what is wanted of an expression's end -/
def Run (C : Cn S) (W : L2.WX) (P : Pt) (σ : L2.St) (H : Hp) (s : S) {α : Type} : Res S α → (α → S → Hp → Prop) → Prop
  | .ok d s', k => ∀ H', Rel C P σ H' s' → Xt C.T s s' H H' → k d s' H'
  | .err x s', _ => ∀ cls dd H', Rel C P σ H' s' → Xt C.T s s' H H' → RX C (Fc C P s') H' x cls dd → W cls dd σ H'
  | .stuck, _ => False
  | .new p g, k => ∀ a, p a = true → Run C W P σ H s (g a) k
/-- clean: nothing in the value is an own list -/
def tP (C : Cn S) (W : L2.WX) (f : EvF S) : TE := fun σ H Q => ∃ P s, Rel C P σ H s ∧ Run C W P σ H s (f P.ρ s) fun d s' H' => ∀ v, Rp C.K H' (Fc C P s') v d → Q v H'
/-- the top may be one -/
def tK (C : Cn S) (W : L2.WX) (f : EvF S) : TE := fun σ H Q => ∃ P s, Rel C P σ H s ∧ Run C W P σ H s (f P.ρ s) fun d s' H' => ∀ v, TopK C P s' H' v d → Q v H'
/-- a new list -/
def tF (C : Cn S) (W : L2.WX) (f : EvF S) : TE := fun σ H Q => ∃ P s, Rel C P σ H s ∧ Run C W P σ H s (f P.ρ s) fun d s' H' => ∀ v, Fr C P s' H H' v d → Q v H'
theorem Run.behind {C : Cn S} {W : L2.WX} {P : Pt} {σ : L2.St} {H H1 : Hp} {s s1 : S} {α : Type} {m : Res S α} {k : α → S → Hp → Prop} (h : Run C W P σ H s m k) (x1 : Xt C.T s s1 H H1) : Run C W P σ H1 s1 m k := by
  induction m with
  | ok b s2 => exact fun H2 R2 x2 => h H2 R2 (x1.trans x2)
  | err y s2 => exact fun c d H2 R2 x2 => h c d H2 R2 (x1.trans x2)
  | stuck => exact h
  | new p f ih => exact fun a ha => ih a (h a ha)
theorem Run.bind {C : Cn S} {W : L2.WX} {P : Pt} {σ : L2.St} {H : Hp} {s : S} {α β : Type} {m : Res S α} {g : α → S → Res S β} {k : β → S → Hp → Prop} (h : Run C W P σ H s (m.bind g) k) :
    Run C W P σ H s m fun a s1 H1 => Run C W P σ H1 s1 (g a s1) k := by
  induction m with
  | ok a s1 =>
    intro H1 R1 x1
    have h' : Run C W P σ H s (g a s1) k := h
    exact h'.behind x1
  | err y s1 => exact h
  | stuck => exact h
  | new p f ih => exact fun a ha => ih a (h a ha)
theorem Run.mono {C : Cn S} {W : L2.WX} {P : Pt} {σ : L2.St} {H : Hp} {s : S} {α : Type} {m : Res S α} {k k' : α → S → Hp → Prop} (h : Run C W P σ H s m k)
    (i : ∀ a s' H', Rel C P σ H' s' → Xt C.T s s' H H' → k a s' H' → k' a s' H') : Run C W P σ H s m k' := by
  induction m with
  | ok a s1 => exact fun H1 R1 x1 => i a s1 H1 R1 x1 (h H1 R1 x1)
  | err y s1 => exact h
  | stuck => exact h
  | new p f ih => exact fun a ha => ih a (h a ha)
theorem Run.now {C : Cn S} {W : L2.WX} {P : Pt} {σ : L2.St} {H : Hp} {s : S} {α : Type} {a : α} {k : α → S → Hp → Prop} (h : Run C W P σ H s (.ok a s) k) (R : Rel C P σ H s) : k a s H := h H R Xt.refl
theorem pe_mono {X : Cx} {e : Expr} {t t' : TE} (h : PE X e t) (i : ∀ σ H Q, t' σ H Q → t σ H Q) : PE X e t' := ⟨fun pins s σ H Q I q => h.run pins s σ H Q I (i σ H Q q)⟩
theorem pe_false {X : Cx} {e : Expr} {t : TE} (i : ∀ σ H Q, ¬ t σ H Q) : PE X e t := ⟨fun pins s σ H Q I q => (i σ H Q q).elim⟩
/-- a new list is clean; what is clean may be looked at -/
theorem PE.clean {X : Cx} {C : Cn S} {W : L2.WX} {e : Expr} {f : EvF S} (h : PE X e (tF C W f)) : PE X e (tP C W f) := pe_mono h fun σ H Q ⟨P, s, R, q⟩ => ⟨P, s, R, q.mono fun d s' H' _ _ k v fr => k v fr.1⟩
theorem PE.peek {X : Cx} {C : Cn S} {W : L2.WX} {e : Expr} {f : EvF S} (h : PE X e (tP C W f)) : PE X e (tK C W f) := pe_mono h fun σ H Q ⟨P, s, R, q⟩ => ⟨P, s, R, q.mono fun d s' H' _ _ k v r => k v (.inl r)⟩
end
end Q

/-! Ex1: __init__ of an own exception over ValueError that says super().__init__('..') and stores one field. -/
namespace Q
open PySem L2 PyProof.Rows
/-- the context of such an __init__ at its entry: nothing is raised there -/
def supCx (P : Program) (w : World) (K : PySem.W.Frag) (mg : Str → Option Value) (base : Heap) (N : List Str) (qual : Str) (scope : Scope) (f : Addr) (cd : Value) (cc : Addr) (A : Around) (outer : List Env) (s : Shared) (H : Hp) : Cx where
  prog := P
  w := w
  K := K
  mg := mg
  base := base
  A := A.deeper (PySem.W.ksEnv qual scope s.heap.objs.size f cd cc)
  N := N
  s_0 := s
  H_0 := H
  env := PySem.W.ksEnv qual scope s.heap.objs.size f cd cc
  outer := outer
  stack := PySem.W.ksEnv qual scope s.heap.objs.size f cd cc :: outer
  ex := []
  calm := true
  fn := fun _ => false
  pn := []
  xe := fun _ _ => False
/-- what the names of such a def are -/
structure SupS (a b : Str) (scope : Scope) : Prop where
  kind : scope.kind = .function
  co : scope.isCoroutine = false
  gen : scope.isGenerator = false
  ab : a ≠ b
  la : scope.names.lookup a = some .local
  lb : scope.names.lookup b = some .local
  cell : ∀ x ∈ scope.names, x.2 ≠ .cell
  free : ∀ y, scope.names.lookup y = some .free → y = "__class__"
  cls : scope.names.lookup ("__class__" : Str) = some .free
  sup : scope.names.lookup ("super" : Str) = some .globalImplicit
section
variable {P : Program} {w : World} {K : PySem.W.Frag} {mg : Str → Option Value} {base : Heap} {qual a b : Str} {scope : Scope} {f cc D : Addr} {cd : Value} {A : Around} {outer : List Env} {s : Shared} {H : Hp}
theorem sup_start {va vb : V} {ua ub : Value} {h₁ : Heap} {tk : Nat} {cl : Value} {cld : Option Addr} {csl : Array (Option Value)} (S : SupS a b scope) (hd : A.handled = none) (e0 : Env0 P w K mg base A outer s H) (ra : RelV va ua) (rb : RelV vb ub)
    (hcell : K.lookup cc = some ⟨cl, cld, .cell (some (.ref D)), csl⟩) (hns : h₁.Ns s.heap.objs.size fun x => [(a, ua), (b, ub)].reverse.lookup x) (hk : ∀ b o, s.heap.get? b = some o → h₁.get? b = some o) :
    Inv (supCx P w K mg base [a, b] qual scope f cd cc A outer s H) [] [some va, some vb] H { s with heap := h₁, toks := tk } := by
  have noA : ∀ x : Addr, x ∉ (supCx P w K mg base [a, b] qual scope f cd cc A outer s H).ex := fun x z => absurd (show x ∈ ([] : List Addr) from z) (by simp)
  have bcc : base.get? cc = some ⟨cl, cld, .cell (some (.ref D)), csl⟩ := e0.mod.kin _ _ hcell
  have hcc : s.heap.get? cc = some ⟨cl, cld, .cell (some (.ref D)), csl⟩ := (e0.bs _ _ bcc).1
  have only : ∀ y c, ([("__class__", cc)] : List (Str × Addr)).lookup y = some c → y = "__class__" ∧ c = cc := fun y c h => by
    simp only [List.lookup_cons, List.lookup_nil] at h
    split at h
    · rename_i q
      exact ⟨by simpa using q, (Option.some.inj h).symm⟩
    · cases h
  have hself : ([("__class__", cc)] : List (Str × Addr)).lookup ("__class__" : Str) = some cc := by simp
  have two : ∀ (i : Nat) (x : Str) (v : V), [a, b][i]? = some x → [some va, some vb][i]? = some (some v) → ∃ u, RelV v u ∧ scope.names.lookup x = some .local ∧ [(a, ua), (b, ub)].reverse.lookup x = some u := fun i x v h1 h2 => by
    match i with
    | 0 =>
      simp at h1 h2
      subst h1 h2
      have : (a == b) = false := by simpa using S.ab
      exact ⟨ua, ra, S.la, by simp [List.lookup_cons, this]⟩
    | 1 =>
      simp at h1 h2
      subst h1 h2
      exact ⟨ub, rb, S.lb, by simp [List.lookup_cons]⟩
    | i + 2 => simp at h1
  refine ⟨⟨e0.mod, S.kind, rfl, rfl, Nat.le_refl _, fun y z c h1 h2 => ?_, fun y hy => ?_, fun y c z _ => ?_, fun _ => hd, Around.frames_deeper e0.frames, .inr ⟨rfl, rfl⟩, fun b z => absurd z (noA b), e0.bs, e0.bsz, fun b _ _ => noA b, fun b z => absurd z (noA b), e0.funs, e0.frf⟩,
    rfl, e0.bare, Un.kept hk, ⟨_, hns, fun i y v h1 h2 h3 => ?_⟩, fun y c h => ?_, e0.hok.fresh (Nat.le_refl _), fun y c h => ?_, fun p hp => absurd (show p ∈ ([] : List (Addr × Obj)) from hp) (by simp), e0.hok.kept hk, rfl⟩
  · exact (only y c h1).1.trans (only z c h2).1.symm
  · have hy : scope.names.lookup y = some .cell ∨ scope.names.lookup y = some .free := hy
    rcases hy with hy | hy
    · exact absurd rfl (S.cell _ (PySem.mem_of_lookup hy))
    · rw [S.free y hy]; exact ⟨cc, hself⟩
  · have z : false = true := z
    cases z
  · obtain ⟨u, q1, q2, q3⟩ := two i y v h1 h2
    exact ⟨u, q1, .inl ⟨q2, q3⟩⟩
  · obtain ⟨_, rfl⟩ := only y c h
    exact ⟨_, _, hk _ _ hcc, rfl⟩
  · obtain ⟨_, rfl⟩ := only y c h
    exact (e0.bs _ _ bcc).2
/-! ### super().__init__(..), called -/
theorem call_mw {X : Cx} {pins : List (Addr × Obj)} {σ : L2.St} {H : Hp} {s : Shared} {e C u : Addr} {us : List Value} {A : Around} {Q : Value → Shared → Prop} {E : Value → Shared → Prop} (T : OexC X.K C) (I : Inv X pins σ H s) (he : H e = some (exo e C none)) (hu : s.heap.get? u = some (PySem.W.kxs_mw "ValueError.__init__" e)) (hl : us.length ≤ sizeLine)
    (h : ∀ s', Inv X pins σ H s' → Q .none s') : wpAny (model X.prog X.w) A (call (.ref u) us) Q E s := by
  obtain ⟨nm, q, N, bs, bm, sn, sub, ab, col, dd, k0, k1, k2, k3, k5, hC, hbm⟩ := T.cls
  obtain ⟨t1, ho⟩ := exo_at I.hok he
  obtain ⟨hp, g, d, t, os⟩ := s
  have fin : ∀ h', (∀ b o, b ≠ e → hp.get? b = some o → h'.get? b = some o) → h'.get? e = some ({ cls := .ref C, dict := none, data := .fields #[.ref hp.objs.size, .none, .none, .none, .bool false, .none] } : Obj) → Q .none ⟨h', g, d, t, os⟩ := fun h' k hx => by
    have J := I.write (t' := t) (x := e) (e := e) (o := exo e C none) (by rw [he]; exact True.intro) (.inl rfl) k ⟨_, hx⟩ (exo_ok hx)
    have eu : upd H e (exo e C none) = H := by
      funext b
      by_cases hb : b = e
      · rw [hb, upd_same, he]
      · rw [upd_ne hb]
    rw [eu] at J
    exact h _ J
  refine wpAny_call (codeAny_of_tree ?_)
  show wpAny _ A.in1 (callAny (.ref u) ⟨us, []⟩) _ _ _
  simp only [callAny]
  refine wpAny_bind (wpAny_load hu ?_)
  simp only [PySem.W.kxs_mw, show (Value.type "method-wrapper" == Value.type "method" || Value.type "method-wrapper" == Value.type "builtin_function_or_method" || Value.type "method-wrapper" == Value.type "method-wrapper") = true by decide, if_true]
  refine PySem.W.KFB.if_so (by decide) ?_
  refine wpAny_bind (PySem.W.check_bound_init PySem.F.excBase_ValueError.toExcCallFacts (I.kIn _ _ hC) ho rfl ?_)
  refine wpAny_bind (wpAny_pure (wpAny_pure ?_))
  refine ⟨Code.quiet_builtin _ (by decide +kernel), codeAny_builtin PySem.F.excBase_ValueError.initEntry ?_⟩
  exact PySem.W.exc_init_tree ho hl fun h' k hx _ => fin h' k hx
end
end Q

set_option maxHeartbeats 4000000
/-! Ex9: own exceptions straight over OverflowError whose __init__ stores one field: stored into, made. -/
namespace Q
open PySem L2 PyProof.Rows PySem.Calls
/-- what stands above such a class -/
abbrev ovMro : List Value := [.type "OverflowError", .type "ArithmeticError", .type "Exception", .type "BaseException", .type "object"]
structure OexO (K : PySem.W.Frag) (C : Addr) : Prop where
  cls : ∃ nm q N bs sn sub ab col dd k0 k1 k2 k3 k5, K.lookup C = some (excClassObj nm q C N bs ovMro true sn sub ab col dd k0 k1 k2 k3 k5 "OverflowError.__new__")
  sa : PySem.W.findIn K (.ref C) "__setattr__" = some (some (.builtin "object.__setattr__"))
  exC : PySem.W.subIn K (.ref C) (.type "BaseException") = some true
  tyC : PySem.W.typeIn K (.ref C) = some (.type "type")
  kC : PySem.W.keepIn K (.ref C) = true
theorem OexO.cd {K : PySem.W.Frag} {C : Addr} (T : OexO K C) : ∃ cd : ClassData, PySem.W.clsIn K C = some cd ∧ cd.mro = .ref C :: ovMro ∧ cd.hasDict = true ∧ cd.hasDel = false := by
  obtain ⟨nm, q, N, bs, sn, sub, ab, col, dd, k0, k1, k2, k3, k5, hC⟩ := T.cls
  exact ⟨{ name := nm, bases := bs, mro := .ref C :: ovMro, ns := N, qualname := q, hasDict := true, slotNames := sn, subclasses := sub, abstract := ab, collection := col, hasDel := false }, by unfold PySem.W.clsIn; rw [hC] <;> rfl, rfl, rfl, rfl⟩
section
open Builtin Builtin.ObjectAttr PySem.W
variable {prog : Program} {w : World} {A : Around} {R : Result → Shared → Prop} {hp : Heap} {g : Array GenState} {d : Drawn} {t : Nat} {os : OsState}
/-- the first field of such an exception -/
theorem osaO {K : PySem.W.Frag} {name : Str} {tk : Tok} {v : Value} {x C : Addr} {fv : Array Value} (T : OexO K C) (X : K.In hp) (hx : hp.get? x = some { cls := .ref C, data := .fields fv }) (ha : PySem.W.findIn K (.ref C) name = some none)
    (hq : ∀ h' tk' dx, (∀ b o, b ≠ x → hp.get? b = some o → h'.get? b = some o) → hp.objs.size ≤ dx → dx ≠ x → h'.get? x = some { cls := .ref C, dict := some dx, data := .fields fv } → h'.Ns1 dx (fun y => if y = name then some v else none) → R (.ok (.ret .none)) ⟨h', g, d, tk', os⟩) :
    codeAny (model prog w) A (.call (.builtin "object.__setattr__") ⟨[.ref x, .str name tk, v], []⟩) R ⟨hp, g, d, t, os⟩ := by
  obtain ⟨cd, hcd, hm, hh, _⟩ := T.cd
  have I : PySem.W.InstAt hp x { cls := .ref C, data := .fields fv } C none := ⟨hx, rfl, rfl, trivial⟩
  have xs : x ≠ hp.objs.size := Nat.ne_of_lt (Heap.lt_size hx)
  have so := PySem.F.store_object
  have isO : PySem.W.Looks (model prog w) hp (isInstance (.ref x) (.type "object")) true := I.type.andThen (PySem.W.looks_mroIn X (by
    unfold PySem.W.mroIn
    rw [hcd, Option.bind_some, hm, if_neg (by simp)]
    simp))
  have lc : PySem.W.Looks (model prog w) hp (classData C) cd := PySem.W.looks_clsIn X hcd
  have lm : PySem.W.Looks (model prog w) hp (mroOf (.ref C)) cd.mro := lc.andThen .now
  have pass : refuseLoop (.ref x) "__setattr__" cd.mro = pure () := by
    rw [hm, refuseLoop_ref]
    exact PySem.F.store_OverflowError.passes (.ref x)
  refine codeAny_call_builtin so.slot.plain so.entry (@PySem.W.check_slot (model prog w) _ _ ⟨hp, g, d, t, os⟩ "object.__setattr__" "object" "__setattr__" (.ref x) [.str name tk, v] [] _ so.kind so.split isO (so.args (.ref x) (.str name tk) v) ?_)
  rw [PySem.W.osa_eq, refuse_eq]
  refine wpAny_bind (wpAny_bind (I.type.at (wpAny_bind (lm.at ?_))))
  rw [pass]
  have no : PySem.W.Looks (model prog w) hp (storeTaker? none) none := .now
  refine wpAny_pure (wpAny_bind (I.type.at (wpAny_bind ((PySem.W.looks_findIn X ha).at (wpAny_bind (no.at ?_))))))
  show wpAny _ _ (storeInOwnDict (.ref x) (.ref C) (.str name tk) name v false) _ _ _
  obtain ⟨c1, c2, c3, c4, c5, c6, c7, c8, c9, c10, c11⟩ := cd
  dsimp only at hh
  subst hh
  unfold storeInOwnDict ownDictForStores
  repeat (first | with_reducible refine PySem.HandSPX.store_in_new ?_ ?_ | with_reducible refine wpAny_loadPart_at hx ?_ | with_reducible refine lc.at ?_ | wp_step)
  · exact ⟨_, #[], _, (Heap.get?_update_ne _ _ _ _ xs.symm).trans (Heap.get?_push_at rfl rfl), rfl, fun e he => absurd he (by simp), fun _ => rfl⟩
  · intro h' tk' hn' hs
    have old : (hp.push { cls := .type "dict", data := .dict #[] }).get? x = some { cls := .ref C, data := .fields fv } := Heap.get?_push_of_some _ hx
    exact hq h' tk' hp.objs.size (fun b o hb ho => (hs.2 b (Nat.ne_of_lt (Heap.lt_size ho))).trans ((Heap.get?_update_ne _ _ _ _ hb).trans (Heap.get?_push_of_some _ ho))) (Nat.le_refl _) xs.symm ((hs.2 x xs).trans (Heap.get?_update_self _ old rfl)) hn'
end
section
variable {X : Cx} {pins : List (Addr × Obj)} {σ : L2.St} {H : Hp} {s : Shared} {a C : Addr} {f : Str} {y : V} {u : Value} {A : Around}
/-- self.f = y -/
theorem ostO {Q : Unit → Shared → Prop} {E : Value → Shared → Prop} (T : OexO X.K C) (I : Inv X pins σ H s) (e : H a = some (exo a C none)) (hno : PySem.W.findIn X.K (.ref C) f = some none) (ry : RelV y u)
    (h : ∀ dx s', H dx = none → dx ≠ a → Inv X pins σ (upd (upd H dx (exd dx [(f, y)])) a (exo a C (some dx))) s' → Q () s') : wpAny (model X.prog X.w) A (setAttr (.ref a) f u) Q E s := by
  obtain ⟨t1, ho⟩ := exo_at I.hok e
  obtain ⟨hp, g, d, t, os⟩ := s
  refine PySem.W.set_plain I.kIn (ox := { cls := .ref C, dict := none, data := .fields #[.ref t1, .none, .none, .none, .bool false, .none] }) (od := none) ⟨ho, rfl, rfl, trivial⟩ T.sa (osaO T I.kIn ho hno fun h' tk' dx k dn dne hx hn => ?_)
  have fr : H dx = none := I.hok.fresh dn
  have ndx : ∀ {b : Addr} {o : Obj}, hp.get? b = some o → b ≠ dx := fun {b o} z => Nat.ne_of_lt (Nat.lt_of_lt_of_le (Heap.lt_size z) dn)
  have nax : ∀ {b : Addr}, H b = none → b ≠ a := fun {b} n z => by
    rw [z, e] at n; cases n
  have two : ∀ {b : Addr}, b ≠ a → b ≠ dx → upd (upd H dx (exd dx [(f, y)])) a (exo a C (some dx)) b = H b := fun {b} h1 h2 => by rw [upd_ne h1, upd_ne h2]
  have U : Un X.fs [] H (upd (upd H dx (exd dx [(f, y)])) a (exo a C (some dx))) hp h' := {
    keep := fun b o z n _ _ => k b o (nax n) z
    slot := fun b o z n _ _ => ⟨o.slots, k b o (nax n) z⟩
    free := fun b o z n _ => by rw [two (nax n) (ndx z)]; exact n
    there := fun b o z _ => by
      by_cases hb : b = a
      · subst hb; exact ⟨_, hx⟩
      · exact ⟨o, k b o hb z⟩
    tups := fun b xs z => by rw [two (at_ne e z exo_tup) (ne_of_none z fr)]; exact z
    frzs := fun b o v z => by rw [two (at_ne e z exo_frz) (ne_of_none z fr)]; exact z
    tbls := fun b ps z => ⟨#[], by rw [two (at_ne e z exo_tbl) (ne_of_none z fr), z]; simp⟩ }
  refine h dx _ fr dne (I.un (t' := tk') U fun b o z => ?_)
  by_cases hb : b = a
  · subst hb
    rw [upd_same] at z; cases z
    exact exo_ok hx
  by_cases hd : b = dx
  · subst hd
    rw [upd_ne hb, upd_same] at z; cases z
    exact exd_ok hn (relO_put (fs := []) ry fun g => True.intro)
  rw [two hb hd] at z
  refine (I.hok b o z).stay (fun c v hc q => k c v ?_ q) (fun c hc => by rw [two (at_ne e hc exo_own) (ne_of_none hc fr)]; exact hc) fun c xs hc => by rw [two (at_ne e hc exo_tup) (ne_of_none hc fr)]; exact hc
  rcases hc with hc | hc
  · rw [hc]; exact hb
  · exact at_ne e hc exo_own
/-- super().__init__(..), called -/
theorem call_mwO {e u : Addr} {us : List Value} {Q : Value → Shared → Prop} {E : Value → Shared → Prop} (T : OexO X.K C) (I : Inv X pins σ H s) (he : H e = some (exo e C none)) (hu : s.heap.get? u = some (PySem.W.kxs_mw "OverflowError.__init__" e)) (hl : us.length ≤ sizeLine)
    (h : ∀ s', Inv X pins σ H s' → Q .none s') : wpAny (model X.prog X.w) A (call (.ref u) us) Q E s := by
  obtain ⟨nm, q, N, bs, sn, sub, ab, col, dd, k0, k1, k2, k3, k5, hC⟩ := T.cls
  obtain ⟨t1, ho⟩ := exo_at I.hok he
  obtain ⟨hp, g, d, t, os⟩ := s
  have fin : ∀ h', (∀ b o, b ≠ e → hp.get? b = some o → h'.get? b = some o) → h'.get? e = some ({ cls := .ref C, dict := none, data := .fields #[.ref hp.objs.size, .none, .none, .none, .bool false, .none] } : Obj) → Q .none ⟨h', g, d, t, os⟩ := fun h' k hx => by
    have J := I.write (t' := t) (x := e) (e := e) (o := exo e C none) (by rw [he]; exact True.intro) (.inl rfl) k ⟨_, hx⟩ (exo_ok hx)
    have eu : upd H e (exo e C none) = H := funext fun b => by
      by_cases hb : b = e
      · rw [hb, upd_same, he]
      · rw [upd_ne hb]
    rw [eu] at J
    exact h _ J
  refine wpAny_call (codeAny_of_tree ?_)
  show wpAny _ A.in1 (callAny (.ref u) ⟨us, []⟩) _ _ _
  simp only [callAny]
  refine wpAny_bind (wpAny_load hu ?_)
  simp only [PySem.W.kxs_mw, show (Value.type "method-wrapper" == Value.type "method" || Value.type "method-wrapper" == Value.type "builtin_function_or_method" || Value.type "method-wrapper" == Value.type "method-wrapper") = true by decide, if_true]
  refine PySem.W.KFB.if_so (by decide) ?_
  refine wpAny_bind (PySem.W.check_bound_init PySem.F.excBase_OverflowError.toExcCallFacts (I.kIn _ _ hC) ho rfl ?_)
  refine wpAny_bind (wpAny_pure (wpAny_pure ?_))
  refine ⟨Code.quiet_builtin _ (by decide +kernel), codeAny_builtin PySem.F.excBase_OverflowError.initEntry ?_⟩
  exact PySem.W.exc_init_tree ho hl fun h' k hx _ => fin h' k hx
end
/-! ### words -/
/-- self.f = e, the first field -/
def tOstO (K : PySem.W.Frag) (f : Str) (to te : TE) : TS := fun D σ H => te σ H fun y H1 => to σ H1 fun x H2 => ∃ a C : Addr, x = .ref a ∧ OexO K C ∧ PySem.W.findIn K (.ref C) f = some none ∧ H2 a = some (exo a C none) ∧ ∀ dx, H2 dx = none → dx ≠ a → D.nx σ (upd (upd H2 dx (exd dx [(f, y)])) a (exo a C (some dx)))
section
variable {X : Cx} {o e : Expr} {es : List Expr} {to te : TE} {ta : TA} {f : Str} {p p' pos : Pos}
theorem ps_ostO (ho : PE X o to) (he : PE X e te) (hs : swapsWith e (some (.Attribute o f p')) pos.line X.env = pure false := by rfl) : PS X (.Assign [.Attribute o f p'] e pos) (tOstO X.K f to te) := by
  refine ⟨fun pins s σ H D I h => plainObj_wpAny_Assign_Attribute (thn (he.run pins s σ H _ I h) fun v s1 ⟨y, H1, I1, r1, q1⟩ => thn (ho.run pins s1 σ H1 _ I1 q1) fun u s2 ⟨x, H2, I2, r2, a, C, ex, T, hno, ea, q⟩ => ?_) hs⟩
  subst ex
  obtain rfl : u = Value.ref a := r2
  exact ostO T I2 ea hno r1 fun dx s' n ne J => ⟨σ, _, J, q dx n ne⟩
theorem pmk_oexO {CX : CXT} {x : Str} {C fI : Addr} {k : Nat} {fd : FuncData} {ps : List Str} {sp : Sp} {ds : List Value} {dvs : List V} (T : OexO X.K C) (iC : PySem.W.findIn X.K (.ref C) "__init__" = some (some (.ref fI))) (tI : PySem.W.typeIn X.K (.ref fI) = some (.type "function"))
    (F1 : FnOk X.prog X.w X.K X.mg X.base CX k fI fd ps sp) (hr : Room (k + 1) X.A) (hb : Binds X.K fd ps ds) (hd : Vals dvs ds) (hx : Passes CX X (fun _ _ _ => False)) (hg : Gl X x) (hm : X.mg x = some (.ref C)) (ha : PA X (e :: es) ta)
    (hdb : (x == ("__debug__" : Str)) = false := by decide) (he : starEach (e :: es) X.env = (false, eval e X.env) :: starEach es X.env := by rfl) (hpl : (backTo pos (starEach es X.env)).any (·.1) = false := by rfl) :
    PMk X (.Call (.Name x p) (e :: es) [] pos) (tMkO C sp dvs ta) := by
  intro pins s σ H Q I h
  obtain ⟨nm, q, N, bs, sn, sub, ab, col, dd, k0, k1, k2, k3, k5, hC⟩ := T.cls
  refine wpAny_Call_Name_kw (ld_glob I hg hm (PySem.W.callWith_K (h₀ := X.base) I.ok.mod.kin T.kC (thn (ha.run pos pins s σ H _ I h) fun us s1 ⟨vs, H1, I1, r1, hz, q1⟩ => ⟨I1.kIn, ?_⟩) he hpl) hdb)
  show wpAny _ _ (call (.ref C) us) _ _ _
  obtain ⟨hp, g, dr, tk, os⟩ := s1
  let n : Addr := hp.objs.size + 1
  let G : Heap := (hp.push (PySem.W.kdv_tup us)).push (PySem.HandSPX.excO C hp.objs.size)
  have hq := q1 n (I1.hok.fresh (Nat.le_succ _))
  have old : ∀ b o, hp.get? b = some o → G.get? b = some o := fun b o z => Heap.get?_push_of_some _ (Heap.get?_push_of_some _ z)
  have at_ : G.get? n = some (PySem.HandSPX.excO C hp.objs.size) := by
    show ((hp.push (PySem.W.kdv_tup us)).push (PySem.HandSPX.excO C hp.objs.size)).get? (hp.objs.size + 1) = _
    heap_get
  have I2 : Inv X pins σ (upd H1 n (exo n C none)) ⟨G, g, dr, tk, os⟩ := I1.laid (t' := tk) (a := n) (o := exo n C none) (h' := G) old (Nat.le_succ _) (exo_ok at_)
  have r2 : Vals (V.ref n :: (vs ++ dvs)) (Value.ref n :: (us ++ ds)) := .cons rfl (r1.append hd)
  have len : (Value.ref n :: us ++ ds).length = ps.length := by
    have z := r2.length
    rw [F1.len _ _ _ _ hq] at z
    exact z.symm
  have hus : us.length ≤ sizeLine := by
    rw [← Paired.length r1, sizeLine_eq]; omega
  have bdy := codeAny_mono (F1.run _ X.stack _ _ ⟨Value.ref n :: us, []⟩ (Value.ref n :: (us ++ ds)) _ _ (fun _ _ _ => False) (hr.make C us []) (I2.env0.make C us []) (hb _ (Value.ref n :: us) I2.kIn len) r2 hq) (R' := PySem.W.InitBack n fun r s' => match r with | .ok (.ret v) => MkP X pins σ Q v s' | .ok _ => False | .error er => X.xe er s') fun r s' hq' => by
    cases r with
    | error er => exact hx pins σ _ _ er s' I2 hq'
    | ok fl =>
      cases fl with
      | ret u =>
        obtain ⟨v, H2, os2, bare2, un2, hok2, rv, ev, d, fs, ea, ed, hd1, q2⟩ := hq'
        subst ev
        obtain ⟨h2, g2, d2, t2, os'⟩ := s'
        exact ⟨rv, mk_end (raises_own T.exC T.tyC) I1 (Nat.le_succ _) old un2 hok2 os2 bare2 ea ed hd1 q2⟩
      | next => exact False.elim hq'
      | brk => exact False.elim hq'
      | cont => exact False.elim hq'
  exact wpAny_call (codeAny_mono (PySem.HandSPX.call_own PySem.F.excBase_OverflowError (fun Y => rfl) (I1.kIn _ _ hC) (PySem.W.looks_findIn I1.kIn iC) (fun self => PySem.W.bind_fn I1.kIn self tI) hus bdy) fun r s' z => z)
end
end Q

/-! Ex2: such an __init__ keeps its promise; the exception is made. -/
namespace Q
open PySem L2 PyProof.Rows PySem.Calls
/-- what the written part says of such a class: at C, its field fl -/
structure SupC (K : PySem.W.Frag) (mg : Str → Option Value) (prog : Program) (C : Addr) (fl : Str) : Prop where
  ox : OexC K C
  mro : PySem.W.mroIn K C (.ref C) = some true
  sub : PySem.W.subIn K (.ref C) (.type "ValueError") = some true
  ini : PySem.W.ks_superIn K C C "__init__" = some (some (.builtin "ValueError.__init__"))
  fld : PySem.W.findIn K (.ref C) fl = some none
  opq : PySem.W.nsIn K cStatics "thirdparty.any" = some none
  sup : mg "super" = none
  top : (prog.main.scope.names.lookup ("super" : Str)).isSome = false
def spSup (C : Addr) (fl : Str) : Sp := fun vs H Q _ => ∃ (e : Addr) (y : V), vs = [.ref e, y] ∧ H e = some (exo e C none) ∧ ∀ dx, H dx = none → dx ≠ e → Q .non (upd (upd H dx (exd dx [(fl, y)])) e (exo e C (some dx)))
section
variable {P : Program} {w : World} {K : PySem.W.Frag} {mg : Str → Option Value} {base : Heap} {name qual a b fl : Str} {scope : Scope} {f cc C : Addr} {A : Around} {outer : List Env} {s : Shared} {H : Hp}
theorem sup_run {CX : CXT} {k kk : Nat} {params : Arguments} {dV kV doc pm ct oc : Value} {an od : Option Addr} {osl : Array (Option Value)} {cda : Addr} {ccl cl : Value} {cdd cld : Option Addr} {ccs csl : Array (Option Value)} {vs0 : Array Value} {file : Str} {tf : Tok} {ar : Arg} {p0 p1 p2 p3 p4 p5 q1 q2 q3 q4 : Pos} {txt : Str}
    (S : SupS a b scope) (T : SupC K mg P C fl)
    (lk : K.lookup f = some ⟨oc, od, .func (PySem.W.ksFn name qual params [.Expr (.Call (.Attribute (.Call (.Name "super" p0) [] [] p1) "__init__" p2) [.Constant (.str txt) kk p3] [] p4) p5, .Assign [.Attribute (.Name a q1) fl q2] (.Name b q3) q4] scope dV kV doc pm an (.ref cda) ct cc), osl⟩)
    (hp : (params.posonlyargs ++ params.args).head? = some ar) (har : ar.arg = a)
    (hcd : PySem.W.codeIn K (.ref cda) qual = true) (hcode : K.lookup cda = some ⟨ccl, cdd, .fields vs0, ccs⟩) (hvs : vs0[2]? = some (.str file tf)) (hfile : ((P.main.file : Str) == file) = true)
    (hcell : K.lookup cc = some ⟨cl, cld, .cell (some (.ref C)), csl⟩)
    {pl : Env → Sem Bool} (hcall : ∀ env, eval (.Call (.Attribute (.Call (.Name "super" p0) [] [] p1) "__init__" p2) [.Constant (.str txt) kk p3] [] p4) env = (do
      let ov ← attributeBase (.Call (.Name "super" p0) [] [] p1) "__init__" env (eval (.Call (.Name "super" p0) [] [] p1) env)
      standAt p2.atName
      let (f, first) ← holding [ov] (getMethod ov "__init__" (pl env))
      callWith p4 f first (backTo p4 (starEach [.Constant (.str txt) kk p3] env)) []))
    (hdb : (a == ("__debug__" : Str)) = false) (hcdb : (a == ("__classdict__" : Str)) = false) (hdb2 : (b == ("__debug__" : Str)) = false) (hcdb2 : (b == ("__classdict__" : Str)) = false) :
    FnOk P w K mg base CX (k + 1) f (PySem.W.ksFn name qual params [.Expr (.Call (.Attribute (.Call (.Name "super" p0) [] [] p1) "__init__" p2) [.Constant (.str txt) kk p3] [] p4) p5, .Assign [.Attribute (.Name a q1) fl q2] (.Name b q3) q4] scope dV kV doc pm an (.ref cda) ct cc) [a, b] (spSup C fl) := by
  refine ⟨fun vs H Q E ⟨e, y, h, _⟩ => by rw [h]; rfl, fun A outer s H args us vs Q E hr e0 hb r hs => ?_⟩
  obtain ⟨e, y, rfl, he, hq⟩ := hs
  cases r with
  | cons ra r1 => cases r1 with
    | cons rb r2 =>
      cases r2
      rename_i ua ub
      have KX : K.In s.heap := e0.mod.kin.keeps fun b o e => (e0.bs b o e).1
      have lim : s.heap.NoLimit := e0.mod.nolimit.keeps fun b o e => (e0.bs b o e).1
      have hua : ua = Value.ref e := ra
      refine PySem.ks_codeAny_call_defAt (binds := [a, b].zip [ua, ub]) hr.depth (KX _ _ lk) rfl lim (PySem.W.codeRec_of KX hcd) rfl hb S.cell (fun x hx => ?_) (fun h₁ hns hk => ?_) S.co S.gen S.kind
      · simp at hx
        rcases hx with rfl | rfl
        · exact S.la
        · exact S.lb
      · have I := sup_start (tk := s.toks + 2) (D := C) (qual := qual) (f := f) (cd := .ref cda) S hr.hd e0 ra rb hcell hns hk
        have hcc := hk _ _ (KX _ _ hcell)
        obtain ⟨nm, qq, N, bs, bm, sn, sub, ab, col, dd, k0, k1, k2, k3, k5, hC, hbm⟩ := T.ox.cls
        have hcl : PySem.W.clsIn K C = some { name := nm, bases := bs, mro := .ref C :: bm, ns := N, qualname := qq, hasDict := true, slotNames := sn, subclasses := sub, abstract := ab, collection := col, hasDel := false } := by unfold PySem.W.clsIn; rw [hC] <;> rfl
        have hv : ([a, b].zip [ua, ub]).reverse.lookup a = some ua := by
          have : (a == b) = false := by simpa using S.ab
          simp [List.lookup_cons, this]
        obtain ⟨mb, g1, g2⟩ := I.mod.blt
        refine PySem.ks_wpAt_execs_cons (PySem.ks_wpAt_Expr_any (PySem.ks_wpAt_MethodCall (PySem.ks_wpAt_super_base (env := PySem.W.ksEnv qual scope s.heap.objs.size f (.ref cda) cc) S.sup S.cls (by decide) rfl (hk _ _ (KX _ _ lk)) rfl hp rfl (hk _ _ (KX _ _ hcode)) rfl hvs hfile T.top ?_) (hcall _)) I.quiet rfl)
        refine PySem.W.ks_loadName_global S.kind S.sup (Calls.loadGlobal_builtin (env := PySem.W.ksEnv qual scope s.heap.objs.size f (.ref cda) cc) (I.mod.glob.keeps I.bk) T.sup (g1.keeps I.bk) ((g2 "super" (by decide)).trans (by first | boot_by_name | kernel_rfl)) ⟨rfl, ?_⟩)
        refine wpAny_loadName_free S.kind S.cls rfl ⟨_, hcc, rfl⟩ ?_
        rw [har]
        refine wpAny_loadName_local S.kind S.la hns hv ?_
        subst hua
        have hDo := hk _ _ (KX _ _ hC)
        refine PySem.ks_wpAny_isType_cls hDo rfl ⟨rfl, ?_⟩
        obtain ⟨t1, ho⟩ := exo_at I.hok he
        refine PySem.ks_wpAny_call_super hDo rfl ho rfl (fun c z => by cases z) (PySem.W.looks_mroIn (I.kIn) T.mro) (fun h2 e2 kp2 => ?_)
        have I2 : Inv (supCx P w K mg base [a, b] qual scope f (.ref cda) cc A outer s H) [] [some (V.ref e), some y] H { s with heap := h2, toks := s.toks + 2 } := I.kept kp2
        have ho2 := kp2 _ _ ho
        have inst : PySem.W.InstAt h2 e _ C none := ⟨ho2, rfl, rfl, trivial⟩
        have hin := T.ini
        unfold PySem.W.ks_superIn at hin
        rw [hcl] at hin
        refine PySem.W.kxs_getMethod PySem.W.kxs_ValueError e2 (PySem.W.looks_opaque I2.kIn T.opq) (l₀ := .ref C :: bm) ((PySem.W.looks_clsIn I2.kIn hcl).andThen .now) rfl I2.kIn hin (inst.type.andThen (PySem.W.looks_subIn I2.kIn T.sub)) (PySem.W.ks_ne I2.kIn inst hcl) (by decide) ?_
        have I3 : Inv (supCx P w K mg base [a, b] qual scope f (.ref cda) cc A outer s H) [] [some (V.ref e), some y] H { s with heap := h2.push (PySem.W.kxs_mw "ValueError.__init__" e), toks := s.toks + 2 + 1 } := (I2.kept (t' := s.toks + 2 + 1) fun b o q => Heap.get?_push_of_some _ q)
        have hu3 : (h2.push (PySem.W.kxs_mw "ValueError.__init__" e)).get? h2.objs.size = some (PySem.W.kxs_mw "ValueError.__init__" e) := Heap.get?_push_at rfl rfl
        refine PySem.W.kxs_callWith (i := "ValueError.__init__") (x := e) rfl (evalArgs_plain (Calls.spliced_cons (Calls.Constant_str (x := txt) (k := kk) (pos := p3) (Calls.spliced_nil ⟨hu3, ?_⟩))))
        refine call_mw T.ox (I3.tok _) he hu3 (by rw [sizeLine_eq]; simp) (fun s' J => ?_)
        refine PySem.wpAt_of_wpAny ?_
        have st : PSs (supCx P w K mg base [a, b] qual scope f (.ref cda) cc A outer s H) [.Assign [.Attribute (.Name a q1) fl q2] (.Name b q3) q4] _ := pss_one (ps_ost (pe_var (i := 0) rfl (.inl S.la) hdb hcdb) (pe_var (i := 1) rfl (.inl S.lb) hdb2 hcdb2))
        refine wpAny_mono (st.run [] s' _ H { nx := fun _ H' => Q .non H', rt := fun _ _ => False } J ⟨y, rfl, .ref e, rfl, e, C, rfl, T.ox, T.fld, .inl ⟨he, fun dx n ne => hq dx n ne⟩⟩) (fun fl s2 hs2 => ?_) fun _ _ z => z.elim
        cases fl with
        | next =>
          obtain ⟨σ', H', J', q⟩ := hs2
          exact ⟨.non, H', J'.os, J'.bare, J'.base, J'.hok, rfl, q⟩
        | ret u => obtain ⟨_, _, _, _, _, z⟩ := hs2; exact z.elim
        | brk => obtain ⟨_, _, _, z⟩ := hs2; exact z.elim
        | cont => obtain ⟨_, _, _, z⟩ := hs2; exact z.elim
end
section
variable {S : Type}
/-- x is such a class, its field fl -/
structure ExOk (C : Cn S) (X : Cx) (x fl : Str) : Prop where
  ok : ∃ (c fI : Addr) (fd : FuncData) (ps : List Str) (k : Nat), C.cls x = some c ∧ X.mg x = some (.ref c) ∧ (OexC X.K c ∨ OexO X.K c) ∧ PySem.W.findIn X.K (.ref c) "__init__" = some (some (.ref fI)) ∧ PySem.W.typeIn X.K (.ref fI) = some (.type "function") ∧
    FnOk X.prog X.w X.K X.mg X.base (fun _ _ _ _ _ _ => False) k fI fd ps (spSup c fl) ∧ Room (k + 1) X.A ∧ Binds X.K fd ps [] ∧ PySem.W.exmOne X.K (.ref c) (.ref c) = some true
end
end Q

/-! Ex7: an own exception with two fields. -/
namespace Q
open PySem L2 PyProof.Rows PySem.Calls
/-- what the names of such a def are -/
structure SupS3 (a b b2 : Str) (scope : Scope) : Prop where
  kind : scope.kind = .function
  co : scope.isCoroutine = false
  gen : scope.isGenerator = false
  ab : a ≠ b
  ab2 : a ≠ b2
  bb2 : b ≠ b2
  la : scope.names.lookup a = some .local
  lb : scope.names.lookup b = some .local
  lb2 : scope.names.lookup b2 = some .local
  cell : ∀ x ∈ scope.names, x.2 ≠ .cell
  free : ∀ y, scope.names.lookup y = some .free → y = "__class__"
  cls : scope.names.lookup ("__class__" : Str) = some .free
  sup : scope.names.lookup ("super" : Str) = some .globalImplicit
section
variable {P : Program} {w : World} {K : PySem.W.Frag} {mg : Str → Option Value} {base : Heap} {qual a b b2 : Str} {scope : Scope} {f cc D : Addr} {cd : Value} {A : Around} {outer : List Env} {s : Shared} {H : Hp}
theorem sup_start3 {va vb vb2 : V} {ua ub ub2 : Value} {h₁ : Heap} {tk : Nat} {cl : Value} {cld : Option Addr} {csl : Array (Option Value)} (S : SupS3 a b b2 scope) (hd : A.handled = none) (e0 : Env0 P w K mg base A outer s H) (ra : RelV va ua) (rb : RelV vb ub) (rb2 : RelV vb2 ub2)
    (hcell : K.lookup cc = some ⟨cl, cld, .cell (some (.ref D)), csl⟩) (hns : h₁.Ns s.heap.objs.size fun x => [(a, ua), (b, ub), (b2, ub2)].reverse.lookup x) (hk : ∀ b o, s.heap.get? b = some o → h₁.get? b = some o) :
    Inv (supCx P w K mg base [a, b, b2] qual scope f cd cc A outer s H) [] [some va, some vb, some vb2] H { s with heap := h₁, toks := tk } := by
  have noA : ∀ x : Addr, x ∉ (supCx P w K mg base [a, b, b2] qual scope f cd cc A outer s H).ex := fun x z => absurd (show x ∈ ([] : List Addr) from z) (by simp)
  have bcc : base.get? cc = some ⟨cl, cld, .cell (some (.ref D)), csl⟩ := e0.mod.kin _ _ hcell
  have hcc : s.heap.get? cc = some ⟨cl, cld, .cell (some (.ref D)), csl⟩ := (e0.bs _ _ bcc).1
  have only : ∀ y c, ([("__class__", cc)] : List (Str × Addr)).lookup y = some c → y = "__class__" ∧ c = cc := fun y c h => by
    simp only [List.lookup_cons, List.lookup_nil] at h
    split at h
    · rename_i q
      exact ⟨by simpa using q, (Option.some.inj h).symm⟩
    · cases h
  have hself : ([("__class__", cc)] : List (Str × Addr)).lookup ("__class__" : Str) = some cc := by simp
  have two : ∀ (i : Nat) (x : Str) (v : V), [a, b, b2][i]? = some x → [some va, some vb, some vb2][i]? = some (some v) → ∃ u, RelV v u ∧ scope.names.lookup x = some .local ∧ [(a, ua), (b, ub), (b2, ub2)].reverse.lookup x = some u := fun i x v h1 h2 => by
    match i with
    | 0 =>
      simp at h1 h2
      subst h1 h2
      have h1 : (a == b) = false := by simpa using S.ab
      have h2 : (a == b2) = false := by simpa using S.ab2
      exact ⟨ua, ra, S.la, by simp [List.lookup_cons, h1, h2]⟩
    | 1 =>
      simp at h1 h2
      subst h1 h2
      have h1 : (b == b2) = false := by simpa using S.bb2
      exact ⟨ub, rb, S.lb, by simp [List.lookup_cons, h1]⟩
    | 2 =>
      simp at h1 h2
      subst h1 h2
      exact ⟨ub2, rb2, S.lb2, by simp [List.lookup_cons]⟩
    | i + 3 => simp at h1
  refine ⟨⟨e0.mod, S.kind, rfl, rfl, Nat.le_refl _, fun y z c h1 h2 => ?_, fun y hy => ?_, fun y c z _ => ?_, fun _ => hd, Around.frames_deeper e0.frames, .inr ⟨rfl, rfl⟩, fun b z => absurd z (noA b), e0.bs, e0.bsz, fun b _ _ => noA b, fun b z => absurd z (noA b), e0.funs, e0.frf⟩,
    rfl, e0.bare, Un.kept hk, ⟨_, hns, fun i y v h1 h2 h3 => ?_⟩, fun y c h => ?_, e0.hok.fresh (Nat.le_refl _), fun y c h => ?_, fun p hp => absurd (show p ∈ ([] : List (Addr × Obj)) from hp) (by simp), e0.hok.kept hk, rfl⟩
  · exact (only y c h1).1.trans (only z c h2).1.symm
  · have hy : scope.names.lookup y = some .cell ∨ scope.names.lookup y = some .free := hy
    rcases hy with hy | hy
    · exact absurd rfl (S.cell _ (PySem.mem_of_lookup hy))
    · rw [S.free y hy]; exact ⟨cc, hself⟩
  · have z : false = true := z
    cases z
  · obtain ⟨u, q1, q2, q3⟩ := two i y v h1 h2
    exact ⟨u, q1, .inl ⟨q2, q3⟩⟩
  · obtain ⟨_, rfl⟩ := only y c h
    exact ⟨_, _, hk _ _ hcc, rfl⟩
  · obtain ⟨_, rfl⟩ := only y c h
    exact (e0.bs _ _ bcc).2
end
def spSup3 (C : Addr) (fl fl2 : Str) : Sp := fun vs H Q _ => ∃ (e : Addr) (y y2 : V), vs = [.ref e, y, y2] ∧ H e = some (exo e C none) ∧ ∀ dx, H dx = none → dx ≠ e → Q .non (upd (upd H dx (exd dx [(fl2, y2), (fl, y)])) e (exo e C (some dx)))
section
variable {P : Program} {w : World} {K : PySem.W.Frag} {mg : Str → Option Value} {base : Heap} {name qual a b b2 fl fl2 : Str} {scope : Scope} {f cc C : Addr} {A : Around} {outer : List Env} {s : Shared} {H : Hp}
theorem sup_run3 {CX : CXT} {k kk : Nat} {params : Arguments} {dV kV doc pm ct oc : Value} {an od : Option Addr} {osl : Array (Option Value)} {cda : Addr} {ccl cl : Value} {cdd cld : Option Addr} {ccs csl : Array (Option Value)} {vs0 : Array Value} {file : Str} {tf : Tok} {ar : Arg} {p0 p1 p2 p3 p4 p5 q1 q2 q3 q4 r1 r2 r3 r4 : Pos} {txt : Str}
    (S : SupS3 a b b2 scope) (T : SupC K mg P C fl) (T2 : SupC K mg P C fl2) (hfl : fl ≠ fl2)
    (lk : K.lookup f = some ⟨oc, od, .func (PySem.W.ksFn name qual params [.Expr (.Call (.Attribute (.Call (.Name "super" p0) [] [] p1) "__init__" p2) [.Constant (.str txt) kk p3] [] p4) p5, .Assign [.Attribute (.Name a q1) fl q2] (.Name b q3) q4, .Assign [.Attribute (.Name a r1) fl2 r2] (.Name b2 r3) r4] scope dV kV doc pm an (.ref cda) ct cc), osl⟩)
    (hp : (params.posonlyargs ++ params.args).head? = some ar) (har : ar.arg = a)
    (hcd : PySem.W.codeIn K (.ref cda) qual = true) (hcode : K.lookup cda = some ⟨ccl, cdd, .fields vs0, ccs⟩) (hvs : vs0[2]? = some (.str file tf)) (hfile : ((P.main.file : Str) == file) = true)
    (hcell : K.lookup cc = some ⟨cl, cld, .cell (some (.ref C)), csl⟩)
    {pl : Env → Sem Bool} (hcall : ∀ env, eval (.Call (.Attribute (.Call (.Name "super" p0) [] [] p1) "__init__" p2) [.Constant (.str txt) kk p3] [] p4) env = (do
      let ov ← attributeBase (.Call (.Name "super" p0) [] [] p1) "__init__" env (eval (.Call (.Name "super" p0) [] [] p1) env)
      standAt p2.atName
      let (f, first) ← holding [ov] (getMethod ov "__init__" (pl env))
      callWith p4 f first (backTo p4 (starEach [.Constant (.str txt) kk p3] env)) []))
    (hdb : (a == ("__debug__" : Str)) = false) (hcdb : (a == ("__classdict__" : Str)) = false) (hdb2 : (b == ("__debug__" : Str)) = false) (hcdb2 : (b == ("__classdict__" : Str)) = false) (hdb3 : (b2 == ("__debug__" : Str)) = false) (hcdb3 : (b2 == ("__classdict__" : Str)) = false) :
    FnOk P w K mg base CX (k + 1) f (PySem.W.ksFn name qual params [.Expr (.Call (.Attribute (.Call (.Name "super" p0) [] [] p1) "__init__" p2) [.Constant (.str txt) kk p3] [] p4) p5, .Assign [.Attribute (.Name a q1) fl q2] (.Name b q3) q4, .Assign [.Attribute (.Name a r1) fl2 r2] (.Name b2 r3) r4] scope dV kV doc pm an (.ref cda) ct cc) [a, b, b2] (spSup3 C fl fl2) := by
  refine ⟨fun vs H Q E ⟨e, y, y2, h, _⟩ => by rw [h]; rfl, fun A outer s H args us vs Q E hr e0 hb r hs => ?_⟩
  obtain ⟨e, y, y2, rfl, he, hq⟩ := hs
  cases r with
  | cons ra r1 => cases r1 with
    | cons rb r2 => cases r2 with
     | cons rb2 r3 =>
      cases r3
      rename_i ua ub ub2
      have KX : K.In s.heap := e0.mod.kin.keeps fun b o e => (e0.bs b o e).1
      have lim : s.heap.NoLimit := e0.mod.nolimit.keeps fun b o e => (e0.bs b o e).1
      have hua : ua = Value.ref e := ra
      refine PySem.ks_codeAny_call_defAt (binds := [a, b, b2].zip [ua, ub, ub2]) hr.depth (KX _ _ lk) rfl lim (PySem.W.codeRec_of KX hcd) rfl hb S.cell (fun x hx => ?_) (fun h₁ hns hk => ?_) S.co S.gen S.kind
      · simp at hx
        rcases hx with rfl | rfl | rfl
        · exact S.la
        · exact S.lb
        · exact S.lb2
      · have I := sup_start3 (tk := s.toks + 3) (D := C) (qual := qual) (f := f) (cd := .ref cda) S hr.hd e0 ra rb rb2 hcell hns hk
        have hcc := hk _ _ (KX _ _ hcell)
        obtain ⟨nm, qq, N, bs, bm, sn, sub, ab, col, dd, k0, k1, k2, k3, k5, hC, hbm⟩ := T.ox.cls
        have hcl : PySem.W.clsIn K C = some { name := nm, bases := bs, mro := .ref C :: bm, ns := N, qualname := qq, hasDict := true, slotNames := sn, subclasses := sub, abstract := ab, collection := col, hasDel := false } := by unfold PySem.W.clsIn; rw [hC] <;> rfl
        have hv : ([a, b, b2].zip [ua, ub, ub2]).reverse.lookup a = some ua := by
          have h1 : (a == b) = false := by simpa using S.ab
          have h2 : (a == b2) = false := by simpa using S.ab2
          simp [List.lookup_cons, h1, h2]
        obtain ⟨mb, g1, g2⟩ := I.mod.blt
        refine PySem.ks_wpAt_execs_cons (PySem.ks_wpAt_Expr_any (PySem.ks_wpAt_MethodCall (PySem.ks_wpAt_super_base (env := PySem.W.ksEnv qual scope s.heap.objs.size f (.ref cda) cc) S.sup S.cls (by decide) rfl (hk _ _ (KX _ _ lk)) rfl hp rfl (hk _ _ (KX _ _ hcode)) rfl hvs hfile T.top ?_) (hcall _)) I.quiet rfl)
        refine PySem.W.ks_loadName_global S.kind S.sup (Calls.loadGlobal_builtin (env := PySem.W.ksEnv qual scope s.heap.objs.size f (.ref cda) cc) (I.mod.glob.keeps I.bk) T.sup (g1.keeps I.bk) ((g2 "super" (by decide)).trans (by first | boot_by_name | kernel_rfl)) ⟨rfl, ?_⟩)
        refine wpAny_loadName_free S.kind S.cls rfl ⟨_, hcc, rfl⟩ ?_
        rw [har]
        refine wpAny_loadName_local S.kind S.la hns hv ?_
        subst hua
        have hDo := hk _ _ (KX _ _ hC)
        refine PySem.ks_wpAny_isType_cls hDo rfl ⟨rfl, ?_⟩
        obtain ⟨t1, ho⟩ := exo_at I.hok he
        refine PySem.ks_wpAny_call_super hDo rfl ho rfl (fun c z => by cases z) (PySem.W.looks_mroIn (I.kIn) T.mro) (fun h2 e2 kp2 => ?_)
        have I2 : Inv (supCx P w K mg base [a, b, b2] qual scope f (.ref cda) cc A outer s H) [] [some (V.ref e), some y, some y2] H { s with heap := h2, toks := s.toks + 3 } := I.kept kp2
        have ho2 := kp2 _ _ ho
        have inst : PySem.W.InstAt h2 e _ C none := ⟨ho2, rfl, rfl, trivial⟩
        have hin := T.ini
        unfold PySem.W.ks_superIn at hin
        rw [hcl] at hin
        refine PySem.W.kxs_getMethod PySem.W.kxs_ValueError e2 (PySem.W.looks_opaque I2.kIn T.opq) (l₀ := .ref C :: bm) ((PySem.W.looks_clsIn I2.kIn hcl).andThen .now) rfl I2.kIn hin (inst.type.andThen (PySem.W.looks_subIn I2.kIn T.sub)) (PySem.W.ks_ne I2.kIn inst hcl) (by decide) ?_
        have I3 : Inv (supCx P w K mg base [a, b, b2] qual scope f (.ref cda) cc A outer s H) [] [some (V.ref e), some y, some y2] H { s with heap := h2.push (PySem.W.kxs_mw "ValueError.__init__" e), toks := s.toks + 3 + 1 } := (I2.kept (t' := s.toks + 3 + 1) fun b o q => Heap.get?_push_of_some _ q)
        have hu3 : (h2.push (PySem.W.kxs_mw "ValueError.__init__" e)).get? h2.objs.size = some (PySem.W.kxs_mw "ValueError.__init__" e) := Heap.get?_push_at rfl rfl
        refine PySem.W.kxs_callWith (i := "ValueError.__init__") (x := e) rfl (evalArgs_plain (Calls.spliced_cons (Calls.Constant_str (x := txt) (k := kk) (pos := p3) (Calls.spliced_nil ⟨hu3, ?_⟩))))
        refine call_mw T.ox (I3.tok _) he hu3 (by rw [sizeLine_eq]; simp) (fun s' J => ?_)
        refine PySem.wpAt_of_wpAny ?_
        have st : PSs (supCx P w K mg base [a, b, b2] qual scope f (.ref cda) cc A outer s H) [.Assign [.Attribute (.Name a q1) fl q2] (.Name b q3) q4, .Assign [.Attribute (.Name a r1) fl2 r2] (.Name b2 r3) r4] _ := pss_cons (ps_ost (pe_var (i := 0) rfl (.inl S.la) hdb hcdb) (pe_var (i := 1) rfl (.inl S.lb) hdb2 hcdb2)) (pss_one (ps_ost (pe_var (i := 0) rfl (.inl S.la) hdb hcdb) (pe_var (i := 2) rfl (.inl S.lb2) hdb3 hcdb3)))
        have eh : ∀ dx, dx ≠ e → upd (upd (upd H dx (exd dx [(fl, y)])) e (exo e C (some dx))) dx (exd dx ((fl2, y2) :: [(fl, y)])) = upd (upd H dx (exd dx [(fl2, y2), (fl, y)])) e (exo e C (some dx)) := fun dx ne => by
          funext b
          by_cases hb : b = dx
          · subst hb; rw [upd_same, upd_ne ne, upd_same]
          · rw [upd_ne hb]
            by_cases he' : b = e
            · subst he'; rw [upd_same, upd_same]
            · rw [upd_ne he', upd_ne he', upd_ne hb, upd_ne hb]
        refine wpAny_mono (st.run [] s' _ H { nx := fun _ H' => Q .non H', rt := fun _ _ => False } J ⟨y, rfl, .ref e, rfl, e, C, rfl, T.ox, T.fld, .inl ⟨he, fun dx n ne => ⟨y2, rfl, .ref e, rfl, e, C, rfl, T.ox, T2.fld, .inr ⟨dx, [(fl, y)], upd_same, by rw [upd_ne ne]; exact upd_same, by simp, by rw [eh dx ne]; exact hq dx n ne⟩⟩⟩⟩) (fun fw s2 hs2 => ?_) fun _ _ z => z.elim
        cases fw with
        | next =>
          obtain ⟨σ', H', J', q⟩ := hs2
          exact ⟨.non, H', J'.os, J'.bare, J'.base, J'.hok, rfl, q⟩
        | ret u => obtain ⟨_, _, _, _, _, z⟩ := hs2; exact z.elim
        | brk => obtain ⟨_, _, _, z⟩ := hs2; exact z.elim
        | cont => obtain ⟨_, _, _, z⟩ := hs2; exact z.elim
end
end Q
namespace Q
open PySem L2
section
variable {S : Type}
/-- x is such a class, its fields fl, fl2 -/
structure ExOk3 (C : Cn S) (X : Cx) (x fl fl2 : Str) : Prop where
  ok : ∃ (c fI : Addr) (fd : FuncData) (ps : List Str) (k : Nat), C.cls x = some c ∧ X.mg x = some (.ref c) ∧ OexC X.K c ∧ PySem.W.findIn X.K (.ref c) "__init__" = some (some (.ref fI)) ∧ PySem.W.typeIn X.K (.ref fI) = some (.type "function") ∧
    FnOk X.prog X.w X.K X.mg X.base (fun _ _ _ _ _ _ => False) k fI fd ps (spSup3 c fl fl2) ∧ Room (k + 1) X.A ∧ Binds X.K fd ps [] ∧ PySem.W.exmOne X.K (.ref c) (.ref c) = some true
end
end Q

set_option maxHeartbeats 1000000
/-! ZipN: zip(*rows) of lists of one length, the items by a name. -/
namespace Q
open PySem PySem.Spec PyProof.Rows L2
abbrev IsZipN (h : Heap) (z TI TO : Addr) (f0 f1 : Value) : Prop :=
  h.get? z = some { cls := .type "zip", dict := none, data := .fields #[f0, f1, .bool false, .ref TI, .ref TO], slots := #[] }
abbrev IsTup (h : Heap) (T : Addr) (vs : Array Value) : Prop := h.get? T = some { cls := .type "tuple", data := .seq vs }
def itsN (b n : Nat) : List Value := (List.range n).map fun k => Value.ref (b + k)
theorem itsN_len (b n : Nat) : (itsN b n).length = n := by simp [itsN]
theorem itsN_zipIdx (b n : Nat) : (itsN b n).zipIdx = (List.range n).map fun k => (Value.ref (b + k), k) := by
  apply List.ext_getElem?
  intro i
  simp only [itsN, List.getElem?_zipIdx, List.getElem?_map]
  by_cases h : i < n
  · simp [h]
  · simp [h]
/-- what is walked: a tuple or a list, where it lies, its items -/
structure Zq where
  t : Bool
  l : Nat
  xs : Array Value
def ItA (h : Heap) (t : Bool) (i l : Addr) (j : Nat) : Prop := if t = true then h.IsTupleIter i l j else h.IsListIter i l j
def SqA (h : Heap) (t : Bool) (l : Addr) (xs : Array Value) : Prop := if t = true then h.IsTuple l xs else h.IsList l xs
theorem ItA.at {h h' : Heap} {t : Bool} {i l : Addr} {j : Nat} (x : ItA h t i l j) (k : ∀ o, h.get? i = some o → h'.get? i = some o) : ItA h' t i l j := by
  cases t
  · exact Heap.IsListIter.at (show h.IsListIter i l j from x) k
  · exact Heap.IsTupleIter.at (show h.IsTupleIter i l j from x) k
theorem SqA.at {h h' : Heap} {t : Bool} {l : Addr} {xs : Array Value} (x : SqA h t l xs) (k : ∀ o, h.get? l = some o → h'.get? l = some o) : SqA h' t l xs := by
  cases t
  · exact Heap.IsList.at (show h.IsList l xs from x) k
  · exact Heap.IsTuple.at (show h.IsTuple l xs from x) k
theorem ItA.extBut {h h' : Heap} {t : Bool} {i l a : Addr} {j : Nat} (x : ItA h t i l j) (k : Heap.ExtBut a h h') (n : i ≠ a) : ItA h' t i l j := x.at fun o e => k _ o n e
theorem SqA.extBut {h h' : Heap} {t : Bool} {l a : Addr} {xs : Array Value} (x : SqA h t l xs) (k : Heap.ExtBut a h h') (n : l ≠ a) : SqA h' t l xs := x.at fun o e => k _ o n e
section
variable {prog : Program} {w : World} {A : Around} {E : Value → Shared → Prop} {s : Shared}
theorem nextA_item {t : Bool} {it l : Addr} {i : Nat} {items : Array Value} {x : Value} {Q : Value → Shared → Prop} (hit : ItA s.heap t it l i) (hl : SqA s.heap t l items) (hx : items[i]? = some x)
    (hQ : ∀ h', ItA h' t it l (i + 1) → Heap.SameBut it s.heap h' → Q x { s with heap := h' }) : wpAny (model prog w) A (Builtin.SmallTypes.nextOf (.ref it)) Q E s := by
  cases t
  · exact wpAny_nextOf_list_item hit hl hx fun h' a b => hQ h' a b
  · exact RZ.nextOf_tuple_item hit hl hx fun h' a b => hQ h' a b
theorem nextA_end {t : Bool} {it l : Addr} {i : Nat} {items : Array Value} {Q : Value → Shared → Prop} (hh : A.handled = none) (hit : ItA s.heap t it l i) (hl : SqA s.heap t l items) (hx : items[i]? = none)
    (hE : ∀ h' e, Heap.ExtBut it s.heap h' → (∃ o, h'.get? e = some o ∧ o.cls = .type "StopIteration") → E (.ref e) { s with heap := h' }) : wpAny (model prog w) A (Builtin.SmallTypes.nextOf (.ref it)) Q E s := by
  cases t
  · exact wpAny_nextOf_list_end hh hit hl hx hE
  · exact RZ.nextOf_tuple_end hh hit hl hx hE
theorem iterA {t : Bool} {l : Addr} {items : Array Value} {Q : Value → Shared → Prop} (hl : SqA s.heap t l items) (hQ : ∀ h', h'.objs.size = s.heap.objs.size + 1 → ItA h' t s.heap.objs.size l 0 → (∀ c o, s.heap.get? c = some o → h'.get? c = some o) → Q (.ref s.heap.objs.size) { s with heap := h' }) : wpAny (model prog w) A (pyIter (.ref l)) Q E s := by
  cases t
  · exact wpAny_pyIter_list (show s.heap.IsList l items from hl) (hQ _ (by rw [Heap.size_push]) ⟨_, Heap.get?_push_size _ rfl, rfl, rfl⟩ fun c o e => Heap.get?_push_of_some _ e)
  · exact wpAny_pyIter_tuple (show s.heap.IsTuple l items from hl) (hQ _ (by rw [Heap.size_push]) ⟨_, Heap.get?_push_size _ rfl, rfl, rfl⟩ fun c o e => Heap.get?_push_of_some _ e)
end
structure ZS (h : Heap) (b : Nat) (ls : List Zq) (j : Nat) (f0 f1 : Value) : Prop where
  z : IsZipN h (b + ls.length + 2) (b + ls.length) (b + ls.length + 1) f0 f1
  ti : IsTup h (b + ls.length) (itsN b ls.length).toArray
  to : ∃ vs : Array Value, vs.size = ls.length ∧ IsTup h (b + ls.length + 1) vs
  it : ∀ (m : Nat) (q : Zq), ls[m]? = some q → ItA h q.t (b + m) q.l j
def ZL (h : Heap) (b : Nat) (ls : List Zq) : Prop := ∀ (m : Nat) (q : Zq), ls[m]? = some q → SqA h q.t q.l q.xs ∧ q.l < b
def F0 (v : Value) : Prop := v = .none ∨ ∃ a : Nat, v = rawInt a
def Kp (b n : Nat) (h h' : Heap) : Prop := ∀ (c : Nat) (o : Obj), ¬ (b ≤ c ∧ c < b + n + 3) → h.get? c = some o → h'.get? c = some o
theorem lt_of_get {ls : List Zq} {m : Nat} {q : Zq} (h : ls[m]? = some q) : m < ls.length := (List.getElem?_eq_some_iff.mp h).1
theorem ZL.kp {h h' : Heap} {b n : Nat} {ls : List Zq} (z : ZL h b ls) (k : Kp b n h h') : ZL h' b ls := fun m q e =>
  ⟨(z m q e).1.at fun o u => k q.l o (by have := (z m q e).2; omega) u, (z m q e).2⟩
section
variable {prog : Program} {w : World} {A : Around} {E : Value → Shared → Prop} {s : Shared}
theorem wpAny_alive {M : Model} {a : Addr} {Q : Option Obj → Shared → Prop} (h : Q (s.heap.get? a) s) : wpAny M A (loadIfAlive a) Q E s := fun _ _ _ => h
theorem free_any {b : Nat} {ls : List Zq} {j : Nat} {f0 f1 : Value} (hz : ZS s.heap b ls j f0 f1) (hf : F0 f0) {Q : Bool → Shared → Prop}
    (h : ∀ (r : Bool) (h' : Heap) (f1' : Value), ZS h' b ls j f0 f1' → h'.objs.size = s.heap.objs.size → Kp b ls.length s.heap h' → Q r { s with heap := h' }) :
    wpAny (model prog w) A (Builtin.SmallTypes.ownedTupleIsFree (.ref (b + ls.length + 2))) Q E s := by
  unfold Builtin.SmallTypes.ownedTupleIsFree
  refine wpAny_bind (wpAny_field hz.z rfl (x := f0) rfl ?_)
  rcases hf with rfl | ⟨a, rfl⟩
  · exact wpAny_pure (h true s.heap f1 hz rfl fun _ _ _ e => e)
  · show wpAny _ _ (loadIfAlive _ >>= _) _ _ _
    refine wpAny_bind (wpAny_alive ?_)
    split
    · exact wpAny_pure (h true s.heap f1 hz rfl fun _ _ _ e => e)
    · refine wpAny_bind (wpAny_field hz.z rfl (x := f1) rfl ?_)
      split
      · refine wpAny_bind (wpAny_setField_rec hz.z (by simp) fun h₁ hz₁ hs₁ => wpAny_pure (h false h₁ (.bool true) ⟨hz₁, ?_, ?_, fun m q e => ?_⟩ hs₁.1 fun c o hc e => ?_))
        · exact hs₁.extBut _ _ (by first | omega | (show @Ne Nat _ _; omega)) hz.ti
        · obtain ⟨vs, e1, e2⟩ := hz.to
          exact ⟨vs, e1, hs₁.extBut _ _ (by first | omega | (show @Ne Nat _ _; omega)) e2⟩
        · exact (hz.it m q e).extBut hs₁.extBut (by have := lt_of_get e; first | omega | (show @Ne Nat _ _; omega))
        · exact hs₁.extBut _ _ (by first | omega | (show @Ne Nat _ _; omega)) e
      · exact wpAny_pure (h false s.heap f1 hz rfl fun _ _ _ e => e)
theorem zipN_item {b : Nat} {ls : List Zq} {j : Nat} {f0 f1 : Value} {col : List Value} {Q : Value → Shared → Prop} (hz : ZS s.heap b ls j f0 f1) (hf : F0 f0) (hl : ZL s.heap b ls) (hn : 0 < ls.length) (hn2 : ls.length ≤ sizeLine)
    (hc : col.length = ls.length) (hx : ∀ (m : Nat) (q : Zq), ls[m]? = some q → q.xs[j]? = col[m]?)
    (hQ : ∀ (h' : Heap) (g0 g1 : Value), ZS h' b ls (j + 1) g0 g1 → F0 g0 → IsTup h' s.heap.objs.size col.toArray → h'.objs.size = s.heap.objs.size + 1 → Kp b ls.length s.heap h' → Q (.ref s.heap.objs.size) { s with heap := h' }) :
    wpAny (model prog w) A (Builtin.«zip.__next__» ⟨[.ref (b + ls.length + 2)], []⟩) (fun fin s' => ∃ v, fin = .done (.ret v) ∧ Q v s') E s := by
  have hne : (itsN b ls.length).toArray.isEmpty = false := by
    rw [Array.isEmpty_eq_false_iff]
    intro e
    have := congrArg Array.size e
    simp [itsN_len] at this
    rw [this] at hn
    simp at hn
  show wpAny _ _ (field (.ref (b + ls.length + 2)) 2 >>= _) _ _ _
  refine wpAny_bind (wpAny_field hz.z rfl (x := .bool false) rfl ?_)
  show wpAny _ _ (field (.ref (b + ls.length + 2)) 3 >>= _) _ _ _
  refine wpAny_bind (wpAny_field hz.z rfl (x := .ref (b + ls.length)) rfl ?_)
  refine wpAny_bind (wpAny_seqItems hz.ti rfl ?_)
  simp only [hne, Bool.false_eq_true, if_false]
  refine wpAny_bind (free_any hz hf fun r h₀ f1 hz₀ hsz₀ hk₀ => ?_)
  have hl₀ := hl.kp hk₀
  cases r with
  | true =>
    simp only [if_true]
    refine wpAny_bind (wpAny_rule ?_)
    refine wpAny_bind (wpAny_field hz₀.z rfl (x := .ref (b + ls.length + 1)) rfl ?_)
    refine wpAny_bind (wpAny_setField_rec hz₀.z (by simp) fun h₁ hz₁ hs₁ => ?_)
    replace hz₁ : IsZipN h₁ (b + ls.length + 2) (b + ls.length) (b + ls.length + 1) .ellipsis f1 := hz₁
    refine wpAny_bind ?_
    rw [itsN_zipIdx]
    refine wpAny_forIn_list _ (fun rest st s' => ∃ (k : Nat) (h' : Heap) (vs : Array Value), k ≤ ls.length ∧ rest = ((List.range ls.length).drop k).map (fun k => (Value.ref (b + k), k)) ∧ st = (none, ()) ∧ s' = { s with heap := h' } ∧
      IsZipN h' (b + ls.length + 2) (b + ls.length) (b + ls.length + 1) .ellipsis f1 ∧ IsTup h' (b + ls.length) (itsN b ls.length).toArray ∧ vs.size = ls.length ∧ IsTup h' (b + ls.length + 1) vs ∧ (∀ m, m < k → vs[m]? = col[m]?) ∧
      (∀ (m : Nat) (q : Zq), ls[m]? = some q → ItA h' q.t (b + m) q.l (if m < k then j + 1 else j)) ∧ h'.objs.size = s.heap.objs.size ∧ Kp b ls.length s.heap h') _ ?_ ?_ _ _ ?_
    · rintro x rest st s' ⟨k, h', vs, hk, hr, rfl, rfl, gz, gti, gs, gto, gv, gi, gsz, gk⟩
      have hkl : k < ls.length := by
        rcases Nat.lt_or_ge k ls.length with h | h
        · exact h
        · rw [List.drop_of_length_le (by simpa using h)] at hr; cases hr
      rw [List.drop_eq_getElem_cons (by simpa using hkl), List.map_cons] at hr
      injection hr with hr1 hr2
      subst hr1
      simp only [List.getElem_range] at *
      obtain ⟨q, el⟩ : ∃ q, ls[k]? = some q := ⟨_, List.getElem?_eq_getElem hkl⟩
      have hit := gi k q el
      rw [if_neg (by omega)] at hit
      obtain ⟨v, ev⟩ : ∃ v, col[k]? = some v := ⟨_, List.getElem?_eq_getElem (by omega)⟩
      have hxv : q.xs[j]? = some v := (hx k q el).trans ev
      have hll := (hl.kp gk) k q el
      refine wpAny_bind (wpAny_onRaise ?_)
      show wpAny _ _ (Builtin.SmallTypes.nextOf (.ref (b + k)) >>= _) _ _ _
      refine wpAny_bind (nextA_item (s := { s with heap := h' }) hit hll.1 hxv fun h₂ h1₂ hs₂ => wpAny_pure ?_)
      have gto₂ : IsTup h₂ (b + ls.length + 1) vs := hs₂.extBut _ _ (by first | omega | (show @Ne Nat _ _; omega)) gto
      refine wpAny_bind (wpAny_seqItems gto₂ rfl ?_)
      have hvz : vs.size ≤ sizeLine := by omega
      refine wpAny_bind (wpAny_updateSeq (s := { s with heap := h₂ }) gto₂ rfl ?_ hvz (by simp; omega))
      refine wpAny_bind (wpAny_letGo (wpAny_pure ?_))
      refine ⟨k + 1, _, vs.setIfInBounds k v, by omega, hr2, rfl, rfl, ?_, ?_, by simp [gs], ?_, fun m hm => ?_, fun m q' e' => ?_, ?_, fun c o hc e => ?_⟩
      · exact (Heap.SameBut.update ..).extBut _ _ (by first | omega | (show @Ne Nat _ _; omega)) (hs₂.extBut _ _ (by first | omega | (show @Ne Nat _ _; omega)) gz)
      · exact (Heap.SameBut.update ..).extBut _ _ (by first | omega | (show @Ne Nat _ _; omega)) (hs₂.extBut _ _ (by first | omega | (show @Ne Nat _ _; omega)) gti)
      · show (h₂.update _ _).get? _ = _
        rw [Heap.get?_update_self _ gto₂ rfl]
        simp [Obj.mapSeq]
      · rcases Nat.lt_or_ge m k with h | h
        · rw [Array.getElem?_setIfInBounds_ne (by omega)]; exact gv m h
        · have : m = k := by omega
          subst this
          rw [Array.getElem?_setIfInBounds_self_of_lt (by omega), ev]
      · have hml := lt_of_get e'
        by_cases hmk : m = k
        · subst hmk
          rw [el] at e'
          cases e'
          rw [if_pos (by omega)]
          exact h1₂.extBut (Heap.SameBut.update ..).extBut (by first | omega | (show @Ne Nat _ _; omega))
        · have hh := gi m q' e'
          have hne2 : b + m ≠ b + k := by omega
          have hh2 := (hh.extBut hs₂.extBut hne2).extBut (Heap.SameBut.update h₂ (b + ls.length + 1) (Obj.mapSeq (·.setIfInBounds k v))).extBut (by show @Ne Nat _ _; omega)
          have e3 : (if m < k + 1 then j + 1 else j) = (if m < k then j + 1 else j) := by
            by_cases h : m < k
            · rw [if_pos h, if_pos (by omega)]
            · rw [if_neg h, if_neg (by omega)]
          rw [e3]
          exact hh2
      · show (h₂.update _ _).objs.size = _
        rw [(Heap.SameBut.update ..).1, hs₂.1]
        exact gsz
      · exact (Heap.SameBut.update ..).extBut _ _ (by first | omega | (show @Ne Nat _ _; omega)) (hs₂.extBut _ _ (by first | omega | (show @Ne Nat _ _; omega)) (gk c o hc e))
    · rintro st s' ⟨k, h', vs, hk, hr, rfl, rfl, gz, gti, gs, gto, gv, gi, gsz, gk⟩
      have hkn : k = ls.length := by
        rcases Nat.lt_or_ge k ls.length with h | h
        · rw [List.drop_eq_getElem_cons (by simpa using h), List.map_cons] at hr; cases hr
        · omega
      subst hkn
      have hcol : vs.toList = col := by
        apply List.ext_getElem?
        intro m
        rcases Nat.lt_or_ge m ls.length with h | h
        · rw [← gv m h]; simp
        · rw [List.getElem?_eq_none (l := vs.toList) (by rw [Array.length_toList]; omega), List.getElem?_eq_none (by omega)]
      refine wpAny_bind (wpAny_seqItems gto rfl ?_)
      show wpAny _ _ (newTuple vs.toList >>= _) _ _ _
      rw [hcol]
      refine wpAny_bind (wpAny_newTuple ?_ (by omega))
      refine wpAny_bind ?_
      unfold Builtin.SmallTypes.ownedTupleHandOut
      have gz₁ : IsZipN (h'.push { cls := .type "tuple", data := .seq col.toArray }) (b + ls.length + 2) (b + ls.length) (b + ls.length + 1) .ellipsis f1 := Heap.get?_push_of_some _ gz
      refine wpAny_bind (wpAny_setField_rec (s := { s with heap := h'.push { cls := .type "tuple", data := .seq col.toArray } }) gz₁ (by simp) fun h₇ hz₇ hs₇ => ?_)
      replace hz₇ : IsZipN h₇ (b + ls.length + 2) (b + ls.length) (b + ls.length + 1) (rawInt h'.objs.size) f1 := hz₇
      refine wpAny_setField_rec hz₇ (by simp) fun h₈ hz₈ hs₈ => ?_
      replace hz₈ : IsZipN h₈ (b + ls.length + 2) (b + ls.length) (b + ls.length + 1) (rawInt h'.objs.size) (.bool false) := hz₈
      have up : ∀ c o, c ≠ b + ls.length + 2 → h'.get? c = some o → h₈.get? c = some o := fun c o c1 e => hs₈.extBut _ _ c1 (hs₇.extBut _ _ c1 (Heap.get?_push_of_some _ e))
      have hzlt : b + ls.length + 2 < h'.objs.size := Heap.lt_size gz
      have hT₈ : IsTup h₈ h'.objs.size col.toArray := hs₈.extBut _ _ (Nat.ne_of_gt hzlt) (hs₇.extBut _ _ (Nat.ne_of_gt hzlt) (Heap.get?_push_size _ rfl))
      have hz8 : h₈.objs.size = h'.objs.size + 1 := by rw [hs₈.1, hs₇.1, Heap.size_push]
      rw [gsz] at hT₈ hz8 hz₈
      refine wpAny_pure ⟨_, rfl, ?_⟩
      show Q (.ref h'.objs.size) _
      rw [gsz]
      refine hQ h₈ (rawInt s.heap.objs.size) (.bool false) ⟨hz₈, up _ _ (by first | omega | (show @Ne Nat _ _; omega)) gti, ⟨vs, gs, up _ _ (by first | omega | (show @Ne Nat _ _; omega)) gto⟩, fun m q e => ?_⟩ (.inr ⟨_, rfl⟩) hT₈ hz8 fun c o hc e => up _ _ (by first | omega | (show @Ne Nat _ _; omega)) (gk c o hc e)
      have hh := gi m q e
      have hml := lt_of_get e
      rw [if_pos hml] at hh
      exact hh.at fun o u => up _ o (by first | omega | (show @Ne Nat _ _; omega)) u
    · obtain ⟨vs, gs, gto⟩ := hz₀.to
      refine ⟨0, h₁, vs, by omega, by simp, rfl, rfl, hz₁, hs₁.extBut _ _ (by first | omega | (show @Ne Nat _ _; omega)) hz₀.ti, gs, hs₁.extBut _ _ (by first | omega | (show @Ne Nat _ _; omega)) gto, fun m hm => absurd hm (by omega), fun m q e => ?_, hs₁.1.trans hsz₀, fun c o hc e => hs₁.extBut _ _ (by first | omega | (show @Ne Nat _ _; omega)) (hk₀ c o hc e)⟩
      rw [if_neg (by omega)]
      exact (hz₀.it m q e).extBut hs₁.extBut (by have := lt_of_get e; first | omega | (show @Ne Nat _ _; omega))
  | false =>
    simp only [Bool.false_eq_true, if_false]
    refine wpAny_bind ?_
    rw [← Array.forIn_toList]
    refine wpAny_forIn_list _ (fun rest st s' => ∃ (k : Nat) (h' : Heap), k ≤ ls.length ∧ rest = ((List.range ls.length).drop k).map (fun k => Value.ref (b + k)) ∧ st = (none, (col.take k).toArray) ∧ s' = { s with heap := h' } ∧
      IsZipN h' (b + ls.length + 2) (b + ls.length) (b + ls.length + 1) f0 f1 ∧ IsTup h' (b + ls.length) (itsN b ls.length).toArray ∧ (∃ vs : Array Value, vs.size = ls.length ∧ IsTup h' (b + ls.length + 1) vs) ∧
      (∀ (m : Nat) (q : Zq), ls[m]? = some q → ItA h' q.t (b + m) q.l (if m < k then j + 1 else j)) ∧ h'.objs.size = s.heap.objs.size ∧ Kp b ls.length s.heap h') _ ?_ ?_ _ _ ?_
    · rintro x rest st s' ⟨k, h', hk, hr, rfl, rfl, gz, gti, gto, gi, gsz, gk⟩
      have hkl : k < ls.length := by
        rcases Nat.lt_or_ge k ls.length with h | h
        · exact h
        · rw [List.drop_of_length_le (by simpa using h)] at hr; cases hr
      rw [List.drop_eq_getElem_cons (by simpa using hkl), List.map_cons] at hr
      injection hr with hr1 hr2
      subst hr1
      simp only [List.getElem_range] at *
      obtain ⟨q, el⟩ : ∃ q, ls[k]? = some q := ⟨_, List.getElem?_eq_getElem hkl⟩
      have hit := gi k q el
      rw [if_neg (by omega)] at hit
      obtain ⟨v, ev⟩ : ∃ v, col[k]? = some v := ⟨_, List.getElem?_eq_getElem (by omega)⟩
      have hxv : q.xs[j]? = some v := (hx k q el).trans ev
      have hll := (hl.kp gk) k q el
      refine wpAny_bind (wpAny_holding ?_)
      show wpAny _ _ (Builtin.SmallTypes.nextOf (.ref (b + k)) >>= _) _ _ _
      refine wpAny_bind (nextA_item (s := { s with heap := h' }) hit hll.1 hxv fun h₂ h1₂ hs₂ => wpAny_pure (wpAny_pure ?_))
      refine ⟨k + 1, h₂, by omega, hr2, ?_, rfl, hs₂.extBut _ _ (by first | omega | (show @Ne Nat _ _; omega)) gz, hs₂.extBut _ _ (by first | omega | (show @Ne Nat _ _; omega)) gti, ?_, fun m q' e' => ?_, hs₂.1.trans gsz, fun c o hc e => hs₂.extBut _ _ (by first | omega | (show @Ne Nat _ _; omega)) (gk c o hc e)⟩
      · rw [List.take_succ, ev]
        simp
      · obtain ⟨vs, e1, e2⟩ := gto
        exact ⟨vs, e1, hs₂.extBut _ _ (by first | omega | (show @Ne Nat _ _; omega)) e2⟩
      · have hml := lt_of_get e'
        by_cases hmk : m = k
        · subst hmk
          rw [el] at e'
          cases e'
          rw [if_pos (by omega)]
          exact h1₂
        · have hh := gi m q' e'
          have e3 : (if m < k + 1 then j + 1 else j) = (if m < k then j + 1 else j) := by
            by_cases h : m < k
            · rw [if_pos h, if_pos (by omega)]
            · rw [if_neg h, if_neg (by omega)]
          rw [e3]
          exact hh.extBut hs₂.extBut (by first | omega | (show @Ne Nat _ _; omega))
    · rintro st s' ⟨k, h', hk, hr, rfl, rfl, gz, gti, ⟨vs, gs, gto⟩, gi, gsz, gk⟩
      have hkn : k = ls.length := by
        rcases Nat.lt_or_ge k ls.length with h | h
        · rw [List.drop_eq_getElem_cons (by simpa using h), List.map_cons] at hr; cases hr
        · omega
      subst hkn
      rw [List.take_of_length_le (by omega)]
      refine wpAny_bind (wpAny_newTuple ?_ (by simp; omega))
      have up : ∀ c o, h'.get? c = some o → (h'.push { cls := .type "tuple", data := .seq col.toArray }).get? c = some o := fun c o e => Heap.get?_push_of_some _ e
      have hT : IsTup (h'.push { cls := .type "tuple", data := .seq col.toArray }) h'.objs.size col.toArray := Heap.get?_push_size _ rfl
      refine wpAny_pure ⟨_, rfl, ?_⟩
      show Q (.ref h'.objs.size) _
      rw [gsz] at hT ⊢
      refine hQ _ f0 f1 ⟨up _ _ gz, up _ _ gti, ⟨vs, gs, up _ _ gto⟩, fun m q e => ?_⟩ hf hT (by rw [Heap.size_push, gsz]) fun c o hc e => up _ _ (gk c o hc e)
      have hh := gi m q e
      rw [if_pos (lt_of_get e)] at hh
      exact hh.at fun o u => up _ o u
    · refine ⟨0, h₀, by omega, by simp [itsN], by simp, rfl, hz₀.z, hz₀.ti, hz₀.to, fun m q e => ?_, hsz₀, hk₀⟩
      rw [if_neg (by omega)]
      exact hz₀.it m q e
end
end Q

set_option maxHeartbeats 1000000
/-! ZipM: the end of zip(*rows), its making. -/
namespace Q
open PySem PySem.Spec PyProof.Rows L2
section
variable {prog : Program} {w : World} {A : Around} {E : Value → Shared → Prop} {s : Shared}
theorem zipN_end {b : Nat} {ls : List Zq} {j : Nat} {f0 f1 : Value} {Q : Fin → Shared → Prop} (hh : A.handled = none) (hz : ZS s.heap b ls j f0 f1) (hf : F0 f0) (hl : ZL s.heap b ls) (hn : 0 < ls.length)
    (hx : ∀ (m : Nat) (q : Zq), ls[m]? = some q → q.xs[j]? = none)
    (hE : ∀ (h' : Heap) (e : Addr), Kp b ls.length s.heap h' → (∃ o, h'.get? e = some o ∧ o.cls = .type "StopIteration") → E (.ref e) { s with heap := h' }) :
    wpAny (model prog w) A (Builtin.«zip.__next__» ⟨[.ref (b + ls.length + 2)], []⟩) Q E s := by
  have hne : (itsN b ls.length).toArray.isEmpty = false := by
    rw [Array.isEmpty_eq_false_iff]
    intro e
    have := congrArg Array.size e
    simp [itsN_len] at this
    rw [this] at hn
    simp at hn
  have hr : List.range ls.length = 0 :: (List.range ls.length).drop 1 := by
    have := List.drop_eq_getElem_cons (l := List.range ls.length) (i := 0) (by simpa using hn)
    simpa using this
  obtain ⟨q, el⟩ : ∃ q, ls[0]? = some q := ⟨_, List.getElem?_eq_getElem hn⟩
  show wpAny _ _ (field (.ref (b + ls.length + 2)) 2 >>= _) _ _ _
  refine wpAny_bind (wpAny_field hz.z rfl (x := .bool false) rfl ?_)
  show wpAny _ _ (field (.ref (b + ls.length + 2)) 3 >>= _) _ _ _
  refine wpAny_bind (wpAny_field hz.z rfl (x := .ref (b + ls.length)) rfl ?_)
  refine wpAny_bind (wpAny_seqItems hz.ti rfl ?_)
  simp only [hne, Bool.false_eq_true, if_false]
  refine wpAny_bind (free_any hz hf fun r h₀ f1 hz₀ hsz₀ hk₀ => ?_)
  have hl₀ := hl.kp hk₀
  have hit : ItA h₀ q.t (b + 0) q.l j := hz₀.it 0 q el
  cases r with
  | true =>
    simp only [if_true]
    refine wpAny_bind (wpAny_rule ?_)
    refine wpAny_bind (wpAny_field hz₀.z rfl (x := .ref (b + ls.length + 1)) rfl ?_)
    refine wpAny_bind (wpAny_setField_rec hz₀.z (by simp) fun h₁ hz₁ hs₁ => ?_)
    replace hz₁ : IsZipN h₁ (b + ls.length + 2) (b + ls.length) (b + ls.length + 1) .ellipsis f1 := hz₁
    refine wpAny_bind ?_
    rw [itsN_zipIdx, hr, List.map_cons, List.forIn_cons]
    refine wpAny_bind (wpAny_bind (wpAny_onRaise ?_))
    show wpAny _ _ (Builtin.SmallTypes.nextOf (.ref (b + 0)) >>= _) _ _ _
    refine wpAny_bind (nextA_end (s := { s with heap := h₁ }) hh (hit.extBut hs₁.extBut (by show @Ne Nat _ _; omega)) ((hl₀ 0 q el).1.extBut hs₁.extBut (by have := (hl₀ 0 q el).2; show @Ne Nat _ _; omega)) (hx 0 q el) fun h₂ e hs₂ he => ?_)
    obtain ⟨oe, hoe, hce⟩ := he
    have hz₂ : IsZipN h₂ (b + ls.length + 2) (b + ls.length) (b + ls.length + 1) .ellipsis f1 := hs₂ _ _ (by show @Ne Nat _ _; omega) hz₁
    have hez : e ≠ b + ls.length + 2 := fun x => by subst x; rw [hz₂] at hoe; cases hoe; simp at hce
    refine wpAny_setField_rec hz₂ (by simp) fun h₃ _ hs₃ => hE h₃ e (fun c o hc x => hs₃.extBut _ _ (by show @Ne Nat _ _; omega) (hs₂ _ _ (by show @Ne Nat _ _; omega) (hs₁.extBut _ _ (by show @Ne Nat _ _; omega) (hk₀ c o hc x)))) ⟨oe, hs₃.extBut _ _ hez hoe, hce⟩
  | false =>
    simp only [Bool.false_eq_true, if_false]
    refine wpAny_bind ?_
    rw [← Array.forIn_toList]
    show wpAny _ _ (forIn (itsN b ls.length) _ _) _ _ _
    unfold itsN
    rw [hr, List.map_cons, List.forIn_cons]
    refine wpAny_bind (wpAny_bind (wpAny_holding ?_))
    show wpAny _ _ (Builtin.SmallTypes.nextOf (.ref (b + 0)) >>= _) _ _ _
    refine wpAny_bind (nextA_end (s := { s with heap := h₀ }) hh hit (hl₀ 0 q el).1 (hx 0 q el) fun h₂ e hs₂ he => ?_)
    exact hE h₂ e (fun c o hc x => hs₂ _ _ (by show @Ne Nat _ _; omega) (hk₀ c o hc x)) he
theorem pyNext_zipN_item {b : Nat} {ls : List Zq} {j : Nat} {f0 f1 : Value} {col : List Value} {Q : Option Value → Shared → Prop} (hz : ZS s.heap b ls j f0 f1) (hf : F0 f0) (hl : ZL s.heap b ls) (hn : 0 < ls.length) (hn2 : ls.length ≤ sizeLine)
    (hc : col.length = ls.length) (hx : ∀ (m : Nat) (q : Zq), ls[m]? = some q → q.xs[j]? = col[m]?)
    (hQ : ∀ (h' : Heap) (g0 g1 : Value), ZS h' b ls (j + 1) g0 g1 → F0 g0 → IsTup h' s.heap.objs.size col.toArray → h'.objs.size = s.heap.objs.size + 1 → Kp b ls.length s.heap h' → Q (some (.ref s.heap.objs.size)) { s with heap := h' }) :
    wpAny (model prog w) A (pyNext (.ref (b + ls.length + 2))) Q E s := by
  have hT : s.TypeIs (.ref (b + ls.length + 2)) "zip" := ⟨_, hz.z, rfl⟩
  unfold pyNext
  exact wpAny_bind (wpAny_attempt (wpAny_callSpecial?_slot (name := Str.ofString "__next__") hT PySem.F.slot_zip_next
    (wpAny_call_entry PySem.F.slot_zip_next hT PySem.F.entry_zip_next
      (zipN_item hz hf hl hn hn2 hc hx fun h' g0 g1 a1 a2 a3 a4 a5 => wpAny_pure (hQ h' g0 g1 a1 a2 a3 a4 a5)) (PySem.F.args_zip_next_1 _))))
theorem pyNext_zipN_end {b : Nat} {ls : List Zq} {j : Nat} {f0 f1 : Value} {Q : Option Value → Shared → Prop} (hh : A.handled = none) (hz : ZS s.heap b ls j f0 f1) (hf : F0 f0) (hl : ZL s.heap b ls) (hn : 0 < ls.length)
    (hx : ∀ (m : Nat) (q : Zq), ls[m]? = some q → q.xs[j]? = none)
    (hQ : ∀ h' : Heap, Kp b ls.length s.heap h' → Q none { s with heap := h' }) : wpAny (model prog w) A (pyNext (.ref (b + ls.length + 2))) Q E s := by
  have hT : s.TypeIs (.ref (b + ls.length + 2)) "zip" := ⟨_, hz.z, rfl⟩
  unfold pyNext
  refine wpAny_bind (wpAny_attempt (wpAny_callSpecial?_slot (name := Str.ofString "__next__") hT PySem.F.slot_zip_next
    (wpAny_call_entry PySem.F.slot_zip_next hT PySem.F.entry_zip_next (zipN_end hh hz hf hl hn hx fun h' e hk he => ?_) (PySem.F.args_zip_next_1 _))))
  obtain ⟨o, ho, hc⟩ := he
  refine wpAny_bind (wpAny_isInstance (T := "StopIteration") (b := true) ⟨o, ho, hc⟩ isSubtype_stop ?_)
  exact wpAny_pure (hQ _ hk)
theorem pyIter_zipN {z TI TO : Addr} {f0 f1 : Value} {Q : Value → Shared → Prop} (hz : IsZipN s.heap z TI TO f0 f1) (h : Q (.ref z) s) : wpAny (model prog w) A (pyIter (.ref z)) Q E s := by
  have hT : s.TypeIs (.ref z) "zip" := ⟨_, hz, rfl⟩
  refine wpAny_pyIter_slot hT PySem.F.slot_zip_iter (wpAny_call_entry PySem.F.slot_zip_iter hT PySem.F.entry_zip_iter ?_ (PySem.F.args_zip_iter_1 _))
  show wpAny _ _ (ret (.ref z)) _ _ s
  exact wpAny_pure ⟨_, rfl, "zip", _, hT, PySem.F.slot_zip_next.lookup, h⟩
theorem meets_zipN (ls : List Zq) (hn2 : ls.length ≤ sizeLine) :
    Meets (Builtin.«zip.__new__» ⟨.type "zip" :: ls.map (fun q => .ref q.l), []⟩) (fun _ R s => (∀ q ∈ ls, SqA s.heap q.t q.l q.xs) ∧
      ∀ h' : Heap, ZS h' s.heap.objs.size ls 0 .none (.bool false) → h'.objs.size = s.heap.objs.size + ls.length + 3 → (∀ c o, s.heap.get? c = some o → h'.get? c = some o) → R (.ok (.ret (.ref (s.heap.objs.size + ls.length + 2)))) { s with heap := h' }) :=
  .of_wp fun prog w A R s h => by
    have hsub := sub_zip
    obtain ⟨hl, h⟩ := h
    unfold Builtin.«zip.__new__» Builtin.SmallTypes.newClass
    repeat (any_goals (first | assumption | wp_step))
    show wpAny _ _ (forIn (ls.map fun q => Value.ref q.l) #[] _) _ _ _
    refine wpAny_forIn_list _ (fun rest st s' => ∃ (k : Nat) (h' : Heap), k ≤ ls.length ∧ rest = (ls.drop k).map (fun q => Value.ref q.l) ∧ st = (itsN s.heap.objs.size k).toArray ∧ s' = { s with heap := h' } ∧ h'.objs.size = s.heap.objs.size + k ∧
      (∀ (m : Nat) (q : Zq), m < k → ls[m]? = some q → ItA h' q.t (s.heap.objs.size + m) q.l 0) ∧ (∀ c o, s.heap.get? c = some o → h'.get? c = some o)) _ ?_ ?_ _ _ ?_
    · rintro x rest st s' ⟨k, h', hk, hr, rfl, rfl, gs, gi, gk⟩
      have hkl : k < ls.length := by
        rcases Nat.lt_or_ge k ls.length with h | h
        · exact h
        · rw [List.drop_of_length_le h] at hr; cases hr
      rw [List.drop_eq_getElem_cons hkl, List.map_cons] at hr
      injection hr with hr1 hr2
      subst hr1
      have hq := hl ls[k] (List.getElem_mem hkl)
      refine wpAny_bind (wpAny_holding (iterA (s := { s with heap := h' }) (hq.at fun o e => gk _ o e) fun h₁ g1 g2 g3 => wpAny_pure ?_))
      refine ⟨k + 1, h₁, by omega, hr2, ?_, rfl, by rw [g1]; show h'.objs.size + 1 = _; omega, fun m q hm e => ?_, fun c o e => g3 _ _ (gk c o e)⟩
      · simp only [itsN, List.range_succ, List.map_append, List.map_cons, List.map_nil]
        rw [← List.push_toArray]
        show _ = ((List.map (fun k => Value.ref (s.heap.objs.size + k)) (List.range k)).toArray).push (Value.ref (s.heap.objs.size + k))
        rw [← gs]
      · rcases Nat.lt_or_ge m k with h | h
        · exact (gi m q h e).at fun o u => g3 _ _ u
        · have : m = k := by omega
          subst this
          rw [List.getElem?_eq_getElem hkl] at e
          have e' := Option.some.inj e
          rw [← gs, ← e']
          exact g2
    · rintro st s' ⟨k, h', hk, hr, rfl, rfl, gs, gi, gk⟩
      have hkn : k = ls.length := by
        rcases Nat.lt_or_ge k ls.length with h | h
        · rw [List.drop_eq_getElem_cons h, List.map_cons] at hr; cases hr
        · omega
      subst hkn
      refine wpAny_pure ?_
      show wpAny _ _ (newTuple (itsN s.heap.objs.size ls.length) >>= _) _ _ _
      refine wpAny_bind (wpAny_newTuple ?_ (by rw [itsN_len]; exact hn2))
      refine wpAny_bind (wpAny_newTuple ?_ (by rw [List.length_map, itsN_len]; exact hn2))
      unfold Builtin.SmallTypes.newRecord
      repeat (any_goals (first | assumption | wp_step))
      have z1 : (h'.push { cls := .type "tuple", data := .seq (itsN s.heap.objs.size ls.length).toArray }).objs.size = s.heap.objs.size + ls.length + 1 := by rw [Heap.size_push, gs]
      have z2 : ((h'.push { cls := .type "tuple", data := .seq (itsN s.heap.objs.size ls.length).toArray }).push { cls := .type "tuple", data := .seq ((itsN s.heap.objs.size ls.length).map fun _ => Value.none).toArray }).objs.size = s.heap.objs.size + ls.length + 2 := by rw [Heap.size_push, z1]
      generalize hh1 : h'.push { cls := .type "tuple", data := .seq (itsN s.heap.objs.size ls.length).toArray } = h1 at z1 z2
      have g1 : IsTup h1 (s.heap.objs.size + ls.length) (itsN s.heap.objs.size ls.length).toArray := by rw [← hh1, ← gs]; exact Heap.get?_push_size _ rfl
      have k1 : ∀ c o, h'.get? c = some o → h1.get? c = some o := fun c o e => by rw [← hh1]; exact Heap.get?_push_of_some _ e
      generalize hh2 : h1.push { cls := .type "tuple", data := .seq ((itsN s.heap.objs.size ls.length).map fun _ => Value.none).toArray } = h2 at z2
      have g2 : IsTup h2 (s.heap.objs.size + ls.length + 1) ((itsN s.heap.objs.size ls.length).map fun _ => Value.none).toArray := by rw [← hh2, ← z1]; exact Heap.get?_push_size _ rfl
      have k2 : ∀ c o, h1.get? c = some o → h2.get? c = some o := fun c o e => by rw [← hh2]; exact Heap.get?_push_of_some _ e
      refine ⟨.ref (s.heap.objs.size + ls.length + 2), ?_, ?_⟩
      · rw [z2]
      · have e3 : ∀ x y : Addr, x = s.heap.objs.size + ls.length → y = s.heap.objs.size + ls.length + 1 → R (Except.ok (Flow.ret (Value.ref (s.heap.objs.size + ls.length + 2)))) { s with heap := h2.push { cls := Value.type "zip", data := Data.fields #[Value.none, .bool false, .bool false, .ref x, .ref y] } } := by
          rintro x y rfl rfl
          refine h _ ⟨?_, ?_, ⟨((itsN s.heap.objs.size ls.length).map fun _ => Value.none).toArray, by simp [itsN_len], Heap.get?_push_of_some _ g2⟩, fun m q e => ?_⟩ (by rw [Heap.size_push, z2]) fun c o e => Heap.get?_push_of_some _ (k2 _ _ (k1 _ _ (gk _ _ e)))
          · rw [← z2]; exact Heap.get?_push_size _ rfl
          · exact Heap.get?_push_of_some _ (k2 _ _ g1)
          · exact (gi m q (lt_of_get e) e).at fun o u => Heap.get?_push_of_some _ (k2 _ _ (k1 _ _ u))
        exact e3 h'.objs.size h1.objs.size gs z1
    · exact ⟨0, s.heap, by omega, by simp, rfl, rfl, rfl, fun m q hm => absurd hm (by omega), fun _ _ e => e⟩
theorem tcall_zip : ∀ args : List Value, 1 ≤ args.length ∧ args.length ≤ 8 → checkTypeCall "zip" ⟨args, []⟩ = pure ()
  | [a], _ => by kernel_rfl
  | [a, b], _ => by kernel_rfl
  | [a, b, c], _ => by kernel_rfl
  | [a, b, c, d], _ => by kernel_rfl
  | [a, b, c, d, e], _ => by kernel_rfl
  | [a, b, c, d, e, f], _ => by kernel_rfl
  | [a, b, c, d, e, f, g], _ => by kernel_rfl
  | [a, b, c, d, e, f, g, h], _ => by kernel_rfl
  | [], h => absurd h.1 (by decide)
  | _ :: _ :: _ :: _ :: _ :: _ :: _ :: _ :: _ :: _, h => absurd h.2 (by simp)
theorem ncall_zip : ∀ args : List Value, 1 ≤ args.length ∧ args.length ≤ 8 → checkBuiltinCall "zip.__new__" ⟨.type "zip" :: args, []⟩ = pure ()
  | [a], _ => by kernel_rfl
  | [a, b], _ => by kernel_rfl
  | [a, b, c], _ => by kernel_rfl
  | [a, b, c, d], _ => by kernel_rfl
  | [a, b, c, d, e], _ => by kernel_rfl
  | [a, b, c, d, e, f], _ => by kernel_rfl
  | [a, b, c, d, e, f, g], _ => by kernel_rfl
  | [a, b, c, d, e, f, g, h], _ => by kernel_rfl
  | [], h => absurd h.1 (by decide)
  | _ :: _ :: _ :: _ :: _ :: _ :: _ :: _ :: _ :: _, h => absurd h.2 (by simp)
theorem ocall_zip (o : Value) : ∀ args : List Value, 1 ≤ args.length ∧ args.length ≤ 8 → argsOk "object.__init__" ⟨o :: args, []⟩ := by
  intro args hl
  unfold argsOk
  rw [signature?_of (id := "object.__init__") (n := ['_', '_', 't', 'i', 'n', 'i', '_', '_']) (o := ['t', 'c', 'e', 'j', 'b', 'o']) (by kernel_rfl) PySem.F.owner_object]
  match args, hl with
  | [a], _ => kernel_rfl
  | [a, b], _ => kernel_rfl
  | [a, b, c], _ => kernel_rfl
  | [a, b, c, d], _ => kernel_rfl
  | [a, b, c, d, e], _ => kernel_rfl
  | [a, b, c, d, e, f], _ => kernel_rfl
  | [a, b, c, d, e, f, g], _ => kernel_rfl
  | [a, b, c, d, e, f, g, h], _ => kernel_rfl
  | [], h => exact absurd h.1 (by decide)
  | _ :: _ :: _ :: _ :: _ :: _ :: _ :: _ :: _ :: _, h => exact absurd h.2 (by simp)
theorem call_zipN (ls : List Zq) (hl : 1 ≤ ls.length ∧ ls.length ≤ 8) (hs : ∀ q ∈ ls, SqA s.heap q.t q.l q.xs) {Q : Value → Shared → Prop}
    (h : ∀ h' : Heap, ZS h' s.heap.objs.size ls 0 .none (.bool false) → h'.objs.size = s.heap.objs.size + ls.length + 3 → (∀ c o, s.heap.get? c = some o → h'.get? c = some o) → Q (.ref (s.heap.objs.size + ls.length + 2)) { s with heap := h' }) :
    wpAny (model prog w) A (call (.type "zip") (ls.map fun q => .ref q.l)) Q E s := by
  have hl' : 1 ≤ (ls.map fun q => Value.ref q.l).length ∧ (ls.map fun q => Value.ref q.l).length ≤ 8 := by simpa using hl
  refine callType_new PySem.F.called_zip (by decide) (tcall_zip _ hl') (ncall_zip _ hl') (fun obj => ocall_zip obj _ hl') PySem.F.entry_zip_new (meets_zipN ls (by rw [sizeLine_eq]; omega)) ⟨hs, fun h' z1 z2 z3 => ?_⟩
  exact ⟨⟨_, z1.z, rfl⟩, h h' z1 z2 z3⟩
theorem go_zipN {tg : Expr} {b : Nat} {ls : List Zq} {j : Nat} {g0 g1 u : Value} {Q : Unit → Shared → Prop} (hz : ZS s.heap b ls j g0 g1) (hf : F0 g0)
    (h : ∀ (h' : Heap) (g0' : Value), ZS h' b ls j g0' g1 → F0 g0' → Heap.SameBut (b + ls.length + 2) s.heap h' → Q () { s with heap := h' }) : wpAny (model prog w) A (letOwnedTupleGo tg (.ref (b + ls.length + 2)) u) Q E s := by
  have same : Q () s := h s.heap g0 hz hf (Heap.SameBut.refl _ _)
  have go : wpAny (model prog w) A (do
    let (.ref r, .ref a) := ((.ref (b + ls.length + 2) : Value), u) | return
    let o ← load r
    match o.cls, o.data with
    | .type n, .fields vs =>
      if ["enumerate", "zip", "dict_itemiterator", "dict_reverseitemiterator", "odict_iterator", "itertools.zip_longest", "itertools.pairwise"].contains n && vs[0]? == some (rawInt a) then
        rule "for.unpacks-the-owned-tuple"
        updateField r 0 .none
    | _, _ => pure ()) Q E s := by
    cases u <;> first | exact wpAny_pure same | skip
    refine wpAny_bind (wpAny_load hz.z ?_)
    dsimp only
    split
    · refine wpAny_bind (wpAny_rule ?_)
      show wpAny _ _ (setField (.ref (b + ls.length + 2)) 0 .none) Q E s
      refine wpAny_setField_rec hz.z (by simp) fun h' hz' hs' => h h' .none ⟨hz', hs'.extBut _ _ (by show @Ne Nat _ _; omega) hz.ti, ?_, fun m q e => (hz.it m q e).extBut hs'.extBut (by have := lt_of_get e; show @Ne Nat _ _; omega)⟩ (.inl rfl) hs'
      obtain ⟨vs, e1, e2⟩ := hz.to
      exact ⟨vs, e1, hs'.extBut _ _ (by show @Ne Nat _ _; omega) e2⟩
    · exact wpAny_pure same
  unfold letOwnedTupleGo
  cases tg <;> first | exact wpAny_pure same | exact go
end
end Q

set_option maxHeartbeats 4000000
/-! TM1: tuple * 1. -/
namespace L2
open PySem PySem.Spec PyProof.Rows
theorem tuple_mul1 (l : Addr) (items : Array Value) (n : Nat) (dd : Option Addr) (sl : Array (Option Value)) (u : Tok) :
    Meets (Builtin.«tuple.__mul__» ⟨[.ref l, .int 1 u], []⟩) (fun _ R s => s.heap.get? l = some { cls := .type "tuple", dict := dd, data := .seq items n, slots := sl } ∧ R (.ok (.ret (.ref l))) s) :=
  .of_wp fun prog w A R s h => by
    obtain ⟨hp, g, d, tk, os⟩ := s
    obtain ⟨hl, h⟩ := h
    have f1 := AutoSeq1.idx_int
    have c0 : (decide ((1 : Int) < -(2 ^ 63)) || decide ((1 : Int) ≥ 2 ^ 63)) = false := by decide
    have c1 : (items.isEmpty || (1 : Int) == 1) = true := by rw [beq_self_eq_true, Bool.or_true]
    wp_walk using wpAny_loadPart' hl
    repeat (first
      | (refine wpAny_ite_false (decide_eq_false (by rw [c0]; exact Bool.false_ne_true)) ?_; wp_walk using wpAny_loadPart' hl)
      | (refine wpAny_ite_true (decide_eq_true c1) ?_; wp_walk using wpAny_loadPart' hl))
    exact ⟨_, rfl, h⟩
section
variable {X : Cx}
theorem op_repT1 : OpR X (binaryOp .Mult) (fun x y H Q => ∃ l xs, x = .ref l ∧ y = .int 1 ∧ SqT X.K H l xs ∧ Q (.ref l) H) := by
  intro pins s σ H x y v u Q I rx ry h
  obtain ⟨l, xs, rfl, rfl, hT, q⟩ := h
  cases rx
  obtain ⟨t, rfl⟩ := ry
  obtain ⟨its, r, ⟨⟨cls, dd, data, sl⟩, ho, hc, n, hd⟩, hs⟩ := I.tuple hT
  simp only at hc hd
  subst hc hd
  refine wpAny_binaryOp_repeat_ref (T := "tuple") (U := "int") (by decide) ⟨_, ho, rfl⟩ (fun s' => typeIs_int s' 1 t) noFill_tuple_mul F.fills_int_mul F.slot_int_rmul repeat_tuple F.slot_int_index.lookup
    (call_meets F.slot_int_rmul (typeIs_int s 1 t) F.entry_int_rmul (F.args_int_rmul_2 _ _) (int_rmul_tuple 1 t l its.toArray n dd sl)
      ⟨ho, rfl, ⟨_, ho, rfl⟩, call_meets F.slot_tuple_mul ⟨_, ho, rfl⟩ F.entry_tuple_mul (F.args_tuple_mul_2 _ _) (tuple_mul1 l its.toArray n dd sl t) ⟨ho, ?_⟩⟩)
  exact ⟨.ref l, H, I, rfl, q⟩
end
end L2

/-! Lay2: steps of statements; walks; operators by data. -/
namespace Q
open PySem L2
section
variable {S : Type}
/-- a root that may be written -/
def isMut : Sl → Bool
  | .own _ => true
  | .obj _ _ => true
  | _ => false
theorem isMut_own {sl : Sl} (h : isMut sl = true) : ∃ p, isOwn sl = some p := by cases sl <;> first | exact ⟨_, rfl⟩ | cases h
def Pt.mroot (P : Pt) (a : Addr) : Prop := ∃ (i : Nat) (sl : Sl), P.ρ[i]? = some sl ∧ isMut sl = true ∧ P.r i = a
theorem Pt.root_of {P : Pt} {a : Addr} (h : P.mroot a) : P.root a := by
  obtain ⟨i, sl, e, m, q⟩ := h
  obtain ⟨p, ep⟩ := isMut_own m
  exact ⟨i, sl, p, e, ep, q⟩
/-- behind statements -/
structure Stp (T : StK S) (P : Pt) (s : S) (H : Hp) (P' : Pt) (s' : S) (H' : Hp) : Prop where
  keep : ∀ a o, H a = some o → ¬ T.A s a → ¬ P.mroot a → H' a = some o
  live : ∀ a, H a ≠ none → H' a ≠ none
  grow : ∀ a, T.A s' a → T.A s a ∨ H a = none
  rgrow : ∀ a, P'.root a → P.root a ∨ H a = none
  mgrow : ∀ a, P'.mroot a → P.mroot a ∨ H a = none
  zs : P'.Z = P.Z
  lk : ∀ i ds, P'.ρ[i]? = some (.lck ds) → (∃ es, P.ρ[i]? = some (.lck es)) ∧ P'.r i = P.r i
theorem Xt.stp {T : StK S} {P : Pt} {s s' : S} {H H' : Hp} (x : Xt T s s' H H') : Stp T P s H P s' H' := ⟨fun a o e n _ => x.keep a o e n, x.live, x.grow, fun _ h => .inl h, fun _ h => .inl h, rfl, fun i ds e => ⟨⟨ds, e⟩, rfl⟩⟩
theorem Stp.refl {T : StK S} {P : Pt} {s : S} {H : Hp} : Stp T P s H P s H := Xt.refl.stp
theorem Stp.none_of {T : StK S} {P P' : Pt} {s s' : S} {H H' : Hp} (x : Stp T P s H P' s' H') {a : Addr} (h : H' a = none) : H a = none := by
  cases e : H a with
  | none => rfl
  | some o => exact absurd h (x.live a (by rw [e]; simp))
theorem Stp.trans {T : StK S} {P P1 P2 : Pt} {s s1 s2 : S} {H H1 H2 : Hp} (a : Stp T P s H P1 s1 H1) (b : Stp T P1 s1 H1 P2 s2 H2) : Stp T P s H P2 s2 H2 := by
  refine ⟨fun x o e n m => b.keep x o (a.keep x o e n m) (fun h => ?_) (fun h => ?_), fun x h => b.live x (a.live x h), fun x h => ?_, fun x h => ?_, fun x h => ?_, b.zs.trans a.zs, fun i ds e => ?_⟩
  · rcases a.grow x h with q | q
    · exact n q
    · rw [q] at e; cases e
  · rcases a.mgrow x h with q | q
    · exact m q
    · rw [q] at e; cases e
  · rcases b.grow x h with q | q
    · exact a.grow x q
    · exact .inr (a.none_of q)
  · rcases b.rgrow x h with q | q
    · exact a.rgrow x q
    · exact .inr (a.none_of q)
  · rcases b.mgrow x h with q | q
    · exact a.mgrow x q
    · exact .inr (a.none_of q)
  · obtain ⟨⟨es, e1⟩, e2⟩ := b.lk i ds e
    obtain ⟨e3, e4⟩ := a.lk i es e1
    exact ⟨e3, e2.trans e4⟩
theorem Rel.rootSoft {C : Cn S} {P : Pt} {σ : L2.St} {s : S} {H : Hp} (R : Rel C P σ H s) {a : Addr} (h : P.root a) : ∃ o, H a = some o ∧ Soft o := by
  obtain ⟨i, sl, ds, e1, e2, rfl⟩ := h
  obtain ⟨vs, e, _⟩ := (R.own e1 e2).is
  exact e.soft
theorem Stp.stays {C : Cn S} {P P' : Pt} {σ : L2.St} {s s' : S} {H H' : Hp} {F : Addr → Prop} (x : Stp C.T P s H P' s' H') (R : Rel C P σ H s) (hF : ∀ a, F a → ¬ C.T.A s a ∧ ¬ P.mroot a) : Stays F H H' := by
  refine ⟨fun a xs e => x.keep a _ e (nT R.st e) fun m => ?_, fun a o xs e => x.keep a _ e (nZ R.st e) fun m => ?_, fun a xs f e => x.keep a _ e (hF a f).1 (hF a f).2, fun a f e => x.keep a _ e (hF a f).1 (hF a f).2, fun a o f e => x.keep a _ e (hF a f).1 (hF a f).2, fun a fs e => x.keep a _ e (nXd R.st e) fun m => ?_⟩
  · obtain ⟨o, q, w⟩ := R.rootSoft (Pt.root_of m); rw [e] at q; cases q; exact w
  · obtain ⟨o, q, w⟩ := R.rootSoft (Pt.root_of m); rw [e] at q; cases q; exact w
  · obtain ⟨o, q, w⟩ := R.rootSoft (Pt.root_of m); rw [e] at q; cases q; exact w
theorem Stp.fc {C : Cn S} {P P' : Pt} {s s' : S} {H H' : Hp} (x : Stp C.T P s H P' s' H') : ∀ a, Fc C P s a → H a ≠ none → Fc C P' s' a := fun a f n =>
  ⟨f.1, fun q => (x.rgrow a q).elim f.2.1 n, fun z => f.2.2.1 (by rw [x.zs] at z; exact z), fun q => (x.grow a q).elim f.2.2.2 n⟩
theorem Rp.stp {C : Cn S} {P P' : Pt} {σ : L2.St} {s s' : S} {H H' : Hp} {v : V} {d : D} (h : Rp C.K H (Fc C P s) v d) (x : Stp C.T P s H P' s' H') (R : Rel C P σ H s) : Rp C.K H' (Fc C P' s') v d :=
  h.step (x.stays R fun _ f => ⟨f.2.2.2, fun m => f.2.1 (Pt.root_of m)⟩) x.fc
theorem RpL.stp {C : Cn S} {P P' : Pt} {σ : L2.St} {s s' : S} {H H' : Hp} {v : List V} {d : List D} (h : RpL C.K H (Fc C P s) v d) (x : Stp C.T P s H P' s' H') (R : Rel C P σ H s) : RpL C.K H' (Fc C P' s') v d :=
  h.step (x.stays R fun _ f => ⟨f.2.2.2, fun m => f.2.1 (Pt.root_of m)⟩) x.fc

/-- the iterator J walks the data ds, whatever statements do in between -/
structure Wk (C : Cn S) (P : Pt) (s : S) (H : Hp) (J : It) (ds : List D) : Prop where
  go : ∀ i d P' s' H', ds[i]? = some d → Stp C.T P s H P' s' H' → C.T.R s' H' → J.go i H' ∧ ∀ x H3, J.yld i H' x H3 → Xt C.T s' s' H' H3 ∧ C.T.R s' H3 ∧ Rp C.K H3 (Fc C P' s') x d
  stop : ∀ P' s' H', Stp C.T P s H P' s' H' → J.stop ds.length H'
end
end Q

/-! Lay3: operators by data. -/
namespace Q
open PySem L2
/-! ### data as the library's own -/
mutual
def toPy : D → Option PyData
  | .non => some .none
  | .bl b => some (.bool b)
  | .int i => some (.int i)
  | .str x => some (.str x)
  | .tup ds => (toPyL ds).map .tuple
  | .lst ds => (toPyL ds).map .list
  | .scr ds => (toPyL ds).map .list
  | .opq _ => none
  | .emp => none
  | .box _ _ => none
def toPyL : List D → Option (List PyData)
  | [] => some []
  | d :: ds => (toPy d).bind fun x => (toPyL ds).map fun xs => x :: xs
end
mutual
theorem dp_of {K : PySem.W.Frag} {H : Hp} {F : Addr → Prop} : ∀ {v : V} {d : D} {p : PyData}, Rp K H F v d → toPy d = some p → Dp K H v p
  | _, _, _, .non, e => by simp [toPy] at e; subst e; exact .non
  | _, _, _, .bl b, e => by simp [toPy] at e; subst e; exact .bl b
  | _, _, _, .int i, e => by simp [toPy] at e; subst e; exact .int i
  | _, _, _, .str x, e => by simp [toPy] at e; subst e; exact .str x
  | _, _, _, .opq v, e => by simp [toPy] at e
  | _, _, _, .emp f h, e => by simp [toPy] at e
  | _, _, _, .box f h r, e => by simp [toPy] at e
  | _, _, _, .tup h r, e => by
    simp only [toPy, Option.map_eq_some_iff] at e
    obtain ⟨ps, e1, rfl⟩ := e
    exact .tup h (dpL_of r e1)
  | _, _, _, .lst f h r, e => by
    simp only [toPy, Option.map_eq_some_iff] at e
    obtain ⟨ps, e1, rfl⟩ := e
    exact .lst (.inl (.inl h)) (dpL_of r e1)
  | _, _, _, .scr h r, e => by
    simp only [toPy, Option.map_eq_some_iff] at e
    obtain ⟨ps, e1, rfl⟩ := e
    exact .lst h.sq (dpL_of r e1)
theorem dpL_of {K : PySem.W.Frag} {H : Hp} {F : Addr → Prop} : ∀ {vs : List V} {ds : List D} {ps : List PyData}, RpL K H F vs ds → toPyL ds = some ps → DpAll K H vs ps
  | _, _, _, .nil, e => by simp [toPyL] at e; subst e; exact .nil
  | _, _, _, .cons h r, e => by
    simp only [toPyL, Option.bind_eq_some_iff, Option.map_eq_some_iff] at e
    obtain ⟨p, e1, ps, e2, rfl⟩ := e
    exact .cons (dp_of h e1) (dpL_of r e2)
end
section
variable {S : Type}
theorem dp_top {C : Cn S} {P : Pt} {s : S} {H : Hp} {v : V} {d : D} {p : PyData} (h : Top C P s H v d) (e : toPy d = some p) : Dp C.K H v p := by
  rcases h with h | ⟨a, vs, ds, e1, e2, na, e3, q⟩
  · exact dp_of h e
  · subst e1 e2
    simp only [toPy, Option.map_eq_some_iff] at e
    obtain ⟨ps, e1, rfl⟩ := e
    exact .lst (.inl (.inl e3)) (dpL_of q e1)

def ofO {α : Type} : Option α → S → Res S α
  | some d, s => .ok d s
  | none, _ => .stuck
def rB (C : Cn S) (op : D → D → Option D) : R2 := fun x y H Q => ∃ P s σ dx dy d, Rel C P σ H s ∧ Top C P s H x dx ∧ Top C P s H y dy ∧ op dx dy = some d ∧
  ∀ v H', Xt C.T s s H H' → C.T.R s H' → Fr C P s H H' v d → Q v H'
def OpD (X : Cx) (f : Value → Value → Sem Value) (op : D → D → Option D) : Prop := ∀ {S : Type} (C : Cn S), C.K = X.K → OpR X f (rB C op)
theorem Fr.plain {C : Cn S} {P : Pt} {s : S} {H H' : Hp} {v : V} {d : D} (h : Rp C.K H' (Fc C P s) v d) (n : ∀ ds, d ≠ .lst ds) : Fr C P s H H' v d := ⟨h, fun ds e => (n ds e).elim⟩
theorem Fr.newL {C : Cn S} {P : Pt} {σ : L2.St} {s : S} {H : Hp} {p : Addr} {vs : List V} {ds : List D} (R : Rel C P σ H s) (hp : H p = none) (q : RpL C.K H (Fc C P s) vs ds) : Fr C P s H (upd H p (.lst vs)) (.ref p) (.lst ds) := by
  have x : Xt C.T s s H (upd H p (.lst vs)) := Xt.new hp
  refine ⟨.lst (R.fresh hp) upd_same (q.xt x R.st), fun es e => ?_⟩
  cases e
  exact ⟨p, vs, rfl, hp, upd_same, q.step (x.stays R.st fun _ f => f.2.2.2) fun a f n => ⟨f, fun e => n (by rw [e]; exact hp)⟩⟩
theorem Fr.newT {C : Cn S} {P : Pt} {σ : L2.St} {s : S} {H : Hp} {p : Addr} {vs : List V} {ds : List D} (R : Rel C P σ H s) (hp : H p = none) (q : RpL C.K H (Fc C P s) vs ds) : Fr C P s H (upd H p (.tup vs)) (.ref p) (.tup ds) :=
  Fr.plain (.tup (.inl (.inl upd_same)) (q.xt (Xt.new hp) R.st)) fun _ e => nomatch e
theorem Fr.back {C : Cn S} {P : Pt} {s s1 s2 : S} {H H1 H' : Hp} {v : V} {d : D} (h : Fr C P s2 H1 H' v d) (x : Xt C.T s s1 H H1) : Fr C P s2 H H' v d :=
  ⟨h.1, fun ds e => let ⟨a, vs, e1, e2, r⟩ := h.2 ds e; ⟨a, vs, e1, x.none_of e2, r⟩⟩
theorem Fr.int {C : Cn S} {P : Pt} {s : S} {H H' : Hp} (i : Int) : Fr C P s H H' (.int i) (.int i) := Fr.plain (.int i) fun _ e => nomatch e
theorem Fr.bl {C : Cn S} {P : Pt} {s : S} {H H' : Hp} (i : Bool) : Fr C P s H H' (.bl i) (.bl i) := Fr.plain (.bl i) fun _ e => nomatch e
theorem Fr.str {C : Cn S} {P : Pt} {s : S} {H H' : Hp} (i : Str) : Fr C P s H H' (.str i) (.str i) := Fr.plain (.str i) fun _ e => nomatch e
theorem top_int {C : Cn S} {P : Pt} {s : S} {H : Hp} {v : V} {i : Int} (h : Top C P s H v (.int i)) : v = .int i := by
  rcases h with h | ⟨_, _, _, _, e, _⟩
  · cases h; rfl
  · cases e
theorem top_str {C : Cn S} {P : Pt} {s : S} {H : Hp} {v : V} {i : Str} (h : Top C P s H v (.str i)) : v = .str i := by
  rcases h with h | ⟨_, _, _, _, e, _⟩
  · cases h; rfl
  · cases e
theorem top_bl {C : Cn S} {P : Pt} {s : S} {H : Hp} {v : V} {i : Bool} (h : Top C P s H v (.bl i)) : v = .bl i := by
  rcases h with h | ⟨_, _, _, _, e, _⟩
  · cases h; rfl
  · cases e
theorem top_non {C : Cn S} {P : Pt} {s : S} {H : Hp} {v : V} (h : Top C P s H v .non) : v = .non := by
  rcases h with h | ⟨_, _, _, _, e, _⟩
  · cases h; rfl
  · cases e
theorem rp_int {K : PySem.W.Frag} {H : Hp} {F : Addr → Prop} {v : V} {i : Int} (h : Rp K H F v (.int i)) : v = .int i := by cases h; rfl
theorem rp_str {K : PySem.W.Frag} {H : Hp} {F : Addr → Prop} {v : V} {i : Str} (h : Rp K H F v (.str i)) : v = .str i := by cases h; rfl
theorem rp_bl {K : PySem.W.Frag} {H : Hp} {F : Addr → Prop} {v : V} {i : Bool} (h : Rp K H F v (.bl i)) : v = .bl i := by cases h; rfl
end

/-! ### arithmetic -/
def dAdd : D → D → Option D
  | .int i, .int j => some (.int (i + j))
  | .bl b, .int j => some (.int ((if b = true then (1 : Int) else 0) + j))
  | .str a, .str b => if a.length + b.length ≤ sizeLine then some (.str (a ++ b)) else none
  | .tup a, .tup b => if a.length + b.length ≤ sizeLine then some (.tup (a ++ b)) else none
  | .lst a, .lst b => if a.length + b.length ≤ sizeLine then some (.lst (a ++ b)) else none
  | .lst a, .scr b => if a.length + b.length ≤ sizeLine then some (.lst (a ++ b)) else none
  | .scr a, .lst b => if a.length + b.length ≤ sizeLine then some (.lst (a ++ b)) else none
  | _, _ => none
/-- a list that is not locked -/
def dSub : D → D → Option D
  | .int i, .int j => some (.int (i - j))
  | _, _ => none
instance (i j : Int) : Decidable (CMul i j) := by unfold CMul; exact inferInstance
instance (i j : Int) : Decidable (CMulW i j) := by unfold CMulW; exact inferInstance
instance (a : Str) (k : Int) : Decidable (MulOk a k) := by unfold MulOk; exact inferInstance
def dMul : D → D → Option D
  | .int i, .int j => if CMul i j ∨ CMulW i j then some (.int (i * j)) else none
  | .str a, .int k => if MulOk a k then some (.str (Txt.mul a k)) else none
  | .lst ds, .int k => if (-(2 ^ 63) ≤ k ∧ k < 2 ^ 63) ∧ ds.length * k.toNat ≤ sizeLine then some (.lst (List.replicate k.toNat ds).flatten) else none
  | .tup ds, .int k => if ds.isEmpty = false ∧ 2 ≤ k ∧ k ≤ 1000 ∧ ds.length ≤ 1000 then some (.tup (List.replicate k.toNat ds).flatten) else if ds.isEmpty = false ∧ k = 1 then some (.tup ds) else none
  | _, _ => none
instance (i j : Int) : Decidable (CDivW i j) := by unfold CDivW; exact inferInstance
def dDiv : D → D → Option D
  | .int i, .int j => if CDivW i j then some (.int (i / j)) else none
  | _, _ => none
def dMod : D → D → Option D
  | .int i, .int j => if 0 < j then some (.int (i % j)) else none
  | _, _ => none
instance (i j : Int) : Decidable (CPow i j) := by unfold CPow; exact inferInstance
def dPow : D → D → Option D
  | .int i, .int j => if CPow i j then some (.int (i ^ j.toNat)) else none
  | _, _ => none
variable {X : Cx}
open PySem.Spec PyProof.Rows in
/-- list + list, each perhaps one that nobody writes -/
theorem op_catS : OpR X (binaryOp .Add) (fun x y H Q => ∃ l b xs zs, x = .ref l ∧ y = .ref b ∧ SqL X.K H l xs ∧ SqL X.K H b zs ∧ xs.length + zs.length ≤ sizeLine ∧ ∀ p, H p = none → Q (.ref p) (upd H p (.lst (xs ++ zs)))) := by
  intro pins s σ H x y v u Q I rx ry h
  obtain ⟨l, b, xs, zs, rfl, rfl, hH, hB, hz, q⟩ := h
  cases rx
  cases ry
  obtain ⟨its, r, p1, _⟩ := I.list hH
  obtain ⟨its2, r2, p2, _⟩ := I.list hB
  have hl := r.length
  have hl2 := r2.length
  obtain ⟨⟨cls, dd, data, sl⟩, ho, hc, n, hd⟩ := p1.isList
  obtain ⟨⟨cls2, dd2, data2, sl2⟩, ho2, hc2, n2, hd2⟩ := p2.isList
  simp only at hc hd hc2 hd2
  subst hc hd hc2 hd2
  refine concat_meets ⟨_, ho, rfl⟩ ⟨_, ho2, rfl⟩ noFill_list_add seq_list_add PySem.F.slot_list_add PySem.F.entry_list_add (PySem.F.args_list_add_2 _ _) (list_addW l b its.toArray its2.toArray n n2 dd dd2 sl sl2 (by rw [List.size_toArray, List.size_toArray]; omega)) ⟨ho, ho2, ?_⟩
  have ea : its.toArray ++ its2.toArray = (its ++ its2).toArray := by simp
  rw [ea]
  exact ⟨.ref _, _, I.lnew (t' := s.toks) (r.append r2) (by rw [List.length_append]; omega), rfl, q _ I.fresh⟩
theorem top_scr {S : Type} {C : Cn S} {P : Pt} {s : S} {H : Hp} {v : V} {ds : List D} (h : Top C P s H v (.scr ds)) : ∃ a vs, v = .ref a ∧ Frz C.K H a vs ∧ RpL C.K H (Fc C P s) vs ds := by
  rcases h with h | ⟨_, _, _, _, e, _⟩
  · cases h with
    | scr h q => exact ⟨_, _, rfl, h, q⟩
  · cases e
theorem od_add : OpD X (binaryOp .Add) dAdd := by
  intro S C hK pins s σ H x y v u Q I rx ry ⟨P, st, σ', dx, dy, d, R, tx, ty, e, k⟩
  cases dx <;> cases dy <;> simp only [dAdd] at e <;> try cases e
  · rw [top_bl tx] at rx; rw [top_int ty] at ry
    cases rx
    obtain ⟨t, rfl⟩ := ry
    exact PySem.IntBool.add_bool_int ⟨.int _, H, I.tok _, ⟨_, rfl⟩, k _ _ Xt.refl R.st (.int _)⟩
  · rw [top_int tx] at rx; rw [top_int ty] at ry
    exact op_add pins s σ H _ _ v u Q I rx ry ⟨_, _, rfl, rfl, k _ _ Xt.refl R.st (.int _)⟩
  · rename_i a b
    split at e
    · cases e
      rw [top_str tx] at rx; rw [top_str ty] at ry
      exact op_add_str pins s σ H _ _ v u Q I rx ry ⟨_, _, rfl, rfl, by assumption, k _ _ Xt.refl R.st (.str _)⟩
    · cases e
  · split at e
    · cases e
      rename_i hz
      obtain ⟨a, xs, rfl, ha, qa⟩ := tx.tup
      obtain ⟨b, ys, rfl, hb, qb⟩ := ty.tup
      rw [hK] at ha hb
      refine op_catA pins s σ H _ _ v u Q I rx ry ⟨a, b, xs, ys, rfl, rfl, ha, hb, by rw [qa.length, qb.length]; exact hz, fun e => ?_, fun _ e => ?_, fun _ _ p hp => ?_⟩
      · subst e
        cases qa
        exact k _ _ Xt.refl R.st (Fr.plain (.tup (by rw [hK]; exact hb) qb) fun _ e => nomatch e)
      · subst e
        cases qb
        rw [List.append_nil] at k
        exact k _ _ Xt.refl R.st (Fr.plain (.tup (by rw [hK]; exact ha) qa) fun _ e => nomatch e)
      · exact k _ _ (Xt.new hp) (st_new R.st hp) (Fr.newT R hp (qa.append qb))
    · cases e
  · split at e
    · cases e
      rename_i hz
      obtain ⟨a, xs, rfl, ha, qa⟩ := tx.lst
      obtain ⟨b, ys, rfl, hb, qb⟩ := ty.lst
      exact op_cat pins s σ H _ _ v u Q I rx ry ⟨a, b, xs, ys, rfl, rfl, ha, hb, by rw [qa.length, qb.length]; exact hz, fun p hp => k _ _ (Xt.new hp) (st_new R.st hp) (Fr.newL R hp (qa.append qb))⟩
    · cases e
  · split at e
    · cases e
      rename_i hz
      obtain ⟨a, xs, rfl, ha, qa⟩ := tx.lst
      obtain ⟨b, ys, rfl, hb, qb⟩ := top_scr ty
      exact op_catS pins s σ H _ _ v u Q I rx ry ⟨a, b, xs, ys, rfl, rfl, .inl (.inl ha), by rw [← hK]; exact hb.sq, by rw [qa.length, qb.length]; exact hz, fun p hp => k _ _ (Xt.new hp) (st_new R.st hp) (Fr.newL R hp (qa.append qb))⟩
    · cases e
  · split at e
    · cases e
      rename_i hz
      obtain ⟨a, xs, rfl, ha, qa⟩ := top_scr tx
      obtain ⟨b, ys, rfl, hb, qb⟩ := ty.lst
      exact op_catS pins s σ H _ _ v u Q I rx ry ⟨a, b, xs, ys, rfl, rfl, by rw [← hK]; exact ha.sq, .inl (.inl hb), by rw [qa.length, qb.length]; exact hz, fun p hp => k _ _ (Xt.new hp) (st_new R.st hp) (Fr.newL R hp (qa.append qb))⟩
    · cases e
theorem od_sub : OpD X (binaryOp .Sub) dSub := by
  intro S C hK pins s σ H x y v u Q I rx ry ⟨P, st, σ', dx, dy, d, R, tx, ty, e, k⟩
  cases dx <;> cases dy <;> simp only [dSub] at e <;> cases e
  rw [top_int tx] at rx; rw [top_int ty] at ry
  exact op_sub pins s σ H _ _ v u Q I rx ry ⟨_, _, rfl, rfl, k _ _ Xt.refl R.st (.int _)⟩
theorem RpL.rep {K : PySem.W.Frag} {H : Hp} {F : Addr → Prop} {vs : List V} {ds : List D} (h : RpL K H F vs ds) : ∀ n : Nat, RpL K H F (List.replicate n vs).flatten (List.replicate n ds).flatten
  | 0 => .nil
  | n + 1 => by
    rw [List.replicate_succ, List.replicate_succ, List.flatten_cons, List.flatten_cons]
    exact h.append (RpL.rep h n)
/-- text * int -/
theorem op_mulS {X : Cx} : OpR X (binaryOp .Mult) (fun x y H Q => ∃ a n, x = .str a ∧ y = .int n ∧ MulOk a n ∧ Q (.str (Txt.mul a n)) H) := by
  intro pins s σ H x y v u Q I rx ry ⟨a, n, e1, e2, hm, q⟩
  subst e1 e2
  obtain ⟨t, rfl⟩ := rx
  obtain ⟨t', rfl⟩ := ry
  exact PySem.SB.mul hm fun t'' k => ⟨.str _, H, I.tok k, ⟨t'', rfl⟩, q⟩
theorem od_mul : OpD X (binaryOp .Mult) dMul := by
  intro S C hK pins s σ H x y v u Q I rx ry ⟨P, st, σ', dx, dy, d, R, tx, ty, e, k⟩
  cases dx <;> cases dy <;> simp only [dMul] at e <;> try cases e
  · split at e
    · cases e
      rename_i h
      rw [top_int tx] at rx; rw [top_int ty] at ry
      rcases h with h | h
      · exact op_mul pins s σ H _ _ v u Q I rx ry ⟨_, _, rfl, rfl, h, k _ _ Xt.refl R.st (.int _)⟩
      · exact op_mulW pins s σ H _ _ v u Q I rx ry ⟨_, _, rfl, rfl, h, k _ _ Xt.refl R.st (.int _)⟩
    · cases e
  · split at e
    · cases e
      rename_i h
      rw [top_str tx] at rx; rw [top_int ty] at ry
      exact op_mulS pins s σ H _ _ v u Q I rx ry ⟨_, _, rfl, rfl, h, k _ _ Xt.refl R.st (.str _)⟩
    · cases e
  · split at e
    · cases e
      rename_i h
      obtain ⟨h1, h2, h3, h4⟩ := h
      rw [top_int ty] at ry
      obtain ⟨a, xs, rfl, ha, qa⟩ := tx.tup
      exact op_repT pins s σ H _ _ v u Q I rx ry ⟨a, _, xs, rfl, rfl, hK ▸ ha, fun e => by have := qa.length; rw [e] at this; rw [List.isEmpty_eq_false_iff] at h1; exact h1 (List.eq_nil_of_length_eq_zero this.symm), h2, h3, by rw [qa.length]; exact h4, fun p hp => k _ _ (Xt.new hp) (st_new R.st hp) (Fr.newT R hp (qa.rep _))⟩
    · split at e
      · cases e
        rename_i h
        obtain ⟨h1, rfl⟩ := h
        rw [top_int ty] at ry
        obtain ⟨a, xs, rfl, ha, qa⟩ := tx.tup
        exact L2.op_repT1 pins s σ H _ _ v u Q I rx ry ⟨a, xs, rfl, rfl, hK ▸ ha, k _ _ Xt.refl R.st (Fr.plain (.tup ha qa) fun _ e => nomatch e)⟩
      · cases e
  · split at e
    · cases e
      rename_i h
      obtain ⟨h1, h2⟩ := h
      rw [top_int ty] at ry
      obtain ⟨a, xs, rfl, ha, qa⟩ := tx.lst
      exact op_rep pins s σ H _ _ v u Q I rx ry ⟨a, _, xs, rfl, rfl, ha, h1.1, h1.2, by rw [qa.length]; exact h2, fun p hp => k _ _ (Xt.new hp) (st_new R.st hp) (Fr.newL R hp (qa.rep _))⟩
    · cases e
theorem od_div : OpD X (binaryOp .FloorDiv) dDiv := by
  intro S C hK pins s σ H x y v u Q I rx ry ⟨P, st, σ', dx, dy, d, R, tx, ty, e, k⟩
  cases dx <;> cases dy <;> simp only [dDiv] at e <;> try cases e
  split at e
  · cases e
    rename_i h
    rw [top_int tx] at rx; rw [top_int ty] at ry
    exact op_fdivW pins s σ H _ _ v u Q I rx ry ⟨_, _, rfl, rfl, h, k _ _ Xt.refl R.st (.int _)⟩
  · cases e
theorem od_mod : OpD X (binaryOp .Mod) dMod := by
  intro S C hK pins s σ H x y v u Q I rx ry ⟨P, st, σ', dx, dy, d, R, tx, ty, e, k⟩
  cases dx <;> cases dy <;> simp only [dMod] at e <;> try cases e
  split at e
  · cases e
    rename_i h
    rw [top_int tx] at rx; rw [top_int ty] at ry
    exact op_mod pins s σ H _ _ v u Q I rx ry ⟨_, _, rfl, rfl, h, k _ _ Xt.refl R.st (.int _)⟩
  · cases e
theorem od_pow : OpD X (binaryOp .Pow) dPow := by
  intro S C hK pins s σ H x y v u Q I rx ry ⟨P, st, σ', dx, dy, d, R, tx, ty, e, k⟩
  cases dx <;> cases dy <;> simp only [dPow, reduceCtorEq] at e
  split at e
  · cases e
    rename_i h
    rw [top_int tx] at rx; rw [top_int ty] at ry
    exact op_pow pins s σ H _ _ v u Q I rx ry ⟨_, _, rfl, rfl, h, k _ _ Xt.refl R.st (.int _)⟩
  · cases e
def dBin : Operator → D → D → Option D
  | .Add => dAdd
  | .Sub => dSub
  | .Mult => dMul
  | .FloorDiv => dDiv
  | .Mod => dMod
  | .Pow => dPow
  | _ => fun _ _ => none
theorem od_none {f : Value → Value → Sem Value} : OpD X f (fun _ _ => none) := fun C hK pins s σ H x y v u Q I rx ry ⟨P, st, σ', dx, dy, d, R, tx, ty, e, k⟩ => nomatch e
theorem od_bin (o : Operator) : OpD X (binaryOp o) (dBin o) := match o with
  | .Add => od_add
  | .Sub => od_sub
  | .Mult => od_mul
  | .FloorDiv => od_div
  | .Mod => od_mod
  | .Pow => od_pow
  | .MatMult | .Div | .LShift | .RShift | .BitOr | .BitXor | .BitAnd => od_none

/-! ### comparisons -/
/-- lists of different lengths -/
def ldif : D → D → Option Bool
  | .lst a, .lst b => if a.length = b.length then none else some false
  | _, _ => none
def deq (x y : D) : Option Bool := match toPy x, toPy y with
  | some a, some b => if SeqAt.shaped a = true ∧ SeqAt.shaped b = true then some (PyData.eqv a b) else none
  | _, _ => ldif x y
def dEq : D → D → Option D
  | .str a, .str b => some (.bl (decide (V.str a = V.str b)))
  | x, y => (deq x y).map .bl
def dNe : D → D → Option D
  | .str a, .str b => some (.bl (!decide (V.str a = V.str b)))
  | x, y => (deq x y).map fun b => .bl (!b)
theorem dEq_cases {x y d : D} (h : dEq x y = some d) : (∃ a b, x = .str a ∧ y = .str b ∧ d = .bl (decide (V.str a = V.str b))) ∨ (deq x y).map .bl = some d := by
  unfold dEq at h
  split at h
  · cases h; exact .inl ⟨_, _, rfl, rfl, rfl⟩
  · exact .inr h
theorem dNe_cases {x y d : D} (h : dNe x y = some d) : (∃ a b, x = .str a ∧ y = .str b ∧ d = .bl (!decide (V.str a = V.str b))) ∨ (deq x y).map (fun b => .bl (!b)) = some d := by
  unfold dNe at h
  split at h
  · cases h; exact .inl ⟨_, _, rfl, rfl, rfl⟩
  · exact .inr h
theorem ldif_some {x y : D} {b : Bool} (h : ldif x y = some b) : ∃ l m, x = .lst l ∧ y = .lst m ∧ l.length ≠ m.length ∧ b = false := by
  unfold ldif at h
  split at h
  · split at h
    · cases h
    · rename_i n
      cases h
      exact ⟨_, _, rfl, rfl, n, rfl⟩
  · cases h
theorem deq_some {x y : D} {b : Bool} (h : deq x y = some b) : (∃ p q, toPy x = some p ∧ toPy y = some q ∧ SeqAt.shaped p = true ∧ SeqAt.shaped q = true ∧ b = PyData.eqv p q) ∨ ∃ l m, x = .lst l ∧ y = .lst m ∧ l.length ≠ m.length ∧ b = false ∧ ∀ p q, toPy x = some p → toPy y = some q → False := by
  unfold deq at h
  split at h
  · rename_i a b' e1 e2
    split at h
    · rename_i z; cases h; exact .inl ⟨_, _, e1, e2, z.1, z.2, rfl⟩
    · cases h
  · rename_i no
    obtain ⟨l, m, e1, e2, n, e3⟩ := ldif_some h
    exact .inr ⟨l, m, e1, e2, n, e3, fun p q => no p q⟩
theorem top_isList {S : Type} {C : Cn S} {X : Cx} {pins : List (Addr × Obj)} {P : Pt} {st : S} {σ : L2.St} {H : Hp} {s : Shared} {v : V} {l : List D} (hK : C.K = X.K) (I : Inv X pins σ H s) (t : Top C P st H v (.lst l)) : ∃ a its, v = .ref a ∧ s.heap.IsList a its ∧ its.size = l.length := by
  obtain ⟨a, vs, rfl, h, q⟩ := t.lst
  obtain ⟨its, rv, ⟨o, n, ho, hc, _, hd⟩, _⟩ := I.list (.inl (.inl h))
  exact ⟨a, its.toArray, rfl, ⟨o, ho, hc, n, hd⟩, by rw [List.size_toArray, ← rv.length, q.length]⟩
theorem od_eq (hu : X.A.units + 64 < cLine) : OpD X (compareOp .Eq) dEq := by
  intro S C hK pins s σ H x y v u Q I rx ry ⟨P, st, σ', dx, dy, d, R, tx, ty, e, k⟩
  replace e := dEq_cases e
  rcases e with ⟨a, b, rfl, rfl, rfl⟩ | e
  · have e1 := top_str tx
    have e2 := top_str ty
    subst e1 e2
    exact op_eq pins s σ H _ _ v u Q I rx ry ⟨rfl, k _ _ Xt.refl R.st (.bl _)⟩
  rw [Option.map_eq_some_iff] at e
  obtain ⟨b, e, rfl⟩ := e
  rcases deq_some e with ⟨p, q, e1, e2, z1, z2, rfl⟩ | ⟨l, m, rfl, rfl, n, rfl, _⟩
  rotate_left
  · obtain ⟨a, its, rfl, i1, j1⟩ := top_isList hK I tx
    obtain ⟨a2, its2, rfl, i2, j2⟩ := top_isList hK I ty
    cases rx
    cases ry
    exact SeqAt.eq_list_lengthsAt i1 i2 (by rw [j1, j2]; simpa using n) (by omega) ⟨.bl _, H, I, rfl, k _ _ Xt.refl R.st (.bl _)⟩
  exact op_eqD hu pins s σ H _ _ v u Q I rx ry ⟨p, q, by rw [← hK]; exact dp_top tx e1, by rw [← hK]; exact dp_top ty e2, z1, z2, k _ _ Xt.refl R.st (.bl _)⟩
theorem od_ne (hu : X.A.units + 64 < cLine) : OpD X (compareOp .NotEq) dNe := by
  intro S C hK pins s σ H x y v u Q I rx ry ⟨P, st, σ', dx, dy, d, R, tx, ty, e, k⟩
  replace e := dNe_cases e
  rcases e with ⟨a, b, rfl, rfl, rfl⟩ | e
  · have e1 := top_str tx
    have e2 := top_str ty
    subst e1 e2
    exact op_ne pins s σ H _ _ v u Q I rx ry ⟨rfl, k _ _ Xt.refl R.st (.bl _)⟩
  rw [Option.map_eq_some_iff] at e
  obtain ⟨b, e, rfl⟩ := e
  rcases deq_some e with ⟨p, q, e1, e2, z1, z2, rfl⟩ | ⟨l, m, rfl, rfl, n, rfl, _⟩
  rotate_left
  · obtain ⟨a, its, rfl, i1, j1⟩ := top_isList hK I tx
    obtain ⟨a2, its2, rfl, i2, j2⟩ := top_isList hK I ty
    cases rx
    cases ry
    exact SeqAt.RcNeAt.lists_lengths i1 i2 (by rw [j1, j2]; simpa using n) (by omega) X.prog X.w X.xe _ ⟨.bl _, H, I, rfl, k _ _ Xt.refl R.st (.bl _)⟩
  exact op_neD hu pins s σ H _ _ v u Q I rx ry ⟨p, q, by rw [← hK]; exact dp_top tx e1, by rw [← hK]; exact dp_top ty e2, z1, z2, k _ _ Xt.refl R.st (.bl _)⟩
def intsOf : List D → Option (List Int)
  | [] => some []
  | .int i :: ds => (intsOf ds).map (i :: ·)
  | _ => none
theorem ints_of {K : PySem.W.Frag} {H : Hp} {F : Addr → Prop} : ∀ {vs : List V} {ds : List D} {ns : List Int}, RpL K H F vs ds → intsOf ds = some ns → vs = ns.map V.int
  | _, _, _, .nil, e => by simp [intsOf] at e; subst e; rfl
  | _, _, _, .cons (d := d) h r, e => by
    cases d <;> simp only [intsOf, Option.map_eq_some_iff] at e <;> try cases e
    obtain ⟨e1, rfl⟩ := by assumption
    rw [rp_int h, ints_of r e1]
    rfl
def dLt : D → D → Option D
  | .int i, .int j => some (.bl (decide (i < j)))
  | .str a, .str b => some (.bl (decide (a.cps.toList < b.cps.toList)))
  | .tup a, .tup b => match intsOf a, intsOf b with
    | some ns, some ms => some (.bl (HT.lexLt ns ms))
    | _, _ => none
  | _, _ => none
def dLe : D → D → Option D
  | .int i, .int j => some (.bl (decide (i ≤ j)))
  | .str a, .str b => some (.bl (!decide (b.cps.toList < a.cps.toList)))
  | _, _ => none
def dGt : D → D → Option D
  | .int i, .int j => some (.bl (decide (j < i)))
  | .str a, .str b => some (.bl (decide (b.cps.toList < a.cps.toList)))
  | _, _ => none
def dGe : D → D → Option D
  | .int i, .int j => some (.bl (decide (j ≤ i)))
  | .str a, .str b => some (.bl (!decide (a.cps.toList < b.cps.toList)))
  | _, _ => none
theorem od_lt (hu : X.A.units + 64 < cLine) : OpD X (compareOp .Lt) dLt := by
  intro S C hK pins s σ H x y v u Q I rx ry ⟨P, st, σ', dx, dy, d, R, tx, ty, e, k⟩
  cases dx <;> cases dy <;> simp only [dLt] at e <;> try cases e
  · rw [top_int tx] at rx; rw [top_int ty] at ry
    exact op_lt pins s σ H _ _ v u Q I rx ry ⟨_, _, rfl, rfl, k _ _ Xt.refl R.st (.bl _)⟩
  · rw [top_str tx] at rx; rw [top_str ty] at ry
    exact op_lt_str pins s σ H _ _ v u Q I rx ry ⟨_, _, rfl, rfl, k _ _ Xt.refl R.st (.bl _)⟩
  · split at e
    · rename_i ns ms e1 e2
      cases e
      obtain ⟨a, xs, rfl, ha, qa⟩ := tx.tup
      obtain ⟨b, ys, rfl, hb, qb⟩ := ty.tup
      rw [ints_of qa e1, hK] at ha
      rw [ints_of qb e2, hK] at hb
      exact op_ltT (by omega) pins s σ H _ _ v u Q I rx ry ⟨a, b, _, _, rfl, rfl, ha, hb, k _ _ Xt.refl R.st (.bl _)⟩
    · cases e
theorem od_le : OpD X (compareOp .LtE) dLe := by
  intro S C hK pins s σ H x y v u Q I rx ry ⟨P, st, σ', dx, dy, d, R, tx, ty, e, k⟩
  cases dx <;> cases dy <;> simp only [dLe] at e <;> try cases e
  · rw [top_int tx] at rx; rw [top_int ty] at ry
    exact op_le pins s σ H _ _ v u Q I rx ry ⟨_, _, rfl, rfl, k _ _ Xt.refl R.st (.bl _)⟩
  · rw [top_str tx] at rx; rw [top_str ty] at ry
    exact op_le_str pins s σ H _ _ v u Q I rx ry ⟨_, _, rfl, rfl, k _ _ Xt.refl R.st (.bl _)⟩
theorem od_gt : OpD X (compareOp .Gt) dGt := by
  intro S C hK pins s σ H x y v u Q I rx ry ⟨P, st, σ', dx, dy, d, R, tx, ty, e, k⟩
  cases dx <;> cases dy <;> simp only [dGt] at e <;> try cases e
  · rw [top_int tx] at rx; rw [top_int ty] at ry
    exact op_gt pins s σ H _ _ v u Q I rx ry ⟨_, _, rfl, rfl, k _ _ Xt.refl R.st (.bl _)⟩
  · rw [top_str tx] at rx; rw [top_str ty] at ry
    exact op_gt_str pins s σ H _ _ v u Q I rx ry ⟨_, _, rfl, rfl, k _ _ Xt.refl R.st (.bl _)⟩
theorem od_ge : OpD X (compareOp .GtE) dGe := by
  intro S C hK pins s σ H x y v u Q I rx ry ⟨P, st, σ', dx, dy, d, R, tx, ty, e, k⟩
  cases dx <;> cases dy <;> simp only [dGe] at e <;> try cases e
  · rw [top_int tx] at rx; rw [top_int ty] at ry
    exact op_ge pins s σ H _ _ v u Q I rx ry ⟨_, _, rfl, rfl, k _ _ Xt.refl R.st (.bl _)⟩
  · rw [top_str tx] at rx; rw [top_str ty] at ry
    exact op_ge_str pins s σ H _ _ v u Q I rx ry ⟨_, _, rfl, rfl, k _ _ Xt.refl R.st (.bl _)⟩
/-- x in xs: a list or tuple of data; a text in a text -/
def din (x y : D) : Option Bool := match y with
  | .str b => match x with
    | .str a => some (!(Builtin.Str.occurrences b a 0 b.length 1).isEmpty)
    | _ => none
  | .lst ds | .tup ds => match toPy x, toPyL ds with
    | some p, some ps => if SeqAt.shaped p = true ∧ SeqAt.shaped (.list ps) = true then some (ps.any fun z => PyData.eqv z p) else none
    | _, _ => none
  | _ => none
def dIn (x y : D) : Option D := (din x y).map .bl
def dNotIn (x y : D) : Option D := (din x y).map fun b => .bl (!b)
theorem shaped_tl {ps : List PyData} (h : SeqAt.shaped (.list ps) = true) : SeqAt.shaped (.tuple ps) = true := by
  simpa [SeqAt.shaped, PyData.canLay0, PyData.depth] using h
theorem op_inT (hu : X.A.units + 65 < cLine) : OpR X (compareOp .In) (fun x y H Q => ∃ d ds, Dp X.K H x d ∧ Dp X.K H y (.tuple ds) ∧ SeqAt.shaped d = true ∧ SeqAt.shaped (.tuple ds) = true ∧ Q (.bl (ds.any fun z => PyData.eqv z d)) H) := by
  intro pins s σ H x y v u Q I rx ry h
  obtain ⟨d, ds, hd, he, sd, se, q⟩ := h
  obtain ⟨as, r1⟩ := Dp.reads I d x v hd rx
  obtain ⟨bs, r2⟩ := Dp.reads I (.tuple ds) y u he ry
  exact SeqAt.in_tuple_reads r2 r1 (SeqAt.canLay_of_shaped se) (SeqAt.canLay_of_shaped sd) (PyProof.Rows.room_in_shaped sd hu) ⟨.bl _, H, I, rfl, q⟩
theorem op_notInT (hu : X.A.units + 65 < cLine) : OpR X (compareOp .NotIn) (fun x y H Q => ∃ d ds, Dp X.K H x d ∧ Dp X.K H y (.tuple ds) ∧ SeqAt.shaped d = true ∧ SeqAt.shaped (.tuple ds) = true ∧ Q (.bl (!ds.any fun z => PyData.eqv z d)) H) := by
  intro pins s σ H x y v u Q I rx ry h
  obtain ⟨d, ds, hd, he, sd, se, q⟩ := h
  obtain ⟨as, r1⟩ := Dp.reads I d x v hd rx
  obtain ⟨bs, r2⟩ := Dp.reads I (.tuple ds) y u he ry
  exact SeqAt.notIn_tuple_reads r2 r1 (SeqAt.canLay_of_shaped se) (SeqAt.canLay_of_shaped sd) (PyProof.Rows.room_in_shaped sd hu) ⟨.bl _, H, I, rfl, q⟩
theorem dp_topL {S : Type} {C : Cn S} {P : Pt} {s : S} {H : Hp} {v : V} {ds : List D} {ps : List PyData} (h : Top C P s H v (.lst ds)) (e : toPyL ds = some ps) : Dp C.K H v (.list ps) := dp_top h (by simp [toPy, e])
theorem dp_topT {S : Type} {C : Cn S} {P : Pt} {s : S} {H : Hp} {v : V} {ds : List D} {ps : List PyData} (h : Top C P s H v (.tup ds)) (e : toPyL ds = some ps) : Dp C.K H v (.tuple ps) := dp_top h (by simp [toPy, e])
theorem od_in (hu : X.A.units + 65 < cLine) : OpD X (compareOp .In) dIn := by
  intro S C hK pins s σ H x y v u Q I rx ry ⟨P, st, σ', dx, dy, d, R, tx, ty, e, k⟩
  simp only [dIn, Option.map_eq_some_iff] at e
  obtain ⟨b, e, rfl⟩ := e
  cases dy <;> simp only [din] at e <;> try cases e
  · split at e
    · cases e
      rw [top_str tx] at rx; rw [top_str ty] at ry
      exact op_in_str pins s σ H _ _ v u Q I rx ry ⟨_, _, rfl, rfl, k _ _ Xt.refl R.st (.bl _)⟩
    · cases e
  · split at e
    · split at e
      · rename_i p ps e1 e2 z
        cases e
        exact op_inT hu pins s σ H _ _ v u Q I rx ry ⟨_, _, by rw [← hK]; exact dp_top tx e1, by rw [← hK]; exact dp_topT ty e2, z.1, shaped_tl z.2, k _ _ Xt.refl R.st (.bl _)⟩
      · cases e
    · cases e
  · split at e
    · split at e
      · rename_i p ps e1 e2 z
        cases e
        exact op_inD hu pins s σ H _ _ v u Q I rx ry ⟨_, _, by rw [← hK]; exact dp_top tx e1, by rw [← hK]; exact dp_topL ty e2, z.1, z.2, k _ _ Xt.refl R.st (.bl _)⟩
      · cases e
    · cases e
theorem od_notIn (hu : X.A.units + 65 < cLine) : OpD X (compareOp .NotIn) dNotIn := by
  intro S C hK pins s σ H x y v u Q I rx ry ⟨P, st, σ', dx, dy, d, R, tx, ty, e, k⟩
  simp only [dNotIn, Option.map_eq_some_iff] at e
  obtain ⟨b, e, rfl⟩ := e
  cases dy <;> simp only [din] at e <;> try cases e
  · split at e
    · cases e
      rw [top_str tx] at rx; rw [top_str ty] at ry
      exact op_notin_str pins s σ H _ _ v u Q I rx ry ⟨_, _, rfl, rfl, k _ _ Xt.refl R.st (.bl _)⟩
    · cases e
  · split at e
    · split at e
      · rename_i p ps e1 e2 z
        cases e
        exact op_notInT hu pins s σ H _ _ v u Q I rx ry ⟨_, _, by rw [← hK]; exact dp_top tx e1, by rw [← hK]; exact dp_topT ty e2, z.1, shaped_tl z.2, k _ _ Xt.refl R.st (.bl _)⟩
      · cases e
    · cases e
  · split at e
    · split at e
      · rename_i p ps e1 e2 z
        cases e
        exact op_notInD hu pins s σ H _ _ v u Q I rx ry ⟨_, _, by rw [← hK]; exact dp_top tx e1, by rw [← hK]; exact dp_topL ty e2, z.1, z.2, k _ _ Xt.refl R.st (.bl _)⟩
      · cases e
    · cases e
/-- x is None; of two bools -/
def dis : D → D → Option Bool
  | .opq _, .non => none
  | .non, .non => some true
  | _, .non => some false
  | .bl a, .bl b => some (decide (a = b))
  | .non, .bl _ => some false
  | _, _ => none
def dIs (x y : D) : Option D := (dis x y).map .bl
def dIsNot (x y : D) : Option D := (dis x y).map fun b => .bl (!b)
theorem dis_non {S : Type} {C : Cn S} {P : Pt} {s : S} {H : Hp} {v : V} {x : D} {b : Bool} (h : Top C P s H v x) (e : dis x .non = some b) : b = decide (v = .non) := by
  rcases h with h | ⟨a, vs, ds, e1, e2, _⟩
  · cases h <;> simp [dis] at e <;> subst e <;> simp
  · subst e1 e2; simp [dis] at e; subst e; simp
theorem op_is_nb {X : Cx} : OpR X (compareOp .Is) (fun x y H Q => ∃ b, x = .non ∧ y = .bl b ∧ Q (.bl false) H) := by
  intro pins s σ H x y v u Q I rx ry ⟨b, hx, hy, q⟩
  subst hx hy
  cases (show v = Value.none from rx)
  cases (show u = Value.bool b from ry)
  exact wpAny_is_other rfl (fun z => nomatch z) ⟨.bl false, H, I, rfl, q⟩
theorem op_isnot_nb {X : Cx} : OpR X (compareOp .IsNot) (fun x y H Q => ∃ b, x = .non ∧ y = .bl b ∧ Q (.bl true) H) := by
  intro pins s σ H x y v u Q I rx ry ⟨b, hx, hy, q⟩
  subst hx hy
  cases (show v = Value.none from rx)
  cases (show u = Value.bool b from ry)
  exact wpAny_isNot_other rfl (fun z => nomatch z) ⟨.bl true, H, I, rfl, q⟩
theorem od_is : OpD X (compareOp .Is) dIs := by
  intro S C hK pins s σ H x y v u Q I rx ry ⟨P, st, σ', dx, dy, d, R, tx, ty, e, k⟩
  simp only [dIs, Option.map_eq_some_iff] at e
  obtain ⟨b, e, rfl⟩ := e
  cases dy with
  | non =>
    have q := dis_non tx e
    subst q
    have := top_non ty
    subst this
    exact op_isN pins s σ H _ _ v u Q I rx ry ⟨rfl, k _ _ Xt.refl R.st (.bl _)⟩
  | bl c =>
    cases dx with
    | bl a =>
      simp only [dis] at e; cases e
      rw [top_bl tx] at rx; rw [top_bl ty] at ry
      exact op_is_bl pins s σ H _ _ v u Q I rx ry ⟨_, _, rfl, rfl, k _ _ Xt.refl R.st (.bl _)⟩
    | non =>
      simp only [dis] at e; cases e
      rw [top_non tx] at rx; rw [top_bl ty] at ry
      exact op_is_nb pins s σ H _ _ v u Q I rx ry ⟨_, rfl, rfl, k _ _ Xt.refl R.st (.bl _)⟩
    | _ => simp only [dis] at e; cases e
  | _ => cases dx <;> simp only [dis] at e <;> cases e
theorem od_isNot : OpD X (compareOp .IsNot) dIsNot := by
  intro S C hK pins s σ H x y v u Q I rx ry ⟨P, st, σ', dx, dy, d, R, tx, ty, e, k⟩
  simp only [dIsNot, Option.map_eq_some_iff] at e
  obtain ⟨b, e, rfl⟩ := e
  cases dy with
  | non =>
    have q := dis_non tx e
    subst q
    have := top_non ty
    subst this
    exact op_notN pins s σ H _ _ v u Q I rx ry ⟨rfl, k _ _ Xt.refl R.st (.bl _)⟩
  | bl c =>
    cases dx with
    | bl a =>
      simp only [dis] at e; cases e
      rw [top_bl tx] at rx; rw [top_bl ty] at ry
      exact op_isnot_bl pins s σ H _ _ v u Q I rx ry ⟨_, _, rfl, rfl, k _ _ Xt.refl R.st (.bl _)⟩
    | non =>
      simp only [dis] at e; cases e
      rw [top_non tx] at rx; rw [top_bl ty] at ry
      exact op_isnot_nb pins s σ H _ _ v u Q I rx ry ⟨_, rfl, rfl, k _ _ Xt.refl R.st (.bl _)⟩
    | _ => simp only [dis] at e; cases e
  | _ => cases dx <;> simp only [dis] at e <;> cases e
def dCmp : CmpOp → D → D → Option D
  | .Eq => dEq
  | .NotEq => dNe
  | .Lt => dLt
  | .LtE => dLe
  | .Gt => dGt
  | .GtE => dGe
  | .Is => dIs
  | .IsNot => dIsNot
  | .In => dIn
  | .NotIn => dNotIn
theorem od_cmp (hu : X.A.units + 65 < cLine) (o : CmpOp) : OpD X (compareOp o) (dCmp o) := by
  cases o
  · exact od_eq (by omega)
  · exact od_ne (by omega)
  · exact od_lt (by omega)
  · exact od_le
  · exact od_gt
  · exact od_ge
  · exact od_is
  · exact od_isNot
  · exact od_in hu
  · exact od_notIn hu
end Q

/-! Lay4: expressions, construct by construct. -/
namespace Q
open PySem L2
section
variable {S : Type} {C : Cn S} {W : L2.WX} {X : Cx}
/-- what is to be known of where the code runs -/
structure Xk (C : Cn S) (W : L2.WX) (X : Cx) (N : List Str) (sc : Scope) : Prop where
  K : C.K = X.K
  names : X.N = N
  nd : N.Nodup
  scope : X.env.scope = sc
  calm : X.calm = true
  hu : X.A.units + 200 < cLine
  gd : X.A.guards = some []
  tk : Takes X W

def slotOf (N : List Str) (x : Str) : Option Nat := N.findIdx? (· == x)
theorem slotOf_some {N : List Str} {x : Str} {i : Nat} (h : slotOf N x = some i) : N[i]? = some x := by
  unfold slotOf at h
  rw [List.findIdx?_eq_some_iff_getElem] at h
  obtain ⟨hi, h, _⟩ := h
  rw [List.getElem?_eq_getElem hi, beq_iff_eq.mp h]
def visB (sc : Scope) (x : Str) : Bool := match sc.names.lookup x with
  | some .local => true
  | some .cell => true
  | some .free => true
  | _ => false
theorem visB_ok {sc : Scope} {x : Str} (h : visB sc x = true) : Vis sc x := by
  unfold visB at h
  unfold Vis
  split at h <;> first | (rename_i e; simp [e]; done) | cases h
def locB (sc : Scope) (x : Str) : Bool := match sc.names.lookup x with
  | some .local => true
  | some .cell => true
  | _ => false
theorem locB_ok {sc : Scope} {x : Str} (h : locB sc x = true) : L2.Loc sc x := by
  unfold locB at h
  unfold L2.Loc
  split at h <;> first | (rename_i e; simp [e]; done) | cases h
def glB (sc : Scope) (x : Str) : Bool := sc.names.lookup x == some .globalImplicit && x != ("__debug__" : Str) && x != ("__name__" : Str)

/-! ### names, constants -/
def evVar (N : List Str) (sc : Scope) (x : Str) : EvF S := fun ρ s => match slotOf N x with
  | some i => if visB sc x && x != ("__debug__" : Str) && x != ("__classdict__" : Str) then (match ρ[i]? with
    | some (.val d) => .ok d s
    | _ => .stuck) else .stuck
  | none => .stuck
def evVarK (N : List Str) (sc : Scope) (x : Str) : EvF S := fun ρ s => match slotOf N x with
  | some i => if visB sc x && x != ("__debug__" : Str) && x != ("__classdict__" : Str) then (match ρ[i]? with
    | some (.val d) => .ok d s
    | some (.own ds) => .ok (.lst ds) s
    | some (.lck ds) => .ok (.lst ds) s
    | _ => .stuck) else .stuck
  | none => .stuck
theorem sd_var {N : List Str} {sc : Scope} (k : Xk C W X N sc) (x : Str) (pos : Pos) : PE X (.Name x pos) (tP C W (evVar N sc x)) := by
  unfold evVar
  split
  · rename_i i e
    split
    · rename_i h
      simp only [Bool.and_eq_true, bne_iff_ne, ne_eq] at h
      refine pe_mono (pe_var (i := i) (by rw [k.names]; exact slotOf_some e) (by rw [k.scope]; exact visB_ok h.1.1) (by simpa using h.1.2) (by simpa using h.2)) fun σ H Q ⟨P, s, R, q⟩ => ?_
      dsimp only at q
      split at q
      · rename_i d hd
        obtain ⟨v, e1, e2⟩ := R.slot i _ hd
        exact ⟨v, e1, (q.now R) v e2⟩
      · exact q.elim
    · exact pe_false fun σ H Q ⟨P, s, R, q⟩ => q
  · exact pe_false fun σ H Q ⟨P, s, R, q⟩ => q
theorem OwnOk.top {P : Pt} {σ : L2.St} {H : Hp} {s : S} {i : Nat} {ds : List D} (h : OwnOk C P σ H s i (.lst, ds)) : TopK C P s H (.ref (P.r i)) (.lst ds) :=
  let ⟨vs, e, q⟩ := h.isL; .inr ⟨_, vs, ds, rfl, rfl, h.na, e, q⟩
theorem sd_varK {N : List Str} {sc : Scope} (k : Xk C W X N sc) (x : Str) (pos : Pos) : PE X (.Name x pos) (tK C W (evVarK N sc x)) := by
  unfold evVarK
  split
  · rename_i i e
    split
    · rename_i h
      simp only [Bool.and_eq_true, bne_iff_ne, ne_eq] at h
      refine pe_mono (pe_var (i := i) (by rw [k.names]; exact slotOf_some e) (by rw [k.scope]; exact visB_ok h.1.1) (by simpa using h.1.2) (by simpa using h.2)) fun σ H Q ⟨P, s, R, q⟩ => ?_
      dsimp only at q
      split at q
      · rename_i d hd
        obtain ⟨v, e1, e2⟩ := R.slot i _ hd
        exact ⟨v, e1, (q.now R) v (.inl e2)⟩
      · rename_i d hd
        have o : OwnOk C P σ H s i (.lst, d) := R.slot i _ hd
        exact ⟨_, o.at_, (q.now R) _ o.top⟩
      · rename_i d hd
        have o : OwnOk C P σ H s i (.lst, d) := R.slot i _ hd
        exact ⟨_, o.at_, (q.now R) _ o.top⟩
      · exact q.elim
    · exact pe_false fun σ H Q ⟨P, s, R, q⟩ => q
  · exact pe_false fun σ H Q ⟨P, s, R, q⟩ => q
def cD : Const → Option D
  | .int i => some (.int i)
  | .bool b => some (.bl b)
  | .none => some .non
  | .str x => some (.str x)
  | _ => none
def evC (d : Option D) : EvF S := fun _ s => ofO d s
theorem sd_c {t : TE} {v : V} {d : D} {e : Expr} (h : PE X e (tC v)) (r : ∀ H F, Rp C.K H F v d) (n : ∀ ds, d ≠ .lst ds) : PE X e (tF C W (evC (some d))) :=
  pe_mono h fun σ H Q ⟨P, s, R, q⟩ => (q.now R) v (Fr.plain (r _ _) n)
theorem sd_const (c : Const) (k : Nat) (pos : Pos) : PE X (.Constant c k pos) (tF C W (evC (cD c))) := by
  cases c
  case int i => exact sd_c (t := tC (.int i)) pe_int (fun _ _ => .int i) (fun _ e => nomatch e)
  case bool i => exact sd_c (t := tC (.bl i)) pe_bl (fun _ _ => .bl i) (fun _ e => nomatch e)
  case none => exact sd_c (t := tC .non) pe_non (fun _ _ => .non) (fun _ e => nomatch e)
  case str i => exact sd_c (t := tC (.str i)) pe_str (fun _ _ => .str i) (fun _ e => nomatch e)
  all_goals exact pe_false fun σ H Q ⟨P, s, R, q⟩ => q

/-! ### operators -/
def bin (op : D → D → Option D) (fa fb : EvF S) : EvF S := fun ρ s => (fa ρ s).bind fun x s1 => (fb ρ s1).bind fun y s2 => ofO (op x y) s2
theorem run_ofO {P : Pt} {σ : L2.St} {H : Hp} {s : S} {α : Type} {o : Option α} {k : α → S → Hp → Prop} (h : Run C W P σ H s (ofO o s) k) : ∃ d, o = some d ∧ ∀ H', Rel C P σ H' s → Xt C.T s s H H' → k d s H' := by
  cases o with
  | none => exact h.elim
  | some d => exact ⟨d, rfl, h⟩
theorem t_bin {op : D → D → Option D} {fa fb : EvF S} {σ : L2.St} {H : Hp} {Q : VK} (h : tF C W (bin op fa fb) σ H Q) : tOp (rB C op) (tK C W fa) (tK C W fb) σ H Q := by
  obtain ⟨P, s, R, q⟩ := h
  refine ⟨P, s, R, q.bind.mono fun x s1 H1 R1 x1 q1 vx tx => ⟨P, s1, R1, q1.bind.mono fun y s2 H2 R2 x2 q2 vy ty => ?_⟩⟩
  obtain ⟨d, e, k⟩ := run_ofO q2
  exact ⟨P, s2, σ, x, y, d, R2, tx.xt x2 R1.st, ty, e, fun v H' x3 st' fr => k H' (R2.xt x3 st') x3 v (fr.back (x1.trans x2))⟩
theorem sd_bin {a b : Expr} {op : Operator} {pos : Pos} {fa fb : EvF S} (hK : C.K = X.K) (ha : PE X a (tK C W fa)) (hb : PE X b (tK C W fb)) : PE X (.BinOp a op b pos) (tF C W (bin (dBin op) fa fb)) :=
  pe_mono (pe_op (od_bin op C hK) ha hb) fun σ H Q h => t_bin h
theorem sd_cmp {a b : Expr} {op : CmpOp} {pos : Pos} {fa fb : EvF S} (hK : C.K = X.K) (hu : X.A.units + 65 < cLine) (ha : PE X a (tK C W fa)) (hb : PE X b (tK C W fb)) (hm : behindInMarks op b = false) : PE X (.Compare a [op] [b] pos) (tF C W (bin (dCmp op) fa fb)) :=
  pe_mono (pe_cmpR (od_cmp hu op C hK) ha hb hm) fun σ H Q h => t_bin h
/-- a op b op' c: b is evaluated once -/
def chain (op op' : D → D → Option D) (fa fb fc : EvF S) : EvF S := fun ρ s => (fa ρ s).bind fun x s1 => (fb ρ s1).bind fun y s2 => (ofO (op x y) s2).bind fun z s3 => match z with
  | .bl true => (fc ρ s3).bind fun w s4 => ofO (op' y w) s4
  | .bl false => .ok (.bl false) s3
  | _ => .stuck
theorem sd_chain {a b c : Expr} {op op' : CmpOp} {pos : Pos} {fa fb fc : EvF S} (hK : C.K = X.K) (hu : X.A.units + 65 < cLine) (ha : PE X a (tK C W fa)) (hb : PE X b (tK C W fb)) (hc : PE X c (tK C W fc)) (hm : lastMarks [op, op'] [b, c] = false) :
    PE X (.Compare a [op, op'] [b, c] pos) (tF C W (chain (dCmp op) (dCmp op') fa fb fc)) := by
  refine pe_mono (pe_chain (od_cmp hu op C hK) (od_cmp hu op' C hK) ha hb hc hm) fun σ H Q h => ?_
  obtain ⟨P, s, R, q⟩ := h
  refine ⟨P, s, R, q.bind.mono fun x s1 H1 R1 x1 q1 vx tx => ⟨P, s1, R1, q1.bind.mono fun y s2 H2 R2 x2 q2 vy ty => ?_⟩⟩
  obtain ⟨d, e, k⟩ := run_ofO q2.bind
  refine ⟨P, s2, σ, x, y, d, R2, tx.xt x2 R1.st, ty, e, fun v H3 x3 st3 fr => ?_⟩
  have R3 := R2.xt x3 st3
  have k' := k H3 R3 x3
  cases d with
  | bl z =>
    have ev := rp_bl fr.1
    subst ev
    refine ⟨z, rfl, ?_⟩
    cases z with
    | true =>
      refine iteT ⟨P, s2, R3, k'.bind.mono fun w s4 H4 R4 x4 q4 vw tw => ?_⟩
      obtain ⟨d', e', k4⟩ := run_ofO q4
      exact ⟨P, s4, σ, y, w, d', R4, (ty.xt x3 R2.st).xt x4 R3.st, tw, e', fun v' H' x5 st' fr' => k4 H' (R4.xt x5 st') x5 v' (fr'.back (((x1.trans x2).trans x3).trans x4))⟩
    | false => exact iteF ((k'.now R3) _ (.bl _))
  | _ => exact k'.elim

/-! ### truth -/
def dTru : D → Option Bool
  | .non => some false
  | .bl b => some b
  | .int i => some (i != 0)
  | .str x => if x.length ≤ sizeLine then some ((x.length : Int) != 0) else none
  | .tup ds => some (!ds.isEmpty)
  | .lst ds => some (!ds.isEmpty)
  | _ => none
theorem RpL.empty {K : PySem.W.Frag} {H : Hp} {F : Addr → Prop} {vs : List V} {ds : List D} (h : RpL K H F vs ds) : vs.isEmpty = ds.isEmpty := by cases h <;> rfl
theorem tru_top {P : Pt} {s : S} {H : Hp} {v : V} {d : D} {b : Bool} (h : Top C P s H v d) (e : dTru d = some b) : TruV C.K v H b := by
  rcases h with h | ⟨a, vs, ds, rfl, rfl, _, h, q⟩
  · cases h with
    | non => simp [dTru] at e; subst e; rfl
    | bl b => simp [dTru] at e; subst e; rfl
    | int i => simp only [dTru, Option.some.injEq] at e; subst e; rfl
    | str x =>
      simp only [dTru] at e
      split at e
      · cases e; exact ⟨by assumption, rfl⟩
      · cases e
    | opq v => cases e
    | emp f h => cases e
    | box f h q => cases e
    | tup h q => simp only [dTru, Option.some.injEq] at e; subst e; exact .inr (.inl ⟨_, h, by rw [q.empty]⟩)
    | lst f h q => simp only [dTru, Option.some.injEq] at e; subst e; exact .inl ⟨_, .inl (.inl h), by rw [q.empty]⟩
    | scr h q => cases e
  · simp only [dTru, Option.some.injEq] at e; subst e; exact .inl ⟨_, .inl (.inl h), by rw [q.empty]⟩
abbrev EvT' (S : Type) := List Sl → S → Res S Bool
def tT (C : Cn S) (W : L2.WX) (f : EvT' S) : TT := fun σ H Q => ∃ P s, Rel C P σ H s ∧ Run C W P σ H s (f P.ρ s) fun b s' H' => Q b H'
def truth (f : EvF S) : EvT' S := fun ρ s => (f ρ s).bind fun d s1 => ofO (dTru d) s1
theorem pt_mono {e : Expr} {t t' : TT} (h : PT X e t) (i : ∀ σ H Q, t' σ H Q → t σ H Q) : PT X e t' := ⟨fun pins s σ H Q I q => h.run pins s σ H Q I (i σ H Q q)⟩
theorem pt_false {e : Expr} {t : TT} (i : ∀ σ H Q, ¬ t σ H Q) : PT X e t := ⟨fun pins s σ H Q I q => (i σ H Q q).elim⟩
theorem pw_mono {e : Expr} {t t' : TT} (h : PW X e t) (i : ∀ σ H Q, t' σ H Q → t σ H Q) : PW X e t' := ⟨fun wh pins s σ H Q I q => h.run wh pins s σ H Q I (i σ H Q q)⟩
/-- the general test -/
def plainTest : Expr → Bool
  | .UnaryOp .Not _ _ => false
  | .BoolOp _ _ _ => false
  | .IfExp _ _ _ _ => false
  | .Compare _ _ _ _ => false
  | _ => true
theorem st_truth {e : Expr} {f : EvF S} (hK : C.K = X.K) (h : PE X e (tK C W f)) (hp : plainTest e = true) : PT X e (tT C W (truth f)) := by
  refine pt_mono (pt_truth h ?_) fun σ H Q ⟨P, s, R, q⟩ => ⟨P, s, R, q.bind.mono fun d s1 H1 R1 x1 q1 v tv => ?_⟩
  · intro whole
    cases e <;> first | rfl | (simp [plainTest] at hp; done) | (rename_i op _ _; cases op <;> first | rfl | (simp [plainTest] at hp; done))
  · obtain ⟨b, e, k⟩ := run_ofO q1
    exact ⟨b, by rw [← hK]; exact tru_top tv.weak e, k H1 R1 Xt.refl⟩
def testB (f : EvF S) : EvT' S := fun ρ s => (f ρ s).bind fun d s1 => match d with
  | .bl b => .ok b s1
  | _ => .stuck
theorem t_testB {f : EvF S} {σ : L2.St} {H : Hp} {Q : Bool → Hp → Prop} (h : tT C W (testB f) σ H Q) : tF C W f σ H fun x H' => ∃ k, x = .bl k ∧ Q k H' := by
  obtain ⟨P, s, R, q⟩ := h
  refine ⟨P, s, R, q.bind.mono fun d s1 H1 R1 x1 q1 v fr => ?_⟩
  cases d with
  | bl b =>
    have := rp_bl fr.1
    subst this
    exact ⟨b, rfl, q1.now R1⟩
  | _ => exact q1.elim
theorem st_cmp {a b : Expr} {op : CmpOp} {pos : Pos} {fa fb : EvF S} (hK : C.K = X.K) (hu : X.A.units + 65 < cLine) (ha : PE X a (tK C W fa)) (hb : PE X b (tK C W fb)) (hm : behindInMarks op b = false) : PT X (.Compare a [op] [b] pos) (tT C W (testB (bin (dCmp op) fa fb))) :=
  pt_mono (pt_cmpR (od_cmp hu op C hK) ha hb hm) fun σ H Q h => t_bin (t_testB h)
theorem t_chain {op op' : D → D → Option D} {fa fb fc : EvF S} {σ : L2.St} {H : Hp} {Q : VK} (h : tF C W (chain op op' fa fb fc) σ H Q) : tChain (rB C op) (rB C op') (tK C W fa) (tK C W fb) (tK C W fc) σ H Q := by
  obtain ⟨P, s, R, q⟩ := h
  refine ⟨P, s, R, q.bind.mono fun x s1 H1 R1 x1 q1 vx tx => ⟨P, s1, R1, q1.bind.mono fun y s2 H2 R2 x2 q2 vy ty => ?_⟩⟩
  obtain ⟨d, e, k⟩ := run_ofO q2.bind
  refine ⟨P, s2, σ, x, y, d, R2, tx.xt x2 R1.st, ty, e, fun v H3 x3 st3 fr => ?_⟩
  have R3 := R2.xt x3 st3
  have k' := k H3 R3 x3
  cases d with
  | bl z =>
    have ev := rp_bl fr.1
    subst ev
    refine ⟨z, rfl, ?_⟩
    cases z with
    | true =>
      refine iteT ⟨P, s2, R3, k'.bind.mono fun w s4 H4 R4 x4 q4 vw tw => ?_⟩
      obtain ⟨d', e', k4⟩ := run_ofO q4
      exact ⟨P, s4, σ, y, w, d', R4, (ty.xt x3 R2.st).xt x4 R3.st, tw, e', fun v' H' x5 st' fr' => k4 H' (R4.xt x5 st') x5 v' (fr'.back (((x1.trans x2).trans x3).trans x4))⟩
    | false => exact iteF ((k'.now R3) _ (.bl _))
  | _ => exact k'.elim
theorem st_chain {a b c : Expr} {op op' : CmpOp} {pos : Pos} {fa fb fc : EvF S} (hK : C.K = X.K) (hu : X.A.units + 65 < cLine) (ha : PE X a (tK C W fa)) (hb : PE X b (tK C W fb)) (hc : PE X c (tK C W fc)) (hm : lastMarks [op, op'] [b, c] = false) :
    PT X (.Compare a [op, op'] [b, c] pos) (tT C W (testB (chain (dCmp op) (dCmp op') fa fb fc))) :=
  pt_mono (pt_chain (od_cmp hu op C hK) (od_cmp hu op' C hK) ha hb hc hm) fun σ H Q h => t_chain (t_testB h)
def notT (f : EvT' S) : EvT' S := fun ρ s => (f ρ s).bind fun b s1 => .ok (!b) s1
theorem st_not {a : Expr} {pos : Pos} {f : EvT' S} (h : PT X a (tT C W f)) : PT X (.UnaryOp .Not a pos) (tT C W (notT f)) :=
  pt_mono (pt_not h) fun σ H Q ⟨P, s, R, q⟩ => ⟨P, s, R, q.bind.mono fun b s1 H1 R1 x1 q1 => q1.now R1⟩
def andT (f g : EvT' S) : EvT' S := fun ρ s => (f ρ s).bind fun b s1 => if b = true then g ρ s1 else .ok false s1
def orT (f g : EvT' S) : EvT' S := fun ρ s => (f ρ s).bind fun b s1 => if b = true then .ok true s1 else g ρ s1
theorem sw_and {a b : Expr} {rest : List Expr} {pos : Pos} {f g : EvT' S} (h : PT X a (tT C W f)) (h2 : PW X (.BoolOp .And (b :: rest) pos) (tT C W g)) : PW X (.BoolOp .And (a :: b :: rest) pos) (tT C W (andT f g)) :=
  pw_mono (pw_and h h2) fun σ H Q ⟨P, s, R, q⟩ => ⟨P, s, R, q.bind.mono fun b s1 H1 R1 x1 q1 => by
    cases b with
    | true => exact iteT ⟨P, s1, R1, q1⟩
    | false => exact iteF (q1.now R1)⟩
theorem sw_or {a b : Expr} {rest : List Expr} {pos : Pos} {f g : EvT' S} (h : PT X a (tT C W f)) (h2 : PW X (.BoolOp .Or (b :: rest) pos) (tT C W g)) : PW X (.BoolOp .Or (a :: b :: rest) pos) (tT C W (orT f g)) :=
  pw_mono (pw_or h h2) fun σ H Q ⟨P, s, R, q⟩ => ⟨P, s, R, q.bind.mono fun b s1 H1 R1 x1 q1 => by
    cases b with
    | true => exact iteT (q1.now R1)
    | false => exact iteF ⟨P, s1, R1, q1⟩⟩
/-- values: x and y, x or y, not x, y if c else z -/
def andV (f g : EvF S) : EvF S := fun ρ s => (f ρ s).bind fun d s1 => (ofO (dTru d) s1).bind fun b s2 => if b = true then g ρ s2 else .ok d s2
def orV (f g : EvF S) : EvF S := fun ρ s => (f ρ s).bind fun d s1 => (ofO (dTru d) s1).bind fun b s2 => if b = true then .ok d s2 else g ρ s2
theorem sd_and {a b : Expr} {rest : List Expr} {pos : Pos} {f g : EvF S} (hK : C.K = X.K) (h : PE X a (tP C W f)) (h2 : PE X (.BoolOp .And (b :: rest) pos) (tP C W g)) : PE X (.BoolOp .And (a :: b :: rest) pos) (tP C W (andV f g)) :=
  pe_mono (pe_andT h h2) fun σ H Q ⟨P, s, R, q⟩ => ⟨P, s, R, q.bind.mono fun d s1 H1 R1 x1 q1 v rv => by
    obtain ⟨b, e, k⟩ := run_ofO q1.bind
    have k := k H1 R1 Xt.refl
    refine ⟨b, by rw [← hK]; exact tru_top (.inl rv) e, ?_⟩
    cases b with
    | true => exact iteT ⟨P, s1, R1, k⟩
    | false => exact iteF ((k.now R1) v rv)⟩
theorem sd_or {a b : Expr} {rest : List Expr} {pos : Pos} {f g : EvF S} (hK : C.K = X.K) (h : PE X a (tP C W f)) (h2 : PE X (.BoolOp .Or (b :: rest) pos) (tP C W g)) : PE X (.BoolOp .Or (a :: b :: rest) pos) (tP C W (orV f g)) :=
  pe_mono (pe_orT h h2) fun σ H Q ⟨P, s, R, q⟩ => ⟨P, s, R, q.bind.mono fun d s1 H1 R1 x1 q1 v rv => by
    obtain ⟨b, e, k⟩ := run_ofO q1.bind
    have k := k H1 R1 Xt.refl
    refine ⟨b, by rw [← hK]; exact tru_top (.inl rv) e, ?_⟩
    cases b with
    | true => exact iteT ((k.now R1) v rv)
    | false => exact iteF ⟨P, s1, R1, k⟩⟩
def notV (f : EvF S) : EvF S := fun ρ s => (f ρ s).bind fun d s1 => (ofO (dTru d) s1).bind fun b s2 => .ok (.bl (!b)) s2
theorem sd_not {a : Expr} {pos : Pos} {f : EvF S} (hK : C.K = X.K) (h : PE X a (tK C W f)) : PE X (.UnaryOp .Not a pos) (tF C W (notV f)) :=
  pe_mono (pe_notT h) fun σ H Q ⟨P, s, R, q⟩ => ⟨P, s, R, q.bind.mono fun d s1 H1 R1 x1 q1 v tv => by
    obtain ⟨b, e, k⟩ := run_ofO q1.bind
    exact ⟨b, by rw [← hK]; exact tru_top tv.weak e, ((k H1 R1 Xt.refl).now R1) _ (.bl _)⟩⟩
def negV (f : EvF S) : EvF S := fun ρ s => (f ρ s).bind fun d s1 => match d with
  | .int i => .ok (.int (-i)) s1
  | _ => .stuck
theorem sd_neg {a : Expr} {pos : Pos} {f : EvF S} (h : PE X a (tK C W f)) : PE X (.UnaryOp .USub a pos) (tF C W (negV f)) :=
  pe_mono (pe_un un_neg h) fun σ H Q ⟨P, s, R, q⟩ => ⟨P, s, R, q.bind.mono fun d s1 H1 R1 x1 q1 v tv => by
    cases d with
    | int i => exact ⟨i, top_int tv.weak, (q1.now R1) _ (.int _)⟩
    | _ => exact q1.elim⟩
def ifE (c : EvT' S) (f g : EvF S) : EvF S := fun ρ s => (c ρ s).bind fun b s1 => if b = true then f ρ s1 else g ρ s1
theorem sd_if {c a b : Expr} {pos : Pos} {h : EvT' S} {f g : EvF S} (hc : PT X c (tT C W h)) (ha : PE X a (tP C W f)) (hb : PE X b (tP C W g)) : PE X (.IfExp c a b pos) (tP C W (ifE h f g)) :=
  pe_mono (pe_ifExp hc ha hb) fun σ H Q ⟨P, s, R, q⟩ => ⟨P, s, R, q.bind.mono fun b s1 H1 R1 x1 q1 => by
    cases b with
    | true => exact iteT ⟨P, s1, R1, q1⟩
    | false => exact iteF ⟨P, s1, R1, q1⟩⟩
theorem sd_ifF {c a b : Expr} {pos : Pos} {h : EvT' S} {f g : EvF S} (hc : PT X c (tT C W h)) (ha : PE X a (tF C W f)) (hb : PE X b (tF C W g)) : PE X (.IfExp c a b pos) (tF C W (ifE h f g)) :=
  pe_mono (pe_ifExp hc ha hb) fun σ H Q ⟨P, s, R, q⟩ => ⟨P, s, R, q.bind.mono fun b s1 H1 R1 x1 q1 => by
    cases b with
    | true => exact iteT ⟨P, s1, R1, q1.mono fun d s2 H2 R2 x2 k v fr => k v (fr.back x1)⟩
    | false => exact iteF ⟨P, s1, R1, q1.mono fun d s2 H2 R2 x2 k v fr => k v (fr.back x1)⟩⟩
/-- a if c else b, as a test -/
def ifT (h f g : EvT' S) : EvT' S := fun ρ s => (h ρ s).bind fun b s1 => if b = true then f ρ s1 else g ρ s1
theorem st_if {c a b : Expr} {pos : Pos} {h f g : EvT' S} (hc : PT X c (tT C W h)) (ha : PT X a (tT C W f)) (hb : PT X b (tT C W g)) : PT X (.IfExp c a b pos) (tT C W (ifT h f g)) := by
  refine ⟨fun pins s σ H Q I ⟨P, st, R, q⟩ => ?_⟩
  have e : isTrue (.IfExp c a b pos) X.env (eval (.IfExp c a b pos) X.env) = (isTrue c X.env (eval c X.env) >>= fun v => if v = true then isTrue a X.env (eval a X.env) else isTrue b X.env (eval b X.env)) := by
    rw [PySem.isTrue]
  rw [e]
  refine wpAny_bind (thn (hc.run pins s σ H _ I ⟨P, st, R, q.bind.mono fun v s1 H1 R1 x1 q1 => (show (if v = true then tT C W f σ H1 Q else tT C W g σ H1 Q) from ?_)⟩) fun v s1 ⟨H1, I1, q1⟩ => ?_)
  · cases v with
    | true => rw [if_pos rfl]; rw [if_pos rfl] at q1; exact ⟨P, s1, R1, q1⟩
    | false => rw [if_neg Bool.false_ne_true]; rw [if_neg Bool.false_ne_true] at q1; exact ⟨P, s1, R1, q1⟩
  · cases v with
    | true => rw [if_pos rfl] at q1 ⊢; exact ha.run pins s1 σ H1 Q I1 q1
    | false => rw [if_neg Bool.false_ne_true] at q1 ⊢; exact hb.run pins s1 σ H1 Q I1 q1
end
end Q

/-! Lay5: displays, subscripts, slices. -/
namespace Q
open PySem L2
section
variable {S : Type} {C : Cn S} {W : L2.WX} {X : Cx}
abbrev EvL' (S : Type) := List Sl → S → Res S (List D)
def tA (C : Cn S) (W : L2.WX) (f : EvL' S) : TA := fun σ H Q => ∃ P s, Rel C P σ H s ∧ Run C W P σ H s (f P.ρ s) fun ds s' H' => ∀ vs, RpL C.K H' (Fc C P s') vs ds → Q vs H'
theorem pa_mono {es : List Expr} {t t' : TA} (h : PA X es t) (i : ∀ σ H Q, t' σ H Q → t σ H Q) : PA X es t' := ⟨fun pos pins s σ H Q I q => h.run pos pins s σ H Q I (i σ H Q q)⟩
def isStar : Expr → Bool
  | .Starred _ _ => true
  | _ => false
theorem star_no {e : Expr} {es : List Expr} {env : Env} (h : isStar e = false) : starEach (e :: es) env = (false, eval e env) :: starEach es env := by
  cases e <;> first | rfl | (simp [isStar] at h; done)
theorem star_nos {es : List Expr} {env : Env} : ∀ {es : List Expr}, es.all (fun e => !isStar e) = true → (starEach es env).any (·.1) = false
  | [], _ => rfl
  | e :: es, h => by
    simp only [List.all_cons, Bool.and_eq_true, Bool.not_eq_true'] at h
    rw [star_no h.1, List.any_cons, star_nos (es := es) h.2]
    rfl
theorem star_back {es : List Expr} {env : Env} {pos : Pos} (h : es.all (fun e => !isStar e) = true) : (backTo pos (starEach es env)).any (·.1) = false := by
  have := star_nos (es := es) (env := env) h
  unfold backTo
  rw [List.any_map]
  exact this
def nilA : EvL' S := fun _ s => .ok [] s
def consA (f : EvF S) (g : EvL' S) : EvL' S := fun ρ s => (f ρ s).bind fun d s1 => (g ρ s1).bind fun ds s2 => .ok (d :: ds) s2
def starA (f : EvF S) (g : EvL' S) : EvL' S := fun ρ s => (f ρ s).bind fun d s1 => match d with
  | .tup xs | .lst xs => (g ρ s1).bind fun ds s2 => .ok (xs ++ ds) s2
  | _ => .stuck
theorem sa_nil : PA X [] (tA C W nilA) := pa_mono pa_nil fun σ H Q ⟨P, s, R, q⟩ => (q.now R) _ .nil
theorem sa_cons {e : Expr} {es : List Expr} {f : EvF S} {g : EvL' S} (he : PE X e (tP C W f)) (hr : PA X es (tA C W g)) (hs : isStar e = false) : PA X (e :: es) (tA C W (consA f g)) :=
  pa_mono (pa_cons he hr (star_no hs)) fun σ H Q ⟨P, s, R, q⟩ => ⟨P, s, R, q.bind.mono fun d s1 H1 R1 x1 q1 v rv => ⟨P, s1, R1, q1.bind.mono fun ds s2 H2 R2 x2 q2 vs rvs => (q2.now R2) _ (.cons (rv.xt x2 R1.st) rvs)⟩⟩
theorem sa_star {e : Expr} {es : List Expr} {p : Pos} {f : EvF S} {g : EvL' S} (hK : C.K = X.K) (he : PE X e (tK C W f)) (hr : PA X es (tA C W g)) : PA X (.Starred e p :: es) (tA C W (starA f g)) :=
  pa_mono (StX.pa_star he hr) fun σ H Q ⟨P, s, R, q⟩ => ⟨P, s, R, q.bind.mono fun d s1 H1 R1 x1 q1 v tv => by
    cases d with
    | tup xs =>
      obtain ⟨a, vs, rfl, h, rv⟩ := tv.tup
      exact ⟨a, vs, rfl, .inl (by rw [← hK]; exact h), P, s1, R1, q1.bind.mono fun ds s2 H2 R2 x2 q2 ws rws => (q2.now R2) _ ((rv.xt x2 R1.st).append rws)⟩
    | lst xs =>
      obtain ⟨a, vs, rfl, h, rv⟩ := tv.lst
      exact ⟨a, vs, rfl, .inr (.inl (.inl h)), P, s1, R1, q1.bind.mono fun ds s2 H2 R2 x2 q2 ws rws => (q2.now R2) _ ((rv.xt x2 R1.st).append rws)⟩
    | _ => exact q1.elim⟩
def tupE (f : EvL' S) : EvF S := fun ρ s => (f ρ s).bind fun ds s1 => if ds.length ≤ sizeLine then .ok (.tup ds) s1 else .stuck
def lstE (f : EvL' S) : EvF S := fun ρ s => (f ρ s).bind fun ds s1 => if ds.length ≤ sizeLine then .ok (.lst ds) s1 else .stuck
theorem sd_tup {es : List Expr} {k : Nat} {pos : Pos} {f : EvL' S} (h : PA X es (tA C W f)) : PE X (.Tuple es k pos) (tF C W (tupE f)) :=
  pe_mono (pe_tup h) fun σ H Q ⟨P, s, R, q⟩ => ⟨P, s, R, q.bind.mono fun ds s1 H1 R1 x1 q1 vs rv => by
    split at q1
    · rename_i hz
      exact ⟨by rw [rv.length]; exact hz, fun p hp => q1 _ (R1.new hp) (Xt.new hp) _ ((Fr.newT R1 hp rv).back x1)⟩
    · exact q1.elim⟩
theorem sd_lst {es : List Expr} {pos : Pos} {f : EvL' S} (h : PA X es (tA C W f)) : PE X (.List es pos) (tF C W (lstE f)) :=
  pe_mono (pe_lst h) fun σ H Q ⟨P, s, R, q⟩ => ⟨P, s, R, q.bind.mono fun ds s1 H1 R1 x1 q1 vs rv => by
    split at q1
    · rename_i hz
      exact ⟨by rw [rv.length]; exact hz, fun p hp => q1 _ (R1.new hp) (Xt.new hp) _ ((Fr.newL R1 hp rv).back x1)⟩
    · exact q1.elim⟩

/-! ### items -/
def dIx : D → D → Option D
  | .tup ds, .int i => atI ds i
  | .lst ds, .int i => atI ds i
  | .scr ds, .int i => atI ds i
  | .str z, .int i => if z.length ≤ sizeLine then (atI z.cps.toList i).map fun c => .str ⟨#[c]⟩ else none
  | _, _ => none
theorem RpL.atI {K : PySem.W.Frag} {H : Hp} {F : Addr → Prop} {vs : List V} {ds : List D} {i : Int} {d : D} (h : RpL K H F vs ds) (e : L2.atI ds i = some d) : ∃ v, L2.atI vs i = some v ∧ Rp K H F v d := by
  unfold L2.atI at e ⊢
  rw [h.length]
  cases q : ixN ds.length i with
  | none => rw [q] at e; cases e
  | some j =>
    rw [q] at e
    obtain ⟨v, e1, e2⟩ := h.get (i := j) (d := d) e
    exact ⟨v, e1, e2⟩
def rIxQ (C : Cn S) : R2 := fun x y H Q => ∃ P s σ dx dy d, Rel C P σ H s ∧ Top C P s H x dx ∧ Top C P s H y dy ∧ dIx dx dy = some d ∧ ∀ v, Rp C.K H (Fc C P s) v d → Q v H
theorem Top.scr {P : Pt} {s : S} {H : Hp} {v : V} {ds : List D} (h : Top C P s H v (.scr ds)) : ∃ a vs, v = .ref a ∧ Frz C.K H a vs ∧ RpL C.K H (Fc C P s) vs ds := by
  rcases h with h | ⟨a, vs, ds', e1, e2, na, e, q⟩
  · cases h with
    | scr h q => exact ⟨_, _, rfl, h, q⟩
  · cases e2
theorem ixq (hK : C.K = X.K) : IxR X (rIxQ C) := by
  intro value slice pins s σ H x y v u Q I rx ry h hs
  refine ix_seq value slice pins s σ H x y v u Q I rx ry ?_ hs
  obtain ⟨P, st, σ', dx, dy, d, R, tx, ty, e, k⟩ := h
  cases dx <;> cases dy <;> simp only [dIx, reduceCtorEq] at e
  · split at e
    · simp only [Option.map_eq_some_iff] at e
      obtain ⟨c, e, rfl⟩ := e
      exact .inr (.inr ⟨_, _, c, top_str tx, top_int ty, by assumption, e, k _ (.str _)⟩)
    · cases e
  · obtain ⟨a, vs, rfl, h, rv⟩ := tx.tup
    obtain ⟨w, e1, e2⟩ := rv.atI e
    exact .inr (.inl ⟨a, vs, _, w, rfl, top_int ty, by rw [← hK]; exact h, e1, k _ e2⟩)
  · obtain ⟨a, vs, rfl, h, rv⟩ := tx.lst
    obtain ⟨w, e1, e2⟩ := rv.atI e
    exact .inl ⟨a, vs, _, w, rfl, top_int ty, .inl (.inl h), e1, k _ e2⟩
  · obtain ⟨a, vs, rfl, h, rv⟩ := tx.scr
    obtain ⟨w, e1, e2⟩ := rv.atI e
    exact .inl ⟨a, vs, _, w, rfl, top_int ty, by rw [← hK]; exact h.sq, e1, k _ e2⟩
def isSlice : Expr → Bool
  | .Slice _ _ _ _ => true
  | _ => false
theorem plainIx_of {b : Expr} (h : isSlice b = false) : PlainIx b := by
  intro o i
  cases b <;> first | rfl | (simp [isSlice] at h; done)
theorem sd_ix {a b : Expr} {pos : Pos} {fa fb : EvF S} (hK : C.K = X.K) (ha : PE X a (tK C W fa)) (hb : PE X b (tK C W fb)) (hs : isSlice b = false) : PE X (.Subscript a b pos) (tP C W (bin dIx fa fb)) := by
  refine pe_mono (pe_ix (ixq hK) ha hb (plainIx_of hs)) fun σ H Q ⟨P, s, R, q⟩ => ?_
  refine ⟨P, s, R, q.bind.mono fun x s1 H1 R1 x1 q1 vx tx => ⟨P, s1, R1, q1.bind.mono fun y s2 H2 R2 x2 q2 vy ty => ?_⟩⟩
  obtain ⟨d, e, k⟩ := run_ofO q2
  exact ⟨P, s2, σ, x, y, d, R2, tx.xt x2 R1.st, ty, e, k H2 R2 Xt.refl⟩

/-! ### slices -/
def cutD {α : Type} (xs : List α) (lo hi : Option Int) : List α := (xs.drop (HT.sIx xs.length 0 lo)).take (HT.sIx xs.length xs.length hi - HT.sIx xs.length 0 lo)
theorem RpL.cut {K : PySem.W.Frag} {H : Hp} {F : Addr → Prop} {vs : List V} {ds : List D} (h : RpL K H F vs ds) (lo hi : Option Int) : RpL K H F (cutV vs lo hi) (cutD ds lo hi) := by
  unfold cutV cutD
  rw [h.length]
  exact (h.drop _).take _
def dSl : D → Option Int → Option Int → Option D
  | .tup ds, lo, hi => some (.tup (cutD ds lo hi))
  | .lst ds, lo, hi => some (.lst (cutD ds lo hi))
  | .scr ds, lo, hi => some (.lst (cutD ds lo hi))
  | .str z, lo, hi => if z.length ≤ sizeLine then some (.str (cutS z lo hi)) else none
  | _, _, _ => none
def rSlQ (C : Cn S) : V → Option Int → Option Int → Hp → VK → Prop := fun x lo hi H Q => ∃ P s σ dx d, Rel C P σ H s ∧ Top C P s H x dx ∧ dSl dx lo hi = some d ∧ ∀ v H', Xt C.T s s H H' → C.T.R s H' → Fr C P s H H' v d → Q v H'
theorem slq (hK : C.K = X.K) : SlR X (rSlQ C) := by
  intro pins s σ H x v vl vu lo hi sl Q I rx is pl pu h
  refine (SlR.or sl_list (SlR.or sl_tupA sl_str)) pins s σ H x v vl vu lo hi sl Q I rx is pl pu ?_
  obtain ⟨P, st, σ', dx, d, R, tx, e, k⟩ := h
  cases dx <;> simp only [dSl, reduceCtorEq] at e
  · split at e
    · cases e
      exact .inr (.inr ⟨_, top_str tx, by assumption, k _ _ Xt.refl R.st (.str _)⟩)
    · cases e
  · cases e
    obtain ⟨a, vs, rfl, h, rv⟩ := tx.tup
    refine .inr (.inl ⟨a, vs, rfl, by rw [← hK]; exact h, fun z => ?_, fun _ p hp => k _ _ (Xt.new hp) (st_new R.st hp) (Fr.newT R hp (rv.cut lo hi))⟩)
    have := rv.cut lo hi
    unfold cutV at this
    rw [z.1, z.2, Nat.sub_zero, List.drop_zero, List.take_length] at this
    exact k _ _ Xt.refl R.st (Fr.plain (.tup h this) fun _ e => nomatch e)
  · cases e
    obtain ⟨a, vs, rfl, h, rv⟩ := tx.lst
    exact .inl ⟨a, vs, rfl, .inl (.inl h), fun p hp => k _ _ (Xt.new hp) (st_new R.st hp) (Fr.newL R hp (rv.cut lo hi))⟩
  · cases e
    obtain ⟨a, vs, rfl, h, rv⟩ := top_scr tx
    exact .inl ⟨a, vs, rfl, by rw [← hK]; exact h.sq, fun p hp => k _ _ (Xt.new hp) (st_new R.st hp) (Fr.newL R hp (rv.cut lo hi))⟩
abbrev EvO' (S : Type) := List Sl → S → Res S (Option Int)
def tO (C : Cn S) (W : L2.WX) (f : EvO' S) : TO := fun σ H Q => ∃ P s, Rel C P σ H s ∧ Run C W P σ H s (f P.ρ s) fun o s' H' => Q o H'
def noneO : EvO' S := fun _ s => .ok none s
def someO (f : EvF S) : EvO' S := fun ρ s => (f ρ s).bind fun d s1 => match d with
  | .int i => .ok (some i) s1
  | _ => .stuck
theorem po_mono {e : Option Expr} {t t' : TO} (h : PO X e t) (i : ∀ σ H Q, t' σ H Q → t σ H Q) : PO X e t' := ⟨fun pins s σ H Q I q => h.run pins s σ H Q I (i σ H Q q)⟩
theorem so_none : PO X none (tO C W noneO) := po_mono po_none fun σ H Q ⟨P, s, R, q⟩ => q.now R
theorem so_some {e : Expr} {f : EvF S} (h : PE X e (tK C W f)) : PO X (some e) (tO C W (someO f)) := po_mono (po_some h) fun σ H Q ⟨P, s, R, q⟩ => ⟨P, s, R, q.bind.mono fun d s1 H1 R1 x1 q1 v tv => by
  cases d with
  | int i => exact ⟨i, top_int tv.weak, q1.now R1⟩
  | _ => exact q1.elim⟩
def slE (f : EvF S) (g h : EvO' S) : EvF S := fun ρ s => (f ρ s).bind fun x s1 => (g ρ s1).bind fun lo s2 => (h ρ s2).bind fun hi s3 => ofO (dSl x lo hi) s3
theorem sd_sl {e : Expr} {lo hi : Option Expr} {p2 pos : Pos} {f : EvF S} {g h : EvO' S} (hK : C.K = X.K) (he : PE X e (tK C W f)) (hl : PO X lo (tO C W g)) (hh : PO X hi (tO C W h)) : PE X (.Subscript e (.Slice lo hi none p2) pos) (tF C W (slE f g h)) := by
  refine pe_mono (pe_slice (slq hK) he hl hh) fun σ H Q ⟨P, s, R, q⟩ => ?_
  refine ⟨P, s, R, q.bind.mono fun x s1 H1 R1 x1 q1 vx tx => ⟨P, s1, R1, q1.bind.mono fun lo s2 H2 R2 x2 q2 => ⟨P, s2, R2, q2.bind.mono fun hi s3 H3 R3 x3 q3 => ?_⟩⟩⟩
  obtain ⟨d, e, k⟩ := run_ofO q3
  exact ⟨P, s3, σ, x, d, R3, (tx.xt x2 R1.st).xt x3 R2.st, e, fun v H' x4 st' fr => k H' (R3.xt x4 st') x4 v (fr.back ((x1.trans x2).trans x3))⟩
end
end Q

/-! Lay6: defs by what they do to data; their calls. -/
namespace Q
open PySem L2
/-- a def: how many arguments; whether a list that it returns is a new one; what it does -/
structure Fn (S : Type) where
  n : Nat
  fr : Bool
  F : List D → S → Res S D
/-- a result, F where its lists lie, H the heap ahead -/
def FrP (K : PySem.W.Frag) (H H' : Hp) (F : Addr → Prop) (fr : Bool) (v : V) (d : D) : Prop :=
  Rp K H' F v d ∧ (fr = true → ∀ ds, d = .lst ds → ∃ a vs, v = .ref a ∧ H a = none ∧ H' a = some (.lst vs) ∧ RpL K H' (fun x => F x ∧ x ≠ a) vs ds)
section
variable {S : Type}
def RetF (T : StK S) (F0 : Addr → Prop) (H : Hp) (s' : S) (a : Addr) : Prop := (F0 a ∨ H a = none) ∧ ¬ T.A s' a
/-- what a def's end gives -/
def spR (K : PySem.W.Frag) (T : StK S) (cls : Str → Option Addr) (fr : Bool) (s : S) (F0 : Addr → Prop) (H : Hp) (Q : VK) (E : XK) : Res S D → Prop
  | .ok d s' => ∀ v H', Xt T s s' H H' → T.R s' H' → FrP K H H' (RetF T F0 H s') fr v d → Q v H'
  | .err x s' => ∀ c dd H', Xt T s s' H H' → T.R s' H' → RX (⟨K, T, H, s, F0, cls⟩ : Cn S) (RetF T F0 H s') H' x c dd → E c dd H'
  | .stuck => False
  | .new p g => ∀ a, p a = true → spR K T cls fr s F0 H Q E (g a)
/-- the promise of a def -/
def spS (K : PySem.W.Frag) (T : StK S) (cls : Str → Option Addr) (f : Fn S) : Sp := fun vs H Q E => vs.length = f.n ∧ ∃ ds s F0, RpL K H F0 vs ds ∧ T.R s H ∧ (∀ a, F0 a → ¬ T.A s a) ∧ spR K T cls f.fr s F0 H Q E (f.F ds s)
/-- no state -/
def TU : StK Unit := ⟨fun _ _ => True, fun _ _ => False, fun _ h => h.elim, fun _ _ => trivial⟩
theorem FrP.mono {K : PySem.W.Frag} {H H' : Hp} {F F' : Addr → Prop} {fr : Bool} {v : V} {d : D} (h : FrP K H H' F fr v d) (i : ∀ a, F a → H' a ≠ none → F' a) : FrP K H H' F' fr v d :=
  ⟨h.1.wk i, fun e ds q => let ⟨a, vs, e1, e2, e3, r⟩ := h.2 e ds q; ⟨a, vs, e1, e2, e3, r.wk fun x f n => ⟨i x f.1 n, f.2⟩⟩⟩
end

/-- a def's promise, called where no repr is going on -/
structure FnG (P : Program) (w : World) (K : PySem.W.Frag) (mg : Str → Option Value) (base : Heap) (CX : CXT) (k : Nat) (f : Addr) (fd : FuncData) (ps : List Str) (sp : Sp) : Prop where
  len : ∀ vs H Q E, sp vs H Q E → vs.length = ps.length
  run : ∀ (A : Around) (outer : List Env) (s : Shared) (H : Hp) (args : Args) (us : List Value) (vs : List V) (Q : VK) (E : XK), Room k A → A.guards = some [] → Env0 P w K mg base A outer s H → BindsTo s fd args (ps.zip us) → Vals vs us → sp vs H Q E →
    codeAny (model P w) A (.call (.ref f) args) (CR CX outer P w H s Q E) s
theorem FnG.of {P : Program} {w : World} {K : PySem.W.Frag} {mg : Str → Option Value} {base : Heap} {CX : CXT} {k : Nat} {f : Addr} {fd : FuncData} {ps : List Str} {sp : Sp} (F : FnOk P w K mg base CX k f fd ps sp) : FnG P w K mg base CX k f fd ps sp :=
  ⟨F.len, fun A outer s H args us vs Q E hr _ => F.run A outer s H args us vs Q E hr⟩
theorem FnG.imp {P : Program} {w : World} {K : PySem.W.Frag} {mg : Str → Option Value} {base : Heap} {CX : CXT} {k : Nat} {f : Addr} {fd : FuncData} {ps : List Str} {sp sp' : Sp} (F : FnG P w K mg base CX k f fd ps sp) (h : ∀ vs H Q E, sp' vs H Q E → sp vs H Q E) : FnG P w K mg base CX k f fd ps sp' :=
  ⟨fun vs H Q E q => F.len vs H Q E (h _ _ _ _ q), fun A outer s H args us vs Q E hr hg he hb hv hs => F.run A outer s H args us vs Q E hr hg he hb hv (h _ _ _ _ hs)⟩
section
variable {S : Type} {C : Cn S} {W : L2.WX} {X : Cx}
theorem run_fnG {CX : CXT} {k : Nat} {f : Addr} {fd : FuncData} {ps : List Str} {sp : Sp} {E : L2.St → XK} {pins : List (Addr × Obj)} {σ : L2.St} {H : Hp} {s : Shared} {Q : VK} {us : List Value} {vs : List V} (F : FnG X.prog X.w X.K X.mg X.base CX k f fd ps sp) (hr : Room k X.A) (hgd : X.A.guards = some [])
    (hb : Binds X.K fd ps []) (hx : PassesAt CX X σ (E σ)) (I : L2.Inv X pins σ H s) (r : Vals vs us) (h : sp vs H Q (E σ)) : wpAny (model X.prog X.w) X.A (call (.ref f) us) (EP X pins σ Q) X.xe s := by
  have hl : us.length = ps.length := by rw [← r.length]; exact F.len _ _ _ _ h
  have b := hb s us I.kIn (by rw [List.append_nil]; exact hl)
  rw [List.append_nil] at b
  refine wpAny_call (codeAny_mono (F.run X.A X.stack s H ⟨us, []⟩ us vs Q (E σ) hr hgd I.env0 b r h) fun r s' hq => ?_)
  cases r with
  | error e => exact hx pins H s e s' I hq
  | ok fl => cases fl <;> first | exact I.after hq | exact False.elim hq
structure CalOk (C : Cn S) (X : Cx) (x : Str) (f : Fn S) : Prop where
  ok : ∃ (a : Addr) (fd : FuncData) (ps : List Str) (k : Nat), FnG X.prog X.w X.K X.mg X.base (L2.CX X.prog X.w) k a fd ps (spS C.K C.T C.cls f) ∧ Room k X.A ∧ X.mg x = some (.ref a) ∧ PySem.W.keepIn X.K (.ref a) = true ∧ Binds X.K fd ps []
def callF (f : Fn S) (g : EvL' S) : EvF S := fun ρ s => (g ρ s).bind fun ds s1 => if ds.length = f.n then f.F ds s1 else .stuck
/-- what a call asks of its end -/
theorem t_call {f : Fn S} {g : EvL' S} {σ : L2.St} {H : Hp} {Q : VK} {P : Pt} {s : S} (R : Rel C P σ H s)
    (q : Run C W P σ H s (callF f g P.ρ s) fun d s' H' => ∀ v, (Rp C.K H' (Fc C P s') v d) → (f.fr = true → Fr C P s' H H' v d) → Q v H') :
    tA C W g σ H fun vs H1 => spS C.K C.T C.cls f vs H1 Q (WE W σ) := by
  refine ⟨P, s, R, q.bind.mono fun ds s1 H1 R1 x1 q1 vs rv => ?_⟩
  split at q1
  · rename_i hn
    refine ⟨rv.length.trans hn, ds, s1, Fc C P s1, rv, R1.st, fun a z => z.2.2.2, ?_⟩
    have fc : ∀ {s2 : S} {a : Addr}, RetF C.T (Fc C P s1) H1 s2 a → Fc C P s2 a := fun {s2 a} z => by
      rcases z.1 with y | y
      · exact ⟨y.1, y.2.1, y.2.2.1, z.2⟩
      · have w := R1.fresh y
        exact ⟨w.1, w.2.1, w.2.2.1, z.2⟩
    revert q1
    induction f.F ds s1 with
    | ok d s2 =>
      intro q1
      intro v H2 x2 st2 fr
      refine q1 H2 (R1.xt x2 st2) x2 v (fr.1.wk fun a z _ => fc z) fun hf => ⟨fr.1.wk fun a z _ => fc z, fun es e' => ?_⟩
      obtain ⟨a, ws, h1, h2, h3, h4⟩ := fr.2 hf es e'
      exact ⟨a, ws, h1, x1.none_of h2, h3, h4.wk fun b z _ => ⟨fc z.1, z.2⟩⟩
    | err x s2 =>
      intro q1
      intro c dd H2 x2 st2 rx
      refine q1 c dd H2 (R1.xt x2 st2) x2 ?_
      obtain ⟨cc, h1, h2, h3, h4⟩ := rx
      refine ⟨cc, h1, h2, h3, fun z => ?_⟩
      obtain ⟨dx, ws, g1, g2, g3⟩ := h4 z
      exact ⟨dx, ws, g1, g2, g3.wk fun a f _ => fc f⟩
    | stuck => exact fun q1 => q1
    | new p g ih => exact fun q1 a ha => ih a (q1 a ha)
  · exact q1.elim
theorem gl_of {N : List Str} {sc : Scope} (k : Xk C W X N sc) {x : Str} (h : glB sc x = true) : Gl X x ∧ (x == ("__debug__" : Str)) = false ∧ x ≠ ("__name__" : Str) := by
  unfold glB at h
  simp only [Bool.and_eq_true, bne_iff_ne, ne_eq, beq_iff_eq] at h
  refine ⟨?_, by simpa using h.1.2, h.2⟩
  show X.env.kindOf x = _
  unfold Env.kindOf
  rw [k.scope]
  exact h.1.1
theorem pe_call_any {N : List Str} {sc : Scope} (k : Xk C W X N sc) {x : Str} {f : Fn S} {g : EvL' S} {es : List Expr} {p pos : Pos} (c : CalOk C X x f) (hg : glB sc x = true) (ha : PA X es (tA C W g)) (hs : es.all (fun e => !isStar e) = true) (hn : es = [] → g = nilA) :
    PE X (.Call (.Name x p) es [] pos) (fun σ H Q => tA C W g σ H fun vs H1 => spS C.K C.T C.cls f vs H1 Q (WE W σ)) := by
  obtain ⟨a, fd, ps, kk, F, hr, hm, hk, hb⟩ := c.ok
  obtain ⟨h1, h2, h3⟩ := gl_of k hg
  cases es with
  | nil =>
    refine ⟨fun pins s σ H Q I h => ?_⟩
    refine wpAny_Call_Name_kw (ld_glob I h1 hm ?_ h2)
    refine PySem.W.callWith_K0 I.kIn hk ?_
    rw [hn rfl] at h
    obtain ⟨P, st, R, q⟩ := h
    exact run_fnG (E := WE W) F hr k.gd hb (passAt k.tk σ) I .nil ((q.now R) _ .nil)
  | cons e es =>
    simp only [List.all_cons, Bool.and_eq_true, Bool.not_eq_true'] at hs
    refine ⟨fun pins s σ H Q I h => ?_⟩
    refine wpAny_Call_Name_kw (ld_glob I h1 hm ?_ h2)
    refine PySem.W.callWith_K (h₀ := X.base) I.ok.mod.kin hk (thn (ha.run pos pins s σ H _ I h) fun us s1 ⟨vs, H1, I1, r, q⟩ => ⟨I1.kIn, ?_⟩) (star_no hs.1) (star_back hs.2)
    exact run_fnG (E := WE W) F hr k.gd hb (passAt k.tk σ) I1 r q
theorem sd_call {N : List Str} {sc : Scope} (k : Xk C W X N sc) {x : Str} {f : Fn S} {g : EvL' S} {es : List Expr} {p pos : Pos} (c : CalOk C X x f) (hg : glB sc x = true) (ha : PA X es (tA C W g)) (hs : es.all (fun e => !isStar e) = true) (hn : es = [] → g = nilA) :
    PE X (.Call (.Name x p) es [] pos) (tP C W (callF f g)) :=
  pe_mono (pe_call_any k c hg ha hs hn) fun σ H Q ⟨P, s, R, q⟩ => t_call R (q.mono fun d s' H' _ _ kk v rv _ => kk v rv)
theorem sd_callF {N : List Str} {sc : Scope} (k : Xk C W X N sc) {x : Str} {f : Fn S} {g : EvL' S} {es : List Expr} {p pos : Pos} (c : CalOk C X x f) (hf : f.fr = true) (hg : glB sc x = true) (ha : PA X es (tA C W g)) (hs : es.all (fun e => !isStar e) = true) (hn : es = [] → g = nilA) :
    PE X (.Call (.Name x p) es [] pos) (tF C W (callF f g)) :=
  pe_mono (pe_call_any k c hg ha hs hn) fun σ H Q ⟨P, s, R, q⟩ => t_call R (q.mono fun d s' H' _ _ kk v _ fr => kk v (fr hf))
end
end Q

set_option maxHeartbeats 1000000
/-! Lay7: what a for, a comprehension walks. -/
namespace PySem
open Sem (wp)
open AutoSeq1 (wpAny_loadPart')
/-- enumerate of a tuple -/
theorem meets_enumerate_newT (l : Addr) (items : Array Value) (n : Nat) (dct : Option Addr) (sl : Array (Option Value)) :
    Meets (Builtin.«enumerate.__new__» ⟨[.type "enumerate", .ref l], []⟩) (fun _ R s => s.heap.get? l = some { cls := .type "tuple", dict := dct, data := .seq items n, slots := sl } ∧
      R (.ok (.ret (.ref (s.heap.push { cls := .type "tuple_iterator", data := .fields #[.ref l, .int 0 0] }).objs.size)))
        { s with heap := (s.heap.push { cls := .type "tuple_iterator", data := .fields #[.ref l, .int 0 0] }).push { cls := .type "enumerate", data := .fields #[.none, .bool false, .ref s.heap.objs.size, rawInt 0, .none, .none] } }) :=
  .of_wp fun prog w A R s h => by
    obtain ⟨hp, g, d, tk, os⟩ := s; obtain ⟨hl, h⟩ := h
    have hsub := sub_enumerate
    have hL : Heap.IsTuple (Shared.heap ⟨hp, g, d, tk, os⟩) l items := ⟨_, hl, rfl, n, rfl⟩
    wp_walk using wpAny_loadPart' hl
    refine wpAny_stack_any fun st => wpAny_pure ?_
    split
    · rename_i c _ _ _ _ _
      cases (c == Value.type "enumerate")
      · wp_walk using wpAny_loadPart' hl, wpAny_pyIter_tuple hL
        exact ⟨_, rfl, h⟩
      · wp_walk using wpAny_loadPart' hl, wpAny_pyIter_tuple hL
        exact ⟨_, rfl, h⟩
    · wp_walk using wpAny_loadPart' hl, wpAny_pyIter_tuple hL
      exact ⟨_, rfl, h⟩
section
variable {prog : Program} {w : World} {A : Around} {E : Value → Shared → Prop} {s : Shared}
theorem call_enumerate_tuple {l : Addr} {items : Array Value} {Q : Value → Shared → Prop} (hL : s.heap.IsTuple l items)
    (h : ∀ h', IsEnum h' (s.heap.objs.size + 1) s.heap.objs.size 0 .none → h'.IsTupleIter s.heap.objs.size l 0 → h'.objs.size = s.heap.objs.size + 2 →
      (∀ b o, s.heap.get? b = some o → h'.get? b = some o) → Q (.ref (s.heap.objs.size + 1)) { s with heap := h' }) :
    wpAny (model prog w) A (call (.type "enumerate") [.ref l]) Q E s := by
  obtain ⟨⟨c, dct, dt, sl⟩, hl, hc, n, hd⟩ := hL
  replace hc : c = .type "tuple" := hc
  replace hd : dt = .seq items n := hd
  subst hc hd
  refine callType_new F.called_enumerate (by decide) (F.typeCall_enumerate_1 _) (F.newCall_enumerate_1 _) (fun obj => F.args_object_init_2 obj _) F.entry_enumerate_new
    (meets_enumerate_newT l items n dct sl) ⟨hl, ?_⟩
  have hz : (s.heap.push { cls := .type "tuple_iterator", data := .fields #[.ref l, .int 0 0] }).objs.size = s.heap.objs.size + 1 := Heap.size_push ..
  show _ ∧ _
  rw [hz]
  have he : IsEnum ((s.heap.push { cls := .type "tuple_iterator", data := .fields #[.ref l, .int 0 0] }).push
      { cls := .type "enumerate", data := .fields #[.none, .bool false, .ref s.heap.objs.size, rawInt 0, .none, .none] }) (s.heap.objs.size + 1) s.heap.objs.size 0 .none := by
    have := Heap.get?_push_size (s.heap.push { cls := .type "tuple_iterator", data := .fields #[.ref l, .int 0 0] })
      (o := { cls := .type "enumerate", data := .fields #[.none, .bool false, .ref s.heap.objs.size, rawInt 0, .none, .none] }) rfl
    rw [hz] at this; exact this
  refine ⟨⟨_, he, rfl⟩, h _ he ⟨_, Heap.get?_push_of_some _ (Heap.get?_push_size _ rfl), rfl, rfl⟩ (by rw [Heap.size_push, hz]) fun b o x => Heap.get?_push_of_some _ (Heap.get?_push_of_some _ x)⟩
theorem wpAny_pyNext_enum_endT {e it l : Addr} {i : Nat} {items : Array Value} {old : Value} {Q : Option Value → Shared → Prop} (hh : A.handled = none)
    (he : IsEnum s.heap e it i old) (hit : s.heap.IsTupleIter it l i) (hl : s.heap.IsTuple l items) (hx : items[i]? = none)
    (hQ : ∀ h', Heap.ExtBut it s.heap h' → Q none { s with heap := h' }) : wpAny (model prog w) A (pyNext (.ref e)) Q E s := by
  have hT : s.TypeIs (.ref e) "enumerate" := ⟨_, he, rfl⟩
  unfold pyNext
  refine wpAny_bind (wpAny_attempt (wpAny_callSpecial?_slot (name := Str.ofString "__next__") hT F.slot_enumerate_next
    (wpAny_call_entry F.slot_enumerate_next hT F.entry_enumerate_next ?_ (F.args_enumerate_next_1 _))))
  show wpAny _ _ (field (.ref e) 2 >>= _) _ _ _
  refine wpAny_bind (wpAny_field he rfl (x := .ref it) rfl ?_)
  refine wpAny_bind (wpAny_nextOf_tuple_end hh hit hl hx fun h' x he' hx' => ?_)
  obtain ⟨o, ho, hc⟩ := hx'
  refine wpAny_bind (wpAny_isInstance (T := "StopIteration") (b := true) ⟨o, ho, hc⟩ isSubtype_stop ?_)
  exact wpAny_pure (hQ _ he')
end
end PySem
namespace L2
open PySem PySem.Spec PyProof.Rows
def IteT (K : PySem.W.Frag) (a : Addr) : It :=
  ⟨fun i H => ∃ (xs : List V) (x : V), SqT K H a xs ∧ xs[i]? = some x, fun i H v H' => ∃ T x, v = .ref T ∧ H T = none ∧ H' = upd H T (.tup [.int (i : Nat), x]) ∧ ∀ xs, SqT K H a xs → xs[i]? = some x, fun i H => ∃ xs : List V, SqT K H a xs ∧ xs.length ≤ i⟩
theorem turn_enumT {P : Program} {w : World} {K : PySem.W.Frag} {elts : List Expr} {kk : Nat} {tpos : Pos} (a e it : Addr) (hae : a ≠ it) (hea : e ≠ a) :
    Turn P w K (.Tuple elts kk tpos) (IteT K a) [e, it] e (fun i h => (∃ old, IsEnum h e it ((i : Nat) : Int) old) ∧ h.IsTupleIter it a i ∧ e ≠ it) where
  mem := by simp
  obj := fun i h st b hb => by
    obtain ⟨⟨old, he⟩, ⟨o, ho, hc, hd⟩, _⟩ := st
    have e' : b = e ∨ b = it := by simpa using hb
    rcases e' with z | z
    · rw [z]; exact ⟨_, he, fun v q => nomatch q⟩
    · rw [z]; exact ⟨o, ho, fun v q => by rw [hd] at q; cases q⟩
  keep := fun i h h' st k => let ⟨⟨old, he⟩, hi, hne⟩ := st; ⟨⟨old, k e (by simp) _ he⟩, hi.at fun o q => k it (by simp) o q, hne⟩
  item := by
    intro X hP hw hK hc i pins s σ H E I hf st hg
    subst hP hw hK
    obtain ⟨⟨old, he⟩, hit, hne⟩ := st
    obtain ⟨xs, x, hq, hx⟩ := hg
    obtain ⟨its, rv, p, hz⟩ := I.tuple hq
    obtain ⟨u, hu, ru⟩ := rv.get hx
    have hel : e < s.heap.objs.size := Heap.lt_size he
    have hil : it < s.heap.objs.size := by obtain ⟨_, q, _⟩ := hit; exact Heap.lt_size q
    have hp : s.heap.IsTuple a its.toArray := p
    refine wpAny_pyNext_enum_itemD (Draws.tuple (A := X.A.in1) (show X.A.handled = none from I.ok.hd hc) it a hae its.toArray) he ⟨hit, hp⟩ (by have := (List.getElem?_eq_some_iff.mp hu).1; simpa using this) hne (by simp [hne, hea]) fun u' h' tk hu' ho hit' hT hsz hk => ?_
    have eu : u' = u := by
      have q : its[i]? = some u' := by simpa using hu'
      rw [hu] at q
      exact (Option.some.inj q).symm
    subst eu
    refine ⟨_, rfl, wpAny_letOwnedTupleGo_enum (s := { s with heap := h', toks := tk + 1 }) ho fun h'' he' sb => ?_⟩
    have hT2 : h''.get? s.heap.objs.size = some { cls := .type "tuple", data := .seq #[.int i tk, u'] } := (sb.2 _ (Nat.ne_of_gt hel)).trans hT
    have new : ObjOk X.prog X.w (upd H s.heap.objs.size (.tup [.int (i : Nat), x])) h'' s.heap.objs.size (.tup [.int (i : Nat), x]) :=
      ⟨by show 2 ≤ sizeLine; decide, [.int i tk, u'], .cons ⟨_, rfl⟩ (.cons ru .nil), ⟨_, hT2, rfl, _, rfl⟩⟩
    have I1 : Inv X pins σ (upd H s.heap.objs.size (.tup [.int (i : Nat), x])) { s with heap := h'', toks := tk + 1 } :=
      I.turnedNew (ch := [e, it]) (fun b ob hb q => (sb.2 b (fun z => hb (by simp [z]))).trans (hk b ob (fun z => hb (by simp [z])) (fun z => hb (by simp [z])) q)) hf (Nat.le_refl _) new
    refine ⟨.ref s.heap.objs.size, _, I1, rfl, ⟨_, x, rfl, I.hok.fresh (Nat.le_refl _), rfl, fun ys hy => by rw [I.tuple_inj hy hq]; exact hx⟩, ⟨⟨u', ?_⟩, hit'.1.at fun o q => (sb.2 it (Ne.symm hne)).trans q, hne⟩, fun b hb => ?_⟩
    · have e1 : ((i + 1 : Nat) : Int) = (i : Int) + 1 := by omega
      rw [e1]; exact he'
    · have hb' : b < s.heap.objs.size := by
        have e' : b = e ∨ b = it := by simpa using hb
        rcases e' with z | z
        · rw [z]; exact hel
        · rw [z]; exact hil
      rw [upd_ne (Nat.ne_of_lt hb')]
      exact (hf b hb).1
  done := by
    intro X hP hw hK hc i pins s σ H E I hf st hg
    subst hP hw hK
    obtain ⟨⟨old, he⟩, hit, hne⟩ := st
    obtain ⟨xs, hq, hx⟩ := hg
    obtain ⟨its, rv, p, hz⟩ := I.tuple hq
    obtain ⟨f0, f1, f2, f3, f4, f5⟩ := hf it (by simp)
    have hl := rv.length
    have hp : s.heap.IsTuple a its.toArray := p
    exact wpAny_pyNext_enum_endT (I.ok.hd hc) he hit hp (by simp; omega) fun h' eb => ⟨rfl, I.turned (t' := s.toks) (fun b o hb q => eb b o hb q) f0 f1 f3 f4 f5⟩
  self := fun A i s Q E st h => let ⟨⟨_, he⟩, _⟩ := st; wpAny_pyIter_enum he h
def iEnumA (K : PySem.W.Frag) (ta : TA) : TI := fun σ H R => ta σ H fun vs H1 => ∃ a xs, vs = [.ref a] ∧ ((SqL K H1 a xs ∧ R (Ite K a) H1) ∨ (SqT K H1 a xs ∧ R (IteT K a) H1))
theorem pi_enumA {X : Cx} {e : Expr} {ta : TA} {p pos tpos : Pos} {elts : List Expr} {kk : Nat} (hg : Gl X "enumerate") (hm : X.mg "enumerate" = none) (ha : PA X [e] ta) (hs : starEach [e] X.env = [(false, eval e X.env)] := by rfl) :
    PI X (.Tuple elts kk tpos) (.Call (.Name "enumerate" p) [e] [] pos) (iEnumA X.K ta) := by
  refine ⟨fun pins s σ H R I h => ?_⟩
  refine Call_ (ld_blt I hg hm boot_enumerate (PyProof.Rows.callWith_type1 (thn (ha.run pos pins s σ H _ I h) fun us s1 ⟨vs, H1, I1, r1, q1⟩ => ?_) hs rfl))
  obtain ⟨a, xs, ex, hh⟩ := q1
  subst ex
  cases r1 with
  | cons r rr =>
    cases rr
    cases r
    have fp : ∀ b ∈ [s1.heap.objs.size + 1, s1.heap.objs.size], FpOk X pins H1 b := fun b hb => by
      have e' : b = s1.heap.objs.size + 1 ∨ b = s1.heap.objs.size := by simpa using hb
      have hle : s1.heap.objs.size ≤ b := by
        rcases e' with z | z
        · rw [z]; exact Nat.le_add_right _ _
        · rw [z]; exact Nat.le_refl _
      exact I1.fpOk hle (I1.hok.fresh hle)
    rcases hh with ⟨hq, q⟩ | ⟨hq, q⟩
    · obtain ⟨its, rv, p', hz⟩ := I1.list hq
      refine call_enumerate_list p'.isList fun h' he hit hsz hk => wpAny_pyIter_enum he ?_
      have I2 : Inv X pins σ H1 { s1 with heap := h' } := I1.kept (t' := s1.toks) hk
      exact ⟨s1.heap.objs.size + 1, [s1.heap.objs.size + 1, s1.heap.objs.size], _, _, H1, rfl, I2, turn_enum a (s1.heap.objs.size + 1) s1.heap.objs.size, ⟨⟨.none, he⟩, hit, Nat.succ_ne_self _⟩, fp, q⟩
    · obtain ⟨its, rv, p', hz⟩ := I1.tuple hq
      have hp : s1.heap.IsTuple a its.toArray := p'
      have hal : a < s1.heap.objs.size := by obtain ⟨o, ho, _⟩ := hp; exact Heap.lt_size ho
      refine call_enumerate_tuple hp fun h' he hit hsz hk => wpAny_pyIter_enum he ?_
      have I2 : Inv X pins σ H1 { s1 with heap := h' } := I1.kept (t' := s1.toks) hk
      exact ⟨s1.heap.objs.size + 1, [s1.heap.objs.size + 1, s1.heap.objs.size], _, _, H1, rfl, I2, turn_enumT a (s1.heap.objs.size + 1) s1.heap.objs.size (Nat.ne_of_lt hal) (Nat.ne_of_gt (Nat.lt_succ_of_lt hal)), ⟨⟨.none, he⟩, hit, Nat.succ_ne_self _⟩, fp, q⟩
theorem walk_enumT {K : PySem.W.Frag} {a : Addr} {xs : List V} : Walk (IteT K a) xs.length (fun H => SqT K H a xs) (YPair (fun i => some (.int (i : Nat))) (fun i => xs[i]?)) := by
  refine ⟨fun i _ hi q => ⟨xs, xs[i], q, by simp [hi]⟩, fun _ q => ⟨xs, q, Nat.le_refl _⟩, fun i H v H' _ q y => ?_⟩
  obtain ⟨T, x, h1, h2, h3, h4⟩ := y
  exact ⟨T, .int (i : Nat), x, h1, h2, h3, rfl, h4 xs q⟩
/-- a list, a tuple or a text is walked -/
def iSeqA (K : PySem.W.Frag) (tl : TE) : TI := fun σ H R => tl σ H fun x H1 => (∃ a xs, x = .ref a ∧ SqL K H1 a xs ∧ R (Itl K a) H1) ∨ (∃ a xs, x = .ref a ∧ SqT K H1 a xs ∧ R (Itt K a) H1) ∨ (∃ z, x = .str z ∧ R (Its z) H1)
theorem pi_seqA {X : Cx} {tg l : Expr} {tl : TE} (hl : PE X l tl) : PI X tg l (iSeqA X.K tl) := by
  refine ⟨fun pins s σ H R I h => ?_⟩
  refine thn (hl.run pins s σ H _ I h) fun v s1 ⟨x, H1, I1, r1, q1⟩ => ?_
  rcases q1 with ⟨a, xs, e, hq, q⟩ | ⟨a, xs, e, hq, q⟩ | ⟨z, e, q⟩
  · subst e
    cases r1
    obtain ⟨its, rv, p, hz⟩ := I1.list hq
    refine wpAny_pyIter_list p.isList ?_
    refine ⟨s1.heap.objs.size, [s1.heap.objs.size], _, _, H1, rfl, I1.kept (t' := s1.toks) fun b o e => Heap.get?_push_of_some _ e, turn_list a _, ⟨_, Heap.get?_push_size _ rfl, rfl, rfl⟩, fun b hb => ?_, q⟩
    have e : b = s1.heap.objs.size := by simpa using hb
    subst e
    exact I1.fpOk (Nat.le_refl _) (I1.hok.fresh (Nat.le_refl _))
  · subst e
    cases r1
    obtain ⟨its, rv, p, hz⟩ := I1.tuple hq
    refine wpAny_pyIter_tuple (show s1.heap.IsTuple a its.toArray from p) ?_
    refine ⟨s1.heap.objs.size, [s1.heap.objs.size], _, _, H1, rfl, I1.kept (t' := s1.toks) fun b o e => Heap.get?_push_of_some _ e, turn_tuple a _, ⟨_, Heap.get?_push_size _ rfl, rfl, rfl⟩, fun b hb => ?_, q⟩
    have e : b = s1.heap.objs.size := by simpa using hb
    subst e
    exact I1.fpOk (Nat.le_refl _) (I1.hok.fresh (Nat.le_refl _))
  · subst e
    obtain ⟨t, rfl⟩ := r1
    cases ha : z.cps.all (· < 128)
    · exact wpAny_pyIter_wide ha (pi_one (tk := s1.toks) I1 _ (turn_str _ z t "str_iterator" (.inr rfl)) ⟨_, Heap.get?_push_size _ rfl, rfl, rfl⟩ q)
    · exact wpAny_pyIter_ascii ha (pi_one (tk := s1.toks) I1 _ (turn_str _ z t "str_ascii_iterator" (.inl rfl)) ⟨_, Heap.get?_push_size _ rfl, rfl, rfl⟩ q)
end L2
namespace Q
open PySem L2
section
variable {S : Type} {C : Cn S} {W : L2.WX} {X : Cx}
/-- what may happen between two turns: statements (m), or expressions alone -/
def Mv (m : Bool) (T : StK S) (P : Pt) (s : S) (H : Hp) (P' : Pt) (s' : S) (H' : Hp) : Prop := if m = true then Stp T P s H P' s' H' else P' = P ∧ Xt T s s' H H'
structure Wm (m : Bool) (C : Cn S) (P : Pt) (s : S) (H : Hp) (J : It) (ds : List D) : Prop where
  go : ∀ i d P' s' H', ds[i]? = some d → Mv m C.T P s H P' s' H' → C.T.R s' H' → J.go i H' ∧ ∀ x H3, J.yld i H' x H3 → Xt C.T s' s' H' H3 ∧ C.T.R s' H3 ∧ Rp C.K H3 (fun a => Fc C P' s' a ∧ H a ≠ none) x d
  stop : ∀ P' s' H', Mv m C.T P s H P' s' H' → C.T.R s' H' → J.stop ds.length H'
def tI (m : Bool) (C : Cn S) (W : L2.WX) (f : EvL' S) : TI := fun σ H R => ∃ P s, Rel C P σ H s ∧ Run C W P σ H s (f P.ρ s) fun ds s' H' => ∀ J, Wm m C P s' H' J ds → R J H'
theorem Mv.stp {m : Bool} {T : StK S} {P P' : Pt} {s s' : S} {H H' : Hp} (x : Mv m T P s H P' s' H') : Stp T P s H P' s' H' := by
  unfold Mv at x
  split at x
  · exact x
  · obtain ⟨rfl, x⟩ := x; exact x.stp
theorem Mv.keep {m : Bool} {T : StK S} {P P' : Pt} {s s' : S} {H H' : Hp} (x : Mv m T P s H P' s' H') {a : Addr} {o : HO} (e : H a = some o) (n : ¬ T.A s a) (h : m = true → ¬ P.mroot a) : H' a = some o := by
  unfold Mv at x
  split at x
  · rename_i hm; exact x.keep a o e n (h hm)
  · exact x.2.keep a o e n
/-- a sequence as a value: a tuple; a list that stays -/
def Src (m : Bool) (C : Cn S) (P : Pt) (s : S) (H : Hp) (v : V) (ds : List D) : Prop :=
  ∃ a vs, v = .ref a ∧ RpL C.K H (Fc C P s) vs ds ∧ (SqT C.K H a vs ∨ (H a = some (.lst vs) ∧ ¬ C.T.A s a ∧ (m = true → ¬ P.mroot a)) ∨ Frz C.K H a vs)
theorem sqT_mv {m : Bool} {P P' : Pt} {σ : L2.St} {s s' : S} {H H' : Hp} {a : Addr} {vs : List V} (x : Mv m C.T P s H P' s' H') (R : Rel C P σ H s) (h : SqT C.K H a vs) : SqT C.K H' a vs :=
  sqT_stays (x.stp.stays R (F := fun _ => False) fun _ f => f.elim) h
theorem lst_mv {m : Bool} {P P' : Pt} {σ : L2.St} {s s' : S} {H H' : Hp} {a : Addr} {vs : List V} (x : Mv m C.T P s H P' s' H') (R : Rel C P σ H s)
    (h : (H a = some (.lst vs) ∧ ¬ C.T.A s a ∧ (m = true → ¬ P.mroot a)) ∨ Frz C.K H a vs) : SqL C.K H' a vs := by
  rcases h with ⟨e, n, r⟩ | e
  · exact .inl (.inl (x.keep e n r))
  · exact (e.stays (x.stp.stays R (F := fun _ => False) fun _ f => f.elim)).sq
theorem RpL.at {m : Bool} {P P' : Pt} {σ : L2.St} {s s' : S} {H H' : Hp} {vs : List V} {ds : List D} {i : Nat} {d : D} {v : V} (h : RpL C.K H (Fc C P s) vs ds) (x : Mv m C.T P s H P' s' H') (R : Rel C P σ H s) (e1 : ds[i]? = some d) (e2 : vs[i]? = some v) : Rp C.K H' (fun a => Fc C P' s' a ∧ H a ≠ none) v d := by
  obtain ⟨w, e3, r⟩ := (h.step (F' := fun a => Fc C P' s' a ∧ H a ≠ none) (x.stp.stays R fun _ f => ⟨f.2.2.2, fun m => f.2.1 (Pt.root_of m)⟩) fun a f n => ⟨x.stp.fc a f n, n⟩).get e1
  rw [e2] at e3
  cases e3
  exact r
theorem wm_of {m : Bool} {P : Pt} {σ : L2.St} {s : S} {H : Hp} {J : It} {G : Hp → Prop} {vs : List V} {ds : List D} (R : Rel C P σ H s) (r : RpL C.K H (Fc C P s) vs ds) (w : Walk J vs.length G (YAt vs)) (g : ∀ P' s' H', Mv m C.T P s H P' s' H' → G H') : Wm m C P s H J ds := by
  refine ⟨fun i d P' s' H' e x st => ?_, fun P' s' H' x st => ?_⟩
  · have hi : i < vs.length := by rw [r.length]; exact (List.getElem?_eq_some_iff.mp e).1
    refine ⟨w.goes i H' hi (g _ _ _ x), fun y H3 yy => ?_⟩
    obtain ⟨rfl, e2⟩ := w.yields i H' y H3 hi (g _ _ _ x) yy
    exact ⟨Xt.refl, st, r.at x R e e2⟩
  · rw [← r.length]; exact w.stops H' (g _ _ _ x)
theorem wm_src {m : Bool} {P : Pt} {σ : L2.St} {s : S} {H : Hp} {v : V} {ds : List D} (R : Rel C P σ H s) (h : Src m C P s H v ds) : ∃ a vs, v = .ref a ∧ ((SqL C.K H a vs ∧ Wm m C P s H (Itl C.K a) ds) ∨ (SqT C.K H a vs ∧ Wm m C P s H (Itt C.K a) ds)) := by
  obtain ⟨a, vs, rfl, r, h⟩ := h
  rcases h with h | h
  · exact ⟨a, vs, rfl, .inr ⟨h, wm_of R r walk_tup fun P' s' H' x => sqT_mv x R h⟩⟩
  · have h0 : SqL C.K H a vs := by
      rcases h with h | h
      · exact .inl (.inl h.1)
      · exact h.sq
    exact ⟨a, vs, rfl, .inl ⟨h0, wm_of R r walk_list fun P' s' H' x => lst_mv x R h⟩⟩
end
end Q

set_option maxHeartbeats 1000000
/-! ZipT: zip of several lists and tuples of one length: its turns, what it yields. -/
namespace Q
open PySem PySem.Spec PyProof.Rows L2
inductive SqAll (K : PySem.W.Frag) (H : Hp) : List (Bool × Addr) → List (List V) → Prop
  | nil : SqAll K H [] []
  | cons {t : Bool} {a : Addr} {xs : List V} {as : List (Bool × Addr)} {xss : List (List V)} : (if t = true then SqT K H a xs else SqL K H a xs) → SqAll K H as xss → SqAll K H ((t, a) :: as) (xs :: xss)
theorem SqAll.len {K : PySem.W.Frag} {H : Hp} : ∀ {as : List (Bool × Addr)} {xss : List (List V)}, SqAll K H as xss → xss.length = as.length
  | _, _, .nil => rfl
  | _, _, .cons _ r => congrArg (· + 1) r.len
def ItzN (K : PySem.W.Frag) (as : List (Bool × Addr)) : It :=
  ⟨fun i H => ∃ xss : List (List V), SqAll K H as xss ∧ ∀ xs ∈ xss, i < xs.length,
    fun i H v H' => ∃ T ys, v = .ref T ∧ H T = none ∧ H' = upd H T (.tup ys) ∧ ∀ xss, SqAll K H as xss → ys.length = as.length ∧ ∀ (k : Nat) (xs : List V), xss[k]? = some xs → xs[i]? = ys[k]?,
    fun i H => ∃ xss : List (List V), SqAll K H as xss ∧ ∀ xs ∈ xss, xs.length ≤ i⟩
def zqOf (q : Bool × Addr) : Zq := ⟨q.1, q.2, #[]⟩
theorem ZS.congr {h : Heap} {b : Nat} {ls ls' : List Zq} {j : Nat} {f0 f1 : Value} (e : ls.map (fun q => (q.t, q.l)) = ls'.map (fun q => (q.t, q.l))) (z : ZS h b ls j f0 f1) : ZS h b ls' j f0 f1 := by
  have hl : ls.length = ls'.length := by simpa using congrArg List.length e
  refine ⟨hl ▸ z.z, hl ▸ z.ti, hl ▸ z.to, fun m q hq => ?_⟩
  have e1 : (ls'.map (fun q => (q.t, q.l)))[m]? = some (q.t, q.l) := by rw [List.getElem?_map, hq]; rfl
  rw [← e, List.getElem?_map] at e1
  cases e2 : ls[m]? with
  | none => rw [e2] at e1; cases e1
  | some q' =>
    rw [e2] at e1
    have e3 := Option.some.inj e1
    have := z.it m q' e2
    rw [show q.t = q'.t from (congrArg Prod.fst e3).symm, show q.l = q'.l from (congrArg Prod.snd e3).symm]
    exact this
/-- the sources, with what they hold -/
theorem sq_vals {X : Cx} {pins : List (Addr × Obj)} {σ : L2.St} {H : Hp} {s : Shared} (I : Inv X pins σ H s) : ∀ {as : List (Bool × Addr)} {xss : List (List V)}, SqAll X.K H as xss → ∃ ls : List Zq, ls.map (fun q => (q.t, q.l)) = as ∧ (∀ q ∈ ls, SqA s.heap q.t q.l q.xs) ∧ ∀ (k : Nat) (q : Zq) (xs : List V), ls[k]? = some q → xss[k]? = some xs → Vals xs q.xs.toList
  | _, _, .nil => ⟨[], rfl, by simp, by simp⟩
  | _, _, .cons (t := t) (a := a) (xs := xs) h r => by
    obtain ⟨ls, e1, e2, e3⟩ := sq_vals I r
    have key : ∃ its : List Value, Vals xs its ∧ SqA s.heap t a its.toArray := by
      cases t with
      | true =>
        obtain ⟨its, rv, p, _⟩ := I.tuple (show SqT X.K H a xs from h)
        exact ⟨its, rv, p⟩
      | false =>
        obtain ⟨its, rv, p, _⟩ := I.list (show SqL X.K H a xs from h)
        exact ⟨its, rv, p.isList⟩
    obtain ⟨its, rv, sq⟩ := key
    refine ⟨⟨t, a, its.toArray⟩ :: ls, by rw [List.map_cons, e1], fun q hq => ?_, fun k q xs' h1 h2 => ?_⟩
    · rcases List.mem_cons.mp hq with rfl | hq
      · exact sq
      · exact e2 q hq
    · cases k with
      | zero => cases h1; cases h2; exact rv
      | succ k => exact e3 k q xs' h1 h2
theorem vals_col {ls : List Zq} {xss : List (List V)} (hl : xss.length = ls.length) {i : Nat} (hv : ∀ (k : Nat) (q : Zq) (xs : List V), ls[k]? = some q → xss[k]? = some xs → Vals xs q.xs.toList) (hi : ∀ xs ∈ xss, i < xs.length) :
    ∃ (ys : List V) (col : List Value), Vals ys col ∧ ys.length = ls.length ∧ (∀ (k : Nat) (q : Zq), ls[k]? = some q → q.xs[i]? = col[k]?) ∧ ∀ (k : Nat) (xs : List V), xss[k]? = some xs → xs[i]? = ys[k]? := by
  induction ls generalizing xss with
  | nil =>
    cases xss with
    | nil => exact ⟨[], [], .nil, rfl, by simp, by simp⟩
    | cons _ _ => cases hl
  | cons q ls ih =>
    cases xss with
    | nil => cases hl
    | cons xs xss =>
      obtain ⟨ys, col, h1, h2, h3, h4⟩ := ih (xss := xss) (by simpa using hl) (fun k q' xs' a b => hv (k + 1) q' xs' a b) fun z hz => hi z (List.mem_cons_of_mem _ hz)
      have hx := hi xs List.mem_cons_self
      have rv := hv 0 q xs rfl rfl
      obtain ⟨u, hu, ru⟩ := rv.get (List.getElem?_eq_getElem hx)
      refine ⟨xs[i] :: ys, u :: col, .cons ru h1, by simp [h2], fun k q' e => ?_, fun k xs' e => ?_⟩
      · cases k with
        | zero => cases e; simpa using hu
        | succ k => exact h3 k q' e
      · cases k with
        | zero => cases e; simp [hx]
        | succ k => exact h4 k xs' e
def fpN (b n : Nat) : List Addr := (List.range (n + 3)).map fun k => b + k
theorem mem_fpN {b n c : Nat} : c ∈ fpN b n ↔ b ≤ c ∧ c < b + n + 3 := by
  simp only [fpN, List.mem_map, List.mem_range]
  constructor
  · rintro ⟨k, hk, rfl⟩; omega
  · rintro ⟨h1, h2⟩; exact ⟨c - b, by omega, by omega⟩
theorem ZS.obj {h : Heap} {b : Nat} {ls : List Zq} {j : Nat} {f0 f1 : Value} (z : ZS h b ls j f0 f1) {c : Nat} (hc : b ≤ c ∧ c < b + ls.length + 3) : ∃ o, h.get? c = some o ∧ ∀ v, o.data ≠ .cell v := by
  by_cases h1 : c < b + ls.length
  · have hq := z.it (c - b) ls[c - b] (List.getElem?_eq_getElem (by omega))
    rw [show b + (c - b) = c by omega] at hq
    generalize ls[c - b].t = t at hq
    cases t
    · obtain ⟨o, e, _, d⟩ := (show h.IsListIter c _ j from hq)
      exact ⟨o, e, fun v q => by rw [d] at q; cases q⟩
    · obtain ⟨o, e, _, d⟩ := (show h.IsTupleIter c _ j from hq)
      exact ⟨o, e, fun v q => by rw [d] at q; cases q⟩
  · by_cases h2 : c = b + ls.length
    · subst h2; exact ⟨_, z.ti, fun v q => nomatch q⟩
    · by_cases h3 : c = b + ls.length + 1
      · subst h3; obtain ⟨vs, _, e⟩ := z.to; exact ⟨_, e, fun v q => nomatch q⟩
      · have h4 : c = b + ls.length + 2 := by omega
        subst h4; exact ⟨_, z.z, fun v q => nomatch q⟩
theorem ZS.keep {h h' : Heap} {b : Nat} {ls : List Zq} {j : Nat} {f0 f1 : Value} (z : ZS h b ls j f0 f1) (k : ∀ c : Nat, (b ≤ c ∧ c < b + ls.length + 3) → ∀ o, h.get? c = some o → h'.get? c = some o) : ZS h' b ls j f0 f1 := by
  refine ⟨k _ (by omega) _ z.z, k _ (by omega) _ z.ti, ?_, fun m q e => (z.it m q e).at fun o u => k _ (by have := lt_of_get e; omega) o u⟩
  obtain ⟨vs, e1, e2⟩ := z.to
  exact ⟨vs, e1, k _ (by omega) _ e2⟩
theorem turn_zipN {P : Program} {w : World} {K : PySem.W.Frag} {tg : Expr} {as : List (Bool × Addr)} {b : Nat} (hn : 1 ≤ as.length ∧ as.length ≤ 8) (hb : ∀ q ∈ as, (q.2 : Nat) < b) :
    Turn P w K tg (ItzN K as) (fpN b as.length) (b + as.length + 2) (fun i h => ∃ f0 f1, F0 f0 ∧ ZS h b (as.map zqOf) i f0 f1) where
  mem := mem_fpN.mpr (by omega)
  obj := fun i h ⟨f0, f1, _, z⟩ c hc => z.obj (by rw [List.length_map]; exact mem_fpN.mp hc)
  keep := fun i h h' ⟨f0, f1, hf, z⟩ k => ⟨f0, f1, hf, z.keep fun c hc o e => k c (mem_fpN.mpr (by rw [List.length_map] at hc; exact hc)) o e⟩
  item := by
    intro X hP hw hK hc i pins s σ H E I hf st hg
    subst hP hw hK
    obtain ⟨f0, f1, hF, z⟩ := st
    obtain ⟨xss, hq, hi⟩ := hg
    obtain ⟨ls, e1, e2, e3⟩ := sq_vals I hq
    have hm : ls.map (fun q => (q.t, q.l)) = (as.map zqOf).map fun q => (q.t, q.l) := by
      rw [List.map_map, e1]
      exact (List.map_id' as).symm
    have hlen : ls.length = as.length := by simpa using congrArg List.length e1
    have z' : ZS s.heap b ls i f0 f1 := z.congr hm.symm
    obtain ⟨ys, col, v1, v2, v3, v4⟩ := vals_col (by rw [hq.len, hlen]) e3 hi
    have hcol : col.length = ls.length := by rw [← v2, v1.length]
    have hZL : ZL s.heap b ls := fun m q e => ⟨e2 q (List.mem_of_getElem? e), by
      have : (q.t, q.l) ∈ as := by rw [← e1]; exact List.mem_map.mpr ⟨q, List.mem_of_getElem? e, rfl⟩
      exact hb _ this⟩
    rw [← hlen]
    refine pyNext_zipN_item z' hF hZL (by omega) (by rw [sizeLine_eq]; omega) hcol v3 fun h' g0 g1 a1 a2 a3 a4 a5 => ?_
    refine ⟨_, rfl, go_zipN (s := { s with heap := h' }) a1 a2 fun h'' g0' z'' f'' sb => ?_⟩
    have hzl : b + ls.length + 2 < s.heap.objs.size := Heap.lt_size z'.z
    have hT2 : h''.get? s.heap.objs.size = some { cls := .type "tuple", data := .seq col.toArray } := (sb.2 _ (Nat.ne_of_gt hzl)).trans a3
    have new : ObjOk X.prog X.w (upd H s.heap.objs.size (.tup ys)) h'' s.heap.objs.size (.tup ys) :=
      ⟨by show ys.length ≤ sizeLine; rw [sizeLine_eq]; omega, col, v1, ⟨_, hT2, rfl, _, rfl⟩⟩
    have I1 : Inv X pins σ (upd H s.heap.objs.size (.tup ys)) { s with heap := h'' } :=
      I.turnedNew (t' := s.toks) (ch := fpN b ls.length) (fun c o hb q => (sb.2 c (fun q' => hb (mem_fpN.mpr (by have : @Eq Nat c (b + ls.length + 2) := q'; omega)))).trans (a5 c o (fun q' => hb (mem_fpN.mpr q')) q)) (by rw [hlen]; exact hf) (Nat.le_refl _) new
    refine ⟨.ref s.heap.objs.size, _, I1, rfl, ⟨_, ys, rfl, I.hok.fresh (Nat.le_refl _), rfl, fun xss' hx' => ⟨by omega, ?_⟩⟩, ⟨g0', g1, f'', z''.congr hm⟩, fun c hcm => ?_⟩
    · have e : xss' = xss := by
        clear hi e3 v4 e1 e2 z z' hm hlen v1 v2 v3 hcol hZL a1 a2 a3 a4 a5 z'' f'' sb hzl hT2 new I1 hn hb hf
        induction hq generalizing xss' with
        | nil => cases hx'; rfl
        | cons h1 r ih =>
          cases hx' with
          | cons h2 r2 =>
            rw [ih _ r2]
            rename_i t a xs as' xss2 _ xs2
            congr 1
            cases t with
            | true => exact I.tuple_inj h2 h1
            | false => exact I.list_inj h2 h1
      subst e
      exact v4
    · have hlt : Nat.lt c s.heap.objs.size := by have := (mem_fpN (c := c)).mp hcm; show @LT.lt Nat _ _ _; omega
      rw [upd_ne (Nat.ne_of_lt hlt)]
      exact (hf c (by rw [hlen] at hcm; exact hcm)).1
  done := by
    intro X hP hw hK hc i pins s σ H E I hf st hg
    subst hP hw hK
    obtain ⟨f0, f1, hF, z⟩ := st
    obtain ⟨xss, hq, hi⟩ := hg
    obtain ⟨ls, e1, e2, e3⟩ := sq_vals I hq
    have hm : ls.map (fun q => (q.t, q.l)) = (as.map zqOf).map fun q => (q.t, q.l) := by
      rw [List.map_map, e1]
      exact (List.map_id' as).symm
    have hlen : ls.length = as.length := by simpa using congrArg List.length e1
    have z' : ZS s.heap b ls i f0 f1 := z.congr hm.symm
    have hZL : ZL s.heap b ls := fun m q e => ⟨e2 q (List.mem_of_getElem? e), by
      have : (q.t, q.l) ∈ as := by rw [← e1]; exact List.mem_map.mpr ⟨q, List.mem_of_getElem? e, rfl⟩
      exact hb _ this⟩
    rw [← hlen]
    refine pyNext_zipN_end (I.ok.hd hc) z' hF hZL (by omega) (fun m q e => ?_) fun h' hk => ⟨rfl, I.turnedL (t' := s.toks) (ch := fpN b ls.length) (fun c o hb q => hk c o (fun q' => hb (mem_fpN.mpr q')) q) (by rw [hlen]; exact hf)⟩
    have hm' := lt_of_get e
    have hx : m < xss.length := by rw [hq.len]; omega
    have rv := e3 m q xss[m] e (List.getElem?_eq_getElem hx)
    have h1 := rv.length
    have h2 := hi xss[m] (List.getElem_mem hx)
    rw [Array.getElem?_eq_none_iff]
    simpa using (by omega : q.xs.toList.length ≤ i)
  self := fun A i s Q E ⟨f0, f1, _, z⟩ h => by
    have zz := z.z
    rw [List.length_map] at zz
    exact pyIter_zipN zz h
theorem vals_refs : ∀ {as : List (Bool × Addr)} {us : List Value}, Vals (as.map fun q => V.ref q.2) us → us = as.map fun q => Value.ref q.2
  | [], _, .nil => rfl
  | (t, a) :: as, _, .cons r rr => by
    rw [vals_refs rr]
    cases r
    rfl
/-- behind the call: the iterator -/
theorem zipN_pie {X : Cx} {tg : Expr} {pins : List (Addr × Obj)} {σ : L2.St} {H1 : Hp} {s1 : Shared} {R : It → Hp → Prop} {as : List (Bool × Addr)} {xss : List (List V)} (I1 : Inv X pins σ H1 s1) (hq : SqAll X.K H1 as xss) (hn : 1 ≤ as.length ∧ as.length ≤ 8) (q : R (ItzN X.K as) H1) :
    wpAny (model X.prog X.w) X.A (call (.type "zip") (as.map fun q => .ref q.2)) (fun v s2 => wpAny (model X.prog X.w) X.A (pyIter v) (PIE X pins σ tg R) X.xe s2) X.xe s1 := by
  obtain ⟨ls, e1, e2, e3⟩ := sq_vals I1 hq
  have hm : ls.map (fun q => (q.t, q.l)) = (as.map zqOf).map fun q => (q.t, q.l) := by
    rw [List.map_map, e1]
    exact (List.map_id' as).symm
  have hlen : ls.length = as.length := by simpa using congrArg List.length e1
  have hargs : (as.map fun q => Value.ref q.2) = ls.map fun q => Value.ref q.l := by rw [← e1, List.map_map]; rfl
  rw [hargs]
  refine call_zipN ls (by omega) e2 fun h' z hsz hk => pyIter_zipN z.z ?_
  have I2 : Inv X pins σ H1 { s1 with heap := h' } := I1.kept (t' := s1.toks) hk
  have hb : ∀ q ∈ as, (q.2 : Nat) < s1.heap.objs.size := fun q hqm => by
    rw [← e1] at hqm
    obtain ⟨z', hz', rfl⟩ := List.mem_map.mp hqm
    have := e2 z' hz'
    obtain ⟨t, l, xs⟩ := z'
    cases t
    · obtain ⟨o, ho, _⟩ := (show s1.heap.IsList l xs from this); exact Heap.lt_size ho
    · obtain ⟨o, ho, _⟩ := (show s1.heap.IsTuple l xs from this); exact Heap.lt_size ho
  refine ⟨s1.heap.objs.size + as.length + 2, fpN s1.heap.objs.size as.length, _, _, H1, by rw [hlen], I2, turn_zipN hn hb, ⟨.none, .bool false, .inl rfl, z.congr hm⟩, fun c hc => ?_, q⟩
  have hle : s1.heap.objs.size ≤ c := (mem_fpN.mp hc).1
  exact I1.fpOk hle (I1.hok.fresh hle)
def iZipSt (K : PySem.W.Frag) (te : TE) : TI := fun σ H R => te σ H fun v H1 => ∃ a as xss, v = .ref a ∧ (SqT K H1 a (as.map fun q => V.ref q.2) ∨ SqL K H1 a (as.map fun q => V.ref q.2)) ∧ SqAll K H1 as xss ∧ (1 ≤ as.length ∧ as.length ≤ 8) ∧ R (ItzN K as) H1
theorem pi_zipS {X : Cx} {tg e : Expr} {te : TE} {p sp pos : Pos} (hg : Gl X "zip") (hm : X.mg "zip" = none) (he : PE X e te) (hs : starEach [.Starred e sp] X.env = [(true, eval e X.env)] := by rfl) : PI X tg (.Call (.Name "zip" p) [.Starred e sp] [] pos) (iZipSt X.K te) := by
  refine ⟨fun pins s σ H R I h => ?_⟩
  refine Call_ (ld_blt I hg hm PyProof.Rows.boot_zip ?_)
  rw [hs]
  refine PySem.W.ks_call (P := fun _ => True) rfl (fun h _ => ⟨.machine, .inr (.inl rfl), PySem.W.Looks.of_pure rfl⟩) (PySem.W.ks_lone (thn (he.run pins s σ H _ I h) fun v s1 ⟨y, H1, I1, ry, a, as, xss, ey, hx, hq, hn, q⟩ => ?_))
  subst ey
  obtain rfl : v = Value.ref a := ry
  refine StX.star_any I1 hx fun us s2 I2 rv => ⟨trivial, ?_⟩
  rw [vals_refs rv]
  exact zipN_pie I2 hq hn q
def iZipB (K : PySem.W.Frag) (ta : TA) : TI := fun σ H R => ta σ H fun vs H1 => ∃ a b xs ys, vs = [.ref a, .ref b] ∧ ((SqL K H1 a xs ∧ SqL K H1 b ys ∧ R (Itz K a b) H1) ∨ (SqT K H1 a xs ∧ SqT K H1 b ys ∧ R (RZ.ItzT K a b) H1) ∨ ∃ t u, SqAll K H1 [(t, a), (u, b)] [xs, ys] ∧ R (ItzN K [(t, a), (u, b)]) H1)
theorem pi_zipB {X : Cx} {e e2 : Expr} {ta : TA} {p pos tpos : Pos} {elts : List Expr} {kk : Nat} (hg : Gl X "zip") (hm : X.mg "zip" = none) (ha : PA X [e, e2] ta)
    (hs : starEach [e, e2] X.env = (false, eval e X.env) :: starEach [e2] X.env := by rfl) (hpl : (backTo pos (starEach [e2] X.env)).any (·.1) = false := by rfl) :
    PI X (.Tuple elts kk tpos) (.Call (.Name "zip" p) [e, e2] [] pos) (iZipB X.K ta) := by
  refine ⟨fun pins s σ H R I h => ?_⟩
  refine Call_ (ld_blt I hg hm PyProof.Rows.boot_zip (PyProof.Rows.callWith_type1 (thn (ha.run pos pins s σ H _ I h) fun us s1 ⟨vs, H1, I1, r1, q1⟩ => ?_) hs hpl))
  obtain ⟨a, b, xs, ys, ex, q1⟩ := q1
  subst ex
  cases r1 with
  | cons r rr =>
    cases rr with
    | cons r' rr =>
      cases rr
      cases r
      cases r'
      have fresh5 : ∀ c, c ∈ [s1.heap.objs.size + 4, s1.heap.objs.size + 2, s1.heap.objs.size + 3, s1.heap.objs.size, s1.heap.objs.size + 1] → FpOk X pins H1 c := fun c hcm => by
        have e' : c = s1.heap.objs.size + 4 ∨ c = s1.heap.objs.size + 2 ∨ c = s1.heap.objs.size + 3 ∨ c = s1.heap.objs.size ∨ c = s1.heap.objs.size + 1 := by simpa using hcm
        have hle : s1.heap.objs.size ≤ c := by
          rcases e' with z | z | z | z | z
          · rw [z]; exact Nat.le_add_right _ _
          · rw [z]; exact Nat.le_add_right _ _
          · rw [z]; exact Nat.le_add_right _ _
          · rw [z]; exact Nat.le_refl _
          · rw [z]; exact Nat.le_add_right _ _
        exact I1.fpOk hle (I1.hok.fresh hle)
      rcases q1 with ⟨hqx, hqy, q⟩ | ⟨hqx, hqy, q⟩ | ⟨t, u, hq, q⟩
      · obtain ⟨its, rv, p1, _⟩ := I1.list hqx
        obtain ⟨its2, rv2, p2, _⟩ := I1.list hqy
        refine call_zip_2 p1.isList p2.isList fun h' hz hTI hTO h1 h2 hsz hk => wpAny_pyIter_zip hz ?_
        have I2 : Inv X pins σ H1 { s1 with heap := h' } := I1.kept (t' := s1.toks) hk
        exact ⟨s1.heap.objs.size + 4, [s1.heap.objs.size + 4, s1.heap.objs.size + 2, s1.heap.objs.size + 3, s1.heap.objs.size, s1.heap.objs.size + 1], _, _, H1, rfl, I2, turn_zip (PySem.W.ktu_apart s1.heap.objs.size a b p1.lt p2.lt), ⟨hz, hTI, ⟨_, _, hTO⟩, h1, h2⟩, fresh5, q⟩
      · obtain ⟨its, rv, p1, _⟩ := I1.tuple hqx
        obtain ⟨its2, rv2, p2, _⟩ := I1.tuple hqy
        obtain ⟨o1, ho1, _⟩ := id p1
        obtain ⟨o2, ho2, _⟩ := id p2
        refine RZ.call_zipT (show s1.heap.IsTuple a its.toArray from p1) (show s1.heap.IsTuple b its2.toArray from p2) fun h' hz hTI hTO h1 h2 hsz hk => wpAny_pyIter_zip hz ?_
        have I2 : Inv X pins σ H1 { s1 with heap := h' } := I1.kept (t' := s1.toks) hk
        exact ⟨s1.heap.objs.size + 4, [s1.heap.objs.size + 4, s1.heap.objs.size + 2, s1.heap.objs.size + 3, s1.heap.objs.size, s1.heap.objs.size + 1], _, _, H1, rfl, I2, RZ.turn_zipT (PySem.W.ktu_apart s1.heap.objs.size a b (Heap.lt_size ho1) (Heap.lt_size ho2)), ⟨hz, hTI, ⟨_, _, hTO⟩, h1, h2⟩, fresh5, q⟩
      · exact zipN_pie I1 hq ⟨by simp, by simp⟩ q
/-! ### the columns -/
def colsD (dss : List (List D)) (n : Nat) : List D := (List.range n).map fun i => .tup (dss.map fun r => r.getD i .non)
section
variable {S : Type} {C : Cn S} {W : L2.WX} {X : Cx}
inductive AllR (m : Bool) (C : Cn S) (P : Pt) (s : S) (H : Hp) : List (Bool × Addr) → List (List V) → List (List D) → Prop
  | nil : AllR m C P s H [] [] []
  | cons {t : Bool} {a : Addr} {vs : List V} {ds : List D} {as : List (Bool × Addr)} {vss : List (List V)} {dss : List (List D)} : (if t = true then SqT C.K H a vs else (H a = some (.lst vs) ∧ ¬ C.T.A s a ∧ (m = true → ¬ P.mroot a))) → RpL C.K H (Fc C P s) vs ds → AllR m C P s H as vss dss → AllR m C P s H ((t, a) :: as) (vs :: vss) (ds :: dss)
theorem AllR.sq {m : Bool} {P P' : Pt} {σ : L2.St} {s s' : S} {H H' : Hp} (R : Rel C P σ H s) (x : Mv m C.T P s H P' s' H') : ∀ {as : List (Bool × Addr)} {vss : List (List V)} {dss : List (List D)}, AllR m C P s H as vss dss → SqAll C.K H' as vss
  | _, _, _, .nil => .nil
  | _, _, _, .cons (t := t) h r q => .cons (by
      cases t
      · exact lst_mv x R (.inl h)
      · exact sqT_mv x R h) (AllR.sq R x q)
theorem AllR.len {m : Bool} {P : Pt} {s : S} {H : Hp} : ∀ {as : List (Bool × Addr)} {vss : List (List V)} {dss : List (List D)}, AllR m C P s H as vss dss → as.length = dss.length ∧ vss.length = dss.length
  | _, _, _, .nil => ⟨rfl, rfl⟩
  | _, _, _, .cons _ _ q => ⟨congrArg (· + 1) q.len.1, congrArg (· + 1) q.len.2⟩
theorem AllR.lens {m : Bool} {P : Pt} {s : S} {H : Hp} {n : Nat} : ∀ {as : List (Bool × Addr)} {vss : List (List V)} {dss : List (List D)}, AllR m C P s H as vss dss → (∀ ds ∈ dss, ds.length = n) → ∀ vs ∈ vss, vs.length = n
  | _, _, _, .nil, _, _, h => by cases h
  | _, _, _, .cons _ r q, hn, vs, h => by
    rcases List.mem_cons.mp h with rfl | h
    · rw [r.length]; exact hn _ List.mem_cons_self
    · exact AllR.lens q (fun ds hd => hn ds (List.mem_cons_of_mem _ hd)) vs h
theorem AllR.col {m : Bool} {P P' : Pt} {σ : L2.St} {s s' : S} {H H' : Hp} {i n : Nat} (R : Rel C P σ H s) (x : Mv m C.T P s H P' s' H') (hi : i < n) {as : List (Bool × Addr)} {vss : List (List V)} {dss : List (List D)} (h : AllR m C P s H as vss dss) : ∀ {ys : List V}, (∀ ds ∈ dss, ds.length = n) → ys.length = as.length → (∀ (k : Nat) (xs : List V), vss[k]? = some xs → xs[i]? = ys[k]?) → RpL C.K H' (fun a => Fc C P' s' a ∧ H a ≠ none) ys (dss.map fun r => r.getD i .non) := by
  induction h with
  | nil =>
    intro ys _ hl _
    cases ys with
    | nil => exact .nil
    | cons _ _ => cases hl
  | @cons t a vs ds as vss dss hh r q ih =>
    intro ys hn hl he
    cases ys with
    | nil => cases hl
    | cons y ys =>
      have h0 : vs[i]? = some y := he 0 vs rfl
      have hd : ds[i]? = some (ds.getD i .non) := by
        have : i < ds.length := by rw [hn ds List.mem_cons_self]; exact hi
        simp [List.getD, List.getElem?_eq_getElem this]
      exact .cons (r.at x R hd h0) (ih (fun z hz => hn z (List.mem_cons_of_mem _ hz)) (by simpa using hl) fun k xs e => he (k + 1) xs e)
theorem wm_cols {m : Bool} {P : Pt} {σ : L2.St} {s : S} {H : Hp} {as : List (Bool × Addr)} {vss : List (List V)} {dss : List (List D)} {n : Nat} (R : Rel C P σ H s) (h : AllR m C P s H as vss dss) (hn : ∀ ds ∈ dss, ds.length = n) : Wm m C P s H (ItzN C.K as) (colsD dss n) := by
  have hlen : (colsD dss n).length = n := by simp [colsD]
  refine ⟨fun i d P' s' H' e x st => ?_, fun P' s' H' x st => ?_⟩
  · have hi : i < n := by rw [← hlen]; exact (List.getElem?_eq_some_iff.mp e).1
    have sq := h.sq R x
    refine ⟨⟨vss, sq, fun xs hx => by rw [h.lens hn xs hx]; exact hi⟩, fun v H3 yy => ?_⟩
    obtain ⟨T, ys, rfl, hT, rfl, hy⟩ := yy
    obtain ⟨h1, h2⟩ := hy vss sq
    have ed : d = .tup (dss.map fun r => r.getD i .non) := by
      simp only [colsD, List.getElem?_map] at e
      rw [List.getElem?_range hi] at e
      exact (Option.some.inj e).symm
    subst ed
    exact ⟨Xt.new hT, st_new st hT, .tup (.inl (.inl upd_same)) ((h.col R x hi hn h1 h2).step ((Xt.new hT).stays st fun _ f => f.1.2.2.2) fun a f n => f)⟩
  · rw [hlen]
    exact ⟨vss, h.sq R x, fun xs hx => by rw [h.lens hn xs hx]; exact Nat.le_refl _⟩
def rowsOf : List D → Option (List (List D))
  | [] => some []
  | .lst ds :: r => (rowsOf r).map (ds :: ·)
  | .tup ds :: r => (rowsOf r).map (ds :: ·)
  | _ => none
def bind1 : List (List D) → Option (List D)
  | [] => none
  | ds :: r => if r.all (fun z => z.length == ds.length) = true ∧ r.length ≤ 7 then some (colsD (ds :: r) ds.length) else none
def zipN (d : D) : Option (List D) := match seqOf' d with
  | some rows => (rowsOf rows).bind bind1
  | none => none
where seqOf' : D → Option (List D)
  | .lst ds => some ds
  | .tup ds => some ds
  | _ => none
theorem allR_rows {m : Bool} {P : Pt} {s : S} {H : Hp} : ∀ {vs : List V} {rows : List D} {dss : List (List D)}, RpL C.K H (Fc C P s) vs rows → rowsOf rows = some dss → ∃ as vss, vs = as.map (fun q => V.ref q.2) ∧ AllR m C P s H as vss dss
  | _, _, _, .nil, e => by cases e; exact ⟨[], [], rfl, .nil⟩
  | _, _, _, .cons h r, e => by
    unfold rowsOf at e
    split at e
    · rename_i hh; cases hh
    · rename_i ds r' hh
      cases hh
      rw [Option.map_eq_some_iff] at e
      obtain ⟨dss', e1, rfl⟩ := e
      obtain ⟨as, vss, rfl, q⟩ := allR_rows r e1
      cases h with
      | lst f hl rr => exact ⟨(false, _) :: as, _ :: vss, rfl, .cons (t := false) ⟨hl, f.2.2.2, fun _ z => f.2.1 (Pt.root_of z)⟩ rr q⟩
    · rename_i ds r' hh
      cases hh
      rw [Option.map_eq_some_iff] at e
      obtain ⟨dss', e1, rfl⟩ := e
      obtain ⟨as, vss, rfl, q⟩ := allR_rows r e1
      cases h with
      | tup hl rr => exact ⟨(true, _) :: as, _ :: vss, rfl, .cons (t := true) hl rr q⟩
    · cases e
end
end Q

/-! Lay8: targets; the sources of walks. -/
namespace Q
open PySem L2
section
variable {S : Type} {C : Cn S} {W : L2.WX} {X : Cx}
/-! ### targets -/
theorem root_set {P : Pt} {i : Nat} {d : D} {a : Addr} (h : ({ P with ρ := P.ρ.set i (.val d) } : Pt).root a) : P.root a := by
  obtain ⟨j, sl, ds, e1, e2, e3⟩ := h
  by_cases hj : i = j
  · subst hj
    have e1' : (P.ρ.set i (.val d))[i]? = some sl := e1
    by_cases hl : i < P.ρ.length
    · rw [List.getElem?_set_self hl] at e1'
      cases e1'
      cases e2
    · rw [List.getElem?_eq_none (by simpa using hl)] at e1'
      cases e1'
  · have e1' : (P.ρ.set i (.val d))[j]? = some sl := e1
    rw [List.getElem?_set_ne hj] at e1'
    exact ⟨j, sl, ds, e1', e2, e3⟩
theorem mroot_set {P : Pt} {i : Nat} {d : D} {a : Addr} (h : ({ P with ρ := P.ρ.set i (.val d) } : Pt).mroot a) : P.mroot a := by
  obtain ⟨j, sl, e1, m, e3⟩ := h
  have e1' : (P.ρ.set i (.val d))[j]? = some sl := e1
  by_cases hj : i = j
  · subst hj
    by_cases hl : i < P.ρ.length
    · rw [List.getElem?_set_self hl] at e1'
      cases e1'
      cases m
    · rw [List.getElem?_eq_none (by simpa using hl)] at e1'
      cases e1'
  · rw [List.getElem?_set_ne hj] at e1'
    exact ⟨j, sl, e1', m, e3⟩
theorem fc_set {P : Pt} {s : S} {i : Nat} {d : D} {a : Addr} (h : Fc C P s a) : Fc C { P with ρ := P.ρ.set i (.val d) } s a := ⟨h.1, fun q => h.2.1 (root_set q), h.2.2.1, h.2.2.2⟩
theorem Rel.setVal {P : Pt} {σ : L2.St} {H : Hp} {s : S} {i : Nat} {v : V} {d : D} (R : Rel C P σ H s) (r : Rp C.K H (Fc C P s) v d) (hi : i < P.ρ.length) : Rel C { P with ρ := P.ρ.set i (.val d) } (σ.set i (some v)) H s := by
  refine ⟨by simp [R.len], R.st, R.frm, R.live, R.grow, R.za, fun j sl e => ?_⟩
  have e' : (P.ρ.set i (.val d))[j]? = some sl := e
  by_cases hj : i = j
  · subst hj
    rw [List.getElem?_set_self hi] at e'
    cases e'
    exact ⟨v, by rw [List.getElem?_set_self (by rw [R.len]; exact hi)], r.wk fun a f _ => fc_set f⟩
  · rw [List.getElem?_set_ne hj] at e'
    have h := R.slot j sl e'
    have own : ∀ ds, isOwn sl = some ds → OwnOk C { P with ρ := P.ρ.set i (.val d) } (σ.set i (some v)) H s j ds := fun ds q => by
      have o : OwnOk C P σ H s j ds := R.own e' q
      obtain ⟨vs, x1, x2⟩ := o.is
      refine ⟨by rw [List.getElem?_set_ne hj]; exact o.at_, o.new, o.na, o.nz, fun j' sl' es q1 q2 q3 => ?_, vs, x1, x2.wk fun a f _ => fc_set f⟩
      have q1' : (P.ρ.set i (.val d))[j']? = some sl' := q1
      by_cases hj' : i = j'
      · subst hj'
        rw [List.getElem?_set_self hi] at q1'
        cases q1'
        cases q2
      · rw [List.getElem?_set_ne hj'] at q1'
        exact o.one j' sl' es q1' q2 q3
    cases sl with
    | no => trivial
    | val d' =>
      obtain ⟨w, e1, e2⟩ := h
      exact ⟨w, by rw [List.getElem?_set_ne hj]; exact e1, e2.wk fun a f _ => fc_set f⟩
    | own ds => exact own _ rfl
    | lck ds => exact own _ rfl
    | obj _ _ => exact own _ rfl
theorem stp_setVal {P : Pt} {s : S} {H : Hp} {i : Nat} {d : D} : Stp C.T P s H { P with ρ := P.ρ.set i (.val d) } s H :=
  ⟨fun _ _ e _ _ => e, fun _ h => h, fun _ h => .inl h, fun _ h => .inl (root_set h), fun _ h => .inl (mroot_set h), rfl, fun j es e => by
    have e' : (P.ρ.set i (.val d))[j]? = some (.lck es) := e
    by_cases hj : i = j
    · subst hj
      by_cases hl : i < P.ρ.length
      · rw [List.getElem?_set_self hl] at e'; cases e'
      · rw [List.getElem?_eq_none (by simpa using hl)] at e'; cases e'
    · rw [List.getElem?_set_ne hj] at e'; exact ⟨⟨es, e'⟩, rfl⟩⟩
/-- the slots ts alone are set -/
def Only (ts : List Nat) (σ σ' : L2.St) : Prop := σ'.length = σ.length ∧ ∀ j, j ∉ ts → σ'[j]? = σ[j]?
theorem Only.refl {ts : List Nat} {σ : L2.St} : Only ts σ σ := ⟨rfl, fun _ _ => rfl⟩
theorem Only.trans {ts us : List Nat} {σ σ1 σ2 : L2.St} (a : Only ts σ σ1) (b : Only us σ1 σ2) : Only (ts ++ us) σ σ2 :=
  ⟨b.1.trans a.1, fun j h => by simp only [List.mem_append, not_or] at h; exact (b.2 j h.2).trans (a.2 j h.1)⟩
def tG (C : Cn S) (ts : List Nat) (h : D → List Sl → Option (List Sl)) : TG := fun v σ H k => ∃ P s d ρ', Rel C P σ H s ∧ Rp C.K H (Fc C P s) v d ∧ h d P.ρ = some ρ' ∧
  ∀ σ', Rel C { P with ρ := ρ' } σ' H s → Stp C.T P s H { P with ρ := ρ' } s H → Only ts σ σ' → k σ' H
def tGs (C : Cn S) (ts : List Nat) (h : List D → List Sl → Option (List Sl)) : TGs := fun vs σ H k => ∃ P s ds ρ', Rel C P σ H s ∧ RpL C.K H (Fc C P s) vs ds ∧ h ds P.ρ = some ρ' ∧
  ∀ σ', Rel C { P with ρ := ρ' } σ' H s → Stp C.T P s H { P with ρ := ρ' } s H → Only ts σ σ' → k σ' H
theorem pg_mono {e : Expr} {t t' : TG} (h : PG X e t) (i : ∀ v σ H k, t' v σ H k → t v σ H k) : PG X e t' := ⟨fun pins s σ H v u Q I r q => h.run pins s σ H v u Q I r (i v σ H Q q)⟩
theorem pgs_mono {es : List Expr} {t t' : TGs} (h : PGs X es t) (i : ∀ v σ H k, t' v σ H k → t v σ H k) : PGs X es t' := ⟨fun pins s σ H v u Q I r q => h.run pins s σ H v u Q I r (i v σ H Q q)⟩
theorem pg_false {e : Expr} {t : TG} (i : ∀ v σ H k, ¬ t v σ H k) : PG X e t := ⟨fun pins s σ H v u Q I r q => (i v σ H Q q).elim⟩
theorem pgs_false {e : List Expr} {t : TGs} (i : ∀ v σ H k, ¬ t v σ H k) : PGs X e t := ⟨fun pins s σ H v u Q I r q => (i v σ H Q q).elim⟩
def tgName (N : List Str) (sc : Scope) (x : Str) (d : D) (ρ : List Sl) : Option (List Sl) := match slotOf N x with
  | some i => if locB sc x && decide (i < ρ.length) then some (ρ.set i (.val d)) else none
  | none => none
def tgSlot (N : List Str) (x : Str) : List Nat := (slotOf N x).toList
/-- where names are stored: ls, the scope as it is written -/
structure Xs (C : Cn S) (X : Cx) (N : List Str) (ls : Scope) : Prop where
  K : C.K = X.K
  names : X.N = N
  nd : N.Nodup
  calm : X.calm = true
  loc : ∀ x, locB ls x = true → L2.Loc X.env.scope x ∧ (X.fn x = true ∨ X.env.scope.names.lookup x = some .local)
theorem sg_name {N : List Str} {sc : Scope} (k : Xs C X N sc) {x : Str} {pos : Pos} : PG X (.Name x pos) (tG C (tgSlot N x) (tgName N sc x)) := by
  unfold tgName tgSlot
  split
  · rename_i i e
    by_cases hl : locB sc x = true
    · have hN : X.N[i]? = some x := by rw [k.names]; exact slotOf_some e
      obtain ⟨hL, hF⟩ := k.loc x hl
      refine pg_mono (pg_name (i := i) (by rw [k.names]; exact k.nd) hN hL hF) fun v σ H kk ⟨P, s, d, ρ', R, r, h, kx⟩ => ?_
      dsimp only at h
      split at h
      · rename_i hc
        cases h
        simp only [Bool.and_eq_true, decide_eq_true_eq] at hc
        refine kx _ (R.setVal r hc.2) stp_setVal ⟨by simp, fun j hj => ?_⟩
        rw [List.getElem?_set_ne]
        simpa [e, eq_comm] using hj
      · cases h
    · refine pg_false fun v σ H kk ⟨P, s, d, ρ', R, r, h, kx⟩ => ?_
      dsimp only at h
      rw [if_neg (by simp [hl])] at h
      cases h
  · exact pg_false fun v σ H kk ⟨P, s, d, ρ', R, r, h, kx⟩ => nomatch h
def gsN : List D → List Sl → Option (List Sl)
  | [], ρ => some ρ
  | _ :: _, _ => none
def gsC (f : D → List Sl → Option (List Sl)) (g : List D → List Sl → Option (List Sl)) : List D → List Sl → Option (List Sl)
  | [], _ => none
  | d :: ds, ρ => (f d ρ).bind fun ρ1 => g ds ρ1
theorem sgs_nil : PGs X [] (tGs C [] gsN) := pgs_mono pgs_nil fun v σ H k ⟨P, s, ds, ρ', R, r, h, kx⟩ => by
  cases r with
  | nil => cases h; exact ⟨rfl, kx _ R Stp.refl Only.refl⟩
  | cons _ _ => cases h
theorem sgs_cons {e : Expr} {es : List Expr} {ts us : List Nat} {f : D → List Sl → Option (List Sl)} {g : List D → List Sl → Option (List Sl)} (hs : isStar e = false) (h1 : PG X e (tG C ts f)) (h2 : PGs X es (tGs C us g)) : PGs X (e :: es) (tGs C (ts ++ us) (gsC f g)) := by
  refine pgs_mono (pgs_cons h1 h2 ?_) fun v σ H k ⟨P, s, ds, ρ', R, r, h, kx⟩ => ?_
  · cases e <;> first | rfl | (simp [isStar] at hs; done)
  · cases r with
    | nil => cases h
    | cons rv rs =>
      simp only [gsC, Option.bind_eq_some_iff] at h
      obtain ⟨ρ1, e1, e2⟩ := h
      refine ⟨_, _, rfl, P, s, _, ρ1, R, rv, e1, fun σ1 R1 s1 o1 => ?_⟩
      exact ⟨_, s, _, ρ', R1, rs.stp s1 R, e2, fun σ2 R2 s2 o2 => kx σ2 R2 (s1.trans s2) (o1.trans o2)⟩
def gTupD (n : Nat) (g : List D → List Sl → Option (List Sl)) : D → List Sl → Option (List Sl)
  | .tup ds, ρ => if ds.length = n then g ds ρ else none
  | _, _ => none
theorem each_len {env : Env} : ∀ es : List Expr, (assignEach es env).length = es.length
  | [] => rfl
  | e :: es => by cases e <;> simp only [assignEach, List.length_cons, each_len es]
theorem each_star {env : Env} : ∀ es : List Expr, es.all (fun e => !isStar e) = true → (assignEach es env).findIdx? (·.1) = none
  | [], _ => rfl
  | e :: es, h => by
    simp only [List.all_cons, Bool.and_eq_true, Bool.not_eq_true'] at h
    have ih := each_star (env := env) es h.2
    have hs := h.1
    cases e <;> first | (simp [isStar] at hs; done) | (simp only [assignEach, List.findIdx?_cons, ih]; rfl)
theorem sg_tup (hK : C.K = X.K) {es : List Expr} {kk : Nat} {pos : Pos} {ts : List Nat} {g : List D → List Sl → Option (List Sl)} (hc : X.calm = true) (hs : es.all (fun e => !isStar e) = true) (h : PGs X es (tGs C ts g)) : PG X (.Tuple es kk pos) (tG C ts (gTupD es.length g)) := by
  refine pg_mono (pg_tup hc h (each_len es) (each_star es hs)) fun v σ H k ⟨P, s, d, ρ', R, r, h, kx⟩ => ?_
  cases d <;> simp only [gTupD, reduceCtorEq] at h
  split at h
  · rename_i hn
    cases r with
    | tup hq q => exact ⟨_, _, rfl, by rw [← hK]; exact hq, q.length.trans hn, P, s, _, ρ', R, q, h, kx⟩
  · cases h

/-! ### sources -/
/-- as Top; with m the list stays whatever statements do -/
def TopM (m : Bool) (C : Cn S) (P : Pt) (s : S) (H : Hp) (v : V) (d : D) : Prop :=
  Rp C.K H (Fc C P s) v d ∨ ∃ a vs ds, v = .ref a ∧ d = .lst ds ∧ ¬ C.T.A s a ∧ (m = true → ¬ P.mroot a) ∧ H a = some (.lst vs) ∧ RpL C.K H (Fc C P s) vs ds
def tM (m : Bool) (C : Cn S) (W : L2.WX) (f : EvF S) : TE := fun σ H Q => ∃ P s, Rel C P σ H s ∧ Run C W P σ H s (f P.ρ s) fun d s' H' => ∀ v, TopM m C P s' H' v d → Q v H'
theorem TopM.xt {m : Bool} {P : Pt} {s s' : S} {H H' : Hp} {v : V} {d : D} (h : TopM m C P s H v d) (x : Xt C.T s s' H H') (st : C.T.R s H) : TopM m C P s' H' v d := by
  rcases h with h | ⟨a, vs, ds, e1, e2, na, nm, e, q⟩
  · exact .inl (h.xt x st)
  · refine .inr ⟨a, vs, ds, e1, e2, fun z => ?_, nm, x.keep _ _ e na, q.xt x st⟩
    rcases x.grow _ z with z | z
    · exact na z
    · rw [e] at z; cases z
theorem PE.m {m : Bool} {e : Expr} {f : EvF S} (h : PE X e (tP C W f)) : PE X e (tM m C W f) := pe_mono h fun σ H Q ⟨P, s, R, q⟩ => ⟨P, s, R, q.mono fun d s' H' _ _ k v r => k v (.inl r)⟩
theorem PE.km {e : Expr} {f : EvF S} (h : PE X e (tK C W f)) : PE X e (tM false C W f) := pe_mono h fun σ H Q ⟨P, s, R, q⟩ => ⟨P, s, R, q.mono fun d s' H' _ _ k v r => k v (by
  rcases r with r | ⟨a, vs, ds, e1, e2, na, e, q⟩
  · exact .inl r
  · exact .inr ⟨a, vs, ds, e1, e2, na, (fun z => Bool.noConfusion z), e, q⟩)⟩
/-- a name whose list stays: a value, or a locked own list -/
def evVarS (N : List Str) (sc : Scope) (x : Str) : EvF S := fun ρ s => match slotOf N x with
  | some i => if visB sc x && x != ("__debug__" : Str) && x != ("__classdict__" : Str) then (match ρ[i]? with
    | some (.val d) => .ok d s
    | some (.lck ds) => .ok (.lst ds) s
    | _ => .stuck) else .stuck
  | none => .stuck
theorem sd_varS {N : List Str} {sc : Scope} (k : Xk C W X N sc) (x : Str) (pos : Pos) : PE X (.Name x pos) (tM true C W (evVarS N sc x)) := by
  unfold evVarS
  split
  · rename_i i e
    split
    · rename_i h
      simp only [Bool.and_eq_true, bne_iff_ne, ne_eq] at h
      refine pe_mono (pe_var (i := i) (by rw [k.names]; exact slotOf_some e) (by rw [k.scope]; exact visB_ok h.1.1) (by simpa using h.1.2) (by simpa using h.2)) fun σ H Q ⟨P, s, R, q⟩ => ?_
      dsimp only at q
      split at q
      · rename_i d hd
        obtain ⟨v, e1, e2⟩ := R.slot i _ hd
        exact ⟨v, e1, (q.now R) v (.inl e2)⟩
      · rename_i d hd
        have o : OwnOk C P σ H s i (.lst, d) := R.slot i _ hd
        obtain ⟨vs, x1, x2⟩ := o.isL
        refine ⟨_, o.at_, (q.now R) _ (.inr ⟨_, vs, d, rfl, rfl, o.na, fun _ ⟨j, es, y1, ym, y2⟩ => ?_, x1, x2⟩)⟩
        obtain ⟨p, yp⟩ := isMut_own ym
        have := o.one j _ p y1 yp y2
        subst this
        rw [hd] at y1
        cases y1
        cases ym
      · exact q.elim
    · exact pe_false fun σ H Q ⟨P, s, R, q⟩ => q
  · exact pe_false fun σ H Q ⟨P, s, R, q⟩ => q
def seqOf : D → Option (List D)
  | .tup ds => some ds
  | .lst ds => some ds
  | .scr ds => some ds
  | _ => none
theorem src_of {m : Bool} {P : Pt} {s : S} {H : Hp} {v : V} {d : D} {ds : List D} (h : TopM m C P s H v d) (e : seqOf d = some ds) : Src m C P s H v ds := by
  rcases h with h | ⟨a, vs, es, rfl, rfl, na, nm, x, q⟩
  · cases h with
    | tup h q => cases e; exact ⟨_, _, rfl, q, .inl h⟩
    | lst f h q => cases e; exact ⟨_, _, rfl, q, .inr (.inl ⟨h, f.2.2.2, fun _ z => f.2.1 (Pt.root_of z)⟩)⟩
    | scr h q => cases e; exact ⟨_, _, rfl, q, .inr (.inr h)⟩
    | _ => cases e
  · cases e
    exact ⟨_, _, rfl, q, .inr (.inl ⟨x, na, nm⟩)⟩
def itemsOf : D → Option (List D)
  | .str z => some (z.cps.toList.map fun c => .str ⟨#[c]⟩)
  | d => seqOf d
def iSeq (f : EvF S) : EvL' S := fun ρ s => (f ρ s).bind fun d s1 => ofO (itemsOf d) s1
theorem pi_mono {tg e : Expr} {t t' : TI} (h : PI X tg e t) (i : ∀ σ H R, t' σ H R → t σ H R) : PI X tg e t' := ⟨fun pins s σ H R I q => h.run pins s σ H R I (i σ H R q)⟩
theorem pi_false {tg e : Expr} {t : TI} (i : ∀ σ H R, ¬ t σ H R) : PI X tg e t := ⟨fun pins s σ H R I q => (i σ H R q).elim⟩
theorem si_seq {m : Bool} {tg e : Expr} {f : EvF S} (hK : C.K = X.K) (he : PE X e (tM m C W f)) : PI X tg e (tI m C W (iSeq f)) := by
  refine pi_mono (pi_seqA he) fun σ H RR ⟨P, s, R, q⟩ => ⟨P, s, R, q.bind.mono fun d s1 H1 R1 x1 q1 v tv => ?_⟩
  obtain ⟨ds, e, k⟩ := run_ofO q1
  have k := k H1 R1 Xt.refl
  by_cases hs : ∃ z, d = .str z
  · obtain ⟨z, rfl⟩ := hs
    cases e
    have ev : v = .str z := by
      rcases tv with tv | ⟨_, _, _, _, e, _⟩
      · exact rp_str tv
      · cases e
    subst ev
    refine .inr (.inr ⟨z, rfl, k _ ⟨fun i d P' s' H' e x st => ?_, fun P' s' H' x st => ?_⟩⟩)
    · rw [List.getElem?_map, Option.map_eq_some_iff] at e
      obtain ⟨c, e, rfl⟩ := e
      have hi : i < z.cps.size := by have := (List.getElem?_eq_some_iff.mp e).1; simpa using this
      refine ⟨walk_str.goes i H' hi trivial, fun y H3 yy => ?_⟩
      obtain ⟨rfl, c', e', rfl⟩ := walk_str.yields i H' y H3 hi trivial yy
      have : c' = c := by
        rw [Array.getElem?_toList] at e
        rw [e] at e'; exact (Option.some.inj e').symm
      subst this
      exact ⟨Xt.refl, st, .str _⟩
    · have := (walk_str (z := z)).stops H' trivial
      simpa using this
  · have e' : seqOf d = some ds := by
      cases d <;> first | exact e | (exact absurd ⟨_, rfl⟩ hs)
    obtain ⟨a, vs, rfl, h⟩ := wm_src R1 (src_of tv e')
    rcases h with ⟨h1, h2⟩ | ⟨h1, h2⟩
    · rw [hK] at h1 h2; exact .inl ⟨a, vs, rfl, h1, k _ h2⟩
    · rw [hK] at h1 h2; exact .inr (.inl ⟨a, vs, rfl, h1, k _ h2⟩)
def enumFrom (n : Nat) : List D → List D
  | [] => []
  | d :: ds => .tup [.int (n : Nat), d] :: enumFrom (n + 1) ds
theorem enumFrom_get : ∀ (ds : List D) (n i : Nat), (enumFrom n ds)[i]? = ds[i]?.map fun d => .tup [.int ((n + i : Nat) : Int), d]
  | [], _, i => by simp [enumFrom]
  | d :: ds, n, 0 => by simp [enumFrom]
  | d :: ds, n, i + 1 => by simp [enumFrom, enumFrom_get ds (n + 1) i, Nat.add_assoc, Nat.add_comm 1 i]
theorem enumFrom_len : ∀ (ds : List D) (n : Nat), (enumFrom n ds).length = ds.length
  | [], _ => rfl
  | _ :: ds, n => by simp [enumFrom, enumFrom_len ds (n + 1)]
theorem wm_pair {m : Bool} {P : Pt} {σ : L2.St} {s : S} {H : Hp} {J : It} {G : Hp → Prop} {n : Nat} {xs ys : Nat → Option V} {ds : List D} (R : Rel C P σ H s) (hn : n = ds.length) (w : Walk J n G (YPair xs ys)) (g : ∀ P' s' H', Mv m C.T P s H P' s' H' → G H')
    (h : ∀ i d x y P' s' H', ds[i]? = some d → xs i = some x → ys i = some y → Mv m C.T P s H P' s' H' → ∃ dx dy, d = .tup [dx, dy] ∧ Rp C.K H' (fun a => Fc C P' s' a ∧ H a ≠ none) x dx ∧ Rp C.K H' (fun a => Fc C P' s' a ∧ H a ≠ none) y dy) : Wm m C P s H J ds := by
  refine ⟨fun i d P' s' H' e x st => ?_, fun P' s' H' x st => ?_⟩
  · have hi : i < n := by rw [hn]; exact (List.getElem?_eq_some_iff.mp e).1
    refine ⟨w.goes i H' hi (g _ _ _ x), fun v H3 yy => ?_⟩
    obtain ⟨T, a, b, rfl, hT, rfl, e1, e2⟩ := w.yields i H' v H3 hi (g _ _ _ x) yy
    obtain ⟨dx, dy, rfl, r1, r2⟩ := h i d a b P' s' H' e e1 e2 x
    exact ⟨Xt.new hT, st_new st hT, .tup (.inl (.inl upd_same)) ((RpL.cons r1 (.cons r2 .nil)).step ((Xt.new hT).stays st fun _ f => f.1.2.2.2) fun a f n => f)⟩
  · rw [← hn]; exact w.stops H' (g _ _ _ x)
def iEnum (f : EvF S) : EvL' S := fun ρ s => (f ρ s).bind fun d s1 => ofO ((seqOf d).map (enumFrom 0)) s1
theorem si_enum {m : Bool} {N : List Str} {sc : Scope} (k : Xk C W X N sc) {e : Expr} {es : List Expr} {kk : Nat} {tp p pos : Pos} {f : EvF S} (hg : glB sc "enumerate" = true) (hm : X.mg "enumerate" = none) (hs : isStar e = false) (he : PE X e (tM m C W f)) :
    PI X (.Tuple es kk tp) (.Call (.Name "enumerate" p) [e] [] pos) (tI m C W (iEnum f)) := by
  have hK := k.K
  refine pi_mono (pi_enumA (gl_of k hg).1 hm (pa_cons he pa_nil (star_no hs)) (by rw [star_no hs]; rfl)) fun σ H RR ⟨P, s, R, q⟩ => ⟨P, s, R, q.bind.mono fun d s1 H1 R1 x1 q1 v tv => ?_⟩
  obtain ⟨ds', e, k⟩ := run_ofO q1
  have k := k H1 R1 Xt.refl
  simp only [Option.map_eq_some_iff] at e
  obtain ⟨ds, e, rfl⟩ := e
  obtain ⟨a, vs, rfl, r, h⟩ := src_of tv e
  have pr : ∀ (i : Nat) (d : D) (x y : V) (P' : Pt) (s' : S) (H' : Hp), (enumFrom 0 ds)[i]? = some d → some (V.int (i : Nat)) = some x → vs[i]? = some y → Mv m C.T P s1 H1 P' s' H' → ∃ dx dy, d = .tup [dx, dy] ∧ Rp C.K H' (fun a => Fc C P' s' a ∧ H1 a ≠ none) x dx ∧ Rp C.K H' (fun a => Fc C P' s' a ∧ H1 a ≠ none) y dy := by
    intro i d x y P' s' H' e1 e2 e3 mv
    rw [enumFrom_get, Option.map_eq_some_iff] at e1
    obtain ⟨d', e1, rfl⟩ := e1
    cases e2
    exact ⟨_, d', rfl, by simpa using Rp.int _, r.at mv R1 e1 e3⟩
  have hn : vs.length = (enumFrom 0 ds).length := by rw [enumFrom_len, r.length]
  rcases h with h | h
  · exact ⟨a, vs, rfl, .inr ⟨by rw [← hK]; exact h, k _ (wm_pair R1 hn walk_enumT (fun P' s' H' x => by rw [← hK]; exact sqT_mv x R1 h) pr)⟩⟩
  · have h0 : SqL C.K H1 a vs := by
      rcases h with h | h
      · exact .inl (.inl h.1)
      · exact h.sq
    exact ⟨a, vs, rfl, .inl ⟨by rw [← hK]; exact h0, k _ (wm_pair R1 hn walk_enum (fun P' s' H' x => by rw [← hK]; exact lst_mv x R1 h) pr)⟩⟩
/-- range -/
def rangeD (lo : Int) : Nat → List D
  | 0 => []
  | n + 1 => .int lo :: rangeD (lo + 1) n
theorem rangeD_get : ∀ (n : Nat) (lo : Int) (i : Nat), i < n → (rangeD lo n)[i]? = some (.int (lo + i))
  | 0, _, _, h => by omega
  | n + 1, lo, 0, _ => by simp [rangeD]
  | n + 1, lo, i + 1, h => by
    simp only [rangeD, List.getElem?_cons_succ]
    rw [rangeD_get n (lo + 1) i (by omega)]
    congr 2
    omega
theorem rangeD_len : ∀ (n : Nat) (lo : Int), (rangeD lo n).length = n
  | 0, _ => rfl
  | n + 1, lo => by simp [rangeD, rangeD_len n]
theorem wm_range {m : Bool} {P : Pt} {s : S} {H : Hp} {lo : Int} {n : Nat} : Wm m C P s H (Itr lo n) (rangeD lo n) := by
  refine ⟨fun i d P' s' H' e x st => ?_, fun P' s' H' x st => by rw [rangeD_len]; exact walk_range.stops H' trivial⟩
  have hi : i < n := by have := (List.getElem?_eq_some_iff.mp e).1; rw [rangeD_len] at this; exact this
  refine ⟨walk_range.goes i H' hi trivial, fun y H3 yy => ?_⟩
  obtain ⟨rfl, rfl⟩ := walk_range.yields i H' y H3 hi trivial yy
  rw [rangeD_get n lo i hi] at e
  cases e
  exact ⟨Xt.refl, st, .int _⟩
def range1 : D → Option (List D)
  | .int j => if -(2 ^ 62) ≤ j ∧ j < 2 ^ 62 then some (rangeD 0 j.toNat) else none
  | _ => none
def range2 : D → D → Option (List D)
  | .int i, .int j => if -(2 ^ 62) ≤ i ∧ i < 2 ^ 62 ∧ -(2 ^ 62) ≤ j ∧ j < 2 ^ 62 then some (rangeD i (j - i).toNat) else none
  | _, _ => none
def iRange1 (f : EvF S) : EvL' S := fun ρ s => (f ρ s).bind fun d s1 => ofO (range1 d) s1
def iRange2 (f g : EvF S) : EvL' S := fun ρ s => (f ρ s).bind fun d s1 => (g ρ s1).bind fun e s2 => ofO (range2 d e) s2
/-- range with a step -/
def rangeC (lo c : Int) : Nat → List D
  | 0 => []
  | n + 1 => .int lo :: rangeC (lo + c) c n
theorem rangeC_len : ∀ (n : Nat) (lo c : Int), (rangeC lo c n).length = n
  | 0, _, _ => rfl
  | n + 1, lo, c => by simp [rangeC, rangeC_len n]
theorem rangeC_get : ∀ (n : Nat) (lo c : Int) (i : Nat), i < n → (rangeC lo c n)[i]? = some (.int (lo + i * c))
  | 0, _, _, _, h => by omega
  | n + 1, lo, c, 0, _ => by simp [rangeC]
  | n + 1, lo, c, i + 1, h => by
    simp only [rangeC, List.getElem?_cons_succ]
    rw [rangeC_get n (lo + c) c i (by omega)]
    congr 2
    have : ((i + 1 : Nat) : Int) * c = (i : Int) * c + c := by rw [Int.natCast_succ, Int.add_mul, Int.one_mul]
    rw [this]
    omega
theorem wm_rangeC {m : Bool} {P : Pt} {s : S} {H : Hp} {lo c : Int} {n : Nat} : Wm m C P s H (Itc lo c n) (rangeC lo c n) := by
  refine ⟨fun i d P' s' H' e x st => ?_, fun P' s' H' x st => by rw [rangeC_len]; exact Nat.le_refl n⟩
  have hi : i < n := by have := (List.getElem?_eq_some_iff.mp e).1; rw [rangeC_len] at this; exact this
  refine ⟨hi, fun y H3 yy => ?_⟩
  obtain ⟨rfl, rfl⟩ := yy
  rw [rangeC_get n lo c i hi] at e
  cases e
  exact ⟨Xt.refl, st, .int _⟩
instance (i j c : Int) (n : Nat) : Decidable (RgC i j c n) := by unfold RgC; exact inferInstance
def range3 : D → D → D → Option (List D)
  | .int i, .int j, .int c => if RgC i j c (Builtin.Range.rangeSize i j c).toNat then some (rangeC i c (Builtin.Range.rangeSize i j c).toNat) else none
  | _, _, _ => none
def iRange3 (f g h : EvF S) : EvL' S := fun ρ s => (f ρ s).bind fun d s1 => (g ρ s1).bind fun e s2 => (h ρ s2).bind fun x s3 => ofO (range3 d e x) s3
theorem si_range3 {m : Bool} {N : List Str} {sc : Scope} (k : Xk C W X N sc) {tg a b c : Expr} {p pos : Pos} {f g h : EvF S} (hg : glB sc "range" = true) (hm : X.mg "range" = none) (hs : isStar a = false) (hs2 : isStar b = false) (hs3 : isStar c = false) (ha : PE X a (tK C W f)) (hb : PE X b (tK C W g)) (hc : PE X c (tK C W h)) :
    PI X tg (.Call (.Name "range" p) [a, b, c] [] pos) (tI m C W (iRange3 f g h)) := by
  refine pi_mono (pi_range3 (gl_of k hg).1 hm (pa_cons ha (pa_cons hb (pa_cons hc pa_nil (star_no hs3)) (star_no hs2)) (star_no hs)) (by rw [star_no hs, star_no hs2, star_no hs3] <;> rfl) (by rw [star_no hs2, star_no hs3] <;> rfl)) fun σ H RR ⟨P, s, R, q⟩ =>
    ⟨P, s, R, q.bind.mono fun d s1 H1 R1 x1 q1 v tv => ⟨P, s1, R1, q1.bind.mono fun d' s2 H2 R2 x2 q2 v' tv' => ⟨P, s2, R2, q2.bind.mono fun d2 s3 H3 R3 x3 q3 v2 tv2 => ?_⟩⟩⟩
  obtain ⟨es, e, k⟩ := run_ofO q3
  cases d <;> cases d' <;> cases d2 <;> simp only [range3, reduceCtorEq] at e
  split at e
  · rename_i hb
    cases e
    have := top_int tv.weak
    subst this
    have := top_int tv'.weak
    subst this
    have := top_int tv2.weak
    subst this
    exact ⟨_, _, _, _, rfl, hb, k H3 R3 Xt.refl _ wm_rangeC⟩
  · cases e
theorem si_range1 {m : Bool} {N : List Str} {sc : Scope} (k : Xk C W X N sc) {tg a : Expr} {p pos : Pos} {f : EvF S} (hg : glB sc "range" = true) (hm : X.mg "range" = none) (hs : isStar a = false) (ha : PE X a (tK C W f)) :
    PI X tg (.Call (.Name "range" p) [a] [] pos) (tI m C W (iRange1 f)) := by
  refine pi_mono (pi_range1 (gl_of k hg).1 hm (pa_cons ha pa_nil (star_no hs)) (by rw [star_no hs]; rfl)) fun σ H RR ⟨P, s, R, q⟩ => ⟨P, s, R, q.bind.mono fun d s1 H1 R1 x1 q1 v tv => ?_⟩
  obtain ⟨es, e, k⟩ := run_ofO q1
  cases d <;> simp only [range1, reduceCtorEq] at e
  split at e
  · rename_i hb
    cases e
    have := top_int tv.weak
    subst this
    exact ⟨_, rfl, hb.1, hb.2, k H1 R1 Xt.refl _ wm_range⟩
  · cases e
theorem si_range2 {m : Bool} {N : List Str} {sc : Scope} (k : Xk C W X N sc) {tg a b : Expr} {p pos : Pos} {f g : EvF S} (hg : glB sc "range" = true) (hm : X.mg "range" = none) (hs : isStar a = false) (hs2 : isStar b = false) (ha : PE X a (tK C W f)) (hb : PE X b (tK C W g)) :
    PI X tg (.Call (.Name "range" p) [a, b] [] pos) (tI m C W (iRange2 f g)) := by
  refine pi_mono (pi_range2 (gl_of k hg).1 hm (pa_cons ha (pa_cons hb pa_nil (star_no hs2)) (star_no hs)) (by rw [star_no hs, star_no hs2]; rfl) (by rw [star_no hs2]; rfl)) fun σ H RR ⟨P, s, R, q⟩ =>
    ⟨P, s, R, q.bind.mono fun d s1 H1 R1 x1 q1 v tv => ⟨P, s1, R1, q1.bind.mono fun d' s2 H2 R2 x2 q2 v' tv' => ?_⟩⟩
  obtain ⟨es, e, k⟩ := run_ofO q2
  cases d <;> cases d' <;> simp only [range2, reduceCtorEq] at e
  split at e
  · rename_i hb
    cases e
    have := top_int tv.weak
    subst this
    have := top_int tv'.weak
    subst this
    exact ⟨_, _, rfl, hb, k H2 R2 Xt.refl _ wm_range⟩
  · cases e
/-- zip of two lists, of two tuples -/
def zipD : List D → List D → List D
  | x :: xs, y :: ys => .tup [x, y] :: zipD xs ys
  | _, _ => []
theorem zipD_len : ∀ xs ys : List D, (zipD xs ys).length = min xs.length ys.length
  | [], _ => by simp [zipD]
  | _ :: _, [] => by simp [zipD]
  | _ :: xs, _ :: ys => by simp [zipD, zipD_len xs ys]
theorem zipD_get : ∀ (xs ys : List D) (i : Nat) (d : D), (zipD xs ys)[i]? = some d → ∃ x y, xs[i]? = some x ∧ ys[i]? = some y ∧ d = .tup [x, y]
  | [], _, _, _, h => by simp [zipD] at h
  | _ :: _, [], _, _, h => by simp [zipD] at h
  | x :: xs, y :: ys, 0, d, h => by simp [zipD] at h; exact ⟨x, y, rfl, rfl, h.symm⟩
  | x :: xs, y :: ys, i + 1, d, h => by
    simp only [zipD, List.getElem?_cons_succ] at h
    obtain ⟨a, b, h1, h2, h3⟩ := zipD_get xs ys i d h
    exact ⟨a, b, by simpa using h1, by simpa using h2, h3⟩
def zip2 : D → D → Option (List D)
  | .tup a, .tup b => some (zipD a b)
  | .lst a, .lst b => some (zipD a b)
  | .tup a, .lst b => if a.length = b.length then some (zipD a b) else none
  | .lst a, .tup b => if a.length = b.length then some (zipD a b) else none
  | _, _ => none
theorem zipD_at : ∀ (a b : List D) (i : Nat), i < a.length → a.length = b.length → (zipD a b)[i]? = some (.tup [a.getD i .non, b.getD i .non])
  | x :: a, y :: b, 0, _, _ => rfl
  | x :: a, y :: b, i + 1, h, e => by
    have := zipD_at a b i (by simpa using h) (by simpa using e)
    simpa [zipD, List.getD] using this
theorem cols_zip {a b : List D} (h : a.length = b.length) : colsD [a, b] a.length = zipD a b := by
  apply List.ext_getElem?
  intro i
  simp only [colsD, List.getElem?_map]
  by_cases hi : i < a.length
  · rw [List.getElem?_range hi]
    rw [zipD_at a b i hi h]
    rfl
  · rw [List.getElem?_eq_none (by simpa using hi), List.getElem?_eq_none (by rw [zipD_len]; omega)]
    rfl
def iZip (f g : EvF S) : EvL' S := fun ρ s => (f ρ s).bind fun d s1 => (g ρ s1).bind fun e s2 => ofO (zip2 d e) s2
theorem walk_zipT {K : PySem.W.Frag} {a b : Addr} {xs ys : List V} {n : Nat} (hn : n = min xs.length ys.length) : Walk (RZ.ItzT K a b) n (fun H => SqT K H a xs ∧ SqT K H b ys) (YPair (fun i => xs[i]?) (fun i => ys[i]?)) := by
  subst hn
  refine ⟨fun i _ hi q => ?_, fun _ q => ⟨xs, ys, q.1, q.2, by omega⟩, fun i H v H' _ q y => ?_⟩
  · have h1 : i < xs.length := by omega
    have h2 : i < ys.length := by omega
    exact ⟨xs, ys, xs[i], ys[i], q.1, q.2, by simp [h1], by simp [h2]⟩
  · obtain ⟨T, x, z, h1, h2, h3, h4, h5⟩ := y
    exact ⟨T, x, z, h1, h2, h3, h4 xs q.1, h5 ys q.2⟩
theorem TopM.tup {m : Bool} {P : Pt} {s : S} {H : Hp} {v : V} {ds : List D} (h : TopM m C P s H v (.tup ds)) : ∃ a vs, v = .ref a ∧ SqT C.K H a vs ∧ RpL C.K H (Fc C P s) vs ds := by
  rcases h with h | ⟨a, vs, ds', e1, e2, _⟩
  · cases h with
    | tup h q => exact ⟨_, _, rfl, h, q⟩
  · cases e2
theorem TopM.lst {m : Bool} {P : Pt} {s : S} {H : Hp} {v : V} {ds : List D} (h : TopM m C P s H v (.lst ds)) : ∃ a vs, v = .ref a ∧ (H a = some (.lst vs) ∧ ¬ C.T.A s a ∧ (m = true → ¬ P.mroot a)) ∧ RpL C.K H (Fc C P s) vs ds := by
  rcases h with h | ⟨a, vs, ds', e1, e2, na, nm, e, q⟩
  · cases h with
    | lst f h q => exact ⟨_, _, rfl, ⟨h, f.2.2.2, fun _ z => f.2.1 (Pt.root_of z)⟩, q⟩
  · cases e2
    exact ⟨a, vs, e1, ⟨e, na, nm⟩, q⟩
theorem si_zip {m : Bool} {N : List Str} {sc : Scope} (k : Xk C W X N sc) {e e2 : Expr} {es : List Expr} {kk : Nat} {tp p pos : Pos} {f g : EvF S} (hg : glB sc "zip" = true) (hm : X.mg "zip" = none) (hs : isStar e = false) (hs2 : isStar e2 = false) (he : PE X e (tM m C W f)) (he2 : PE X e2 (tM m C W g)) :
    PI X (.Tuple es kk tp) (.Call (.Name "zip" p) [e, e2] [] pos) (tI m C W (iZip f g)) := by
  have hK := k.K
  refine pi_mono (pi_zipB (gl_of k hg).1 hm (pa_cons he (pa_cons he2 pa_nil (star_no hs2)) (star_no hs)) (by rw [star_no hs]) (star_back (by simp [hs2]))) fun σ H RR ⟨P, s, R, q⟩ =>
    ⟨P, s, R, q.bind.mono fun d s1 H1 R1 x1 q1 v tv => ⟨P, s1, R1, q1.bind.mono fun d' s2 H2 R2 x2 q2 v' tv' => ?_⟩⟩
  obtain ⟨es, e, k⟩ := run_ofO q2
  have k := k H2 R2 Xt.refl
  have tv := tv.xt x2 R1.st
  have pr : ∀ {vs ws : List V} {ds ds' : List D}, RpL C.K H2 (Fc C P s2) vs ds → RpL C.K H2 (Fc C P s2) ws ds' → ∀ (i : Nat) (d : D) (x y : V) (P' : Pt) (s' : S) (H' : Hp), (zipD ds ds')[i]? = some d → vs[i]? = some x → ws[i]? = some y → Mv m C.T P s2 H2 P' s' H' → ∃ dx dy, d = .tup [dx, dy] ∧ Rp C.K H' (fun a => Fc C P' s' a ∧ H2 a ≠ none) x dx ∧ Rp C.K H' (fun a => Fc C P' s' a ∧ H2 a ≠ none) y dy := by
    intro vs ws ds ds' r r' i d x y P' s' H' e1 e2 e3 mv
    obtain ⟨a, b, h1, h2, rfl⟩ := zipD_get _ _ _ _ e1
    exact ⟨a, b, rfl, r.at mv R2 h1 e2, r'.at mv R2 h2 e3⟩
  have mixed : ∀ {t u : Bool} {a b : Addr} {vs ws : List V} {ds ds' : List D}, (if t = true then SqT C.K H2 a vs else (H2 a = some (.lst vs) ∧ ¬ C.T.A s2 a ∧ (m = true → ¬ P.mroot a))) → (if u = true then SqT C.K H2 b ws else (H2 b = some (.lst ws) ∧ ¬ C.T.A s2 b ∧ (m = true → ¬ P.mroot b))) →
      RpL C.K H2 (Fc C P s2) vs ds → RpL C.K H2 (Fc C P s2) ws ds' → ds.length = ds'.length → SqAll X.K H2 [(t, a), (u, b)] [vs, ws] ∧ Wm m C P s2 H2 (ItzN X.K [(t, a), (u, b)]) (zipD ds ds') := by
    intro t u a b vs ws ds ds' h1 h2 r1 r2 hl
    have al : AllR m C P s2 H2 [(t, a), (u, b)] [vs, ws] [ds, ds'] := .cons h1 r1 (.cons h2 r2 .nil)
    have hw := wm_cols R2 al (n := ds.length) (by simp [hl])
    rw [cols_zip hl] at hw
    rw [← hK]
    exact ⟨al.sq R2 (show Mv m C.T P s2 H2 P s2 H2 from by unfold Mv; split; exact Stp.refl; exact ⟨rfl, Xt.refl⟩), hw⟩
  cases d <;> cases d' <;> simp only [zip2, reduceCtorEq, Option.some.injEq] at e
  · subst e
    obtain ⟨a, vs, rfl, ha, ra⟩ := tv.tup
    obtain ⟨b, ws, rfl, hb, rb⟩ := tv'.tup
    exact ⟨a, b, vs, ws, rfl, .inr (.inl ⟨by rw [← hK]; exact ha, by rw [← hK]; exact hb, k _ (wm_pair R2 (n := min vs.length ws.length) (by rw [zipD_len, ra.length, rb.length]) (walk_zipT rfl) (fun P' s' H' x => by rw [← hK]; exact ⟨sqT_mv x R2 ha, sqT_mv x R2 hb⟩) (pr ra rb))⟩)⟩
  · split at e
    · rename_i hl
      cases e
      obtain ⟨a, vs, rfl, ha, ra⟩ := tv.tup
      obtain ⟨b, ws, rfl, hb, rb⟩ := tv'.lst
      obtain ⟨g1, g2⟩ := mixed (t := true) (u := false) ha hb ra rb hl
      exact ⟨a, b, vs, ws, rfl, .inr (.inr ⟨true, false, g1, k _ g2⟩)⟩
    · cases e
  · split at e
    · rename_i hl
      cases e
      obtain ⟨a, vs, rfl, ha, ra⟩ := tv.lst
      obtain ⟨b, ws, rfl, hb, rb⟩ := tv'.tup
      obtain ⟨g1, g2⟩ := mixed (t := false) (u := true) ha hb ra rb hl
      exact ⟨a, b, vs, ws, rfl, .inr (.inr ⟨false, true, g1, k _ g2⟩)⟩
    · cases e
  · subst e
    obtain ⟨a, vs, rfl, ha, ra⟩ := tv.lst
    obtain ⟨b, ws, rfl, hb, rb⟩ := tv'.lst
    exact ⟨a, b, vs, ws, rfl, .inl ⟨.inl (.inl ha.1), .inl (.inl hb.1), k _ (wm_pair R2 (n := min vs.length ws.length) (by rw [zipD_len, ra.length, rb.length]) (walk_zip rfl) (fun P' s' H' x => by rw [← hK]; exact ⟨lst_mv x R2 (.inl ha), lst_mv x R2 (.inl hb)⟩) (pr ra rb))⟩⟩
/-! ### zip of the rows of a table -/
def iZipS (f : EvF S) : EvL' S := fun ρ s => (f ρ s).bind fun d s1 => ofO (zipN d) s1
theorem si_zipS {m : Bool} {N : List Str} {sc : Scope} (k : Xk C W X N sc) {tg e : Expr} {p sp pos : Pos} {f : EvF S} (hg : glB sc "zip" = true) (hm : X.mg "zip" = none) (he : PE X e (tM m C W f)) (hs : starEach [.Starred e sp] X.env = [(true, eval e X.env)] := by rfl) :
    PI X tg (.Call (.Name "zip" p) [.Starred e sp] [] pos) (tI m C W (iZipS f)) := by
  have hK := k.K
  refine pi_mono (pi_zipS (gl_of k hg).1 hm he hs) fun σ H RR ⟨P, s, R, q⟩ => ⟨P, s, R, q.bind.mono fun d s1 H1 R1 x1 q1 v tv => ?_⟩
  obtain ⟨es, e, k⟩ := run_ofO q1
  have k := k H1 R1 Xt.refl
  have go : ∀ {vs : List V} {rows : List D} {dss : List (List D)}, RpL C.K H1 (Fc C P s1) vs rows → rowsOf rows = some dss → (bind1 dss = some es) → ∃ as xss, vs = as.map (fun q => V.ref q.2) ∧ SqAll X.K H1 as xss ∧ (1 ≤ as.length ∧ as.length ≤ 8) ∧ RR (ItzN X.K as) H1 := by
    intro vs rows dss r e1 e2
    obtain ⟨as, vss, rfl, al⟩ := allR_rows (m := m) r e1
    unfold bind1 at e2
    split at e2
    · cases e2
    · rename_i ds dr
      split at e2
      · rename_i hc
        obtain ⟨c1, c2⟩ := hc
        cases e2
        have hn : ∀ z ∈ ds :: dr, z.length = ds.length := fun z hz => by
          rcases List.mem_cons.mp hz with rfl | hz
          · rfl
          · simpa using List.all_eq_true.mp c1 z hz
        have hl := al.len
        simp only [List.length_cons] at hl
        refine ⟨as, vss, rfl, ?_, by omega, ?_⟩
        · rw [← hK]; exact al.sq R1 (show Mv m C.T P s1 H1 P s1 H1 from by unfold Mv; split; exact Stp.refl; exact ⟨rfl, Xt.refl⟩)
        · rw [← hK]; exact k _ (wm_cols R1 al hn)
      · cases e2
  cases d <;> simp only [zipN, zipN.seqOf', reduceCtorEq] at e
  · obtain ⟨dss, e1, e2⟩ := Option.bind_eq_some_iff.mp e
    obtain ⟨a, vs, rfl, ha, ra⟩ := tv.tup
    obtain ⟨as, xss, rfl, h2, h3, h4⟩ := go ra e1 e2
    exact ⟨a, as, xss, rfl, .inl (by rw [← hK]; exact ha), h2, h3, h4⟩
  · obtain ⟨dss, e1, e2⟩ := Option.bind_eq_some_iff.mp e
    obtain ⟨a, vs, rfl, ha, ra⟩ := tv.lst
    obtain ⟨as, xss, rfl, h2, h3, h4⟩ := go ra e1 e2
    exact ⟨a, as, xss, rfl, .inr (by rw [← hK]; exact .inl (.inl ha.1)), h2, h3, h4⟩
end
end Q

/-! Lay9: list comprehensions. -/
namespace Q
open PySem L2
section
variable {S : Type} {C : Cn S} {W : L2.WX} {X : Cx}
def OnlyS (ts : List Nat) (ρ ρ' : List Sl) : Prop := ρ'.length = ρ.length ∧ ∀ j, j ∉ ts → ρ'[j]? = ρ[j]?
def TgOk (ts : List Nat) (h : D → List Sl → Option (List Sl)) : Prop := ∀ d ρ ρ', h d ρ = some ρ' → OnlyS ts ρ ρ'
def TgsOk (ts : List Nat) (h : List D → List Sl → Option (List Sl)) : Prop := ∀ d ρ ρ', h d ρ = some ρ' → OnlyS ts ρ ρ'
theorem tgo_name {N : List Str} {sc : Scope} {x : Str} : TgOk (tgSlot N x) (tgName N sc x) := by
  intro d ρ ρ' h
  unfold tgName at h
  unfold tgSlot
  split at h
  · rename_i i e
    split at h
    · cases h
      refine ⟨by simp, fun j hj => ?_⟩
      rw [List.getElem?_set_ne]
      simpa [e, eq_comm] using hj
    · cases h
  · cases h
theorem tgo_nil : TgsOk [] gsN := by
  intro d ρ ρ' h
  cases d with
  | nil => cases h; exact ⟨rfl, fun _ _ => rfl⟩
  | cons _ _ => cases h
theorem tgo_cons {ts us : List Nat} {f : D → List Sl → Option (List Sl)} {g : List D → List Sl → Option (List Sl)} (a : TgOk ts f) (b : TgsOk us g) : TgsOk (ts ++ us) (gsC f g) := by
  intro d ρ ρ' h
  cases d with
  | nil => cases h
  | cons d ds =>
    simp only [gsC, Option.bind_eq_some_iff] at h
    obtain ⟨ρ1, e1, e2⟩ := h
    have x := a _ _ _ e1
    have y := b _ _ _ e2
    exact ⟨y.1.trans x.1, fun j hj => by simp only [List.mem_append, not_or] at hj; exact (y.2 j hj.2).trans (x.2 j hj.1)⟩
theorem tgo_tup {n : Nat} {ts : List Nat} {g : List D → List Sl → Option (List Sl)} (b : TgsOk ts g) : TgOk ts (gTupD n g) := by
  intro d ρ ρ' h
  cases d <;> simp only [gTupD, reduceCtorEq] at h
  split at h
  · exact b _ _ _ h
  · cases h

def wipeR (ρ : List Sl) : List Nat → List Sl
  | [] => ρ
  | v :: vs => (wipeR ρ vs).set v .no
theorem wipeR_len (ρ : List Sl) : ∀ vs, (wipeR ρ vs).length = ρ.length
  | [] => rfl
  | v :: vs => by simp [wipeR, wipeR_len ρ vs]
theorem wipeR_out {ρ : List Sl} {j : Nat} : ∀ {vs : List Nat}, j ∉ vs → (wipeR ρ vs)[j]? = ρ[j]?
  | [], _ => rfl
  | v :: vs, h => by
    simp only [List.mem_cons, not_or] at h
    rw [wipeR, List.getElem?_set_ne (Ne.symm h.1), wipeR_out h.2]
theorem wipeR_in {ρ : List Sl} {j : Nat} : ∀ {vs : List Nat}, j ∈ vs → j < ρ.length → (wipeR ρ vs)[j]? = some .no
  | v :: vs, h, hl => by
    rw [wipeR]
    by_cases e : v = j
    · subst e; rw [List.getElem?_set_self (by rw [wipeR_len]; exact hl)]
    · rw [List.getElem?_set_ne e]
      rcases List.mem_cons.mp h with z | z
      · exact absurd z.symm e
      · exact wipeR_in z hl
theorem wipe_out {σ : L2.St} {j : Nat} : ∀ {vs : List Nat}, j ∉ vs → (wipe σ vs)[j]? = σ[j]?
  | [], _ => rfl
  | v :: vs, h => by
    simp only [List.mem_cons, not_or] at h
    rw [wipe, List.getElem?_set_ne (Ne.symm h.1), wipe_out h.2]
theorem wipe_in {σ : L2.St} {j : Nat} : ∀ {vs : List Nat}, j ∈ vs → j < σ.length → (wipe σ vs)[j]? = some none
  | v :: vs, h, hl => by
    rw [wipe]
    by_cases e : v = j
    · subst e; rw [List.getElem?_set_self (by rw [wipe_length]; exact hl)]
    · rw [List.getElem?_set_ne e]
      rcases List.mem_cons.mp h with z | z
      · exact absurd z.symm e
      · exact wipe_in z hl
theorem wipe_ext {σ σ' : L2.St} {vs : List Nat} (hl : σ'.length = σ.length) (h : ∀ j, j ∉ vs → σ'[j]? = σ[j]?) : wipe σ' vs = wipe σ vs := by
  apply List.ext_getElem?
  intro j
  by_cases hj : j ∈ vs
  · by_cases hb : j < σ.length
    · rw [wipe_in hj hb, wipe_in hj (by rw [hl]; exact hb)]
    · rw [List.getElem?_eq_none (by rw [wipe_length]; omega), List.getElem?_eq_none (by rw [wipe_length]; omega)]
  · rw [wipe_out hj, wipe_out hj, h j hj]
def ownAt (ρ : List Sl) (i : Nat) : Bool := match ρ[i]? with
  | some sl => (isOwn sl).isSome
  | none => false

def Res.noErr0 {α : Type} : Res S α → Res S α
  | .err _ _ => .stuck
  | .new _ _ => .stuck
  | r => r
/-- the turns of a comprehension -/
def lcGo0 (h : D → List Sl → Option (List Sl)) (ft : EvT' S) (fe : EvF S) (ρ : List Sl) : List D → S → Res S (List D)
  | [], s => .ok [] s
  | d :: ds, s => match h d ρ with
    | none => .stuck
    | some ρ2 => (ft ρ2 s).noErr0.bind fun b s1 => if b = true then (fe ρ2 s1).noErr0.bind fun y s2 => (lcGo0 h ft fe ρ ds s2).bind fun ys s3 => .ok (y :: ys) s3 else lcGo0 h ft fe ρ ds s1
theorem lcGo0_ne {h : D → List Sl → Option (List Sl)} {ft : EvT' S} {fe : EvF S} {ρ : List Sl} : ∀ (ds : List D) (s : S) (x : Exn) (s' : S), lcGo0 h ft fe ρ ds s ≠ .err x s'
  | [], s, x, s', e => by simp [lcGo0] at e
  | d :: ds, s, x, s', e => by
    unfold lcGo0 at e
    split at e
    · cases e
    · cases q : (ft _ s) with
      | stuck => rw [q] at e; cases e
      | err y t => rw [q] at e; cases e
      | new y t => rw [q] at e; cases e
      | ok b s1 =>
        rw [q] at e
        simp only [Res.noErr0, Res.bind] at e
        split at e
        · cases q2 : (fe _ s1) with
          | stuck => rw [q2] at e; cases e
          | err y t => rw [q2] at e; cases e
          | new y t => rw [q2] at e; cases e
          | ok y s2 =>
            rw [q2] at e
            simp only [Res.noErr0, Res.bind] at e
            cases q3 : lcGo0 h ft fe ρ ds s2 with
            | stuck => rw [q3] at e; cases e
            | new z t => rw [q3] at e; cases e
            | err z t => exact lcGo0_ne ds s2 z t q3
            | ok ys s3 => rw [q3] at e; cases e
        · exact lcGo0_ne ds s1 x s' e
theorem lcGo0_nw {h : D → List Sl → Option (List Sl)} {ft : EvT' S} {fe : EvF S} {ρ : List Sl} : ∀ (ds : List D) (s : S) (p : Addr → Bool) (g : Addr → Res S (List D)), lcGo0 h ft fe ρ ds s ≠ .new p g
  | [], s, x, s', e => by simp [lcGo0] at e
  | d :: ds, s, x, s', e => by
    unfold lcGo0 at e
    split at e
    · cases e
    · cases q : (ft _ s) with
      | stuck => rw [q] at e; cases e
      | err y t => rw [q] at e; cases e
      | new y t => rw [q] at e; cases e
      | ok b s1 =>
        rw [q] at e
        simp only [Res.noErr0, Res.bind] at e
        split at e
        · cases q2 : (fe _ s1) with
          | stuck => rw [q2] at e; cases e
          | err y t => rw [q2] at e; cases e
          | new y t => rw [q2] at e; cases e
          | ok y s2 =>
            rw [q2] at e
            simp only [Res.noErr0, Res.bind] at e
            cases q3 : lcGo0 h ft fe ρ ds s2 with
            | stuck => rw [q3] at e; cases e
            | new z t => exact lcGo0_nw ds s2 z t q3
            | err z t => rw [q3] at e; cases e
            | ok ys s3 => rw [q3] at e; cases e
        · exact lcGo0_nw ds s1 x s' e

/-- no exception; a new thing, where some address is let -/
def Res.noErr {α : Type} : Res S α → Res S α
  | .ok a s => .ok a s
  | .err _ _ => .stuck
  | .stuck => .stuck
  | .new p g => if (List.range 5000).any p = true then .new p fun a => Res.noErr (g a) else .stuck
/-- the turns of a comprehension -/
def lcGo (h : D → List Sl → Option (List Sl)) (ft : EvT' S) (fe : EvF S) (ρ : List Sl) : List D → S → Res S (List D)
  | [], s => .ok [] s
  | d :: ds, s => match h d ρ with
    | none => .stuck
    | some ρ2 => (ft ρ2 s).noErr.bind fun b s1 => if b = true then (fe ρ2 s1).noErr.bind fun y s2 => (lcGo h ft fe ρ ds s2).bind fun ys s3 => .ok (y :: ys) s3 else lcGo h ft fe ρ ds s1
def lcE (fi : EvL' S) (h : D → List Sl → Option (List Sl)) (ft : EvT' S) (fe : EvF S) (vs : List Nat) : EvF S := fun ρ s => (fi ρ s).bind fun ds s1 =>
  if vs.any (ownAt ρ) then .stuck else (lcGo h ft fe (wipeR ρ vs) ds s1).bind fun ys s2 => if ys.length ≤ sizeLine then .ok (.lst ys) s2 else .stuck
/-- well in the end, whatever the addresses are -/
def Wl {α : Type} (φ : α → S → Prop) : Res S α → Prop
  | .ok a s => φ a s
  | .new p g => (∃ a, p a = true) ∧ ∀ a, p a = true → Wl φ (g a)
  | _ => False
theorem Wl.ex {α : Type} {φ : α → S → Prop} : ∀ {r : Res S α}, Wl φ r → ∃ a s, φ a s
  | .ok a s, h => ⟨a, s, h⟩
  | .err _ _, h => h.elim
  | .stuck, h => h.elim
  | .new p g, h => let ⟨a, ha⟩ := h.1; Wl.ex (h.2 a ha)
theorem Wl.mono {α : Type} {φ ψ : α → S → Prop} (i : ∀ a s, φ a s → ψ a s) : ∀ {r : Res S α}, Wl φ r → Wl ψ r
  | .ok a s, h => i a s h
  | .err _ _, h => h.elim
  | .stuck, h => h.elim
  | .new p g, h => ⟨h.1, fun a ha => Wl.mono i (h.2 a ha)⟩
theorem Wl.bind {α β : Type} {φ : β → S → Prop} {k : α → S → Res S β} : ∀ {r : Res S α}, Wl φ (r.bind k) → Wl (fun a s => Wl φ (k a s)) r
  | .ok a s, h => h
  | .err _ _, h => h.elim
  | .stuck, h => h.elim
  | .new p g, h => ⟨h.1, fun a ha => Wl.bind (h.2 a ha)⟩
theorem Wl.noErr {α : Type} {φ : α → S → Prop} : ∀ {r : Res S α}, Wl φ r.noErr → Wl φ r
  | .ok a s, h => h
  | .err _ _, h => h.elim
  | .stuck, h => h.elim
  | .new p g, h => by
    unfold Res.noErr at h
    split at h
    · exact ⟨h.1, fun a ha => Wl.noErr (h.2 a ha)⟩
    · exact h.elim
theorem Wl.run {α : Type} {φ : α → S → Prop} {P : Pt} {σ : L2.St} {H : Hp} {s : S} : ∀ {r : Res S α}, Wl φ r → Run C W P σ H s r fun a s' _ => φ a s'
  | .ok a s, h => fun _ _ _ => h
  | .err _ _, h => h.elim
  | .stuck, h => h.elim
  | .new p g, h => fun a ha => Wl.run (h.2 a ha)
/-- no exception in the end; each new thing has an address -/
def NoE {α : Type} : Res S α → Prop
  | .err _ _ => False
  | .new p g => (∃ a, p a = true) ∧ ∀ a, p a = true → NoE (g a)
  | _ => True
theorem NoE.bind {α β : Type} {k : α → S → Res S β} (hk : ∀ a s, NoE (k a s)) : ∀ {r : Res S α}, NoE r → NoE (r.bind k)
  | .ok a s, _ => hk a s
  | .err _ _, h => h.elim
  | .stuck, _ => trivial
  | .new p g, h => ⟨h.1, fun a ha => NoE.bind hk (h.2 a ha)⟩
theorem noE_noErr {α : Type} : ∀ r : Res S α, NoE r.noErr
  | .ok a s => trivial
  | .err _ _ => trivial
  | .stuck => trivial
  | .new p g => by
    unfold Res.noErr
    split
    · rename_i h
      obtain ⟨a, _, ha⟩ := List.any_eq_true.mp h
      exact ⟨⟨a, ha⟩, fun a _ => noE_noErr (g a)⟩
    · trivial
theorem noE_lcGo {h : D → List Sl → Option (List Sl)} {ft : EvT' S} {fe : EvF S} {ρ : List Sl} : ∀ (ds : List D) (s : S), NoE (lcGo h ft fe ρ ds s)
  | [], s => trivial
  | d :: ds, s => by
    unfold lcGo
    split
    · trivial
    · refine NoE.bind (fun b s1 => ?_) (noE_noErr _)
      split
      · exact NoE.bind (fun y s2 => NoE.bind (k := fun ys s3 => Res.ok (y :: ys) s3) (fun ys s3 => trivial) (noE_lcGo ds s2)) (noE_noErr _)
      · exact noE_lcGo ds s1
theorem run_wl {α β : Type} {P : Pt} {σ : L2.St} {H : Hp} {s : S} {g : α → S → Res S β} {k : β → S → Hp → Prop} : ∀ {r : Res S α}, NoE r → Run C W P σ H s (r.bind g) k → Wl (fun a s1 => Run C W P σ H s (g a s1) k) r
  | .ok a s1, _, q => q
  | .err _ _, h, _ => h.elim
  | .stuck, _, q => q.elim
  | .new p f, h, q => ⟨h.1, fun a ha => run_wl (h.2 a ha) (q a ha)⟩
/-! ### reserved places -/
def Pt.addZ (P : Pt) (a : Addr) : Pt := { P with Z := fun b => P.Z b ∨ b = a }
theorem fc_addZ {P : Pt} {s : S} {a b : Addr} (h : Fc C P s b) (n : b ≠ a) : Fc C (P.addZ a) s b := ⟨h.1, h.2.1, fun z => z.elim h.2.2.1 n, h.2.2.2⟩
theorem fc_unZ {P : Pt} {s : S} {a b : Addr} (h : Fc C (P.addZ a) s b) : Fc C P s b ∧ b ≠ a := ⟨⟨h.1, h.2.1, fun z => h.2.2.1 (.inl z), h.2.2.2⟩, fun e => h.2.2.1 (.inr e)⟩
theorem Rel.addZ {P : Pt} {σ : L2.St} {H : Hp} {s : S} {a : Addr} {o : HO} (R : Rel C P σ H s) (hp : H a = none) : Rel C (P.addZ a) σ (upd H a o) s := by
  have R1 : Rel C P σ (upd H a o) s := R.new hp
  have x : Xt C.T s s H (upd H a o) := Xt.new hp
  refine ⟨R1.len, R1.st, R1.frm, R1.live, R1.grow, fun b z => ?_, fun i sl e => ?_⟩
  · rcases z with z | z
    · exact R1.za b z
    · subst z
      exact ⟨R.none0 hp, by rw [upd_same]; simp, nN R.st hp⟩
  · have h := R.slot i sl e
    have stp : ∀ {F : Addr → Prop}, (∀ a, F a → ¬ C.T.A s a) → Stays F H (upd H a o) := fun hF => x.stays R.st hF
    have fz : ∀ b, Fc C P s b → H b ≠ none → Fc C (P.addZ a) s b := fun b f n => fc_addZ f fun e => n (by rw [e]; exact hp)
    have own : ∀ ds, isOwn sl = some ds → OwnOk C (P.addZ a) σ (upd H a o) s i ds := fun ds q => by
      have w : OwnOk C P σ H s i ds := R.own e q
      obtain ⟨vs, x1, x2⟩ := w.is
      refine ⟨w.at_, w.new, w.na, fun z => z.elim w.nz fun e => ?_, w.one, vs, x1.xt x R.st w.na, x2.step (stp fun _ f => f.2.2.2) fz⟩
      exact x1.ne (by rw [show P.r i = a from e]; exact hp)
    cases sl with
    | no => trivial
    | val d => obtain ⟨v, e1, e2⟩ := h; exact ⟨v, e1, e2.step (stp fun _ f => f.2.2.2) fz⟩
    | own ds => exact own _ rfl
    | lck ds => exact own _ rfl
    | obj _ _ => exact own _ rfl
theorem Rel.unZ {P : Pt} {σ : L2.St} {H : Hp} {s : S} {a : Addr} (R : Rel C (P.addZ a) σ H s) : Rel C P σ H s := by
  refine ⟨R.len, R.st, R.frm, R.live, R.grow, fun b z => R.za b (.inl z), fun i sl e => ?_⟩
  have h := R.slot i sl e
  have own : ∀ ds, isOwn sl = some ds → OwnOk C P σ H s i ds := fun ds q => by
    have w : OwnOk C (P.addZ a) σ H s i ds := R.own e q
    obtain ⟨vs, x1, x2⟩ := w.is
    exact ⟨w.at_, w.new, w.na, fun z => w.nz (.inl z), w.one, vs, x1, x2.wk fun b f _ => (fc_unZ f).1⟩
  cases sl with
  | no => trivial
  | val d => obtain ⟨v, e1, e2⟩ := h; exact ⟨v, e1, e2.wk fun b f _ => (fc_unZ f).1⟩
  | own ds => exact own _ rfl
  | lck ds => exact own _ rfl
  | obj _ _ => exact own _ rfl
/-- a reserved list is written -/
theorem stays_zmod {F : Addr → Prop} {H : Hp} {a : Addr} {xs ys : List V} (hx : H a = some (.lst xs)) (hF : ∀ b, F b → b ≠ a) : Stays F H (upd H a (.lst ys)) :=
  ⟨fun b zs e => by rw [upd_ne (fun z => by subst z; rw [hx] at e; cases e)]; exact e, fun b o u e => by rw [upd_ne (fun z => by subst z; rw [hx] at e; cases e)]; exact e, fun b zs f e => by rw [upd_ne (hF b f)]; exact e, fun b f e => by rw [upd_ne (hF b f)]; exact e, fun b o f e => by rw [upd_ne (hF b f)]; exact e, fun b fs e => by rw [upd_ne (fun z => by subst z; rw [hx] at e; cases e)]; exact e⟩
theorem Rel.zmod {P : Pt} {σ : L2.St} {H : Hp} {s : S} {a : Addr} {xs ys : List V} (R : Rel C P σ H s) (hz : P.Z a) (hx : H a = some (.lst xs)) : Rel C P σ (upd H a (.lst ys)) s := by
  obtain ⟨z1, z2, z3⟩ := R.za a hz
  have lv : ∀ b, H b ≠ none → upd H a (.lst ys) b ≠ none := fun b n => by
    by_cases e : b = a
    · subst e; rw [upd_same]; simp
    · rw [upd_ne e]; exact n
  have fz : ∀ b, Fc C P s b → b ≠ a := fun b f e => f.2.2.1 (by rw [e]; exact hz)
  refine ⟨R.len, C.T.mono R.st fun b o q e => by rw [upd_ne (fun z => q.elim (fun q => z3 (by rw [← z]; exact q)) fun q => by rw [z, hx] at e; exact q (by rw [← Option.some.inj e]; exact trivial))]; exact e, fun b o e n => ?_, fun b n => lv b (R.live b n), R.grow, fun b z => ?_, fun i sl e => ?_⟩
  · rw [upd_ne (fun z => by rw [z, z1] at e; cases e)]; exact R.frm b o e n
  · obtain ⟨y1, y2, y3⟩ := R.za b z
    exact ⟨y1, lv b y2, y3⟩
  · have h := R.slot i sl e
    have own : ∀ ds, isOwn sl = some ds → OwnOk C P σ (upd H a (.lst ys)) s i ds := fun ds q => by
      have w : OwnOk C P σ H s i ds := R.own e q
      obtain ⟨vs, x1, x2⟩ := w.is
      exact ⟨w.at_, w.new, w.na, w.nz, w.one, vs, x1.zmod hx trivial (fun z => w.nz (by rw [z]; exact hz)), x2.step (stays_zmod hx fz) fun b f _ => f⟩
    cases sl with
    | no => trivial
    | val d => obtain ⟨v, e1, e2⟩ := h; exact ⟨v, e1, e2.step (stays_zmod hx fz) fun b f _ => f⟩
    | own ds => exact own _ rfl
    | lck ds => exact own _ rfl
    | obj _ _ => exact own _ rfl
/-! ### the block's slots -/
theorem ownAt_no {ρ : List Sl} {vs : List Nat} (h : ¬ vs.any (ownAt ρ) = true) {j : Nat} {sl : Sl} {ds : Pay} (e1 : ρ[j]? = some sl) (e2 : isOwn sl = some ds) : j ∉ vs := fun hj => h (by
  rw [List.any_eq_true]
  exact ⟨j, hj, by unfold ownAt; rw [e1]; simp [e2]⟩)
theorem root_only {P : Pt} {vs : List Nat} {ρ' : List Sl} (hv : ¬ vs.any (ownAt P.ρ) = true) (ho : ∀ j, j ∉ vs → ρ'[j]? = P.ρ[j]?) {a : Addr} (h : P.root a) : ({ P with ρ := ρ' } : Pt).root a := by
  obtain ⟨j, sl, ds, e1, e2, e3⟩ := h
  exact ⟨j, sl, ds, (ho j (ownAt_no hv e1 e2)).trans e1, e2, e3⟩
theorem root_wipe {P : Pt} {vs : List Nat} {a : Addr} (h : ({ P with ρ := wipeR P.ρ vs } : Pt).root a) : P.root a := by
  obtain ⟨j, sl, ds, e1, e2, e3⟩ := h
  have e1' : (wipeR P.ρ vs)[j]? = some sl := e1
  by_cases hj : j ∈ vs
  · have hl : j < P.ρ.length := by have := (List.getElem?_eq_some_iff.mp e1').1; rw [wipeR_len] at this; exact this
    rw [wipeR_in hj hl] at e1'
    cases e1'
    cases e2
  · rw [wipeR_out hj] at e1'
    exact ⟨j, sl, ds, e1', e2, e3⟩
theorem Rel.wipe {P : Pt} {σ : L2.St} {H : Hp} {s : S} (R : Rel C P σ H s) (vs : List Nat) : Rel C { P with ρ := wipeR P.ρ vs } (L2.wipe σ vs) H s := by
  have fz : ∀ b, Fc C P s b → Fc C { P with ρ := wipeR P.ρ vs } s b := fun b f => ⟨f.1, fun q => f.2.1 (root_wipe q), f.2.2.1, f.2.2.2⟩
  refine ⟨by rw [wipe_length]; simpa [wipeR_len] using R.len, R.st, R.frm, R.live, R.grow, R.za, fun i sl e => ?_⟩
  have e' : (wipeR P.ρ vs)[i]? = some sl := e
  by_cases hi : i ∈ vs
  · have hl : i < P.ρ.length := by have := (List.getElem?_eq_some_iff.mp e').1; rw [wipeR_len] at this; exact this
    rw [wipeR_in hi hl] at e'
    cases e'
    trivial
  · rw [wipeR_out hi] at e'
    have h := R.slot i sl e'
    have own : ∀ ds, isOwn sl = some ds → OwnOk C { P with ρ := wipeR P.ρ vs } (L2.wipe σ vs) H s i ds := fun ds q => by
      have w : OwnOk C P σ H s i ds := R.own e' q
      obtain ⟨ws, x1, x2⟩ := w.is
      refine ⟨by rw [wipe_out hi]; exact w.at_, w.new, w.na, w.nz, fun j sl' es q1 q2 q3 => ?_, ws, x1, x2.wk fun b f _ => fz b f⟩
      have q1' : (wipeR P.ρ vs)[j]? = some sl' := q1
      by_cases hj : j ∈ vs
      · have hl : j < P.ρ.length := by have := (List.getElem?_eq_some_iff.mp q1').1; rw [wipeR_len] at this; exact this
        rw [wipeR_in hj hl] at q1'
        cases q1'
        cases q2
      · rw [wipeR_out hj] at q1'
        exact w.one j sl' es q1' q2 q3
    cases sl with
    | no => trivial
    | val d => obtain ⟨v, e1, e2⟩ := h; exact ⟨v, by rw [wipe_out hi]; exact e1, e2.wk fun b f _ => fz b f⟩
    | own ds => exact own _ rfl
    | lck ds => exact own _ rfl
    | obj _ _ => exact own _ rfl

abbrev W0 : L2.WX := fun _ _ _ _ => False
theorem noErr_ok {α : Type} {r : Res S α} {a : α} {s : S} (h : r.noErr0 = .ok a s) : r = .ok a s := by
  cases r <;> simp [Res.noErr0] at h ⊢
  exact h
theorem bind_ok {α β : Type} {r : Res S α} {k : α → S → Res S β} {b : β} {s : S} (h : r.bind k = .ok b s) : ∃ a s1, r = .ok a s1 ∧ k a s1 = .ok b s := by
  cases r with
  | ok a s1 => exact ⟨a, s1, rfl, h⟩
  | err x s1 => cases h
  | stuck => cases h
  | new p g => cases h
theorem t_lc {fi : EvL' S} {h : D → List Sl → Option (List Sl)} {ft : EvT' S} {fe : EvF S} {vs ts : List Nat} {σ : L2.St} {H : Hp} {Q : VK} (ho : TgOk ts h) (hts : ∀ j ∈ ts, j ∈ vs) (q : tF C W (lcE fi h ft fe vs) σ H Q) :
    tLc (tI false C W fi) (tG C ts h) (tT C W0 ft) (tP C W0 fe) vs σ H Q := by
  obtain ⟨P, s, R, q⟩ := q
  refine ⟨P, s, R, q.bind.mono fun ds s1 H1 R1 x1 q1 J wm Da hDa => ?_⟩
  split at q1
  · exact q1.elim
  rename_i hv
  have q1 := run_wl (noE_lcGo ds s1) q1
  have RZ0 : Rel C (P.addZ Da) σ (upd H1 Da (.lst [])) s1 := R1.addZ hDa
  let fin : List D → S → Prop := fun ys s' => Run C W P σ H1 s1 (if ys.length ≤ sizeLine then .ok (.lst ys) s' else .stuck) fun d s' H' => ∀ v, Fr C P s' H H' v d → Q v H'
  refine ⟨fun i m H' => m = ds.length - i ∧ i ≤ ds.length ∧ ∃ si av ad, Rel C (P.addZ Da) σ H' si ∧ Xt C.T s1 si H1 H' ∧ H' Da = some (.lst av) ∧ RpL C.K H' (Fc C (P.addZ Da) si) av ad ∧ Wl (fun yi s' => fin (ad ++ yi) s') (lcGo h ft fe (wipeR P.ρ vs) (ds.drop i) si),
    ⟨ds.length, by simp, Nat.zero_le _, s1, [], [], RZ0, Xt.new hDa, upd_same, .nil, by simpa using q1⟩, ?_⟩
  rintro i m H' ⟨rfl, hi, si, av, ad, RZ, x, hD, ra, el⟩
  by_cases hlt : i < ds.length
  · right
    have hd : ds[i]? = some ds[i] := by simp [hlt]
    obtain ⟨g1, g2⟩ := wm.go i _ P si H' hd (by unfold Mv; rw [if_neg (by decide)]; exact ⟨rfl, x⟩) RZ.st
    refine ⟨g1, fun H'' => ∃ si av ad, Rel C (P.addZ Da) σ H'' si ∧ Xt C.T s1 si H1 H'' ∧ H'' Da = some (.lst av) ∧ RpL C.K H'' (Fc C (P.addZ Da) si) av ad ∧ Wl (fun yi s' => fin (ad ++ yi) s') (lcGo h ft fe (wipeR P.ρ vs) (ds.drop (i + 1)) si), fun H'' hh => ⟨ds.length - (i + 1), by omega, rfl, hlt, hh⟩, fun xv H3 yy => ?_⟩
    obtain ⟨y1, y2, y3⟩ := g2 xv H3 yy
    have RZ3 : Rel C (P.addZ Da) σ H3 si := RZ.xt y1 y2
    rw [List.drop_eq_getElem_cons hlt] at el
    unfold lcGo at el
    split at el
    · exact el.elim
    rename_i ρ2 eh
    have el := Wl.noErr el.bind
    have only := ho _ _ _ eh
    have rx : Rp C.K H3 (Fc C { P.addZ Da with ρ := wipeR P.ρ vs } si) xv ds[i] := y3.wk fun a f _ => by
      have f' := fc_addZ (a := Da) f.1 fun e => f.2 (by rw [e]; exact hDa)
      exact ⟨f'.1, fun q => f'.2.1 (root_wipe (P := P.addZ Da) q), f'.2.2.1, f'.2.2.2⟩
    refine ⟨{ P.addZ Da with ρ := wipeR P.ρ vs }, si, ds[i], ρ2, RZ3.wipe vs, rx, eh, fun σ2 R2 stp2 on2 => ⟨?_, ?_⟩⟩
    · have : L2.wipe σ2 vs = L2.wipe (L2.wipe σ vs) vs := wipe_ext on2.1 fun j hj => on2.2 j fun hj' => hj (hts j hj')
      rw [this]
      exact wipe_ext (wipe_length σ vs) fun j hj => wipe_out hj
    · -- the test, the element
      have agree : ∀ j, j ∉ vs → ρ2[j]? = P.ρ[j]? := fun j hj => (only.2 j fun hj' => hj (hts j hj')).trans (wipeR_out hj)
      have back : ∀ {s2 : S} {a : Addr}, Fc C { P.addZ Da with ρ := ρ2 } s2 a → Fc C (P.addZ Da) s2 a := fun {s2 a} f =>
        ⟨f.1, fun q => f.2.1 (root_only (P := P.addZ Da) (vs := vs) hv agree q), f.2.2.1, f.2.2.2⟩
      refine ⟨_, si, R2, (Wl.run el).mono fun b sa H4 R4 x4 el => ?_⟩
      have RZ4 : Rel C (P.addZ Da) σ H4 sa := RZ3.xt x4 R4.st
      have ra4 : RpL C.K H4 (Fc C (P.addZ Da) sa) av ad := (ra.xt y1 RZ.st).xt x4 y2
      have hD4 : H4 Da = some (.lst av) := x4.keep _ _ (y1.keep _ _ hD (RZ.za Da (.inr rfl)).2.2) (RZ3.za Da (.inr rfl)).2.2
      cases b with
      | false =>
        refine iteF ⟨sa, av, ad, RZ4, (x.trans y1).trans x4, hD4, ra4, ?_⟩
        simpa using el
      | true =>
        simp only [if_true] at el
        have el := Wl.noErr el.bind
        refine iteT ⟨_, sa, R4, (Wl.run el).mono fun y sb H5 R5 x5 el v rv => ?_⟩
        have el := el.bind
        have RZ5 : Rel C (P.addZ Da) σ H5 sb := RZ4.xt x5 R5.st
        have ra5 : RpL C.K H5 (Fc C (P.addZ Da) sb) av ad := ra4.xt x5 RZ4.st
        have hD5 : H5 Da = some (.lst av) := x5.keep _ _ hD4 (RZ4.za Da (.inr rfl)).2.2
        have fD : ∀ b, Fc C (P.addZ Da) sb b → b ≠ Da := fun b f => (fc_unZ f).2
        refine ⟨av, hD5, ?_, sb, av ++ [v], ad ++ [y], RZ5.zmod (.inr rfl) hD5, ?_, upd_same, ?_, el.mono fun yr s' z => by rw [List.append_assoc]; exact z⟩
        · obtain ⟨yr, s', z⟩ := el.ex
          have z : fin (ad ++ (y :: yr)) s' := z
          have : (ad ++ (y :: yr)).length ≤ sizeLine := by
            by_cases hz : (ad ++ (y :: yr)).length ≤ sizeLine
            · exact hz
            · simp only [fin, if_neg hz] at z
              exact z.elim
          rw [ra5.length]
          simp only [List.length_append, List.length_cons] at this
          omega
        · have xx := ((x.trans y1).trans x4).trans x5
          refine ⟨fun a o ea na => by rw [upd_ne (ne_of_none ea hDa)]; exact xx.keep a o ea na, fun a na => ?_, xx.grow⟩
          by_cases hab : a = Da
          · subst hab; rw [upd_same]; simp
          · rw [upd_ne hab]; exact xx.live a na
        · exact (ra5.append (.cons (rv.wk fun a f _ => back f) .nil)).step (stays_zmod hD5 fD) fun b f _ => f
  · left
    have hin : i = ds.length := by omega
    subst hin
    refine ⟨wm.stop P si H' (by unfold Mv; rw [if_neg (by decide)]; exact ⟨rfl, x⟩) RZ.st, ?_⟩
    rw [List.drop_length] at el
    have el : fin (ad ++ []) si := el
    rw [List.append_nil] at el
    have hz : ad.length ≤ sizeLine := by
      by_cases hz : ad.length ≤ sizeLine
      · exact hz
      · simp only [fin, if_neg hz] at el
        exact el.elim
    simp only [fin, if_pos hz] at el
    refine el H' RZ.unZ x _ ⟨.lst ?_ hD (ra.wk fun a f _ => (fc_unZ f).1), fun es e' => ?_⟩
    · obtain ⟨z1, z2, z3⟩ := RZ.za Da (.inr rfl)
      refine ⟨.inr z1, fun q => ?_, fun q => ?_, z3⟩
      · exact R1.noRoot hDa q
      · exact (R1.za Da q).2.1 hDa
    · cases e'
      exact ⟨Da, av, rfl, x1.none_of hDa, hD, ra.wk fun a f _ => fc_unZ f⟩
end
end Q

/-! Lay10: built-in functions by data. -/
namespace Q
open PySem L2
section
variable {S : Type} {C : Cn S} {W : L2.WX} {X : Cx}
inductive TopL (C : Cn S) (P : Pt) (s : S) (H : Hp) : List V → List D → Prop
  | nil : TopL C P s H [] []
  | cons {v : V} {vs : List V} {d : D} {ds : List D} : Top C P s H v d → TopL C P s H vs ds → TopL C P s H (v :: vs) (d :: ds)
inductive TopLK (C : Cn S) (P : Pt) (s : S) (H : Hp) : List V → List D → Prop
  | nil : TopLK C P s H [] []
  | cons {v : V} {vs : List V} {d : D} {ds : List D} : TopK C P s H v d → TopLK C P s H vs ds → TopLK C P s H (v :: vs) (d :: ds)
theorem TopLK.weak {P : Pt} {s : S} {H : Hp} : ∀ {vs : List V} {ds : List D}, TopLK C P s H vs ds → TopL C P s H vs ds
  | _, _, .nil => .nil
  | _, _, .cons h r => .cons h.weak (TopLK.weak r)
instance {P : Pt} {s : S} {H : Hp} {vs : List V} {ds : List D} : CoeOut (TopLK C P s H vs ds) (TopL C P s H vs ds) := ⟨TopLK.weak⟩
theorem TopLK.xt {P : Pt} {s s' : S} {H H' : Hp} (x : Xt C.T s s' H H') (st : C.T.R s H) : ∀ {vs : List V} {ds : List D}, TopLK C P s H vs ds → TopLK C P s' H' vs ds
  | _, _, .nil => .nil
  | _, _, .cons h r => .cons (h.xt x st) (TopLK.xt x st r)
def tAK (C : Cn S) (W : L2.WX) (f : EvL' S) : TA := fun σ H Q => ∃ P s, Rel C P σ H s ∧ Run C W P σ H s (f P.ρ s) fun ds s' H' => ∀ vs, TopLK C P s' H' vs ds → Q vs H'
theorem sak_nil : PA X [] (tAK C W nilA) := pa_mono pa_nil fun σ H Q ⟨P, s, R, q⟩ => (q.now R) _ .nil
theorem sak_cons {e : Expr} {es : List Expr} {f : EvF S} {g : EvL' S} (he : PE X e (tK C W f)) (hr : PA X es (tAK C W g)) (hs : isStar e = false) : PA X (e :: es) (tAK C W (consA f g)) :=
  pa_mono (pa_cons he hr (star_no hs)) fun σ H Q ⟨P, s, R, q⟩ => ⟨P, s, R, q.bind.mono fun d s1 H1 R1 x1 q1 v rv => ⟨P, s1, R1, q1.bind.mono fun ds s2 H2 R2 x2 q2 vs rvs => (q2.now R2) _ (.cons (rv.xt x2 R1.st) rvs)⟩⟩
def rC (C : Cn S) (f : List D → Option D) : List V → Hp → VK → Prop := fun vs H Q => ∃ P s σ ds d, Rel C P σ H s ∧ TopL C P s H vs ds ∧ f ds = some d ∧ ∀ v H', Xt C.T s s H H' → C.T.R s H' → Fr C P s H H' v d → Q v H'
def CallD (X : Cx) (g : Value) (f : List D → Option D) : Prop := ∀ {S : Type} (C : Cn S), C.K = X.K → CallR X g (rC C f)
def biF (f : List D → Option D) (g : EvL' S) : EvF S := fun ρ s => (g ρ s).bind fun ds s1 => ofO (f ds) s1
theorem t_bi {f : List D → Option D} {g : EvL' S} {σ : L2.St} {H : Hp} {Q : VK} (h : tF C W (biF f g) σ H Q) : tAK C W g σ H fun vs H1 => rC C f vs H1 Q := by
  obtain ⟨P, s, R, q⟩ := h
  refine ⟨P, s, R, q.bind.mono fun ds s1 H1 R1 x1 q1 vs tv => ?_⟩
  obtain ⟨d, e, k⟩ := run_ofO q1
  exact ⟨P, s1, σ, ds, d, R1, tv, e, fun v H' x st fr => k H' (R1.xt x st) x v (fr.back x1)⟩
theorem sd_bi {N : List Str} {sc : Scope} (k : Xk C W X N sc) {x : Str} {id : String} {f : List D → Option D} {g : EvL' S} {e : Expr} {es : List Expr} {p pos : Pos} (hc : CallD X (.builtin id) f) (hg : glB sc x = true) (hm : X.mg x = none) (hv : bootBuiltins x = some (.builtin id)) (ha : PA X (e :: es) (tAK C W g)) (hs : (e :: es).all (fun e => !isStar e) = true) :
    PE X (.Call (.Name x p) (e :: es) [] pos) (tF C W (biF f g)) := by
  obtain ⟨h1, h2, h3⟩ := gl_of k hg
  simp only [List.all_cons, Bool.and_eq_true, Bool.not_eq_true'] at hs
  exact pe_mono (pe_callB (hc C k.K) h1 hm hv ha h3 h2 (star_no hs.1) (star_back hs.2)) fun σ H Q h => t_bi h
theorem sd_ty {N : List Str} {sc : Scope} (k : Xk C W X N sc) {x : Str} {id : String} {f : List D → Option D} {g : EvL' S} {e : Expr} {es : List Expr} {p pos : Pos} (hc : CallD X (.type id) f) (hg : glB sc x = true) (hm : X.mg x = none) (hv : bootBuiltins x = some (.type id)) (ha : PA X (e :: es) (tAK C W g)) (hs : (e :: es).all (fun e => !isStar e) = true) :
    PE X (.Call (.Name x p) (e :: es) [] pos) (tF C W (biF f g)) := by
  obtain ⟨h1, h2, h3⟩ := gl_of k hg
  simp only [List.all_cons, Bool.and_eq_true, Bool.not_eq_true'] at hs
  exact pe_mono (pe_callTy (hc C k.K) h1 hm hv ha h3 h2 (star_no hs.1) (star_back hs.2)) fun σ H Q h => t_bi h
end

/-! ### len, int, abs, tuple, list -/
def bLen : List D → Option D
  | [.tup ds] => some (.int ds.length)
  | [.lst ds] => some (.int ds.length)
  | [.scr ds] => some (.int ds.length)
  | [.str z] => if z.length ≤ sizeLine then some (.int z.length) else none
  | _ => none
variable {X : Cx}
theorem cd_len : CallD X (.builtin "len") bLen := by
  intro S C hK pins s σ H vs us Q I rv ⟨P, st, σ', ds, d, R, tv, e, k⟩
  unfold bLen at e
  split at e
  · cases e
    cases tv with
    | cons t r =>
      cases r
      obtain ⟨a, ws, rfl, h, q⟩ := t.tup
      exact call_len_seq pins s σ H _ us Q I rv ⟨a, ws, rfl, .inr (by rw [← hK]; exact h), by rw [q.length]; exact k _ _ Xt.refl R.st (.int _)⟩
  · cases e
    cases tv with
    | cons t r =>
      cases r
      obtain ⟨a, ws, rfl, h, q⟩ := t.lst
      exact call_len_seq pins s σ H _ us Q I rv ⟨a, ws, rfl, .inl (.inl (.inl h)), by rw [q.length]; exact k _ _ Xt.refl R.st (.int _)⟩
  · cases e
    cases tv with
    | cons t r =>
      cases r
      obtain ⟨a, ws, rfl, h, q⟩ := t.scr
      exact call_len_seq pins s σ H _ us Q I rv ⟨a, ws, rfl, .inl (by rw [← hK]; exact h.sq), by rw [q.length]; exact k _ _ Xt.refl R.st (.int _)⟩
  · split at e
    · cases e
      cases tv with
      | cons t r =>
        cases r
        have := top_str t
        subst this
        exact call_len_str pins s σ H _ us Q I rv ⟨_, rfl, by assumption, k _ _ Xt.refl R.st (.int _)⟩
    · cases e
  · cases e
def bInt : List D → Option D
  | [.int i] => some (.int i)
  | [.bl b] => some (.int (if b then 1 else 0))
  | [.str a] => match intText? a with
    | some n => if a.length ≤ 640 then some (.int n) else none
    | none => none
  | _ => none
theorem cd_int : CallD X (.type "int") bInt := by
  intro S C hK pins s σ H vs us Q I rv ⟨P, st, σ', ds, d, R, tv, e, k⟩
  unfold bInt at e
  split at e
  · cases e
    cases tv with
    | cons t r =>
      cases r
      have := top_int t
      subst this
      exact call_int1 pins s σ H _ us Q I rv (.inl ⟨_, rfl, k _ _ Xt.refl R.st (.int _)⟩)
  · cases e
    cases tv with
    | cons t r =>
      cases r
      have := top_bl t
      subst this
      exact call_int1 pins s σ H _ us Q I rv (.inr ⟨_, rfl, k _ _ Xt.refl R.st (.int _)⟩)
  · split at e
    · rename_i n hn
      split at e
      · rename_i hz
        cases e
        cases tv with
        | cons t r =>
          cases r
          have := top_str t
          subst this
          exact call_int_str pins s σ H _ us Q I rv ⟨_, n, rfl, hn, hz, k _ _ Xt.refl R.st (.int _)⟩
      · cases e
    · cases e
  · cases e
def bAbs : List D → Option D
  | [.int i] => some (.int (if i < 0 then -i else i))
  | _ => none
theorem cd_abs : CallD X (.builtin "abs") bAbs := by
  intro S C hK pins s σ H vs us Q I rv ⟨P, st, σ', ds, d, R, tv, e, k⟩
  unfold bAbs at e
  split at e
  · cases e
    cases tv with
    | cons t r =>
      cases r
      have := top_int t
      subst this
      exact call_abs pins s σ H _ us Q I rv ⟨_, rfl, k _ _ Xt.refl R.st (.int _)⟩
  · cases e
def bTuple : List D → Option D
  | [.tup ds] => some (.tup ds)
  | [.lst ds] => some (.tup ds)
  | _ => none
theorem cd_tuple : CallD X (.type "tuple") bTuple := by
  intro S C hK pins s σ H vs us Q I rv ⟨P, st, σ', ds, d, R, tv, e, k⟩
  unfold bTuple at e
  split at e
  · cases e
    cases tv with
    | cons t r =>
      cases r
      obtain ⟨a, ws, rfl, h, q⟩ := t.tup
      exact call_tuple_of pins s σ H _ us Q I rv ⟨a, ws, rfl, .inr ⟨by rw [← hK]; exact h, k _ _ Xt.refl R.st (Fr.plain (.tup h q) fun _ e => nomatch e)⟩⟩
  · cases e
    cases tv with
    | cons t r =>
      cases r
      obtain ⟨a, ws, rfl, h, q⟩ := t.lst
      exact call_tuple_of pins s σ H _ us Q I rv ⟨a, ws, rfl, .inl ⟨.inl (.inl h), fun p hp => k _ _ (Xt.new hp) (st_new R.st hp) (Fr.newT R hp q)⟩⟩
  · cases e
def bList : List D → Option D
  | [.tup ds] => some (.lst ds)
  | [.lst ds] => some (.lst ds)
  | _ => none
theorem cd_list : CallD X (.type "list") bList := by
  intro S C hK pins s σ H vs us Q I rv ⟨P, st, σ', ds, d, R, tv, e, k⟩
  unfold bList at e
  split at e
  · cases e
    cases tv with
    | cons t r =>
      cases r
      obtain ⟨a, ws, rfl, h, q⟩ := t.tup
      exact call_list_of pins s σ H _ us Q I rv ⟨a, ws, rfl, .inr (by rw [← hK]; exact h), fun p hp => k _ _ (Xt.new hp) (st_new R.st hp) (Fr.newL R hp q)⟩
  · cases e
    cases tv with
    | cons t r =>
      cases r
      obtain ⟨a, ws, rfl, h, q⟩ := t.lst
      exact call_list_of pins s σ H _ us Q I rv ⟨a, ws, rfl, .inl (.inl (.inl h)), fun p hp => k _ _ (Xt.new hp) (st_new R.st hp) (Fr.newL R hp q)⟩
  · cases e
/-! ### sum, max, min, all, any -/
def bSum : List D → Option D
  | [.lst ds] => (intsOf ds).map fun ns => .int ns.sum
  | [.tup ds] => (intsOf ds).map fun ns => .int ns.sum
  | _ => none
theorem sumT_raw {prog : Program} {w : World} {A : Around} {E : Value → Shared → Prop} {s : Shared} {l : Addr} {its : List Value} {ns : List Int} {Q : Value → Shared → Prop} (hh : A.handled = none) (hl : s.heap.IsTuple l its.toArray) (hi : PyProof.Rows.IntsAre its ns)
    (h : ∀ h' tk t', (∀ b o, s.heap.get? b = some o → h'.get? b = some o) → Q (.int ns.sum t') { s with heap := h', toks := tk }) : wpAny (model prog w) A (call (.builtin "sum") [.ref l]) Q E s := by
  obtain ⟨xs, e⟩ := hi.allInts.items
  have hn : numsOf (intItems xs).toList = ns := by rw [← e]; exact hi.numsOf
  rw [nums_intItems] at hn
  rw [e] at hl
  refine PySem.W.ktm_sumG hh hl fun h' tk t' hk => ?_
  rw [preSum_eq, List.take_of_length_le (by simp), hn]
  exact h h' tk t' hk
theorem cd_sum (hc : X.calm = true) : CallD X (.builtin "sum") bSum := by
  intro S C hK pins s σ H vs us Q I rv ⟨P, st, σ', ds, d, R, tv, e, k⟩
  unfold bSum at e
  split at e
  · simp only [Option.map_eq_some_iff] at e
    obtain ⟨ns, e, rfl⟩ := e
    cases tv with
    | cons t r =>
      cases r
      obtain ⟨a, ws, rfl, h, q⟩ := t.lst
      rw [ints_of q e] at h
      exact cr_sum hc pins s σ H _ us Q I rv ⟨a, ns, rfl, .inl (.inl h), k _ _ Xt.refl R.st (.int _)⟩
  · simp only [Option.map_eq_some_iff] at e
    obtain ⟨ns, e, rfl⟩ := e
    cases tv with
    | cons t r =>
      cases r
      obtain ⟨a, ws, rfl, h, q⟩ := t.tup
      rw [ints_of q e, hK] at h
      obtain ⟨its, rr, ht, _⟩ := I.tuple h
      rw [Vals.ref1 rv]
      exact sumT_raw (I.ok.hd hc) ht rr.ints fun h' tk t' hk => ⟨.int _, H, I.kept hk, ⟨_, rfl⟩, k _ _ Xt.refl R.st (.int _)⟩
  · cases e
theorem foldMax_le : ∀ (ns : List Int) (n : Int), n ≤ ns.foldl max n ∧ ∀ y ∈ ns, y ≤ ns.foldl max n
  | [], n => ⟨Int.le_refl _, fun _ h => nomatch h⟩
  | m :: ns, n => by
    obtain ⟨h1, h2⟩ := foldMax_le ns (max n m)
    refine ⟨by simp only [List.foldl_cons]; omega, fun y hy => ?_⟩
    simp only [List.foldl_cons]
    rcases List.mem_cons.mp hy with e | e
    · subst e; omega
    · exact h2 y e
theorem foldMax_mem : ∀ (ns : List Int) (n : Int), ns.foldl max n ∈ n :: ns
  | [], n => by simp
  | m :: ns, n => by
    simp only [List.foldl_cons]
    rcases List.mem_cons.mp (foldMax_mem ns (max n m)) with e | e
    · rw [e]
      rcases Int.le_total n m with h | h
      · rw [Int.max_eq_right h]; simp
      · rw [Int.max_eq_left h]; simp
    · exact List.mem_cons_of_mem _ (List.mem_cons_of_mem _ e)
theorem foldMin_le : ∀ (ns : List Int) (n : Int), ns.foldl min n ≤ n ∧ ∀ y ∈ ns, ns.foldl min n ≤ y
  | [], n => ⟨Int.le_refl _, fun _ h => nomatch h⟩
  | m :: ns, n => by
    obtain ⟨h1, h2⟩ := foldMin_le ns (min n m)
    refine ⟨by simp only [List.foldl_cons]; omega, fun y hy => ?_⟩
    simp only [List.foldl_cons]
    rcases List.mem_cons.mp hy with e | e
    · subst e; omega
    · exact h2 y e
theorem foldMin_mem : ∀ (ns : List Int) (n : Int), ns.foldl min n ∈ n :: ns
  | [], n => by simp
  | m :: ns, n => by
    simp only [List.foldl_cons]
    rcases List.mem_cons.mp (foldMin_mem ns (min n m)) with e | e
    · rw [e]
      rcases Int.le_total n m with h | h
      · rw [Int.min_eq_left h]; simp
      · rw [Int.min_eq_right h]; simp
    · exact List.mem_cons_of_mem _ (List.mem_cons_of_mem _ e)
def maxI : List Int → Option D
  | [] => none
  | n :: ns => some (.int (ns.foldl max n))
def minI : List Int → Option D
  | [] => none
  | n :: ns => some (.int (ns.foldl min n))
def bMax : List D → Option D
  | [.int i, .int j] => some (.int (if j > i then j else i))
  | [.lst ds] => (intsOf ds).bind maxI
  | [.tup ds] => (intsOf ds).bind maxI
  | _ => none
def bMin : List D → Option D
  | [.int i, .int j] => some (.int (if j < i then j else i))
  | [.lst ds] => (intsOf ds).bind minI
  | [.tup ds] => (intsOf ds).bind minI
  | _ => none
theorem alike_ints (ns : List Int) : PySem.W.AlikeAll (ns.map PyData.int) := by
  refine ⟨fun x hx y hy => ?_, fun x hx e => ?_⟩
  · obtain ⟨a, _, rfl⟩ := List.mem_map.mp hx
    obtain ⟨b, _, rfl⟩ := List.mem_map.mp hy
    simp [PySem.W.alike]
  · obtain ⟨a, _, rfl⟩ := List.mem_map.mp hx
    cases e
theorem depth_ints : ∀ ns : List Int, PyData.depthAll (ns.map PyData.int) ≤ 1
  | [] => by simp [PyData.depthAll]
  | n :: ns => by
    have := depth_ints ns
    simp only [List.map_cons, PyData.depthAll, PyData.depth]
    omega
theorem toPyL_ints : ∀ {ds : List D} {ns : List Int}, intsOf ds = some ns → toPyL ds = some (ns.map .int)
  | [], ns, e => by simp [intsOf] at e; subst e; rfl
  | d :: ds, ns, e => by
    cases d <;> simp only [intsOf, Option.map_eq_some_iff] at e <;> try cases e
    obtain ⟨e1, rfl⟩ := by assumption
    simp [toPyL, toPy, toPyL_ints e1]
theorem cd_max (hc : X.calm = true) (hu : X.A.units + 200 < cLine) : CallD X (.builtin "max") bMax := by
  intro S C hK pins s σ H vs us Q I rv ⟨P, st, σ', ds, d, R, tv, e, k⟩
  unfold bMax at e
  split at e
  · cases e
    cases tv with
    | cons t r =>
      cases r with
      | cons t2 r =>
        cases r
        have := top_int t
        subst this
        have := top_int t2
        subst this
        exact call_max2 hc pins s σ H _ us Q I rv ⟨_, _, rfl, k _ _ Xt.refl R.st (.int _)⟩
  · rw [Option.bind_eq_some_iff] at e
    obtain ⟨ns, e, e2⟩ := e
    cases ns with
    | nil => cases e2
    | cons n ns =>
      cases e2
      cases tv with
      | cons t r =>
        cases r
        obtain ⟨a, ws, rfl, h, q⟩ := t.lst
        rw [ints_of q e] at h
        refine cr_max hc pins s σ H _ us Q I rv ⟨a, n :: ns, rfl, .inl (.inl h), Nat.succ_pos _, fun m hm hy => ?_⟩
        have e1 : m = ns.foldl max n := Int.le_antisymm (by
          rcases List.mem_cons.mp hm with e | e
          · rw [e]; exact (foldMax_le ns n).1
          · exact (foldMax_le ns n).2 m e) (hy _ (foldMax_mem ns n))
        rw [e1]
        exact k _ _ Xt.refl R.st (.int _)
  · rw [Option.bind_eq_some_iff] at e
    obtain ⟨ns, e, e2⟩ := e
    cases ns with
    | nil => cases e2
    | cons n ns =>
      cases e2
      cases tv with
      | cons t r =>
        cases r
        obtain ⟨a, ws, rfl, h, q⟩ := t.tup
        have hp : DpAll X.K H ws ((n :: ns).map .int) := by rw [← hK]; exact dpL_of q (toPyL_ints e)
        rw [hK] at h
        obtain ⟨its, rr, ht, _⟩ := I.tuple h
        rw [Vals.ref1 rv]
        obtain ⟨as, ra⟩ := Dp.readsAll I _ _ its hp rr
        refine PySem.W.max_tuple_data (x := .int n) (xs := ns.map .int) (I.ok.hd hc) ht ra (alike_ints (n :: ns)) ?_ fun i v h' tk bs hv rd hk => ?_
        · have := depth_ints (n :: ns)
          simp only [List.map_cons] at this
          omega
        · rw [PySem.W.maxD_ints] at rd
          cases rd
          exact ⟨.int _, H, I.kept hk, ⟨_, rfl⟩, k _ _ Xt.refl R.st (.int _)⟩
  · cases e
theorem cd_min (hc : X.calm = true) (hu : X.A.units + 200 < cLine) : CallD X (.builtin "min") bMin := by
  intro S C hK pins s σ H vs us Q I rv ⟨P, st, σ', ds, d, R, tv, e, k⟩
  unfold bMin at e
  split at e
  · cases e
    cases tv with
    | cons t r =>
      cases r with
      | cons t2 r =>
        cases r
        have := top_int t
        subst this
        have := top_int t2
        subst this
        exact call_min2 hc pins s σ H _ us Q I rv ⟨_, _, rfl, k _ _ Xt.refl R.st (.int _)⟩
  · rw [Option.bind_eq_some_iff] at e
    obtain ⟨ns, e, e2⟩ := e
    cases ns with
    | nil => cases e2
    | cons n ns =>
      cases e2
      cases tv with
      | cons t r =>
        cases r
        obtain ⟨a, ws, rfl, h, q⟩ := t.lst
        rw [ints_of q e] at h
        refine cr_min hc pins s σ H _ us Q I rv ⟨a, n :: ns, rfl, .inl (.inl h), Nat.succ_pos _, fun m hm hy => ?_⟩
        have e1 : m = ns.foldl min n := Int.le_antisymm (hy _ (foldMin_mem ns n)) (by
          rcases List.mem_cons.mp hm with e | e
          · rw [e]; exact (foldMin_le ns n).1
          · exact (foldMin_le ns n).2 m e)
        rw [e1]
        exact k _ _ Xt.refl R.st (.int _)
  · rw [Option.bind_eq_some_iff] at e
    obtain ⟨ns, e, e2⟩ := e
    cases ns with
    | nil => cases e2
    | cons n ns =>
      cases e2
      cases tv with
      | cons t r =>
        cases r
        obtain ⟨a, ws, rfl, h, q⟩ := t.tup
        have hp : DpAll X.K H ws ((n :: ns).map .int) := by rw [← hK]; exact dpL_of q (toPyL_ints e)
        rw [hK] at h
        obtain ⟨its, rr, ht, _⟩ := I.tuple h
        rw [Vals.ref1 rv]
        obtain ⟨as, ra⟩ := Dp.readsAll I _ _ its hp rr
        refine PySem.W.min_tuple_data (x := .int n) (xs := ns.map .int) (I.ok.hd hc) ht ra (alike_ints (n :: ns)) ?_ fun i v h' tk bs hv rd hk => ?_
        · have := depth_ints (n :: ns)
          simp only [List.map_cons] at this
          omega
        · rw [PySem.W.minD_ints] at rd
          cases rd
          exact ⟨.int _, H, I.kept hk, ⟨_, rfl⟩, k _ _ Xt.refl R.st (.int _)⟩
  · cases e
def boolsOf : List D → Option (List Bool)
  | [] => some []
  | .bl i :: ds => (boolsOf ds).map (i :: ·)
  | _ => none
theorem bools_of {K : PySem.W.Frag} {H : Hp} {F : Addr → Prop} : ∀ {vs : List V} {ds : List D} {ns : List Bool}, RpL K H F vs ds → boolsOf ds = some ns → vs = ns.map V.bl
  | _, _, _, .nil, e => by simp [boolsOf] at e; subst e; rfl
  | _, _, _, .cons (d := d) h r, e => by
    cases d <;> simp only [boolsOf, Option.map_eq_some_iff] at e <;> try cases e
    obtain ⟨e1, rfl⟩ := by assumption
    rw [rp_bl h, bools_of r e1]
    rfl
def bAll : List D → Option D
  | [.lst ds] => (boolsOf ds).map fun bs => .bl (bs.all id)
  | _ => none
def bAny : List D → Option D
  | [.lst ds] => (boolsOf ds).map fun bs => .bl (bs.any id)
  | _ => none
theorem cd_all (hc : X.calm = true) : CallD X (.builtin "all") bAll := by
  intro S C hK pins s σ H vs us Q I rv ⟨P, st, σ', ds, d, R, tv, e, k⟩
  unfold bAll at e
  split at e
  · simp only [Option.map_eq_some_iff] at e
    obtain ⟨ns, e, rfl⟩ := e
    cases tv with
    | cons t r =>
      cases r
      obtain ⟨a, ws, rfl, h, q⟩ := t.lst
      rw [bools_of q e] at h
      exact cr_all hc pins s σ H _ us Q I rv ⟨a, ns, rfl, .inl (.inl h), k _ _ Xt.refl R.st (.bl _)⟩
  · cases e
theorem cd_any (hc : X.calm = true) : CallD X (.builtin "any") bAny := by
  intro S C hK pins s σ H vs us Q I rv ⟨P, st, σ', ds, d, R, tv, e, k⟩
  unfold bAny at e
  split at e
  · simp only [Option.map_eq_some_iff] at e
    obtain ⟨ns, e, rfl⟩ := e
    cases tv with
    | cons t r =>
      cases r
      obtain ⟨a, ws, rfl, h, q⟩ := t.lst
      rw [bools_of q e] at h
      exact cr_any hc pins s σ H _ us Q I rv ⟨a, ns, rfl, .inl (.inl h), k _ _ Xt.refl R.st (.bl _)⟩
  · cases e
/-! ### repr -/
mutual
def toPyE : D → Option PyData
  | .non => some .none
  | .bl b => some (.bool b)
  | .int i => some (.int i)
  | .str x => some (.str x)
  | .tup ds => (toPyEL ds).map .tuple
  | .lst ds => (toPyEL ds).map .list
  | .emp => some (.dict [])
  | .box (.dS ks) ds => (toPyEL ds).bind fun ps => if ks.length = ps.length then some (.dict (List.zip (ks.map .str) ps)) else none
  | _ => none
def toPyEL : List D → Option (List PyData)
  | [] => some []
  | d :: ds => (toPyE d).bind fun x => (toPyEL ds).map fun xs => x :: xs
end
/-- sys.modules is no list -/
def SysOk (K : PySem.W.Frag) : Prop := ∃ o, K.lookup sysModules = some o ∧ o.cls ≠ .type "list"
section
variable {pins : List (Addr × Obj)} {σ : L2.St} {H : Hp} {s : Shared}
theorem sys_ne (I : Inv X pins σ H s) (sys : SysOk X.K) {a : Addr} {o : Obj} (e : s.heap.get? a = some o) (c : o.cls = .type "list") : sysModules ≠ a := fun z => by
  obtain ⟨o', k, n⟩ := sys
  have := I.kIn _ _ k
  rw [z, e] at this
  cases this
  exact n c
theorem key_str {k : Str} {v : Value} (h : keyIs (.inr k) v = true) : ∃ t, v = .str k t := by
  have h2 : Value.isStrOf k v = true := h
  clear h
  unfold Value.isStrOf at h2
  split at h2
  · have := (beq_iff_eq ..).mp h2
    exact ⟨_, by rw [this]⟩
  · cases h2
theorem pairs_keys {P : Program} {w : World} {h : Heap} : ∀ {es : List DictEntry} {kvs : List (Key × Value)} {ks : List Str} {vs : List V}, Pairs (mixKind P w) es kvs → KV ((ks.map Sum.inr).zip vs) kvs → ks.length = vs.length → ReadsAll h (es.map (·.key)) (ks.map .str) [] ∧ Vals vs (es.map (·.val))
  | _, _, [], [], p, k, _ => by
    cases k
    cases p
    exact ⟨ReadsAll.nil, .nil⟩
  | _, _, k :: ks, v :: vs, p, q, e => by
    cases q with
    | cons r q =>
      cases p with
      | cons p1 p2 p =>
        obtain ⟨g1, g2⟩ := pairs_keys (h := h) p q (by simpa using e)
        obtain ⟨r1, r2⟩ := r
        rw [← r1] at p1
        obtain ⟨t, et⟩ := key_str (k := k) p1
        refine ⟨?_, .cons (show RelV v _ by dsimp only; rw [p2]; exact r2) g2⟩
        have := ReadsAll.cons (Reads.str (h := h) k t) g1
        rw [List.map_cons, List.map_cons, et]
        exact this
  | _, _, [], _ :: _, _, _, e => by cases e
  | _, _, _ :: _, [], _, _, e => by cases e
mutual
theorem rp_reads (I : Inv X pins σ H s) (sys : SysOk X.K) {F : Addr → Prop} : ∀ {v : V} {d : D} {p : PyData} {u : Value}, Rp X.K H F v d → toPyE d = some p → RelV v u → ∃ as, Reads s.heap u p as ∧ sysModules ∉ as
  | _, _, _, _, .non, e, r => by simp only [toPyE] at e; cases e; cases r; exact ⟨_, Reads.none, by simp⟩
  | _, _, _, _, .bl b, e, r => by simp only [toPyE] at e; cases e; cases r; exact ⟨_, Reads.bool b, by simp⟩
  | _, _, _, _, .int i, e, r => by simp only [toPyE] at e; cases e; obtain ⟨t, rfl⟩ := r; exact ⟨_, Reads.int i t, by simp⟩
  | _, _, _, _, .str x, e, r => by simp only [toPyE] at e; cases e; obtain ⟨t, rfl⟩ := r; exact ⟨_, Reads.str x t, by simp⟩
  | _, _, _, _, .opq v, e, _ => by simp only [toPyE] at e; cases e
  | _, _, _, _, .scr _ _, e, _ => by simp only [toPyE] at e; cases e
  | _, _, _, _, .emp f h, e, r => by
    simp only [toPyE] at e
    cases e
    cases r
    obtain ⟨_, n, vs, kv, o, es, ep, ho, hx, hd, hko, he0⟩ := I.hok _ _ h
    cases kv
    have e0 : es.toList = [] := by
      have q := he0.1
      generalize es.toList = l at q
      cases l with
      | nil => rfl
      | cons _ _ => cases q
    refine ⟨_, Reads.dict (as := []) (bs := []) ho hx.1 hd (by rw [e0]; exact ReadsAll.nil) (by rw [e0]; exact ReadsAll.nil), ?_⟩
    intro z
    rcases List.mem_append.mp z with z | z
    · rcases List.mem_cons.mp z with z | z
      · rw [← z] at n; simp at n
      · cases z
    · cases z
  | _, _, _, _, @Rp.box _ _ _ a (.exc n fs) xs ds f h q, e, r => by simp only [toPyE] at e; cases e
  | _, _, _, _, @Rp.box _ _ _ a (.dS ks) xs ds f h q, e, r => by
    simp only [toPyE, Option.bind_eq_some_iff] at e
    obtain ⟨ps, e1, e2⟩ := e
    split at e2
    · rename_i hl
      cases e2
      cases r
      obtain ⟨_, n, vs, kv, o, es, ep, ho, hx, hd, hko, he0⟩ := I.hok _ _ h.2
      obtain ⟨g1, g2⟩ := pairs_keys (h := s.heap) he0.1 kv h.1
      obtain ⟨bs, hr, hn⟩ := rpl_reads I sys q e1 g2
      refine ⟨_, Reads.dict (as := []) (bs := bs) ho hx.1 hd ?_ ?_, ?_⟩
      · rw [List.map_fst_zip (by rw [List.length_map]; omega)]; exact g1
      · rw [List.map_snd_zip (by rw [List.length_map]; omega)]; exact hr
      · intro z
        rcases List.mem_append.mp z with z | z
        · rcases List.mem_cons.mp z with z | z
          · rw [← z] at n; simp at n
          · cases z
        · exact hn z
    · cases e2
  | _, _, _, _, .tup h q, e, r => by
    simp only [toPyE, Option.map_eq_some_iff] at e
    obtain ⟨ps, e1, rfl⟩ := e
    cases r
    obtain ⟨its, rv, ⟨o, ho, hc, n, hd⟩, _⟩ := I.tuple h
    obtain ⟨as, hr, hn⟩ := rpl_reads I sys q e1 rv
    exact ⟨_, Reads.tuple ho hc hd hr, hn⟩
  | _, _, _, _, .lst f h q, e, r => by
    simp only [toPyE, Option.map_eq_some_iff] at e
    obtain ⟨ps, e1, rfl⟩ := e
    cases r
    obtain ⟨its, rv, ⟨o, n, ho, hc, _, hd⟩, _⟩ := I.list (.inl (.inl h))
    obtain ⟨as, hr, hn⟩ := rpl_reads I sys q e1 rv
    exact ⟨_, Reads.list ho hc hd hr, fun z => (List.mem_cons.mp z).elim (fun z => sys_ne I sys ho hc z) hn⟩
theorem rpl_reads (I : Inv X pins σ H s) (sys : SysOk X.K) {F : Addr → Prop} : ∀ {vs : List V} {ds : List D} {ps : List PyData} {us : List Value}, RpL X.K H F vs ds → toPyEL ds = some ps → Vals vs us → ∃ as, ReadsAll s.heap us ps as ∧ sysModules ∉ as
  | _, _, _, _, .nil, e, r => by simp only [toPyEL] at e; cases e; cases r; exact ⟨_, ReadsAll.nil, by simp⟩
  | _, _, _, _, .cons h q, e, r => by
    simp only [toPyEL, Option.bind_eq_some_iff, Option.map_eq_some_iff] at e
    obtain ⟨p, e1, ps, e2, rfl⟩ := e
    cases r with
    | cons r1 r2 =>
      obtain ⟨as, h1, n1⟩ := rp_reads I sys h e1 r1
      obtain ⟨bs, h2, n2⟩ := rpl_reads I sys q e2 r2
      exact ⟨_, ReadsAll.cons h1 h2, fun z => (List.mem_append.mp z).elim n1 n2⟩
end
end
def bRepr : List D → Option D
  | [d] => match d with
    | .tup _ | .lst _ | .box _ _ => (toPyE d).bind fun p => if p.showable = true ∧ p.depth ≤ 64 ∧ p.shown.length ≤ sizeLine then some (.str p.shown) else none
    | .int i => if i.natAbs.log2 < 1920 then some (.str (toString i)) else none
    | .bl b => some (.str (if b then "True" else "False"))
    | .non => some (.str "None")
    | .str x => if (reprText x).length ≤ sizeLine then some (.str (reprText x)) else none
    | .emp => some (.str (PyData.shown (.dict [])))
    | _ => none
  | _ => none
theorem cd_repr (sys : SysOk X.K) (hg : X.A.guards = some []) (hu : X.A.units + 200 < cLine) : CallD X (.builtin "repr") bRepr := by
  intro S C hK pins s σ H vs us Q I rv ⟨P, st, σ', ds, d, R, tv, e, k⟩
  have key : ∀ {v : V} {u : Value} {d' : D} {a : Addr}, v = .ref a → RelV v u → Top C P st H v d' → (toPyE d').bind (fun p => if p.showable = true ∧ p.depth ≤ 64 ∧ p.shown.length ≤ sizeLine then some (.str p.shown) else none) = some d → wpAny (model X.prog X.w) X.A (call (.builtin "repr") [u]) (EP X pins σ Q) X.xe s := by
    intro v u d' a hv ru t e
    subst hv
    rw [Option.bind_eq_some_iff] at e
    obtain ⟨p, e1, e2⟩ := e
    split at e2
    · rename_i h
      cases e2
      obtain ⟨h1, h2, h4⟩ := h
      have rd : ∃ as, Reads s.heap u p as ∧ sysModules ∉ as := by
        rcases t with t | ⟨b, vs, ds, z1, z2, _, z3, q⟩
        · rw [hK] at t
          exact rp_reads I sys t e1 ru
        · subst z2
          cases z1
          rw [hK] at q
          simp only [toPyE, Option.map_eq_some_iff] at e1
          obtain ⟨ps, e1, rfl⟩ := e1
          cases ru
          obtain ⟨its, rv, ⟨o, n, ho, hc, _, hd⟩, _⟩ := I.list (.inl (.inl z3))
          obtain ⟨as, hr, hn⟩ := rpl_reads I sys q e1 rv
          exact ⟨_, Reads.list ho hc hd hr, fun z => (List.mem_cons.mp z).elim (fun z => sys_ne I sys ho hc z) hn⟩
      obtain ⟨as, rd, ns⟩ := rd
      cases ru
      exact repr_of_reads' rd h1 (fun _ => ns) hg (by omega) (fun _ _ e => e) (fun h' u tk hk => ⟨.str _, H, I.kept hk, ⟨_, rfl⟩, k _ _ Xt.refl R.st (.str _)⟩) h4
    · cases e2
  unfold bRepr at e
  split at e
  · cases tv with
    | cons t r =>
      cases r
      cases rv with
      | cons ru rr =>
        cases rr
        split at e
        · obtain ⟨a, ws, rfl, h, q⟩ := t.tup
          exact key rfl ru t e
        · obtain ⟨a, ws, rfl, h, q⟩ := t.lst
          exact key rfl ru t e
        · rcases id t with t' | ⟨_, _, _, _, z, _⟩
          · cases t' with
            | box f h q => exact key rfl ru t e
          · cases z
        · split at e
          · rename_i hi
            cases e
            have := top_int t
            subst this
            obtain ⟨t', rfl⟩ := ru
            exact PySem.P.repr_of_int hi ⟨.str _, H, I.tok _, ⟨_, rfl⟩, k _ _ Xt.refl R.st (.str _)⟩
          · cases e
        · cases e
          have := top_bl t
          subst this
          cases ru
          exact PySem.P.repr_of_bool ⟨.str _, H, I.tok _, ⟨_, rfl⟩, k _ _ Xt.refl R.st (.str _)⟩
        · cases e
          have := top_non t
          subst this
          cases ru
          exact PySem.P.repr_of_none ⟨.str _, H, I.tok _, ⟨_, rfl⟩, k _ _ Xt.refl R.st (.str _)⟩
        · split at e
          · rename_i hi
            cases e
            have := top_str t
            subst this
            obtain ⟨t', rfl⟩ := ru
            exact PySem.P.repr_of_str (hsz := hi) ⟨.str _, H, I.tok _, ⟨_, rfl⟩, k _ _ Xt.refl R.st (.str _)⟩
          · cases e
        · cases e
          rcases t with t | ⟨_, _, _, _, z, _⟩
          · cases t with
            | emp f h =>
              cases ru
              have dp1 : PyData.depth (.dict []) = 1 := by decide +kernel
              obtain ⟨as, rd, ns⟩ := rp_reads (F := fun _ => True) (p := .dict []) I sys (.emp trivial h) (by simp only [toPyE]) rfl
              exact repr_of_reads' rd (by decide +kernel) (fun _ => ns) hg (by omega) (fun _ _ e => e) (fun h' u tk hk => ⟨.str _, H, I.kept hk, ⟨_, rfl⟩, k _ _ Xt.refl R.st (.str _)⟩) (by rw [sizeLine_eq]; decide +kernel)
          · cases z
        · cases e
  · cases e
end Q

/-! Lay11: x[::-1]; isinstance. -/
namespace L2
open PySem PySem.Spec PyProof.Rows
namespace HTR
section
variable {prog : Program} {w : World} {A : Around} {E : Value → Shared → Prop} {s : Shared}
theorem adjust_rev (n : Nat) : Builtin.Slice.sliceAdjust none none (-1) (n : Int) = ((n : Int) - 1, -1) := by
  unfold Builtin.Slice.sliceAdjust
  simp
theorem places_rev (n : Nat) : Builtin.Slice.slicePlaces ((n : Int) - 1) (-1) (-1) = n := by
  unfold Builtin.Slice.slicePlaces
  simp
  try omega
theorem sliceApplied_rev {sl : Addr} {vs : Value} {n : Nat} {Q : Int × Int × Nat → Shared → Prop} (hs : s.heap.IsSliceOf sl .none .none vs) (ps : IsPart vs (some (-1)))
    (h : Q ((n : Int) - 1, -1, n) s) : wpAny (model prog w) A (Builtin.Slice.sliceApplied (.ref sl) (pure (n : Int))) Q E s := by
  obtain ⟨os, hos, hcs, hds⟩ := id hs
  unfold Builtin.Slice.sliceApplied Builtin.Slice.sliceFields
  refine wpAny_bind (wpAny_bind (wpAny_field hos hds (x := .none) rfl (wpAny_bind (wpAny_field hos hds (x := .none) rfl (wpAny_bind (wpAny_field hos hds (x := vs) rfl (wpAny_pure ?_)))))))
  refine wpAny_bind (_root_.HT.slicePart_ ps ?_)
  show wpAny _ _ (if ((-1 : Int) == 0) = true then _ else _) _ _ s
  rw [if_neg (by decide)]
  refine wpAny_bind (slicePart_none (wpAny_bind (slicePart_none (wpAny_bind (wpAny_pure ?_)))))
  show wpAny _ _ (match Builtin.Slice.sliceAdjust none none (-1) (n : Int) with | (lo, hi) => pure (lo, (-1 : Int), Builtin.Slice.slicePlaces lo hi (-1))) _ _ s
  rw [adjust_rev n]
  show wpAny _ _ (pure ((n : Int) - 1, (-1 : Int), Builtin.Slice.slicePlaces ((n : Int) - 1) (-1) (-1))) _ _ s
  rw [places_rev]
  exact wpAny_pure h
theorem fm_congr {α β : Type} {f g : α → Option β} : ∀ {l : List α}, (∀ k ∈ l, f k = g k) → l.filterMap f = l.filterMap g
  | [], _ => rfl
  | a :: l, h => by
    rw [List.filterMap_cons, List.filterMap_cons, h a List.mem_cons_self, fm_congr fun k hk => h k (List.mem_cons_of_mem _ hk)]
theorem pick_rev (xs : Array Value) : ((List.range xs.size).filterMap fun (k : Nat) => xs[((xs.size : Int) - 1 + (k : Int) * -1).toNat]?).toArray = xs.toList.reverse.toArray := by
  congr 1
  have e : ∀ k ∈ List.range xs.size, xs[((xs.size : Int) - 1 + (k : Int) * -1).toNat]? = (xs.toList.reverse)[k]? := by
    intro k hk
    rw [List.mem_range] at hk
    rw [List.getElem?_reverse (by simpa using hk), Array.getElem?_toList, Array.length_toList]
    congr 1
    omega
  have f : (List.range xs.size).filterMap (fun (k : Nat) => xs[((xs.size : Int) - 1 + (k : Int) * -1).toNat]?) = (List.range xs.toList.reverse.length).filterMap fun k => (xs.toList.reverse)[k]? := by
    rw [List.length_reverse, Array.length_toList]
    exact fm_congr e
  rw [f]
  generalize xs.toList.reverse = l
  induction l with
  | nil => rfl
  | cons a l ih =>
    rw [List.length_cons, List.range_succ_eq_map, List.filterMap_cons]
    simp only [List.getElem?_cons_zero]
    rw [List.filterMap_map]
    congr 1
theorem getItem_tuple_rev {t sl : Addr} {items : Array Value} {vs : Value} {Q : Value → Shared → Prop} (ht : IsTup s.heap t items) (hs : s.heap.IsSliceOf sl .none .none vs) (ps : IsPart vs (some (-1)))
    (h : Q (.ref s.heap.objs.size) { s with heap := s.heap.push { cls := .type "tuple", data := .seq items.toList.reverse.toArray } }) (hsz : items.size ≤ sizeLine) : wpAny (model prog w) A (getItem (.ref t) (.ref sl)) Q E s := by
  have htake : sizeOk (.seq items.toList.reverse.toArray) := by
    show items.toList.reverse.toArray.size ≤ sizeLine
    simpa using hsz
  obtain ⟨os, hos, hcs, hds⟩ := id hs
  have hTs : s.TypeIs (.ref sl) "slice" := ⟨os, hos, hcs⟩
  unfold getItem
  try with_reducible refine wpAny_holding ?_
  first | refine wpAny_bind (wpAny_pure ?_) | skip
  refine wpAny_bind (wpAny_sequenceKey ht.typeIs (by decide) ?_)
  refine wpAny_bind (wpAny_callSpecial?_slot (name := Str.ofString "__getitem__") ht.typeIs PyProof.Rows.slot_tuple_getitem
    (wpAny_call_entry PyProof.Rows.slot_tuple_getitem ht.typeIs entry_tuple_getitem ?_ (args_tuple_getitem _ _)))
  show wpAny _ _ (Builtin.Tuple.tupleItemsOf (.ref t) >>= _) _ _ s
  refine wpAny_bind (tupleItemsOf_ ht ?_)
  refine wpAny_bind (wpAny_typeOf hTs ?_)
  rw [if_pos (by decide)]
  refine wpAny_bind (sliceApplied_rev hs ps ?_)
  show wpAny _ _ (if ((items.size : Int) - 1 == 0 && (-1 : Int) == 1 && items.size == items.size) = true then _ else _) _ _ s
  rw [if_neg (by simp), pick_rev]
  first
    | exact wpAny_bind (m := Builtin.Tuple.tupleExact _) (wpAny_newObj_type (wpAny_pure ⟨_, rfl, wpAny_pure h⟩) htake)
    | exact wpAny_bind (m := Builtin.Tuple.tupleExact _) (wpAny_newObj_type (wpAny_bind (wpAny_pure (wpAny_pure ⟨_, rfl, wpAny_pure h⟩))) htake)
    | exact wpAny_bind (wpAny_bind (m := Builtin.Tuple.tupleExact _) (wpAny_newObj_type (wpAny_pure (wpAny_pure ⟨_, rfl, wpAny_pure h⟩)) htake))
    | exact wpAny_bind (wpAny_bind (m := Builtin.Tuple.tupleExact _) (wpAny_newObj_type (wpAny_pure ⟨_, rfl, wpAny_pure h⟩) htake))
end
end HTR
section
variable {X : Cx}
def tRevA (K : PySem.W.Frag) (te : TE) : TE := fun σ H Q => te σ H fun x H1 => (∃ a xs, x = .ref a ∧ SqL K H1 a xs ∧ ∀ p, H1 p = none → Q (.ref p) (upd H1 p (.lst xs.reverse))) ∨ (∃ a xs, x = .ref a ∧ SqT K H1 a xs ∧ ∀ p, H1 p = none → Q (.ref p) (upd H1 p (.tup xs.reverse)))
theorem pe_revA {e : Expr} {te : TE} {k : Nat} {p1 p2 p3 pos : Pos} (he : PE X e te) : PE X (.Subscript e (.Slice none none (some (.UnaryOp .USub (.Constant (.int 1) k p1) p2)) p3) pos) (tRevA X.K te) := by
  refine ⟨fun pins s σ H Q I h => ?_⟩
  refine Subscript_ (thn (he.run pins s σ H _ I h) fun v s1 ⟨x, H1, I1, r1, q1⟩ => ?_)
  have hst : PO X (some (.UnaryOp .USub (.Constant (.int 1) k p1) p2)) (tPart (tUn (rU fun i => .int (-i)) (tC (.int 1)))) := po_some (pe_un un_neg pe_int)
  refine wpAny_Slice (thn (po_none.run pins s1 σ H1 (fun o H2 => o = none ∧ H2 = H1) I1 ⟨rfl, rfl⟩) fun vl s2 ⟨l, H2, I2, pl, el, e2⟩ => ?_)
  subst el e2
  refine thn (po_none.run pins s2 σ H2 (fun o H3 => o = none ∧ H3 = H2) I2 ⟨rfl, rfl⟩) fun vu s3 ⟨u, H3, I3, pu, eu, e3⟩ => ?_
  subst eu e3
  refine thn (hst.run pins s3 σ H3 (fun o H4 => o = some (-1) ∧ H4 = H3) I3 ⟨1, rfl, -1, rfl, rfl, rfl⟩) fun vs s4 ⟨o, H4, I4, ps, eo, e4⟩ => ?_
  subst eo e4
  have I5 : Inv X pins σ H4 { s4 with heap := s4.heap.push { cls := .type "slice", data := .fields #[vl, vu, vs] } } := I4.kept (t' := s4.toks) fun b ob q => Heap.get?_push_of_some _ q
  rcases q1 with ⟨a, xs, ex, hx, q⟩ | ⟨a, xs, ex, hx, q⟩
  · subst ex
    cases r1
    obtain ⟨its, r, ht, hz⟩ := I5.list hx
    have hlen := r.length
    refine tail_any (ops := [.ref a, .ref s4.heap.objs.size]) ht.isList.typeIs (PySem.slot_list_getitem.lookup) ?_ (by with_unfolding_all rfl)
    refine wpAny_getItem_list_slice ht.isList (Heap.IsSliceOf.new _ vl vu vs) pl pu ps (by decide) ?_ (by rw [List.size_toArray]; omega)
    rw [PySem.W.krv_pick]
    refine ⟨.ref _, _, I5.laid (t' := s4.toks) (o := .lst xs.reverse) (fun b ob q => Heap.get?_push_of_some _ q) (Nat.le_refl _) ?_, rfl, q _ (I5.hok.fresh (Nat.le_refl _))⟩
    exact ⟨by rw [List.length_reverse]; exact hz, _, 0, r.reverse, Heap.get?_push_size _ rfl⟩
  · subst ex
    cases r1
    obtain ⟨its, r, ht, hz⟩ := I5.tuple hx
    have hlen := r.length
    cases pl
    cases pu
    refine tail_any (ops := [.ref a, .ref s4.heap.objs.size]) ht.typeIs (PyProof.Rows.slot_tuple_getitem.lookup) ?_ (by with_unfolding_all rfl)
    refine HTR.getItem_tuple_rev ht (Heap.IsSliceOf.new _ .none .none vs) ps ?_ (by rw [List.size_toArray]; omega)
    refine ⟨.ref _, _, I5.laid (t' := s4.toks) (o := .tup xs.reverse) (fun b ob q => Heap.get?_push_of_some _ q) (Nat.le_refl _) ?_, rfl, q _ (I5.hok.fresh (Nat.le_refl _))⟩
    exact ⟨by rw [List.length_reverse]; exact hz, _, r.reverse, IsTup.new _ _⟩
end
end L2
namespace Q
open PySem L2
section
variable {S : Type} {C : Cn S} {W : L2.WX} {X : Cx}
def dRev : D → Option D
  | .tup ds => some (.tup ds.reverse)
  | .lst ds => some (.lst ds.reverse)
  | _ => none
def revE (f : EvF S) : EvF S := fun ρ s => (f ρ s).bind fun d s1 => ofO (dRev d) s1
theorem sd_rev {e : Expr} {k : Nat} {p1 p2 p3 pos : Pos} {f : EvF S} (hK : C.K = X.K) (he : PE X e (tK C W f)) : PE X (.Subscript e (.Slice none none (some (.UnaryOp .USub (.Constant (.int 1) k p1) p2)) p3) pos) (tF C W (revE f)) := by
  refine pe_mono (pe_revA he) fun σ H Q ⟨P, s, R, q⟩ => ⟨P, s, R, q.bind.mono fun d s1 H1 R1 x1 q1 v tv => ?_⟩
  obtain ⟨d', e, kk⟩ := run_ofO q1
  cases d <;> simp only [dRev, reduceCtorEq, Option.some.injEq] at e
  · subst e
    obtain ⟨a, vs, rfl, h, r⟩ := tv.tup
    exact .inr ⟨a, vs, rfl, by rw [← hK]; exact h, fun p hp => kk _ (R1.new hp) (Xt.new hp) _ ((Fr.newT R1 hp r.reverse).back x1)⟩
  · subst e
    obtain ⟨a, vs, rfl, h, r⟩ := tv.lst
    exact .inl ⟨a, vs, rfl, .inl (.inl h), fun p hp => kk _ (R1.new hp) (Xt.new hp) _ ((Fr.newL R1 hp r.reverse).back x1)⟩
/-! ### isinstance -/
def tyN : D → Option String
  | .non => some "NoneType"
  | .bl _ => some "bool"
  | .int _ => some "int"
  | .str _ => some "str"
  | .tup _ => some "tuple"
  | .lst _ => some "list"
  | .scr _ => none
  | .opq _ => none
  | .emp => some "dict"
  | .box _ _ => none
def knownT : List String := ["int", "bool", "str", "tuple", "list", "dict"]
def isiT (t T : String) : Bool := t == T || (t == "bool" && T == "int")
def dIsi (d : D) (T : String) : Option Bool := match tyN d with
  | some t => if knownT.contains T then some (isiT t T) else none
  | none => none
theorem kit_all : ∀ t ∈ (["NoneType", "bool", "int", "str", "tuple", "list", "dict"] : List String), ∀ T ∈ knownT, kitB t T = some (isiT t T) := by decide +kernel
theorem tyN_mem {d : D} {t : String} (h : tyN d = some t) : t ∈ (["NoneType", "bool", "int", "str", "tuple", "list", "dict"] : List String) := by
  cases d <;> simp [tyN] at h <;> subst h <;> simp
theorem tyX_of {P : Pt} {s : S} {H : Hp} {v : V} {d : D} {t : String} (h : Top C P s H v d) (e : tyN d = some t) : TyX C.K H v (.type t) := by
  rcases h with h | ⟨a, vs, ds, rfl, rfl, _, h, q⟩
  · cases h with
    | non => cases e; exact .base .non
    | bl b => cases e; exact .base (.bl b)
    | int i => cases e; exact .base (.int i)
    | str x => cases e; exact .base (.str x)
    | opq v => cases e
    | tup h q =>
      cases e
      rcases h with (h | ⟨o, h⟩) | ⟨o, its, n, h1, h2, _⟩
      · exact .base (.tup h)
      · exact .fTuple h
      · exact .kTuple h1 h2
    | lst f h q => cases e; exact .base (.lst h)
    | scr h q => cases e
    | emp f h => cases e; exact .base (.dK h)
    | box f h q => cases e
  · cases e; exact .base (.lst h)
/-- the built-in types by name -/
def tyName (x : Str) : Option String := knownT.find? fun T => x == Str.ofString T
theorem boot_all : ∀ T ∈ knownT, bootBuiltins (Str.ofString T) = some (.type T) ∧ Str.ofString T ≠ Str.ofString "__name__" ∧ (Str.ofString T == Str.ofString "__debug__") = false := by decide +kernel
theorem tyName_ok {x : Str} {T : String} (h : tyName x = some T) : T ∈ knownT ∧ x = Str.ofString T := by
  unfold tyName at h
  have h2 := List.find?_some h
  exact ⟨List.mem_of_find?_eq_some h, by simpa using h2⟩
def isiE (f : EvF S) (T : String) : EvF S := fun ρ s => (f ρ s).bind fun d s1 => ofO ((dIsi d T).map .bl) s1
theorem pe_tyName {N : List Str} {sc : Scope} (k : Xk C W X N sc) {x : Str} {T : String} {pos : Pos} (hT : tyName x = some T) (hg : glB sc x = true) (hm : X.mg x = none) : PE X (.Name x pos) (tC (.ty T)) := by
  obtain ⟨h1, h2, h3⟩ := gl_of k hg
  obtain ⟨hk, rfl⟩ := tyName_ok hT
  exact pe_bltn h1 hm (boot_all T hk).1 rfl h3 h2
theorem sd_isi {N : List Str} {sc : Scope} (k : Xk C W X N sc) {e : Expr} {x : Str} {T : String} {p p2 pos : Pos} {f : EvF S} (he : PE X e (tK C W f)) (hs : isStar e = false) (hg : glB sc "isinstance" = true) (hm : X.mg "isinstance" = none) (hT : tyName x = some T) (hg2 : glB sc x = true) (hm2 : X.mg x = none) :
    PE X (.Call (.Name "isinstance" p) [e, .Name x p2] [] pos) (tF C W (isiE f T)) := by
  obtain ⟨h1, h2, h3⟩ := gl_of k hg
  refine pe_mono (pe_callB call_isi h1 hm (by decide +kernel) (pa_cons he (pa_cons (pe_tyName k hT hg2 hm2) pa_nil) (star_no hs)) h3 h2 (star_no hs) (star_back (by rfl))) fun σ H Q ⟨P, s, R, q⟩ => ⟨P, s, R, q.bind.mono fun d s1 H1 R1 x1 q1 v tv => ?_⟩
  obtain ⟨d', e, kk⟩ := run_ofO q1
  simp only [Option.map_eq_some_iff] at e
  obtain ⟨b, e, rfl⟩ := e
  unfold dIsi at e
  split at e
  · rename_i t et
    split at e
    · rename_i hT'
      cases e
      exact ⟨v, .ty T, .type t, .type T, _, rfl, .ty T, by rw [← k.K]; exact tyX_of tv.weak et, kit_ty (kit_all t (tyN_mem et) T (by simpa using hT')), kk H1 R1 Xt.refl _ (.bl _)⟩
    · cases e
  · cases e
/-- isinstance(e, (A, B)) -/
def isi2E (f : EvF S) (T U : String) : EvF S := fun ρ s => (f ρ s).bind fun d s1 => ofO ((dIsi d T).bind fun b => (dIsi d U).map fun c => .bl (b || c)) s1
theorem sd_isi2 {N : List Str} {sc : Scope} (k : Xk C W X N sc) {e : Expr} {x y : Str} {T U : String} {kk : Nat} {p p2 p3 p4 pos : Pos} {f : EvF S} (he : PE X e (tK C W f)) (hs : isStar e = false) (hg : glB sc "isinstance" = true) (hm : X.mg "isinstance" = none) (hT : tyName x = some T) (hg2 : glB sc x = true) (hm2 : X.mg x = none) (hU : tyName y = some U) (hg3 : glB sc y = true) (hm3 : X.mg y = none) :
    PE X (.Call (.Name "isinstance" p) [e, .Tuple [.Name x p2, .Name y p3] kk p4] [] pos) (tF C W (isi2E f T U)) := by
  obtain ⟨h1, h2, h3⟩ := gl_of k hg
  refine pe_mono (pe_callB call_isiT h1 hm (by decide +kernel) (pa_cons he (pa_cons (pe_tup (pa_cons (pe_tyName k hT hg2 hm2) (pa_cons (pe_tyName k hU hg3 hm3) pa_nil))) pa_nil) (star_no hs)) h3 h2 (star_no hs) (star_back (by rfl))) fun σ H Q ⟨P, s, R, q⟩ => ⟨P, s, R, q.bind.mono fun d s1 H1 R1 x1 q1 v tv => ?_⟩
  obtain ⟨d', e, kk⟩ := run_ofO q1
  simp only [Option.bind_eq_some_iff, Option.map_eq_some_iff] at e
  obtain ⟨b, e1, c, e2, rfl⟩ := e
  refine ⟨(by show 2 ≤ sizeLine; decide), fun tp hp => ?_⟩
  unfold dIsi at e1 e2
  split at e1
  · rename_i t et
    rw [et] at e2
    dsimp only at e2
    split at e1
    · rename_i hT'
      split at e2
      · rename_i hU'
        cases e1
        cases e2
        have y1 := tyX_of (tv.xt (Xt.new (o := .tup [.ty T, .ty U]) hp) R1.st).weak et
        rw [k.K] at y1
        refine ⟨v, tp, [.ty T, .ty U], .type t, [.type T, .type U], _, rfl, upd_same, .cons (.ty T) (.cons (.ty U) .nil), y1, ?_, kk _ (R1.new hp) (Xt.new hp) _ (.bl _)⟩
        have k1 := kit_ty (K := X.K) (kit_all t (tyN_mem et) T (by simpa using hT'))
        have k2 := kit_ty (K := X.K) (kit_all t (tyN_mem et) U (by simpa using hU'))
        refine kitAny_cons k1 (fun z => kitAny_cons (r := isiT t T || isiT t U) k2 (fun z2 => ?_) (fun z2 => by rw [z2]; simp)) (fun z => by rw [z]; simp)
        rw [z, z2]
        rfl
      · cases e2
    · cases e1
  · cases e1
end
end Q

/-! Ex3: try .. with several clauses 'except C as n', no exception passes them all. -/
namespace Q
open PySem L2 PySem.Spec PyProof.Rows
inductive HdsAs (X : Cx) (n : Str) : List ExceptHandler → List (Value × (Addr → Value → Option Addr → TS)) → Prop
  | nil : HdsAs X n [] []
  | cons {x : Str} {c : Value} {ts : Addr → Value → Option Addr → TS} {b₀ : Stmt} {suite : List Stmt} {np pos' : Pos} {hds : List ExceptHandler} {l : List (Value × (Addr → Value → Option Addr → TS))} (hc : Names X x c)
      (hsu : ∀ (a : Addr) (oe : Obj) (cls : Value) (d : Option Addr) (pn : List (Addr × Obj)), Zc cls d oe → (∃ vs, oe.data = .fields vs) → PSs (X.suite a ((a, oe) :: pn)) (b₀ :: suite) (ts a cls d)) (r : HdsAs X n hds l) :
      HdsAs X n (.ExceptHandler (some (.Name x np)) (some n) (b₀ :: suite) pos' :: hds) ((c, ts) :: l)
section
variable {X : Cx} {n : Str} {i : Nat} {body : List Stmt} {h₀ : ExceptHandler} {hds : List ExceptHandler} {l : List (Value × (Addr → Value → Option Addr → TS))} {pos : Pos} {tb : WX → TS}
end
end Q

set_option maxHeartbeats 2000000
/-! Ex4: a lambda is made, told more sharply: the maker's table alone is written, one code object may be new. -/
namespace Q
open PySem PySem.Spec PyProof.Rows L2 LamX
/-- behind the making of a lambda: nothing is changed, or the table at P has grown by a new code object -/
def Made (P : Addr) (q : Str) (H H1 : Hp) : Prop := H1 = H ∨ ∃ (ps more : Array Value) (c : Addr), H P = some (.tbl ps) ∧ H c = none ∧ H1 = upd (upd H P (.tbl (ps ++ more))) c (CodeO c q)
section
variable {X : Cx} {pins : List (Addr × Obj)} {σ : L2.St} {H : Hp} {s : Shared}
theorem lam_make3 {T : List (Addr × Str)} {c P : Addr} {params : Arguments} {body : Expr} {scope : Scope} {pos : Pos} {E : Value → Shared → Prop} {Q : Value → Shared → Prop} (I : Inv X pins σ H s) (TB : TabB X.base X.mg c P) (hcode : X.env.code = .ref c)
    (hm : (P, X.env.qual ++ "<lambda>") ∈ T) (hu : ∀ p ∈ T, p.1 = P → p.2 = X.env.qual ++ "<lambda>") (hT : Tabs T H) (hdef : defaultsOf params X.env = ([], [])) (hfree : ∀ y ∈ scope.names, y.2 = .free → ∃ c, X.env.cells.lookup y.1 = some c)
    (h : ∀ (f c' : Addr) (pm ctv : Value) (H1 : Hp) (s' : Shared), Inv X pins σ H1 s' → Made P (X.env.qual ++ "<lambda>") H H1 → Tabs T H1 →
      s'.heap.get? f = some (PySem.W.kla_obj "<lambda>" (X.env.qual ++ "<lambda>") params body scope (cloFrom X.env.cells scope.names []) pm c' ctv) → H1 f = none → f ∉ frs X.stack → H1 c' = some (CodeO c' (X.env.qual ++ "<lambda>")) → Q (.ref f) s') :
    wpAny (model X.prog X.w) X.A (eval (.Lambda params body scope pos) X.env) Q E s := by
  obtain ⟨ps, hP, ht, ha⟩ := hT _ hm
  refine PySem.W.kla_eval hdef ?_
  have bP : s.heap.BuiltinsAt X.mg P := TB.bm.keeps I.bk
  have hP' : s.heap.get? P = some { cls := .none, data := .fields ps } := I.hok P _ hP
  have nofr : ∀ f, s.heap.objs.size ≤ f → f ∉ frs X.stack := fun f hf z => by
    rcases List.mem_cons.mp (I.stkSub _ z) with e | e
    · have h1 := I.lt
      rw [← e] at h1
      exact Nat.lt_irrefl _ (Nat.lt_of_lt_of_le h1 hf)
    · exact I.nofs hf e
  cases hc : codeAmong pos ps.toList with
  | none =>
    refine PySem.W.kla_makeFunction (mg := X.mg) (c := c) (P := P) (ps := ps) (closure_ok hfree) I.ok.glob (I.mod.glob.keeps I.bk) hcode (TB.code.keeps I.bk) hP' ht hc TB.gP bP fun c' ctv h' tk hx hge hlt hrec htb => ?_
    obtain ⟨c2, oc, vs, t, e2, hoc, hd, hv⟩ := hrec
    cases e2
    have hsz : s.heap.objs.size ≤ h'.objs.size := Nat.le_trans hge (Nat.le_of_lt hlt)
    have nC : H c' = none := I.hok.fresh hge
    have I1 := inv_table (t' := tk) (more := #[rawInt pos.line, rawInt pos.col, .ref c']) (h' := h'.push (PySem.W.kla_obj "<lambda>" (X.env.qual ++ "<lambda>") params body scope (cloFrom X.env.cells scope.names []) ((X.mg "__name__").getD .none) c' ctv)) I hP
      (fun b o hb e => Heap.get?_push_of_some _ (hx b o hb e)) (Heap.get?_push_of_some _ htb) hge ⟨oc, vs, t, Heap.get?_push_of_some _ hoc, hd, hv⟩
    have eL : (ps ++ #[rawInt pos.line, rawInt pos.col, .ref c']).toList = ps.toList ++ [rawInt pos.line, rawInt pos.col, .ref c'] := by simp
    have up : ∀ b u, H b = some u → (∀ qs, u ≠ .tbl qs) → upd (upd H P (.tbl (ps ++ #[rawInt pos.line, rawInt pos.col, .ref c']))) c' (CodeO c' (X.env.qual ++ "<lambda>")) b = some u := fun b u e n => by
      rw [upd_ne (ne_of_none e nC), upd_ne (fun z => n ps (Option.some.inj (e.symm.trans (by rw [z]; exact hP))))]
      exact e
    refine h h'.objs.size c' ((X.mg "__name__").getD .none) ctv _ _ I1 (.inr ⟨ps, _, c', hP, nC, rfl⟩) (fun p hp => ?_) (Heap.get?_push_size _ rfl) ?_ (nofr _ hsz) upd_same
    · by_cases hb : p.1 = P
      · rw [hu p hp hb, hb]
        refine ⟨_, by rw [upd_ne (ne_of_none hP nC), upd_same], by rw [eL]; exact PySem.TriplesOk_snoc _ _ _ _ ht, fun p' cv hcv => ?_⟩
        rw [eL] at hcv
        rcases among_app _ ht hcv with z | z
        · obtain ⟨c0, e1, e2⟩ := ha p' cv z
          exact ⟨c0, e1, up _ _ e2 codeO_ne⟩
        · exact ⟨c', z, upd_same⟩
      · obtain ⟨ps', a1, a2, a3⟩ := hT p hp
        refine ⟨ps', by rw [upd_ne (ne_of_none a1 nC), upd_ne hb]; exact a1, a2, fun p' cv hcv => ?_⟩
        obtain ⟨c0, e1, e2⟩ := a3 p' cv hcv
        exact ⟨c0, e1, up _ _ e2 codeO_ne⟩
    · have n1 : h'.objs.size ≠ c' := Nat.ne_of_gt hlt
      have n2 : h'.objs.size ≠ P := Nat.ne_of_gt (Nat.lt_of_lt_of_le (Heap.lt_size hP') hsz)
      rw [upd_ne n1, upd_ne n2]
      exact I.hok.fresh hsz
  | some cv =>
    obtain ⟨c', e, hco⟩ := ha pos cv hc
    subst e
    refine PySem.W.kla_makeFunctionHit (mg := X.mg) (c := c) (P := P) (ps := ps) (closure_ok hfree) I.ok.glob (I.mod.glob.keeps I.bk) hcode (TB.code.keeps I.bk) hP' ht hc bP fun ctv h' tk hx hsz => ?_
    have I1 : Inv X pins σ H { s with heap := h'.push (PySem.W.kla_obj "<lambda>" (X.env.qual ++ "<lambda>") params body scope (cloFrom X.env.cells scope.names []) ((X.mg "__name__").getD .none) c' ctv), toks := tk } := I.kept fun b o e => Heap.get?_push_of_some _ (hx b o e)
    exact h h'.objs.size c' ((X.mg "__name__").getD .none) ctv H _ I1 (.inl rfl) hT (Heap.get?_push_size _ rfl) (I.hok.fresh hsz) (nofr _ hsz) hco
end
/-- x(), in the def that got the lambda: as pe_act, the guards of the maker's place told -/
theorem pe_act3 {X : Cx} {pins : List (Addr × Obj)} {σ : L2.St} {H : Hp} {s : Shared} {CXg : CXT} {Eg : XK} {Ng : List Str} {qg : Str} {sg : Scope} {g f c' : Addr} {cdg pm ctv : Value} {params : Arguments} {body : Expr} {scope : Scope} {k i : Nat} {a : Str} {pn : List (Addr × Obj)} {xe : Value → Shared → Prop} {W : WX} {E : XK} {tb : TE} {p1 p2 : Pos}
    (I : Inv X pins σ H s) (L : LamS X.env.scope scope) (hf : s.heap.get? f = some (PySem.W.kla_obj "<lambda>" (X.env.qual ++ "<lambda>") params body scope (cloFrom X.env.cells scope.names []) pm c' ctv)) (hfn : H f = none) (hfr : f ∉ frs X.stack)
    (hbind : bindArgs (PySem.W.kla_fn "<lambda>" (X.env.qual ++ "<lambda>") params body scope (cloFrom X.env.cells scope.names []) pm (.ref c') ctv) ⟨[], []⟩ = pure [])
    (tk : Takes ((cxOf CXg X.prog X.w X.K X.mg X.base Ng qg sg g cdg X.A X.stack s H Eg).tr pn xe) W) (hW : ∀ cls d σ' H', E cls d H' → W cls d σ' H') (hr : Room (k + 1) (X.A.deeper (envOfC qg sg s.heap.objs.size g cdg)))
    (hbody : ∀ (A : Around) (outer : List Env) (s : Shared) (H : Hp), A.guards = X.A.guards → Room k (A.deeper (lamEnv X scope s.heap.objs.size f c')) → PE (lamCx X A outer s H E scope f c') body tb)
    (hN : Ng[i]? = some a) (hv : Vis sg a) (hd : (a == ("__debug__" : Str)) = false) (hcd : (a == ("__classdict__" : Str)) = false) :
    PE ((cxOf CXg X.prog X.w X.K X.mg X.base Ng qg sg g cdg X.A X.stack s H Eg).tr pn xe) (.Call (.Name a p1) [] [] p2)
      (fun σZ HZ Q => σZ[i]? = some (some (.ref f)) ∧ HZ c' = some (CodeO c' (X.env.qual ++ "<lambda>")) ∧ tb σ HZ Q) := by
  refine ⟨fun pinsZ sZ σZ HZ Q IZ h => ?_⟩
  obtain ⟨hs, hc, ht⟩ := h
  refine wpAny_Call_Name_kw (thn ((pe_var (pos := p1) (i := i) hN hv hd hcd).run pinsZ sZ σZ HZ (fun v H1 => v = .ref f ∧ H1 = HZ) IZ ⟨.ref f, hs, rfl, rfl⟩) fun u s1 ⟨v, H1, I1, r1, q1⟩ => ?_)
  obtain ⟨ev, eH⟩ := q1
  subst ev
  rw [eH] at I1
  obtain rfl : u = Value.ref f := r1
  have of1 : s1.heap.get? f = some (PySem.W.kla_obj "<lambda>" (X.env.qual ++ "<lambda>") params body scope (cloFrom X.env.cells scope.names []) pm c' ctv) := I1.base.keep f _ hf hfn hfr (fun z => nomatch (show f ∈ ([] : List Addr) from z))
  refine PySem.W.callWith_F0 ⟨_, _, _, _, of1⟩ ?_
  obtain ⟨⟨oc, vs, t, hoc, hdc, hvc⟩, _, _⟩ := I1.hok c' _ hc
  have rc : codeAny (model X.prog X.w) (X.A.deeper (envOfC qg sg s.heap.objs.size g cdg)) (.call (.ref f) ⟨[], []⟩) (CR (L2.CX X.prog X.w) (envOfC qg sg s.heap.objs.size g cdg :: X.stack) X.prog X.w HZ s1 Q E) s1 := by
    refine PySem.W.kla_callFunE hr.depth of1 rfl L.co L.gen rfl ⟨c', oc, vs, t, rfl, hoc, hdc, hvc⟩ ?_
    rw [hbind]
    refine wpAny_pure (wpAny_newFunctionEnv (fun y hy => (L.own y hy).2) (fun y hy => absurd hy (by simp)) (fun h₁ hns hsb => ⟨I1.nolimit.fresh _ hsb, ?_⟩) L.kind)
    show codeAny _ _ (.expr body (lamEnv X scope s1.heap.objs.size f c')) _ _
    have kp : ∀ b o, s1.heap.get? b = some o → h₁.get? b = some o := fun b o e => hsb.extBut b o (Nat.ne_of_lt (Heap.lt_size e)) (Heap.get?_push_of_some _ e)
    have J : Inv (lamCx X (X.A.deeper (envOfC qg sg s.heap.objs.size g cdg)) (envOfC qg sg s.heap.objs.size g cdg :: X.stack) s1 HZ E scope f c') [] σ HZ { s1 with heap := h₁, toks := s1.toks + ([] : List (Str × Value)).length } :=
      lam_start2 I L I1.env0 hr.hd I1.base hns kp
    refine PySem.W.kla_codeExpr (wpAny_mono ((hbody (X.A.deeper (envOfC qg sg s.heap.objs.size g cdg)) _ s1 HZ rfl (hr.deeper _)).run [] _ _ HZ Q J ht) (fun v s' hq => ?_) fun e s' hq => hq)
    obtain ⟨w', H', J', rv, q⟩ := hq
    exact ⟨w', H', J'.os, J'.bare, J'.base, J'.hok, rv, q⟩
  have hx : Passes (L2.CX X.prog X.w) ((cxOf CXg X.prog X.w X.K X.mg X.base Ng qg sg g cdg X.A X.stack s H Eg).tr pn xe) E := passes_call tk hW
  refine wpAny_call (codeAny_mono rc fun r s' hq => ?_)
  cases r with
  | error e => exact hx pinsZ σZ HZ s1 e s' I1 hq
  | ok fl =>
    cases fl with
    | ret u => exact I1.after hq
    | next => exact False.elim hq
    | brk => exact False.elim hq
    | cont => exact False.elim hq
def tLam3 (P : Addr) (q : Str) (T : List (Addr × Str)) (TT : (XK → Hp → VK → Prop) → Hp → VK → Prop) (t : XK → TE) : TE := fun σ H Q => Tabs T H ∧ ∀ H1, Made P q H H1 → Tabs T H1 → TT (fun E H' Q' => t E σ H' Q') H1 Q
/-- x(lambda: body) -/
theorem pe_lam3 {X : Cx} {T : List (Addr × Str)} {TT : (XK → Hp → VK → Prop) → Hp → VK → Prop} {x a : Str} {g c P : Addr} {k : Nat} {pg : Arguments} {bg : List Stmt} {sg : Scope} {dV kV doc pm cdv ct oc : Value} {an od : Option Addr} {osl : Array (Option Value)} {Ng : List Str}
    {params : Arguments} {body : Expr} {scope : Scope} {t : XK → TE} {p lpos pos : Pos} (hg : Gl X x) (hm : X.mg x = some (.ref g)) (hk : PySem.W.keepIn X.K (.ref g) = true)
    (lk : X.K.lookup g = some ⟨oc, od, .func (PySem.W.fnOf x x pg bg sg dV kV doc pm an cdv ct), osl⟩) (hcg : PySem.W.codeIn X.K cdv x = true) (hb : L2.Binds X.K (PySem.W.fnOf x x pg bg sg dV kV doc pm an cdv ct) [a] []) (Sg : FnScope Ng [a] sg) (hNg : Ng[0]? = some a) (hva : Vis sg a)
    (hG : GivesTo X Ng x sg g cdv bg a (X.env.qual ++ "<lambda>") TT)
    (TB : TabB X.base X.mg c P) (hcode : X.env.code = .ref c) (hmT : (P, X.env.qual ++ "<lambda>") ∈ T) (hu : ∀ p ∈ T, p.1 = P → p.2 = X.env.qual ++ "<lambda>") (hr : Room (k + 2) X.A) (L : LamS X.env.scope scope) (hdef : defaultsOf params X.env = ([], []))
    (hbind : ∀ (q : Str) (cl : List (Str × Addr)) (pm cv ctv : Value), bindArgs (PySem.W.kla_fn "<lambda>" q params body scope cl pm cv ctv) ⟨[], []⟩ = pure [])
    (hbody : ∀ (A : Around) (outer : List Env) (s : Shared) (H : Hp) (E : XK) (f c' : Addr), A.guards = X.A.guards → Room k (A.deeper (lamEnv X scope s.heap.objs.size f c')) → PE (lamCx X A outer s H E scope f c') body (t E))
    (hdb : (x == ("__debug__" : Str)) = false) (hd : (a == ("__debug__" : Str)) = false) (hcd : (a == ("__classdict__" : Str)) = false) :
    PE X (.Call (.Name x p) [.Lambda params body scope lpos] [] pos) (tLam3 P (X.env.qual ++ "<lambda>") T TT t) := by
  refine ⟨fun pins s σ H Q I h => ?_⟩
  obtain ⟨hT, h⟩ := h
  refine wpAny_Call_Name_kw (ld_glob I hg hm ?_ hdb)
  refine PySem.W.callWith_K (h₀ := X.base) I.ok.mod.kin hk ?_ (by rfl) (by rfl)
  show wpAny _ _ (spliced ((false, eval (.Lambda params body scope lpos) X.env) :: backTo pos (starEach [] X.env))) _ _ s
  refine Calls.spliced_cons (lam_make3 I TB hcode hmT hu hT hdef (L.has I.ok) fun f c' pm' ctv H1 s' I1 eN T1 hf hfn hfr hco => ?_)
  refine Calls.spliced_nil ⟨I1.kIn, ?_⟩
  have rc : codeAny (model X.prog X.w) X.A (.call (.ref g) ⟨[.ref f], []⟩) (CR C8.CX0 X.stack X.prog X.w H1 s' Q C8.E0) s' := by
    refine run_ofS (N := Ng) (ps := [a]) (us := [.ref f]) (vs := [.ref f]) lk hcg Sg hr I1.env0 (hb s' [.ref f] I1.kIn rfl) (.cons rfl .nil) rfl fun hr' => ?_
    obtain ⟨t', ht', hq'⟩ := hG f c' s' H1 Q (fun E H' Q' => t E σ H' Q') (fun W pn xe E p1 p2 tk hW => pe_act3 (i := 0) I1 L hf hfn hfr (hbind _ _ _ _ _) tk hW hr' (fun A outer s H hg2 hr2 => hbody A outer s H E f c' hg2 hr2) hNg hva hd hcd) hco (h H1 eN T1)
    exact ⟨t', ht'.nox, hq'⟩
  refine wpAny_call (codeAny_mono rc fun r s2 hq => ?_)
  cases r with
  | error e => exact (show False from hq).elim
  | ok fl =>
    cases fl with
    | ret u => exact I1.after hq
    | next => exact False.elim hq
    | brk => exact False.elim hq
    | cont => exact False.elim hq
end Q

set_option maxHeartbeats 2000000
/-! Ex5: the def that calls what it got within try, several clauses (_law_said). -/
namespace Q
open PySem PySem.Spec PyProof.Rows L2 LamX
/-- a clause: the class's name, its address, the word, the fields that are told -/
structure Cz where
  x : Str
  c : Addr
  lab : Str
  fls : List Str
/-- what the written part says of a clause's class -/
structure CzOk (X : Cx) (sg : Scope) (z : Cz) : Prop where
  gl : sg.names.lookup z.x = some .globalImplicit
  db : (z.x == ("__debug__" : Str)) = false
  mg : X.mg z.x = some (.ref z.c)
  xf : XfC X.K z.c
  no : ∀ f ∈ z.fls, PySem.W.findIn X.K (.ref z.c) f = some none
/-- the handlers, as they are written -/
inductive SdH (told e : Str) : List ExceptHandler → List Cz → Prop
  | nil : SdH told e [] []
  | one {x : Str} {c : Addr} {lab f1 : Str} {k kd : Nat} {p1 p2 p3 p4 p5 p6 p7 p8 : Pos} {hds : List ExceptHandler} {zs : List Cz} (r : SdH told e hds zs) :
      SdH told e (.ExceptHandler (some (.Name x p1)) (some e) [.Assign [.Name told p2] (.Tuple [.Constant (.str lab) k p3, .Attribute (.Name e p4) f1 p5] kd p6) p7] p8 :: hds) (⟨x, c, lab, [f1]⟩ :: zs)
  | two {x : Str} {c : Addr} {lab f1 f2 : Str} {k kd : Nat} {p1 p2 p3 p4 p5 p6 p7 p8 p9 p10 : Pos} {hds : List ExceptHandler} {zs : List Cz} (r : SdH told e hds zs) :
      SdH told e (.ExceptHandler (some (.Name x p1)) (some e) [.Assign [.Name told p2] (.Tuple [.Constant (.str lab) k p3, .Attribute (.Name e p4) f1 p5, .Attribute (.Name e p9) f2 p10] kd p6) p7] p8 :: hds) (⟨x, c, lab, [f1, f2]⟩ :: zs)
section
variable {X : Cx} {Ng : List Str} {x a told e q : Str} {sg : Scope} {g : Addr} {cdg : Value}
/-- the names of such a def -/
structure SdS (a told e : Str) (Ng : List Str) (sg : Scope) : Prop where
  N : Ng = [a, told, e]
  nd : Ng.Nodup
  lt : sg.names.lookup told = some .local
  le : sg.names.lookup e = some .local
  d1 : (told == ("__debug__" : Str)) = false
  d2 : (told == ("__classdict__" : Str)) = false
  d3 : (e == ("__debug__" : Str)) = false
  d4 : (e == ("__classdict__" : Str)) = false
end
end Q

set_option maxHeartbeats 2000000
/-! Ex6: an exception that is caught and kept as a value behind its clause. -/
namespace Q
open PySem L2 PySem.Spec PyProof.Rows
/-- one heap behind another: all that stood stands -/
def Grown (H H' : Hp) : Prop := ∀ b o, H b = some o → H' b = some o
theorem Grown.refl {H : Hp} : Grown H H := fun _ _ e => e
theorem Grown.trans {H H1 H2 : Hp} (a : Grown H H1) (b : Grown H1 H2) : Grown H H2 := fun c o e => b c o (a c o e)
theorem Grown.new {H : Hp} {p : Addr} {o : HO} (hp : H p = none) : Grown H (upd H p o) := fun b u e => by rw [upd_ne (ne_of_none e hp)]; exact e
section
variable {X : Cx} {pins : List (Addr × Obj)} {σ : L2.St} {H : Hp} {s sI : Shared}
end
section
variable {X : Cx} {n m x1 x2 : Str} {i j kk : Nat} {c1 c2 : Value} {body : List Stmt} {q1 q2 q3 p1 p2 tpos pos' pos : Pos} {tb : WX → TS}
end
/-! ### what is asked of a kept exception -/
section
open PySem.Calls PySem.W
variable {prog : Program} {w : World} {A : Around} {E : Value → Shared → Prop} {s : Shared} {K : PySem.W.Frag} {x D : Addr} {ox : Obj} {od : Option Obj}
/-- a data descriptor of the class goes ahead of the object's own dict -/
theorem find_desc {C : Addr} {nm : Str} {at_ gt : Value} (hc : (clsIn K C).isSome = true) (ha : findIn K (.ref C) nm = some (some at_)) (hg : specialIn K at_ "__get__" = some (some gt)) (ht : takesIn K at_ = some true) : findObj K C od nm = some (.bind gt at_) := by
  obtain ⟨cd, e⟩ := Option.isSome_iff_exists.mp hc
  simp only [findObj, e, ha, hg, ht, Option.bind_some]
/-- what its class tells of itself, whatever own fields it has -/
theorem asks_class {Q : Option Value → Shared → Prop} (c : L2.ExcC K D) (X : K.In s.heap) (I : InstAt s.heap x ox D od) (h : Q (some (.ref D)) { s with toks := s.toks + 1 }) : wpAny (model prog w) A (getAttr? (.ref x) "__class__") Q E s := by
  have hf : findObj K D od "__class__" = some (.bind (.builtin "getset_descriptor.__get__") (.builtin "object.__class__")) := find_desc (by obtain ⟨cd, hc, _⟩ := any_some c.hd; rw [hc]; rfl) c.ha c.hn c.ht
  obtain ⟨hp, gs, dr, tk, os⟩ := s
  have Ty := I.type (M := model prog w); have Fd := looks_find (M := model prog w) X I hf
  have Ga := looks_findIn (M := model prog w) X c.hg; have Gt := looks_findIn (M := model prog w) X c.hk
  have Sb : Looks (model prog w) hp (isInstance (.ref x) (.type "BaseException")) true := Ty.andThen (looks_subIn X c.hs)
  have no0 : (false && onTheHeap (.builtin "BaseException.__getattribute__")) = false := rfl
  have no2 : ((.builtin "BaseException.__getattribute__" : Value) == .builtin "object.__getattribute__") = false := by decide +kernel
  have no1 : (onTheHeap (.ref D) && (.builtin "BaseException.__getattribute__" : Value) == .builtin "object.__getattribute__") = false := by rw [no2]; rfl
  unfold getAttr?; unfold getAttrBy?; unfold getAttrBy
  refine wpAny_bind (wpAny_mkText ?_); refine wpAny_bind (wpAny_attempt (wpAny_holding ?_)); refine wpAny_bind (Ty.at ?_); refine wpAny_bind (Ga.at ?_)
  show wpAny _ _ (if (onTheHeap (.ref D) && (.builtin "BaseException.__getattribute__" : Value) == .builtin "object.__getattribute__") = true then _ else _) _ _ _
  rw [no1, if_neg Bool.false_ne_true]; unfold getAttrByItsOwn; unfold hookBefore; refine wpAny_bind ?_
  rw [if_pos (show onTheHeap (.ref D) = true from rfl)]
  refine Gt.at (wpAny_bind (wpAny_attempt (wpAny_holding ?_)))
  unfold callGetattribute; rw [no0, if_neg Bool.false_ne_true]; unfold boundAndCalled
  rw [PySem.F.excAttr_ValueError.ga.bind (.ref x)]; refine wpAny_bind (wpAny_pure ?_)
  show wpAny _ _ (call (.builtin "BaseException.__getattribute__") [.ref x, .str "__class__" tk]) _ _ _
  refine wpAny_call (codeAny_call_builtin PySem.F.excAttr_ValueError.ga.plain PySem.F.entry_bexc_ga ?_)
  refine @check_slot (model prog w) _ _ ⟨hp, gs, dr, tk + 1, os⟩ "BaseException.__getattribute__" "BaseException" "__getattribute__" (.ref x) [.str "__class__" tk] [] _ (by decide +kernel) (by decide +kernel) Sb (PySem.F.args_bexc_ga (.ref x) (.str "__class__" tk)) ?_
  unfold Builtin.«object.__getattribute__»
  refine wpAny_bind (wpAny_of_eq (a := ((Value.ref x : Value), [Value.str "__class__" tk])) (by simp only [slotArgs]; rfl) ?_)
  refine wpAny_bind (wpAny_pure ?_); refine wpAny_bind (Ty.at ?_); refine wpAny_bind (Fd.at ?_)
  show wpAny _ _ (holding [.builtin "object.__class__"] (call (.builtin "getset_descriptor.__get__") [.builtin "object.__class__", .ref x, .ref D]) >>= ret) _ _ _
  refine wpAny_bind (wpAny_holding (wpAny_call ?_)); refine class_get (s := ⟨hp, gs, dr, tk + 1, os⟩) (ox := ox) (od := od) X I c.hm ?_
  refine wpAny_pure ?_
  show wpAny _ _ (handedOut (.ref D)) _ _ _
  rw [handedOut_of (v := .ref D) rfl]
  first | exact wpAny_pure (wpAny_pure h) | exact wpAny_pure h | exact wpAny_pure (wpAny_bind (wpAny_pure (wpAny_pure h)))
theorem kitx_of (c : L2.ExcC K D) : KitX K (.ref x) (.ref D) (fun h => InstAt h x ox D od) where
  ty := fun _ _ _ I => I.type
  it := fun _ _ X _ => by
    obtain ⟨cd, hc, _⟩ := any_some c.hd; unfold clsIn at hc
    split at hc
    · rename_i c1 d1 cd1 sl1 ho
      intro A1 Q1 E1 s1 k q
      unfold isType; unfold loadHead
      exact wpAny_bind (wpAny_loadPart (k _ _ (X _ _ ho)) (wpAny_pure q))
    · cases hc
  ne := fun h tp dd its n sl X e1 => by
    obtain ⟨cd, hc, _⟩ := any_some c.hd
    refine Bool.eq_false_iff.mpr fun q => ?_
    obtain rfl : D = tp := Value.ref.inj (beq_iff_eq.mp q)
    unfold clsIn at hc
    split at hc
    · rename_i c1 d1 cd1 sl1 ho
      cases (X _ _ ho).symm.trans e1
    · cases hc
  ca := fun X I k => asks_class c X I k
end
/-- e.f, e kept -/
def tXk (K : PySem.W.Frag) (f : Str) (te : TE) : TE := fun σ H Q => te σ H fun x H1 => ∃ (a C dd : Addr) (fs : List (Str × V)) (v : V), x = .ref a ∧ H1 a = some (ExK (.ref C) (some dd) a) ∧ XfC K C ∧ PySem.W.findIn K (.ref C) f = some none ∧ H1 dd = some (.xd fs) ∧ fs.lookup f = some v ∧ Q v H1
theorem pe_xk {X : Cx} {e : Expr} {te : TE} {pos : Pos} {n : Str} (he : PE X e te) (hb : attributeBase e n X.env (eval e X.env) = eval e X.env := by rfl) : PE X (.Attribute e n pos) (tXk X.K n te) := by
  refine ⟨fun pins s σ H Q I h => ?_⟩
  refine attr_of hb (thn (he.run pins s σ H _ I h) fun u s1 hh => ?_)
  obtain ⟨x, H1, I1, rx, a, C, dd, fs, v, ex, ha, T, hno, ea, l, q⟩ := hh
  subst ex
  obtain rfl : u = Value.ref a := rx
  obtain ⟨⟨oe, vs, hge, hz, hd⟩, _, _⟩ := I1.hok a _ ha
  have hx : ObjOk X.prog X.w H1 s1.heap dd (.xd fs) := I1.hok dd _ ea
  obtain ⟨mA, hns, hr⟩ := hx
  obtain ⟨od, ho, hl⟩ := lookIn_ns hns
  obtain ⟨u, hu, ru⟩ := RelO.some_of (v := v) (o := mA n) (by rw [← l]; exact hr n)
  have J : PySem.W.InstAt s1.heap a oe C (some od) := ⟨hge, hz.1, by unfold PySem.W.notCls; rw [hd] <;> rfl, by rw [hz.2]; exact ho⟩
  exact HandSPX.exc_get I1.kIn J T.ga T.gg T.exC (PySem.W.findObj_own T.hdC hno rfl (by rw [hl, hu])) (handed_of ru) ⟨v, H1, I1.tok _, ru, q⟩
end Q

set_option maxHeartbeats 2000000
/-! Ex8: a lambda with one parameter that has a default, and that nobody reads (`lambda y=0: e`). -/
namespace Q
open PySem PySem.Spec PyProof.Rows L2 LamX
/-- names of such a lambda -/
structure LamD (sc scope : Scope) (y : Str) : Prop where
  kind : scope.kind = .function
  co : scope.isCoroutine = false
  gen : scope.isGenerator = false
  own : ∀ z ∈ scope.names, z.2 ≠ .cell ∧ (z.2 = .local → z.1 = y)
  loc : scope.names.lookup y = some .local
  free : ∀ z ∈ scope.names, z.2 = .free → sc.names.lookup z.1 = some .cell ∨ sc.names.lookup z.1 = some .free
def lamDB (sc scope : Scope) (y : Str) : Bool :=
  decide (scope.kind = .function) && !scope.isCoroutine && !scope.isGenerator && (scope.names.all fun z => !decide (z.2 = .cell) && (!decide (z.2 = .local) || decide (z.1 = y)) && (!decide (z.2 = .free) || decide (sc.names.lookup z.1 = some .cell) || decide (sc.names.lookup z.1 = some .free))) && decide (scope.names.lookup y = some .local)
theorem lamD_by {sc scope : Scope} {y : Str} (h : lamDB sc scope y = true) : LamD sc scope y := by
  unfold lamDB at h
  simp only [Bool.and_eq_true, Bool.or_eq_true, Bool.not_eq_true', decide_eq_true_eq, decide_eq_false_iff_not, List.all_eq_true] at h
  obtain ⟨⟨⟨⟨h1, h2⟩, h3⟩, h4⟩, h5⟩ := h
  refine ⟨h1, h2, h3, fun y hy => ⟨(h4 y hy).1.1, fun e => ?_⟩, h5, fun y hy e => ?_⟩
  · rcases (h4 y hy).1.2 with z | z
    · exact absurd e z
    · exact z
  · rcases (h4 y hy).2 with (z | z) | z
    · exact absurd e z
    · exact .inl z
    · exact .inr z
theorem LamD.has {X : Cx} {scope : Scope} {y : Str} (L : LamD X.env.scope scope y) (ok : X.Ok) : ∀ y ∈ scope.names, y.2 = .free → ∃ c, X.env.cells.lookup y.1 = some c := fun y hy e => by
  rcases L.free y hy e with k | k
  · exact ok.has _ (.inl k)
  · exact ok.has _ (.inr k)
section
variable {X : Cx} {pins : List (Addr × Obj)} {σ : L2.St} {H HZ : Hp} {s s1 : Shared}
theorem lam_startD {A : Around} {outer : List Env} {E : XK} {scope : Scope} {f c' : Addr} {y0 : Str} {bs : List (Str × Value)} {h₁ : Heap} {tk : Nat} (I : Inv X pins σ H s) (L : LamD X.env.scope scope y0) (hN : y0 ∉ X.N) (e0 : Env0 X.prog X.w X.K X.mg X.base A outer s1 HZ) (hd : A.handled = none)
    (un : Un (frs X.stack) [] H HZ s.heap s1.heap) (hns : h₁.Ns s1.heap.objs.size fun y => bs.reverse.lookup y) (kp : ∀ b o, s1.heap.get? b = some o → h₁.get? b = some o) :
    Inv (lamCx X A outer s1 HZ E scope f c') [] σ HZ { s1 with heap := h₁, toks := tk } := by
  have hfree := L.has I.ok
  have cm : ∀ {y c}, (cloFrom X.env.cells scope.names []).lookup y = some c → X.env.cells.lookup y = some c := fun {y c} e => by
    rcases cloFrom_mem (PySem.mem_of_lookup e) with hm | ⟨h1, h2⟩
    · cases hm
    · obtain ⟨c1, hc⟩ := hfree _ h1 rfl
      have hc : X.env.cells.lookup y = some c1 := hc
      have e2 : c = c1 := by
        rw [h2, hc] <;> rfl
      rw [e2]
      exact hc
  have look : ∀ {y}, scope.names.lookup y = some .free → ∃ c, (cloFrom X.env.cells scope.names []).lookup y = some c := fun {y} hl => by
    have hy : (y, NameKind.free) ∈ scope.names := PySem.mem_of_lookup hl
    exact mem_lookup (cloFrom_has (cells := X.env.cells) (acc := []) hy)
  have cellK : ∀ {c : Addr} {v : Option Value}, H c = none → s.heap.IsCell c v → h₁.IsCell c v := fun {c v} n ⟨o, ho, hd⟩ => by
    obtain ⟨sl, q⟩ := un.any ho n (by simp)
    exact ⟨_, kp _ _ q, hd⟩
  have noA : ∀ b : Addr, b ∉ (lamCx X A outer s1 HZ E scope f c').ex := fun b z => absurd (show b ∈ ([] : List Addr) from z) (by simp)
  refine ⟨⟨e0.mod, L.kind, rfl, rfl, Nat.le_refl _, fun y z c e1 e2 => I.ok.inj y z c (cm e1) (cm e2), fun y hy => ?_, fun y c z _ => ?_, fun _ => hd, Around.frames_deeper e0.frames, .inr ⟨rfl, rfl⟩, fun b z => absurd z (noA b), e0.bs, e0.bsz, fun b _ _ => noA b,
      fun b z => absurd z (noA b), e0.funs, e0.frf⟩,
    rfl, e0.bare, Un.kept kp, ⟨_, hns, fun i y v e1 e2 e3 => ?_⟩, fun y c e => ?_, e0.hok.fresh (Nat.le_refl _), fun y c e => ?_, fun q hq => absurd (show q ∈ ([] : List (Addr × Obj)) ++ [] from hq) (by simp), e0.hok.kept kp, I.len⟩
  · have hy : scope.names.lookup y = some .cell ∨ scope.names.lookup y = some .free := hy
    rcases hy with hy | hy
    · exact absurd rfl (L.own _ (PySem.mem_of_lookup hy)).1
    · exact look hy
  · have z : false = true := z
    cases z
  · have e3 : Vis scope y := e3
    rcases e3 with k | k | k
    · have e1 : X.N[i]? = some y := e1
      have e4 : y = y0 := (L.own _ (PySem.mem_of_lookup k)).2 rfl
      rw [e4] at e1
      exact absurd (List.mem_of_getElem? e1) hN
    · exact absurd rfl (L.own _ (PySem.mem_of_lookup k)).1
    · obtain ⟨m, hn, hl⟩ := I.loc
      have hvis : Vis X.env.scope y := (L.free _ (PySem.mem_of_lookup k) rfl).elim (fun k => .inr (.inl k)) (fun k => .inr (.inr k))
      obtain ⟨w', r, q⟩ := hl i y v e1 e2 hvis
      obtain ⟨c2, h2⟩ := look k
      refine ⟨w', r, .inr ⟨.inr k, c2, h2, ?_⟩⟩
      have c1 := cm h2
      rcases q with ⟨k', _⟩ | ⟨_, c3, e', z⟩
      · have k' : X.env.scope.names.lookup y = some .local := k'
        rcases L.free _ (PySem.mem_of_lookup k) rfl with k2 | k2 <;> rw [show X.env.scope.names.lookup y = _ from k2] at k' <;> cases k'
      · rw [c1] at e'
        cases e'
        exact cellK (I.freeC y _ c1) z
  · obtain ⟨w', z⟩ := I.cell y c (cm e)
    exact ⟨w', cellK (I.freeC y c (cm e)) z⟩
  · obtain ⟨v, o, ho, hd⟩ := I.cell y c (cm e)
    exact un.free c o ho (I.freeC y c (cm e)) (by simp)
/-- the lambda is made -/
theorem lam_makeD {T : List (Addr × Str)} {c P : Addr} {params : Arguments} {body : Expr} {scope : Scope} {pos : Pos} {n : Int} {kd : Nat} {pd : Pos} {E : Value → Shared → Prop} {Q : Value → Shared → Prop} (I : Inv X pins σ H s) (TB : TabB X.base X.mg c P) (hcode : X.env.code = .ref c)
    (hm : (P, X.env.qual ++ "<lambda>") ∈ T) (hu : ∀ p ∈ T, p.1 = P → p.2 = X.env.qual ++ "<lambda>") (hT : Tabs T H) (hd0 : params.defaults = [.Constant (.int n) kd pd]) (hk0 : params.kw_defaults = []) (hkw : params.kwonlyargs = []) (hfree : ∀ y ∈ scope.names, y.2 = .free → ∃ c, X.env.cells.lookup y.1 = some c)
    (h : ∀ (f c' t : Addr) (dv pm doc ctv : Value) (H1 : Hp) (s' : Shared), Inv X pins σ H1 s' → Made P (X.env.qual ++ "<lambda>") H H1 → Tabs T H1 →
      s'.heap.get? f = some (PySem.W.kdv_obj "<lambda>" (X.env.qual ++ "<lambda>") params (.expr body) scope (cloFrom X.env.cells scope.names []) (.ref t) doc pm c' ctv) → H1 f = none → f ∉ frs X.stack →
      s'.heap.get? t = some (PySem.W.kdv_tup [dv]) → H1 t = none → t ∉ frs X.stack → H1 c' = some (CodeO c' (X.env.qual ++ "<lambda>")) → Q (.ref f) s') :
    wpAny (model X.prog X.w) X.A (eval (.Lambda params body scope pos) X.env) Q E s := by
  obtain ⟨ps, hP, ht, ha⟩ := hT _ hm
  refine PySem.W.kdv_lam (by rw [hd0]; rfl) hk0 ?_
  rw [hd0]
  refine PySem.W.kdv_all1 (thn ((pe_int (X := X) (i := n) (j := kd) (pos := pd)).run pins s σ H (fun v H1 => H1 = H) I rfl) fun dv s0 ⟨v, H1, I0, r0, q0⟩ => ?_)
  have q0 : H1 = H := q0
  rw [q0] at I0
  clear q0
  refine wpAny_pure ?_
  rw [makeFunction_eq]
  simp only [hkw, List.zip_nil_left, List.filterMap_nil, List.isEmpty_nil, List.isEmpty_cons, Bool.false_eq_true, if_false, if_true]
  refine wpAny_bind (wpAny_newTextTuple ?_)
  refine wpAny_bind (wpAny_pure ?_)
  refine wpAny_bind (wpAny_pure ?_)
  have I' : L2.Inv X pins σ H { s0 with heap := s0.heap.push (PySem.W.kdv_tup [dv]) } := I0.kept (t' := s0.toks) fun b o e => Heap.get?_push_of_some _ e
  have ot : ({ s0 with heap := s0.heap.push (PySem.W.kdv_tup [dv]) } : Shared).heap.get? s0.heap.objs.size = some (PySem.W.kdv_tup [dv]) := Heap.get?_push_size _ rfl
  have nT : H s0.heap.objs.size = none := I0.hok.fresh (Nat.le_refl _)
  have nofr0 : s0.heap.objs.size ∉ frs X.stack := fun z => by
    rcases List.mem_cons.mp (I0.stkSub _ z) with e | e
    · have h1 := I0.lt
      rw [← e] at h1
      exact Nat.lt_irrefl _ h1
    · exact I0.nofs (Nat.le_refl _) e
  generalize hs1 : ({ s0 with heap := s0.heap.push (PySem.W.kdv_tup [dv]) } : Shared) = s1 at I' ot
  generalize ht0 : s0.heap.objs.size = t at ot nT nofr0
  have goal_ : wpAny (model X.prog X.w) X.A (makeTail "<lambda>" (X.env.qual ++ "<lambda>") params (.expr body) scope X.env (.ref t) .none .none pos pos.line) Q E s1 := by
    clear hs1
    have bP : s1.heap.BuiltinsAt X.mg P := TB.bm.keeps I'.bk
    have hP' : s1.heap.get? P = some { cls := .none, data := .fields ps } := I'.hok P _ hP
    have nofr : ∀ f, s1.heap.objs.size ≤ f → f ∉ frs X.stack := fun f hf z => by
      rcases List.mem_cons.mp (I'.stkSub _ z) with e | e
      · have h1 := I'.lt
        rw [← e] at h1
        exact Nat.lt_irrefl _ (Nat.lt_of_lt_of_le h1 hf)
      · exact I'.nofs hf e
    cases hc : codeAmong pos ps.toList with
    | none =>
      refine PySem.W.kdv_makeTail (mg := X.mg) (c := c) (P := P) (ps := ps) (closure_ok hfree) I'.ok.glob (I'.mod.glob.keeps I'.bk) hcode (TB.code.keeps I'.bk) hP' ht hc TB.gP bP fun c' ctv doc h' tk hx hge hlt hrec htb => ?_
      obtain ⟨c2, oc, vs, t2, e2, hoc, hd, hv⟩ := hrec
      cases e2
      have hsz : s1.heap.objs.size ≤ h'.objs.size := Nat.le_trans hge (Nat.le_of_lt hlt)
      have nC : H c' = none := I'.hok.fresh hge
      have I1 := inv_table (t' := tk) (more := #[rawInt pos.line, rawInt pos.col, .ref c']) (h' := h'.push (PySem.W.kdv_obj "<lambda>" (X.env.qual ++ "<lambda>") params (.expr body) scope (cloFrom X.env.cells scope.names []) (.ref t) doc ((X.mg "__name__").getD .none) c' ctv)) I' hP
        (fun b o hb e => Heap.get?_push_of_some _ (hx b o hb e)) (Heap.get?_push_of_some _ htb) hge ⟨oc, vs, t2, Heap.get?_push_of_some _ hoc, hd, hv⟩
      have eL : (ps ++ #[rawInt pos.line, rawInt pos.col, .ref c']).toList = ps.toList ++ [rawInt pos.line, rawInt pos.col, .ref c'] := by simp
      have up : ∀ b u, H b = some u → (∀ qs, u ≠ .tbl qs) → upd (upd H P (.tbl (ps ++ #[rawInt pos.line, rawInt pos.col, .ref c']))) c' (CodeO c' (X.env.qual ++ "<lambda>")) b = some u := fun b u e n => by
        rw [upd_ne (ne_of_none e nC), upd_ne (fun z => n ps (Option.some.inj (e.symm.trans (by rw [z]; exact hP))))]
        exact e
      have tP : t ≠ P := fun z => by rw [z, hP] at nT; cases nT
      have tC : t ≠ c' := fun z => by
        have := Heap.lt_size ot
        rw [z] at this
        exact Nat.lt_irrefl _ (Nat.lt_of_lt_of_le this hge)
      refine h h'.objs.size c' t dv ((X.mg "__name__").getD .none) doc ctv _ _ I1 (.inr ⟨ps, _, c', hP, nC, rfl⟩) (fun p hp => ?_) (Heap.get?_push_size _ rfl) ?_ (nofr _ hsz) (Heap.get?_push_of_some _ (hx _ _ tP ot)) ?_ nofr0 upd_same
      · by_cases hb : p.1 = P
        · rw [hu p hp hb, hb]
          refine ⟨_, by rw [upd_ne (ne_of_none hP nC), upd_same], by rw [eL]; exact PySem.TriplesOk_snoc _ _ _ _ ht, fun p' cv hcv => ?_⟩
          rw [eL] at hcv
          rcases among_app _ ht hcv with z | z
          · obtain ⟨c0, e1, e2⟩ := ha p' cv z
            exact ⟨c0, e1, up _ _ e2 codeO_ne⟩
          · exact ⟨c', z, upd_same⟩
        · obtain ⟨ps', a1, a2, a3⟩ := hT p hp
          refine ⟨ps', by rw [upd_ne (ne_of_none a1 nC), upd_ne hb]; exact a1, a2, fun p' cv hcv => ?_⟩
          obtain ⟨c0, e1, e2⟩ := a3 p' cv hcv
          exact ⟨c0, e1, up _ _ e2 codeO_ne⟩
      · have n1 : h'.objs.size ≠ c' := Nat.ne_of_gt hlt
        have n2 : h'.objs.size ≠ P := Nat.ne_of_gt (Nat.lt_of_lt_of_le (Heap.lt_size hP') hsz)
        rw [upd_ne n1, upd_ne n2]
        exact I'.hok.fresh hsz
      · rw [upd_ne tC, upd_ne tP]
        exact nT
    | some cv =>
      obtain ⟨c', e, hco⟩ := ha pos cv hc
      subst e
      refine PySem.W.kdv_makeTailHit (mg := X.mg) (c := c) (P := P) (ps := ps) (closure_ok hfree) I'.ok.glob (I'.mod.glob.keeps I'.bk) hcode (TB.code.keeps I'.bk) hP' ht hc bP fun ctv doc h' tk hx hsz => ?_
      have I1 : L2.Inv X pins σ H { s1 with heap := h'.push (PySem.W.kdv_obj "<lambda>" (X.env.qual ++ "<lambda>") params (.expr body) scope (cloFrom X.env.cells scope.names []) (.ref t) doc ((X.mg "__name__").getD .none) c' ctv), toks := tk } := I'.kept fun b o e => Heap.get?_push_of_some _ (hx b o e)
      exact h h'.objs.size c' t dv ((X.mg "__name__").getD .none) doc ctv H _ I1 (.inl rfl) hT (Heap.get?_push_size _ rfl) (I'.hok.fresh hsz) (nofr _ hsz) (Heap.get?_push_of_some _ (hx _ _ ot)) nT nofr0 hco

  exact goal_
end
/-- such a lambda is called without arguments -/
theorem bindD {s : Shared} {q : Str} {a : Arg} {body : Expr} {scope : Scope} {cl : List (Str × Addr)} {t : Addr} {dv doc pm cv ctv : Value} {ds : List Expr} (ot : s.heap.get? t = some (PySem.W.kdv_tup [dv])) :
    BindsTo s (PySem.W.kdv_fn "<lambda>" q ⟨[], [a], none, [], [], none, ds⟩ (.expr body) scope cl (.ref t) doc pm cv ctv) ⟨[], []⟩ [(a.arg, dv)] := by
  refine BindsTo.of_defaults rfl ot rfl rfl ?_
  dsimp only
  simp
/-- x(), in the def that got the lambda -/
theorem pe_actD {X : Cx} {pins : List (Addr × Obj)} {σ : L2.St} {H : Hp} {s : Shared} {CXg : CXT} {Eg : XK} {Ng : List Str} {qg : Str} {sg : Scope} {g f c' t : Addr} {cdg dv pm doc ctv : Value} {ar : Arg} {ds : List Expr} {body : Expr} {scope : Scope} {k i : Nat} {a : Str} {pn : List (Addr × Obj)} {xe : Value → Shared → Prop} {W : WX} {E : XK} {tb : TE} {p1 p2 : Pos}
    (I : Inv X pins σ H s) (L : LamD X.env.scope scope ar.arg) (hNo : ar.arg ∉ X.N) (hf : s.heap.get? f = some (PySem.W.kdv_obj "<lambda>" (X.env.qual ++ "<lambda>") ⟨[], [ar], none, [], [], none, ds⟩ (.expr body) scope (cloFrom X.env.cells scope.names []) (.ref t) doc pm c' ctv)) (hfn : H f = none) (hfr : f ∉ frs X.stack)
    (ht0 : s.heap.get? t = some (PySem.W.kdv_tup [dv])) (htn : H t = none) (htf : t ∉ frs X.stack)
    (tk : Takes ((cxOf CXg X.prog X.w X.K X.mg X.base Ng qg sg g cdg X.A X.stack s H Eg).tr pn xe) W) (hW : ∀ cls d σ' H', E cls d H' → W cls d σ' H') (hr : Room (k + 1) (X.A.deeper (envOfC qg sg s.heap.objs.size g cdg)))
    (hbody : ∀ (A : Around) (outer : List Env) (s : Shared) (H : Hp), A.guards = X.A.guards → Room k (A.deeper (lamEnv X scope s.heap.objs.size f c')) → PE (lamCx X A outer s H E scope f c') body tb)
    (hN : Ng[i]? = some a) (hv : Vis sg a) (hd : (a == ("__debug__" : Str)) = false) (hcd : (a == ("__classdict__" : Str)) = false) :
    PE ((cxOf CXg X.prog X.w X.K X.mg X.base Ng qg sg g cdg X.A X.stack s H Eg).tr pn xe) (.Call (.Name a p1) [] [] p2)
      (fun σZ HZ Q => σZ[i]? = some (some (.ref f)) ∧ HZ c' = some (CodeO c' (X.env.qual ++ "<lambda>")) ∧ tb σ HZ Q) := by
  refine ⟨fun pinsZ sZ σZ HZ Q IZ h => ?_⟩
  obtain ⟨hs, hc, ht⟩ := h
  refine wpAny_Call_Name_kw (thn ((pe_var (pos := p1) (i := i) hN hv hd hcd).run pinsZ sZ σZ HZ (fun v H1 => v = .ref f ∧ H1 = HZ) IZ ⟨.ref f, hs, rfl, rfl⟩) fun u s1 ⟨v, H1, I1, r1, q1⟩ => ?_)
  obtain ⟨ev, eH⟩ := q1
  subst ev
  rw [eH] at I1
  obtain rfl : u = Value.ref f := r1
  have of1 : s1.heap.get? f = some (PySem.W.kdv_obj "<lambda>" (X.env.qual ++ "<lambda>") ⟨[], [ar], none, [], [], none, ds⟩ (.expr body) scope (cloFrom X.env.cells scope.names []) (.ref t) doc pm c' ctv) := I1.base.keep f _ hf hfn hfr (fun z => nomatch (show f ∈ ([] : List Addr) from z))
  have ot1 : s1.heap.get? t = some (PySem.W.kdv_tup [dv]) := I1.base.keep t _ ht0 htn htf (fun z => nomatch (show t ∈ ([] : List Addr) from z))
  refine PySem.W.callWith_F0 ⟨_, _, _, _, of1⟩ ?_
  obtain ⟨⟨oc, vs, t2, hoc, hdc, hvc⟩, _, _⟩ := I1.hok c' _ hc
  have rc : codeAny (model X.prog X.w) (X.A.deeper (envOfC qg sg s.heap.objs.size g cdg)) (.call (.ref f) ⟨[], []⟩) (CR (L2.CX X.prog X.w) (envOfC qg sg s.heap.objs.size g cdg :: X.stack) X.prog X.w HZ s1 Q E) s1 := by
    refine PySem.W.kla_callFunE hr.depth of1 rfl L.co L.gen rfl ⟨c', oc, vs, t2, rfl, hoc, hdc, hvc⟩ ?_
    refine bindD ot1 _ _ _ _ (wpAny_newFunctionEnv (fun y hy => (L.own y hy).1) (fun y hy => ?_) (fun h₁ hns hsb => ⟨I1.nolimit.fresh _ hsb, ?_⟩) L.kind)
    · rw [List.mem_singleton.mp hy]
      exact L.loc
    show codeAny _ _ (.expr body (lamEnv X scope s1.heap.objs.size f c')) _ _
    have kp : ∀ b o, s1.heap.get? b = some o → h₁.get? b = some o := fun b o e => hsb.extBut b o (Nat.ne_of_lt (Heap.lt_size e)) (Heap.get?_push_of_some _ e)
    have J : Inv (lamCx X (X.A.deeper (envOfC qg sg s.heap.objs.size g cdg)) (envOfC qg sg s.heap.objs.size g cdg :: X.stack) s1 HZ E scope f c') [] σ HZ { s1 with heap := h₁, toks := s1.toks + ([(ar.arg, dv)] : List (Str × Value)).length } :=
      lam_startD I L hNo I1.env0 hr.hd I1.base hns kp
    refine PySem.W.kla_codeExpr (wpAny_mono ((hbody (X.A.deeper (envOfC qg sg s.heap.objs.size g cdg)) _ s1 HZ rfl (hr.deeper _)).run [] _ _ HZ Q J ht) (fun v s' hq => ?_) fun e s' hq => hq)
    obtain ⟨w', H', J', rv, q⟩ := hq
    exact ⟨w', H', J'.os, J'.bare, J'.base, J'.hok, rv, q⟩
  have hx : Passes (L2.CX X.prog X.w) ((cxOf CXg X.prog X.w X.K X.mg X.base Ng qg sg g cdg X.A X.stack s H Eg).tr pn xe) E := passes_call tk hW
  refine wpAny_call (codeAny_mono rc fun r s' hq => ?_)
  cases r with
  | error e => exact hx pinsZ σZ HZ s1 e s' I1 hq
  | ok fl =>
    cases fl with
    | ret u => exact I1.after hq
    | next => exact False.elim hq
    | brk => exact False.elim hq
    | cont => exact False.elim hq
/-- x(lambda y=0: body) -/
theorem pe_lamD {X : Cx} {T : List (Addr × Str)} {TT : (XK → Hp → VK → Prop) → Hp → VK → Prop} {x a : Str} {g c P : Addr} {k : Nat} {pg : Arguments} {bg : List Stmt} {sg : Scope} {dV kV doc pm cdv ct oc : Value} {an od : Option Addr} {osl : Array (Option Value)} {Ng : List Str}
    {ar : Arg} {n : Int} {kd : Nat} {pd : Pos} {body : Expr} {scope : Scope} {t : XK → TE} {p lpos pos : Pos} (hg : Gl X x) (hm : X.mg x = some (.ref g)) (hk : PySem.W.keepIn X.K (.ref g) = true)
    (lk : X.K.lookup g = some ⟨oc, od, .func (PySem.W.fnOf x x pg bg sg dV kV doc pm an cdv ct), osl⟩) (hcg : PySem.W.codeIn X.K cdv x = true) (hb : L2.Binds X.K (PySem.W.fnOf x x pg bg sg dV kV doc pm an cdv ct) [a] []) (Sg : FnScope Ng [a] sg) (hNg : Ng[0]? = some a) (hva : Vis sg a)
    (hG : GivesTo X Ng x sg g cdv bg a (X.env.qual ++ "<lambda>") TT)
    (TB : TabB X.base X.mg c P) (hcode : X.env.code = .ref c) (hmT : (P, X.env.qual ++ "<lambda>") ∈ T) (hu : ∀ p ∈ T, p.1 = P → p.2 = X.env.qual ++ "<lambda>") (hr : Room (k + 2) X.A) (L : LamD X.env.scope scope ar.arg) (hNo : ar.arg ∉ X.N)
    (hbody : ∀ (A : Around) (outer : List Env) (s : Shared) (H : Hp) (E : XK) (f c' : Addr), A.guards = X.A.guards → Room k (A.deeper (lamEnv X scope s.heap.objs.size f c')) → PE (lamCx X A outer s H E scope f c') body (t E))
    (hdb : (x == ("__debug__" : Str)) = false) (hd : (a == ("__debug__" : Str)) = false) (hcd : (a == ("__classdict__" : Str)) = false) :
    PE X (.Call (.Name x p) [.Lambda ⟨[], [ar], none, [], [], none, [.Constant (.int n) kd pd]⟩ body scope lpos] [] pos) (tLam3 P (X.env.qual ++ "<lambda>") T TT t) := by
  refine ⟨fun pins s σ H Q I h => ?_⟩
  obtain ⟨hT, h⟩ := h
  refine wpAny_Call_Name_kw (ld_glob I hg hm ?_ hdb)
  refine PySem.W.callWith_K (h₀ := X.base) I.ok.mod.kin hk ?_ (by rfl) (by rfl)
  show wpAny _ _ (spliced ((false, eval (.Lambda ⟨[], [ar], none, [], [], none, [.Constant (.int n) kd pd]⟩ body scope lpos) X.env) :: backTo pos (starEach [] X.env))) _ _ s
  refine Calls.spliced_cons (lam_makeD I TB hcode hmT hu hT rfl rfl rfl (L.has I.ok) fun f c' t' dv' pm' doc' ctv H1 s' I1 eN T1 hf hfn hfr ht0 htn htf hco => ?_)
  refine Calls.spliced_nil ⟨I1.kIn, ?_⟩
  have rc : codeAny (model X.prog X.w) X.A (.call (.ref g) ⟨[.ref f], []⟩) (CR C8.CX0 X.stack X.prog X.w H1 s' Q C8.E0) s' := by
    refine run_ofS (N := Ng) (ps := [a]) (us := [.ref f]) (vs := [.ref f]) lk hcg Sg hr I1.env0 (hb s' [.ref f] I1.kIn rfl) (.cons rfl .nil) rfl fun hr' => ?_
    obtain ⟨t', ht', hq'⟩ := hG f c' s' H1 Q (fun E H' Q' => t E σ H' Q') (fun W pn xe E p1 p2 tk hW => pe_actD (i := 0) I1 L hNo hf hfn hfr ht0 htn htf tk hW hr' (fun A outer s H hg2 hr2 => hbody A outer s H E f c' hg2 hr2) hNg hva hd hcd) hco (h H1 eN T1)
    exact ⟨t', ht'.nox, hq'⟩
  refine wpAny_call (codeAny_mono rc fun r s2 hq => ?_)
  cases r with
  | error e => exact (show False from hq).elim
  | ok fl =>
    cases fl with
    | ret u => exact I1.after hq
    | next => exact False.elim hq
    | brk => exact False.elim hq
    | cont => exact False.elim hq
end Q

/-! Lay12b: x(lambda: e), x a def that calls e within try and tells what came. -/
namespace Q
open PySem L2 LamX
section
variable {S : Type} {C : Cn S} {W : L2.WX} {X : Cx}
def saidO (tb : List (Str × Str × List Str)) : Res S D → Res S D
  | .ok d s1 => .ok (.lst [d]) s1
  | .err x s1 => (match tb.lookup x.cls with
    | some (lab, fls) => (match fls.mapM fun g => x.flds.lookup g with
      | some ds => .ok (.tup (.str lab :: ds)) s1
      | none => .stuck)
    | none => .stuck)
  | .stuck => .stuck
  | .new p g => .new p fun a => saidO tb (g a)
def saidE (tb : List (Str × Str × List Str)) (f : EvF S) : EvF S := fun ρ s => saidO tb (f ρ s)
theorem Run.step {P : Pt} {σ : L2.St} {H H1 : Hp} {s s1 : S} {α : Type} {m : Res S α} {k : α → S → Hp → Prop} (h : Run C W P σ H s m k) (x : Xt C.T s s1 H H1) : Run C W P σ H1 s1 m k := by
  exact h.behind x
/-- behind the making of a lambda -/
theorem xt_made {T : StK S} {s : S} {H H1 : Hp} {P : Addr} {q : Str} (m : Made P q H H1) (hP : T.A s P) : Xt T s s H H1 := by
  rcases m with rfl | ⟨ps, more, c, h1, h2, rfl⟩
  · exact Xt.refl
  · refine ⟨fun a o e n => ?_, fun a n => ?_, fun _ h => .inl h⟩
    · rw [upd_ne (ne_of_none e h2), upd_ne (fun z => n (by rw [z]; exact hP))]
      exact e
    · by_cases hc : a = c
      · rw [hc, upd_same]; simp
      · rw [upd_ne hc]
        by_cases hp : a = P
        · rw [hp, upd_same]; simp
        · rw [upd_ne hp]; exact n
theorem xt_grown {T : StK S} {s : S} {H H1 : Hp} (g : Grown H H1) : Xt T s s H H1 := ⟨fun a o e _ => g a o e, fun a h => by
  cases e : H a with
  | none => exact absurd e h
  | some o => rw [g a o e]; simp, fun _ h => .inl h⟩
/-- the clauses' classes, by name and apart -/
structure CzsOk (C : Cn S) (K : PySem.W.Frag) (zs : List Cz) : Prop where
  cls : ∀ z ∈ zs, C.cls z.x = some z.c
  ne : ∀ z ∈ zs, z.fls ≠ []
  nd : (zs.map (·.x)).Nodup
  exm : ∀ z ∈ zs, ∀ z' ∈ zs, PySem.W.exmOne K (.ref z.c) (.ref z'.c) = some (decide (z.x = z'.x))
theorem zip_lookup {fls : List (Str × D)} {vs : List V} {K : PySem.W.Frag} {H : Hp} {F : Addr → Prop} (r : RpL K H F vs (fls.map (·.2))) : ∀ (gs : List Str) (ds : List D), gs.mapM (fun g => fls.lookup g) = some ds → ∃ ws, (gs.map fun g => (((fls.map (·.1)).zip vs).lookup g)) = ws.map some ∧ RpL K H F ws ds := by
  have one : ∀ (fls : List (Str × D)) (vs : List V), RpL K H F vs (fls.map (·.2)) → ∀ g d, fls.lookup g = some d → ∃ v, ((fls.map (·.1)).zip vs).lookup g = some v ∧ Rp K H F v d := by
    intro fls
    induction fls with
    | nil => intro vs r g d h; cases h
    | cons p fls ih =>
      intro vs r g d h
      obtain ⟨y, e⟩ := p
      cases r with
      | cons rv rr =>
        rename_i v vs
        rw [List.lookup_cons] at h
        by_cases q : (g == y) = true
        · rw [q] at h
          cases h
          exact ⟨v, by simp only [List.map_cons, List.zip_cons_cons, List.lookup_cons, q], rv⟩
        · have q' : (g == y) = false := Bool.eq_false_iff.mpr q
          rw [q'] at h
          obtain ⟨w, e1, e2⟩ := ih vs rr g d h
          exact ⟨w, by simp only [List.map_cons, List.zip_cons_cons, List.lookup_cons, q']; exact e1, e2⟩
  intro gs
  induction gs with
  | nil => intro ds h; simp at h; subst h; exact ⟨[], rfl, .nil⟩
  | cons g gs ih =>
    intro ds h
    rw [List.mapM_cons] at h
    cases e : fls.lookup g with
    | none => rw [e] at h; simp at h
    | some d =>
      rw [e] at h
      cases e2 : gs.mapM (fun g => fls.lookup g) with
      | none => rw [e2] at h; simp at h
      | some ds' =>
        rw [e2] at h
        simp at h
        subst h
        obtain ⟨v, a1, a2⟩ := one fls vs r g d e
        obtain ⟨ws, b1, b2⟩ := ih ds' e2
        exact ⟨v :: ws, by rw [List.map_cons, a1, b1]; rfl, .cons a2 b2⟩
def tbOf (zs : List Cz) : List (Str × Str × List Str) := zs.map fun z => (z.x, z.lab, z.fls)
/-- what is made of an exception by the one clause that is for its class -/
def wGen (Q : VK) (K : PySem.W.Frag) (zs : List Cz) : XK := fun cls d H => ∃ z ∈ zs, cls = .ref z.c ∧ ∃ (dd : Addr) (fs : List (Str × V)) (vs : List V), d = some dd ∧ H dd = some (.xd fs) ∧ (z.fls.map fun f => fs.lookup f) = vs.map some ∧
  ∀ H' p, Grown H H' → SqT K H' p (.str z.lab :: vs) → Q (.ref p) H'
/-- what a def that hears a call has to make of it -/
def TTgen (K : PySem.W.Frag) (zs : List Cz) : (XK → Hp → VK → Prop) → Hp → VK → Prop := fun tl H Q => ∀ H1, Grown H H1 → tl (wGen Q K zs) H1 fun v H' => ∀ p, H' p = none → Q (.ref p) (upd H' p (.lst [v]))
def MonoT (tl : XK → Hp → VK → Prop) : Prop := ∀ (E E' : XK) (H : Hp) (Q : VK), (∀ c d H, E c d H → E' c d H) → tl E H Q → tl E' H Q
theorem said_err {F : Addr → Prop} {H : Hp} {y : Exn} {cls : Value} {dd : Option Addr} {Q : VK} {lab : Str} {fls : List Str} {ds : List D} {zs : List Cz} {K : PySem.W.Frag} (ok : CzsOk C K zs) (hl : (tbOf zs).lookup y.cls = some (lab, fls)) (rx : RX C F H y cls dd) (hds : fls.mapM (fun g => y.flds.lookup g) = some ds)
    (hQ : ∀ ws H' p, RpL C.K H F ws ds → Grown H H' → SqT K H' p (.str lab :: ws) → Q (.ref p) H') : wGen Q K zs cls dd H := by
  obtain ⟨c, h1, h2, h3, h4⟩ := rx
  have found : ∀ zs : List Cz, (tbOf zs).lookup y.cls = some (lab, fls) → ∃ z ∈ zs, z.x = y.cls ∧ z.fls = fls ∧ z.lab = lab := by
    intro zs
    induction zs with
    | nil => intro h; cases h
    | cons z zs ih =>
      intro h
      unfold tbOf at h
      rw [List.map_cons, List.lookup_cons] at h
      by_cases q : (y.cls == z.x) = true
      · rw [q] at h
        cases h
        exact ⟨z, List.mem_cons_self, (beq_iff_eq.mp q).symm, rfl, rfl⟩
      · rw [Bool.eq_false_iff.mpr q] at h
        obtain ⟨w, hw, r⟩ := ih h
        exact ⟨w, List.mem_cons_of_mem _ hw, r⟩
  obtain ⟨z, hz, e0, e1, e2⟩ := found zs hl
  have hc : z.c = c := by
    have := ok.cls z hz
    rw [e0, h1] at this
    exact (Option.some.inj this).symm
  have hne : y.flds ≠ [] := fun z1 => by
    have n := ok.ne z hz
    rw [e1] at n
    cases e : fls with
    | nil => exact n e
    | cons g gs => rw [e, z1, List.mapM_cons] at hds; simp at hds
  obtain ⟨dx, vs, a1, a2, a3⟩ := h4 hne
  obtain ⟨ws, b1, b2⟩ := zip_lookup a3 _ _ hds
  exact ⟨z, hz, by rw [h2, hc], dx, _, ws, a1, a2, by rw [e1]; exact b1, fun H' p g sq => hQ ws H' p b2 g (by rw [← e2]; exact sq)⟩
/-- what is known of the def x that tells what came, in a maker's context -/
structure SaidF (C : Cn S) (X : Cx) (x : Str) (zs : List Cz) (k : Nat) : Prop where
  ok : ∃ (T : List (Addr × Str)) (a : Str) (g c P : Addr) (pg : Arguments) (bg : List Stmt) (sg : Scope) (dV kV doc pm cdv ct oc : Value) (an od : Option Addr) (osl : Array (Option Value)) (Ng : List Str),
    X.mg x = some (.ref g) ∧ PySem.W.keepIn X.K (.ref g) = true ∧ X.K.lookup g = some ⟨oc, od, .func (PySem.W.fnOf x x pg bg sg dV kV doc pm an cdv ct), osl⟩ ∧ PySem.W.codeIn X.K cdv x = true ∧ L2.Binds X.K (PySem.W.fnOf x x pg bg sg dV kV doc pm an cdv ct) [a] [] ∧ FnScope Ng [a] sg ∧ Ng[0]? = some a ∧ Vis sg a ∧
    (X.A.guards = some [] → ∃ TT, (∀ tl H Q, MonoT tl → TTgen X.K zs tl H Q → TT tl H Q) ∧ GivesTo X Ng x sg g cdv bg a (X.env.qual ++ "<lambda>") TT) ∧ TabB X.base X.mg c P ∧ X.env.code = .ref c ∧ (P, X.env.qual ++ "<lambda>") ∈ T ∧ (∀ p ∈ T, p.1 = P → p.2 = X.env.qual ++ "<lambda>") ∧
    (a == ("__debug__" : Str)) = false ∧ (a == ("__classdict__" : Str)) = false ∧ (∀ s H, C.T.R s H → Tabs T H) ∧ (∀ s H H1, C.T.R s H → Made P (X.env.qual ++ "<lambda>") H H1 → Tabs T H1 → C.T.R s H1) ∧ ∀ s, C.T.A s P
  room : Room (k + 2) X.A
  zs : CzsOk C X.K zs
theorem sd_said {N : List Str} {sc : Scope} (k : Xk C W X N sc) {x : Str} {zs : List Cz} {kk : Nat} {f : EvF S} {params : Arguments} {body : Expr} {scope : Scope} {p lpos pos : Pos} (F : SaidF C X x zs kk) (hg : glB sc x = true) (L : LamS X.env.scope scope) (hdef : defaultsOf params X.env = ([], []))
    (hbind : ∀ (q : Str) (cl : List (Str × Addr)) (pm cv ctv : Value), bindArgs (PySem.W.kla_fn "<lambda>" q params body scope cl pm cv ctv) ⟨[], []⟩ = pure [])
    (hbody : ∀ (A : Around) (outer : List Env) (s : Shared) (H : Hp) (E : XK) (f' c' : Addr), A.guards = X.A.guards → Room kk (A.deeper (lamEnv X scope s.heap.objs.size f' c')) → PE (lamCx X A outer s H E scope f' c') body (tP C (fun cl d _ H => E cl d H) f)) :
    PE X (.Call (.Name x p) [.Lambda params body scope lpos] [] pos) (tF C W (saidE (tbOf zs) f)) := by
  obtain ⟨T, a, g, c, P, pg, bg, sg, dV, kV, doc, pm, cdv, ct, oc, an, od, osl, Ng, m1, m2, m3, m4, m5, m6, m7, m8, m9, m10, m11, m12, m13, m14, m15, m16, m17, m18⟩ := F.ok
  obtain ⟨g1, g2, g3⟩ := gl_of k hg
  obtain ⟨TT, mT, m9⟩ := m9 k.gd
  refine pe_mono (pe_lam3 g1 m1 m2 m3 m4 m5 m6 m7 m8 m9 m10 m11 m12 m13 F.room L hdef hbind (fun A outer s H E f' c' hg hr => hbody A outer s H E f' c' hg hr) g2 m14 m15) fun σ H Q ⟨P0, s, R, q⟩ => ⟨m16 _ _ R.st, fun H1 mk t1 => ?_⟩
  have x1 := xt_made mk (m18 s)
  have R1 := R.xt x1 (m17 _ _ _ R.st mk t1)
  refine mT _ _ _ (fun E E' H Q hE h => ?_) fun H1' g1' => ?_
  · obtain ⟨P0, s, R, q⟩ := h
    refine ⟨P0, s, R, ?_⟩
    revert q
    induction f P0.ρ s with
    | ok d s1 => exact fun q => q
    | err y s1 => exact fun q cls dd H2 R3 x3 rx => hE _ _ _ (q cls dd H2 R3 x3 rx)
    | stuck => exact fun q => q
    | new p g ih => exact fun q a ha => ih a (q a ha)
  have x2 : Xt C.T s s H H1' := x1.trans (xt_grown g1')
  have R2 : Rel C P0 σ H1' s := R1.xt (xt_grown g1') (C.T.mono R1.st fun a o _ e => g1' a o e)
  refine ⟨P0, s, R2, ?_⟩
  unfold saidE at q
  revert q
  induction f P0.ρ s with
  | ok d s1 =>
    intro q H2 R3 x3 v rv p hp
    have x4 : Xt C.T s s1 H H2 := x2.trans x3
    refine q (upd H2 p (.lst [v])) (R3.new hp) (x4.trans (Xt.new hp)) (.ref p) ?_
    exact (Fr.newL R3 hp (.cons rv .nil)).back x4
  | err y s1 =>
    intro q
    unfold saidO at q
    split at q
    · rename_i lab fls hl
      split at q
      · rename_i ds hds
        intro cls dd H2 R3 x3 rx
        have x4 : Xt C.T s s1 H H2 := x2.trans x3
        refine said_err F.zs hl rx hds fun ws H3 p rw' g3 sq => ?_
        have R4 : Rel C P0 σ H3 s1 := R3.xt (xt_grown g3) (C.T.mono R3.st fun a o _ e => g3 a o e)
        refine q H3 R4 (x4.trans (xt_grown g3)) (.ref p) ⟨.tup (by rw [k.K]; exact sq) (.cons (.str lab) (rw'.xt (xt_grown g3) R3.st)), fun ds z => by cases z⟩
      · exact q.elim
    · exact q.elim
  | stuck => exact fun q => q
  | new p g ih => exact fun q a ha => ih a (q a ha)
/-- .. x(lambda y=0: e) -/
theorem sd_saidD {N : List Str} {sc : Scope} (k : Xk C W X N sc) {x : Str} {zs : List Cz} {kk : Nat} {f : EvF S} {ar : Arg} {n : Int} {kd : Nat} {pd : Pos} {body : Expr} {scope : Scope} {p lpos pos : Pos} (F : SaidF C X x zs kk) (hg : glB sc x = true) (L : LamD X.env.scope scope ar.arg) (hNo : ar.arg ∉ X.N)
    (hbody : ∀ (A : Around) (outer : List Env) (s : Shared) (H : Hp) (E : XK) (f' c' : Addr), A.guards = X.A.guards → Room kk (A.deeper (lamEnv X scope s.heap.objs.size f' c')) → PE (lamCx X A outer s H E scope f' c') body (tP C (fun cl d _ H => E cl d H) f)) :
    PE X (.Call (.Name x p) [.Lambda ⟨[], [ar], none, [], [], none, [.Constant (.int n) kd pd]⟩ body scope lpos] [] pos) (tF C W (saidE (tbOf zs) f)) := by
  obtain ⟨T, a, g, c, P, pg, bg, sg, dV, kV, doc, pm, cdv, ct, oc, an, od, osl, Ng, m1, m2, m3, m4, m5, m6, m7, m8, m9, m10, m11, m12, m13, m14, m15, m16, m17, m18⟩ := F.ok
  obtain ⟨g1, g2, g3⟩ := gl_of k hg
  obtain ⟨TT, mT, m9⟩ := m9 k.gd
  refine pe_mono (pe_lamD g1 m1 m2 m3 m4 m5 m6 m7 m8 m9 m10 m11 m12 m13 F.room L hNo (fun A outer s H E f' c' hg hr => hbody A outer s H E f' c' hg hr) g2 m14 m15) fun σ H Q ⟨P0, s, R, q⟩ => ⟨m16 _ _ R.st, fun H1 mk t1 => ?_⟩
  have x1 := xt_made mk (m18 s)
  have R1 := R.xt x1 (m17 _ _ _ R.st mk t1)
  refine mT _ _ _ (fun E E' H Q hE h => ?_) fun H1' g1' => ?_
  · obtain ⟨P0, s, R, q⟩ := h
    refine ⟨P0, s, R, ?_⟩
    revert q
    induction f P0.ρ s with
    | ok d s1 => exact fun q => q
    | err y s1 => exact fun q cls dd H2 R3 x3 rx => hE _ _ _ (q cls dd H2 R3 x3 rx)
    | stuck => exact fun q => q
    | new p g ih => exact fun q a ha => ih a (q a ha)
  have x2 : Xt C.T s s H H1' := x1.trans (xt_grown g1')
  have R2 : Rel C P0 σ H1' s := R1.xt (xt_grown g1') (C.T.mono R1.st fun a o _ e => g1' a o e)
  refine ⟨P0, s, R2, ?_⟩
  unfold saidE at q
  revert q
  induction f P0.ρ s with
  | ok d s1 =>
    intro q H2 R3 x3 v rv p hp
    have x4 : Xt C.T s s1 H H2 := x2.trans x3
    refine q (upd H2 p (.lst [v])) (R3.new hp) (x4.trans (Xt.new hp)) (.ref p) ?_
    exact (Fr.newL R3 hp (.cons rv .nil)).back x4
  | err y s1 =>
    intro q
    unfold saidO at q
    split at q
    · rename_i lab fls hl
      split at q
      · rename_i ds hds
        intro cls dd H2 R3 x3 rx
        have x4 : Xt C.T s s1 H H2 := x2.trans x3
        refine said_err F.zs hl rx hds fun ws H3 p rw' g3 sq => ?_
        have R4 : Rel C P0 σ H3 s1 := R3.xt (xt_grown g3) (C.T.mono R3.st fun a o _ e => g3 a o e)
        refine q H3 R4 (x4.trans (xt_grown g3)) (.ref p) ⟨.tup (by rw [k.K]; exact sq) (.cons (.str lab) (rw'.xt (xt_grown g3) R3.st)), fun ds z => by cases z⟩
      · exact q.elim
    · exact q.elim
  | stuck => exact fun q => q
  | new p g ih => exact fun q a ha => ih a (q a ha)
end
end Q

/-! Lay9b: comprehensions of two sources. -/
namespace Q
open PySem L2
section
variable {S : Type} {C : Cn S} {W : L2.WX} {X : Cx}
def lstsOf : D → Option (List D)
  | .lst es => some es
  | _ => none
def lcGo2 (h : D → List Sl → Option (List Sl)) (ft : EvT' S) (fi1 : EvF S) (h1 : D → List Sl → Option (List Sl)) (ft1 : EvT' S) (fe : EvF S) (vs1 : List Nat) (ρ : List Sl) : List D → S → Res S (List D)
  | [], s => .ok [] s
  | d :: ds, s => match h d ρ with
    | none => .stuck
    | some ρ2 => (ft ρ2 s).noErr0.bind fun b s1 => if b = true then (fi1 ρ2 s1).noErr0.bind fun d s2 => (ofO (lstsOf d) s2).bind fun es s2 => if vs1.any (ownAt ρ2) then .stuck else (lcGo0 h1 ft1 fe (wipeR ρ2 vs1) es s2).bind fun ys s3 => (lcGo2 h ft fi1 h1 ft1 fe vs1 ρ ds s3).bind fun zs s4 => .ok (ys ++ zs) s4 else lcGo2 h ft fi1 h1 ft1 fe vs1 ρ ds s1
def lcE2 (fi : EvL' S) (h : D → List Sl → Option (List Sl)) (ft : EvT' S) (fi1 : EvF S) (h1 : D → List Sl → Option (List Sl)) (ft1 : EvT' S) (fe : EvF S) (vs vs1 : List Nat) : EvF S := fun ρ s => (fi ρ s).bind fun ds s1 =>
  if vs.any (ownAt ρ) then .stuck else (lcGo2 h ft fi1 h1 ft1 fe vs1 (wipeR ρ vs) ds s1).bind fun ys s2 => if ys.length ≤ sizeLine then .ok (.lst ys) s2 else .stuck
/-- well or stuck -/
def Plain {α : Type} : Res S α → Prop
  | .err _ _ => False
  | .new _ _ => False
  | _ => True
theorem plain_noErr {α : Type} (r : Res S α) : Plain r.noErr0 := by cases r <;> trivial
theorem plain_bind {α β : Type} {r : Res S α} {k : α → S → Res S β} (h : Plain r) (hk : ∀ a s, Plain (k a s)) : Plain (r.bind k) := by
  cases r with
  | ok a s => exact hk a s
  | err x s => exact h
  | stuck => trivial
  | new p g => exact h
theorem plain_lcGo {h : D → List Sl → Option (List Sl)} {ft : EvT' S} {fe : EvF S} {ρ : List Sl} (ds : List D) (s : S) : Plain (lcGo0 h ft fe ρ ds s) := by
  cases e : lcGo0 h ft fe ρ ds s with
  | ok a s => trivial
  | stuck => trivial
  | err x s => exact lcGo0_ne _ _ _ _ e
  | new p g => exact lcGo0_nw _ _ _ _ e
theorem plain_lcGo2 {h : D → List Sl → Option (List Sl)} {ft : EvT' S} {fi1 : EvF S} {h1 : D → List Sl → Option (List Sl)} {ft1 : EvT' S} {fe : EvF S} {vs1 : List Nat} {ρ : List Sl} : ∀ (ds : List D) (s : S), Plain (lcGo2 h ft fi1 h1 ft1 fe vs1 ρ ds s)
  | [], s => trivial
  | d :: ds, s => by
    unfold lcGo2
    split
    · trivial
    · refine plain_bind (plain_noErr _) fun b s1 => ?_
      split
      · refine plain_bind (plain_noErr _) fun d s2 => plain_bind (by cases lstsOf d <;> trivial) fun es s2 => ?_
        split
        · trivial
        · exact plain_bind (plain_lcGo _ _) fun ys s3 => plain_bind (plain_lcGo2 ds s3) fun zs s4 => trivial
      · exact plain_lcGo2 ds s1
theorem t_lc2 {K : PySem.W.Frag} (hK : C.K = K) {fi : EvL' S} {h : D → List Sl → Option (List Sl)} {ft : EvT' S} {fi1 : EvF S} {h1 : D → List Sl → Option (List Sl)} {ft1 : EvT' S} {fe : EvF S} {vs ts vs1 ts1 : List Nat} {σ : L2.St} {H : Hp} {Q : VK} (ho : TgOk ts h) (hts : ∀ j ∈ ts, j ∈ vs) (ho1 : TgOk ts1 h1) (hts1 : ∀ j ∈ ts1, j ∈ vs1) (q : tF C W (lcE2 fi h ft fi1 h1 ft1 fe vs vs1) σ H Q) :
    tLc2 (tI false C W fi) (tG C ts h) (tT C W0 ft) (iSeqA K (tF C W0 fi1)) (tG C ts1 h1) (tT C W0 ft1) (tP C W0 fe) vs vs1 σ H Q := by
  obtain ⟨P, s, R, q⟩ := q
  refine ⟨P, s, R, q.bind.mono fun ds s1 H1 R1 x1 q1 J wm Da hDa => ?_⟩
  split at q1
  · exact q1.elim
  rename_i hv
  have pl := plain_lcGo2 (h := h) (ft := ft) (fi1 := fi1) (h1 := h1) (ft1 := ft1) (fe := fe) (vs1 := vs1) (ρ := wipeR P.ρ vs) ds s1
  cases e : lcGo2 h ft fi1 h1 ft1 fe vs1 (wipeR P.ρ vs) ds s1 with
  | stuck => rw [e] at q1; exact q1.elim
  | err x s' => rw [e] at pl; exact pl.elim
  | new p g => rw [e] at pl; exact pl.elim
  | ok ys s' =>
    clear pl
    rw [e] at q1
    simp only [Res.bind] at q1
    split at q1
    · rename_i hz
      have RZ0 : Rel C (P.addZ Da) σ (upd H1 Da (.lst [])) s1 := R1.addZ hDa
      refine ⟨fun i m H' => m = ds.length - i ∧ i ≤ ds.length ∧ ∃ si av ad yi, Rel C (P.addZ Da) σ H' si ∧ Xt C.T s1 si H1 H' ∧ H' Da = some (.lst av) ∧ RpL C.K H' (Fc C (P.addZ Da) si) av ad ∧ lcGo2 h ft fi1 h1 ft1 fe vs1 (wipeR P.ρ vs) (ds.drop i) si = .ok yi s' ∧ ad ++ yi = ys,
        ⟨ds.length, by simp, Nat.zero_le _, s1, [], [], ys, RZ0, Xt.new hDa, upd_same, .nil, by simpa using e, rfl⟩, ?_⟩
      rintro i m H' ⟨rfl, hi, si, av, ad, yi, RZ, x, hD, ra, el, ey⟩
      by_cases hlt : i < ds.length
      · right
        have hd : ds[i]? = some ds[i] := by simp [hlt]
        obtain ⟨g1, g2⟩ := wm.go i _ P si H' hd (by unfold Mv; rw [if_neg (by decide)]; exact ⟨rfl, x⟩) RZ.st
        refine ⟨g1, fun H'' => ∃ si av ad yi, Rel C (P.addZ Da) σ H'' si ∧ Xt C.T s1 si H1 H'' ∧ H'' Da = some (.lst av) ∧ RpL C.K H'' (Fc C (P.addZ Da) si) av ad ∧ lcGo2 h ft fi1 h1 ft1 fe vs1 (wipeR P.ρ vs) (ds.drop (i + 1)) si = .ok yi s' ∧ ad ++ yi = ys, fun H'' hh => ⟨ds.length - (i + 1), by omega, rfl, hlt, hh⟩, fun xv H3 yy => ?_⟩
        obtain ⟨y1, y2, y3⟩ := g2 xv H3 yy
        have RZ3 : Rel C (P.addZ Da) σ H3 si := RZ.xt y1 y2
        rw [List.drop_eq_getElem_cons hlt] at el
        unfold lcGo2 at el
        split at el
        · cases el
        rename_i ρ2 eh
        obtain ⟨b, sa, eb, el⟩ := bind_ok el
        have eb := noErr_ok eb
        have only := ho _ _ _ eh
        have rx : Rp C.K H3 (Fc C { P.addZ Da with ρ := wipeR P.ρ vs } si) xv ds[i] := y3.wk fun a f _ => by
          have f' := fc_addZ (a := Da) f.1 fun e => f.2 (by rw [e]; exact hDa)
          exact ⟨f'.1, fun q => f'.2.1 (root_wipe (P := P.addZ Da) q), f'.2.2.1, f'.2.2.2⟩
        refine ⟨{ P.addZ Da with ρ := wipeR P.ρ vs }, si, ds[i], ρ2, RZ3.wipe vs, rx, eh, fun σ2 R2 stp2 on2 => ⟨?_, ?_⟩⟩
        · have : L2.wipe σ2 vs = L2.wipe (L2.wipe σ vs) vs := wipe_ext on2.1 fun j hj => on2.2 j fun hj' => hj (hts j hj')
          rw [this]
          exact wipe_ext (wipe_length σ vs) fun j hj => wipe_out hj
        · -- the test, the inner source
          have agree : ∀ j, j ∉ vs → ρ2[j]? = P.ρ[j]? := fun j hj => (only.2 j fun hj' => hj (hts j hj')).trans (wipeR_out hj)
          refine ⟨_, si, R2, ?_⟩
          have eb' : ft ({ P.addZ Da with ρ := ρ2 } : Pt).ρ si = .ok b sa := eb
          rw [eb']
          intro H4 R4 x4
          have RZ4 : Rel C (P.addZ Da) σ H4 sa := RZ3.xt x4 R4.st
          have ra4 : RpL C.K H4 (Fc C (P.addZ Da) sa) av ad := (ra.xt y1 RZ.st).xt x4 y2
          have hD4 : H4 Da = some (.lst av) := x4.keep _ _ (y1.keep _ _ hD (RZ.za Da (.inr rfl)).2.2) (RZ3.za Da (.inr rfl)).2.2
          cases b with
          | false =>
            refine iteF ⟨sa, av, ad, yi, RZ4, (x.trans y1).trans x4, hD4, ra4, ?_, ey⟩
            simpa using el
          | true =>
            simp only [if_true] at el
            obtain ⟨dl, s2, e2, el⟩ := bind_ok el
            have e2 := noErr_ok e2
            obtain ⟨es, s2', e2b, el2⟩ := bind_ok el
            clear el
            have edl : dl = .lst es ∧ s2' = s2 := by
              cases dl <;> simp [lstsOf, ofO] at e2b
              exact ⟨by rw [e2b.1], e2b.2.symm⟩
            obtain ⟨rfl, rfl⟩ := edl
            by_cases hv1 : vs1.any (ownAt ρ2) = true
            · rw [if_pos hv1] at el2; cases el2
            rw [if_neg hv1] at el2
            obtain ⟨y0, s3, e3, el3⟩ := bind_ok el2
            obtain ⟨yr, s4, e4, el4⟩ := bind_ok el3
            cases el4
            refine iteT ⟨_, sa, R4, ?_⟩
            have e2' : fi1 ({ P.addZ Da with ρ := ρ2 } : Pt).ρ sa = .ok (.lst es) s2' := e2
            rw [e2']
            intro H5 R5 x5 vl frl
            obtain ⟨a1, xs, rfl, n1, l1, r1⟩ := frl.2 es rfl
            have f1 : Fc C ({ P.addZ Da with ρ := ρ2 } : Pt) s2' a1 := by
              have := frl.1
              cases this with
              | lst f _ _ => exact f
            have n1D : a1 ≠ Da := fun z => by rw [z, hD4] at n1; cases n1
            have RZ5 : Rel C (P.addZ Da) σ H5 s2' := RZ4.xt x5 R5.st
            have ra5 : RpL C.K H5 (Fc C (P.addZ Da) s2') av ad := ra4.xt x5 RZ4.st
            have hD5 : H5 Da = some (.lst av) := x5.keep _ _ hD4 (RZ4.za Da (.inr rfl)).2.2
            have hxl : xs.length = es.length := r1.length
            refine .inl ⟨a1, xs, rfl, .inl (.inl l1), fun j k H' => k = es.length - j ∧ j ≤ es.length ∧ ∃ sj av ad yj, Rel C (P.addZ Da) σ H' sj ∧ Rel C { P.addZ Da with ρ := ρ2 } σ2 H' sj ∧ Xt C.T s1 sj H1 H' ∧ H' Da = some (.lst av) ∧ RpL C.K H' (Fc C (P.addZ Da) sj) av ad ∧ H' a1 = some (.lst xs) ∧ ¬ C.T.A sj a1 ∧ RpL C.K H' (Fc C { P.addZ Da with ρ := ρ2 } sj) xs es ∧ lcGo0 h1 ft1 fe (wipeR ρ2 vs1) (es.drop j) sj = .ok yj s3 ∧ ad ++ (yj ++ yr) = ys,
              ⟨es.length, by simp, Nat.zero_le _, s2', av, ad, y0, RZ5, R5, ((x.trans y1).trans x4).trans x5, hD5, ra5, l1, f1.2.2.2, r1.wk fun a f _ => f.1, by simpa using e3, ey⟩, ?_⟩
            rintro j k H' ⟨rfl, hj, sj, av, ad, yj, QZ, Q2, xj, qD, rj, lj, nj, rl, elj, eyj⟩
            by_cases hjl : j < es.length
            · right
              have hxj : xs[j]? = some (xs[j]'(by omega)) := List.getElem?_eq_getElem (by omega)
              refine ⟨⟨xs, _, .inl (.inl lj), hxj⟩, fun H'' => ∃ sj av ad yj, Rel C (P.addZ Da) σ H'' sj ∧ Rel C { P.addZ Da with ρ := ρ2 } σ2 H'' sj ∧ Xt C.T s1 sj H1 H'' ∧ H'' Da = some (.lst av) ∧ RpL C.K H'' (Fc C (P.addZ Da) sj) av ad ∧ H'' a1 = some (.lst xs) ∧ ¬ C.T.A sj a1 ∧ RpL C.K H'' (Fc C { P.addZ Da with ρ := ρ2 } sj) xs es ∧ lcGo0 h1 ft1 fe (wipeR ρ2 vs1) (es.drop (j + 1)) sj = .ok yj s3 ∧ ad ++ (yj ++ yr) = ys, fun H'' hh => ⟨es.length - (j + 1), by omega, rfl, hjl, hh⟩, fun xv2 H6 yy2 => ?_⟩
              obtain ⟨rfl, yx⟩ := yy2
              have exv := yx xs (.inl (.inl lj))
              rw [List.drop_eq_getElem_cons hjl] at elj
              unfold lcGo0 at elj
              split at elj
              · cases elj
              rename_i ρ3 eh1
              obtain ⟨b, sb, eb1, elj⟩ := bind_ok elj
              have eb1 := noErr_ok eb1
              have only1 := ho1 _ _ _ eh1
              obtain ⟨ed, ged, rxv⟩ := rl.get' exv
              have ged' : ed = es[j] := by rw [List.getElem?_eq_getElem hjl] at ged; exact (Option.some.inj ged).symm
              subst ged'
              refine ⟨{ P.addZ Da with ρ := wipeR ρ2 vs1 }, sj, es[j], ρ3, Q2.wipe vs1, rxv.wk fun a f _ => ⟨f.1, fun q => f.2.1 (root_wipe (P := { P.addZ Da with ρ := ρ2 }) q), f.2.2.1, f.2.2.2⟩, eh1, fun σ3 R6 stp3 on3 => ⟨?_, ?_⟩⟩
              · have : L2.wipe σ3 vs1 = L2.wipe (L2.wipe σ2 vs1) vs1 := wipe_ext on3.1 fun j hj => on3.2 j fun hj' => hj (hts1 j hj')
                rw [this]
                exact wipe_ext (wipe_length σ2 vs1) fun j hj => wipe_out hj
              · have agree1 : ∀ j, j ∉ vs1 → ρ3[j]? = ρ2[j]? := fun j hj => (only1.2 j fun hj' => hj (hts1 j hj')).trans (wipeR_out hj)
                have back1 : ∀ {s2 : S} {a : Addr}, Fc C { P.addZ Da with ρ := ρ3 } s2 a → Fc C (P.addZ Da) s2 a := fun {s2 a} f =>
                  ⟨f.1, fun q => f.2.1 (root_only (P := { P.addZ Da with ρ := ρ2 }) (vs := vs1) hv1 agree1 (root_only (P := P.addZ Da) (vs := vs) hv agree q)), f.2.2.1, f.2.2.2⟩
                refine ⟨_, sj, R6, ?_⟩
                have eb1' : ft1 ({ P.addZ Da with ρ := ρ3 } : Pt).ρ sj = .ok b sb := eb1
                rw [eb1']
                intro H7 R7 x7
                have QZ7 : Rel C (P.addZ Da) σ H7 sb := QZ.xt x7 R7.st
                have Q27 : Rel C { P.addZ Da with ρ := ρ2 } σ2 H7 sb := Q2.xt x7 R7.st
                have rj7 := rj.xt x7 QZ.st
                have rl7 := rl.xt x7 QZ.st
                have qD7 : H7 Da = some (.lst av) := x7.keep _ _ qD (QZ.za Da (.inr rfl)).2.2
                have lj7 : H7 a1 = some (.lst xs) := x7.keep _ _ lj nj
                have nj7 : ¬ C.T.A sb a1 := fun q => (x7.grow _ q).elim nj fun z => by rw [lj] at z; cases z
                cases b with
                | false =>
                  refine iteF ⟨sb, av, ad, yj, QZ7, Q27, xj.trans x7, qD7, rj7, lj7, nj7, rl7, ?_, eyj⟩
                  simpa using elj
                | true =>
                  simp only [if_true] at elj
                  obtain ⟨y, sc, e6, elj⟩ := bind_ok elj
                  have e6 := noErr_ok e6
                  obtain ⟨yr2, sd, e7, elj⟩ := bind_ok elj
                  cases elj
                  refine iteT ⟨_, sb, R7, ?_⟩
                  have e6' : fe ({ P.addZ Da with ρ := ρ3 } : Pt).ρ sb = .ok y sc := e6
                  rw [e6']
                  intro H8 R8 x8 v rv
                  have QZ8 : Rel C (P.addZ Da) σ H8 sc := QZ7.xt x8 R8.st
                  have Q28 : Rel C { P.addZ Da with ρ := ρ2 } σ2 H8 sc := Q27.xt x8 R8.st
                  have rj8 := rj7.xt x8 QZ7.st
                  have rl8 := rl7.xt x8 QZ7.st
                  have qD8 : H8 Da = some (.lst av) := x8.keep _ _ qD7 (QZ7.za Da (.inr rfl)).2.2
                  have lj8 : H8 a1 = some (.lst xs) := x8.keep _ _ lj7 nj7
                  have nj8 : ¬ C.T.A sc a1 := fun q => (x8.grow _ q).elim nj7 fun z => by rw [lj7] at z; cases z
                  have fD : ∀ b, Fc C (P.addZ Da) sc b → b ≠ Da := fun b f => (fc_unZ f).2
                  have fD2 : ∀ b, Fc C { P.addZ Da with ρ := ρ2 } sc b → b ≠ Da := fun b f z => f.2.2.1 (by rw [z]; exact .inr rfl)
                  refine ⟨av, qD8, ?_, sc, av ++ [v], ad ++ [y], yr2, QZ8.zmod (.inr rfl) qD8, Q28.zmod (.inr rfl) qD8, ?_, upd_same, ?_, by rw [upd_ne n1D]; exact lj8, nj8, rl8.step (stays_zmod qD8 fD2) fun b f _ => f, e7, by rw [← eyj]; simp⟩
                  · have : ad.length < ys.length := by rw [← eyj]; simp
                    rw [rj8.length]; omega
                  · have xx := (xj.trans x7).trans x8
                    refine ⟨fun a o ea na => by rw [upd_ne (ne_of_none ea hDa)]; exact xx.keep a o ea na, fun a na => ?_, xx.grow⟩
                    by_cases hab : a = Da
                    · subst hab; rw [upd_same]; simp
                    · rw [upd_ne hab]; exact xx.live a na
                  · exact (rj8.append (.cons (rv.wk fun a f _ => back1 f) .nil)).step (stays_zmod qD8 fD) fun b f _ => f
            · left
              have hin : j = es.length := by omega
              subst hin
              rw [List.drop_length] at elj
              simp only [lcGo0, Res.ok.injEq] at elj
              obtain ⟨rfl, rfl⟩ := elj
              exact ⟨⟨xs, .inl (.inl lj), by omega⟩, sj, av, ad, yr, QZ, xj, qD, rj, e4, by simpa using eyj⟩
      · left
        have hin : i = ds.length := by omega
        subst hin
        refine ⟨wm.stop P si H' (by unfold Mv; rw [if_neg (by decide)]; exact ⟨rfl, x⟩) RZ.st, ?_⟩
        rw [List.drop_length] at el
        simp only [lcGo2, Res.ok.injEq] at el
        obtain ⟨rfl, rfl⟩ := el
        rw [List.append_nil] at ey
        subst ey
        refine q1 H' RZ.unZ x _ ⟨.lst ?_ hD (ra.wk fun a f _ => (fc_unZ f).1), fun es e' => ?_⟩
        · obtain ⟨z1, z2, z3⟩ := RZ.za Da (.inr rfl)
          refine ⟨.inr z1, fun q => ?_, fun q => ?_, z3⟩
          · exact R1.noRoot hDa q
          · exact (R1.za Da q).2.1 hDa
        · cases e'
          exact ⟨Da, av, rfl, x1.none_of hDa, hD, ra.wk fun a f _ => fc_unZ f⟩
    · exact q1.elim
end
end Q

set_option maxHeartbeats 4000000
/-! Exk1: exceptions of own classes made as values, by place and by keywords. -/
namespace Q
open PySem L2 PyProof.Rows PySem.Calls
section
variable {prog : Program} {w : World} {A : Around} {R : Result → Shared → Prop} {h : Heap} {g : Array GenState} {d : Drawn} {t : Nat} {os : OsState} {nm q : Str} {C N : Addr} {bs bm bmB : List Value}
  {hdct : Bool} {sn : List Str} {sub : List Value} {ab : Bool} {col : Option Bool} {dd : Option Addr} {k0 k1 k2 k3 k5 : Option Value} {B newId initId : String}
theorem new_ownK (F : ExcBaseFacts B newId initId bmB) (hT : ∀ X : String, bm.contains (.type X) = bmB.contains (.type X)) {rest : List Value} {kw : List (Str × Value)} (hC : h.get? C = some (excClassObj nm q C N bs bm hdct sn sub ab col dd k0 k1 k2 k3 k5 newId))
    (hq : R (.ok (.ret (.ref (h.objs.size + 1)))) { heap := (h.push { cls := .type "tuple", data := .seq rest.toArray }).push { cls := .ref C, data := .fields #[.ref h.objs.size, .none, .none, .none, .bool false, .none] }, gens := g, drawn := d, toks := t, os := os }) (hr : rest.length ≤ sizeLine) :
    codeAny (model prog w) A (.builtin newId { pos := .ref C :: rest, kw := kw }) R { heap := h, gens := g, drawn := d, toks := t, os := os } := by
  have hends := F.ends
  have hcB : (Value.ref C :: bm).contains (.type B) = true := by
    rw [List.contains_cons, hT, F.hasB, Bool.or_true]
  have hcA : (Value.ref C :: bm).contains (.type "AttributeError") = false := by
    rw [List.contains_cons, hT, F.noAttr]; rfl
  have hcN : (Value.ref C :: bm).contains (.type "NameError") = false := by
    rw [List.contains_cons, hT, F.noName]; rfl
  refine codeAny_builtinAt F.entry ?_
  refine PySem.wpAt_bind ?_
  refine PySem.wpAt_bind ?_
  refine PySem.wpAt_stack fun p below => ?_
  refine PySem.wpAt_of_wpAny ?_
  refine wpAny_ite_true (decide_eq_true hends) ?_
  refine wpAny_pure ?_
  refine PySem.wpAt_of_wpAny ?_
  rw [F.owner]
  refine wpAny_bind ?_
  refine wpAny_bind ?_
  refine wpAny_loadPart_at hC ?_
  refine wpAny_pure ?_
  refine wpAny_ite_false (by rfl) ?_
  refine wpAny_bind (wpAny_isSubtype_exc hC ?_)
  rw [hcB]
  refine wpAny_ite_false (by rfl) ?_
  refine wpAny_bind (wpAny_madeHere_exc F.canon hC ?_)
  refine wpAny_bind ?_
  refine wpAny_bind ?_
  refine wpAny_isSubtype_exc hC ?_
  rw [hcA]
  refine wpAny_ite_false (by rfl) ?_
  refine wpAny_bind (wpAny_isSubtype_exc hC ?_)
  rw [hcN]
  refine wpAny_ite_false (by rfl) ?_
  refine wpAny_pure ?_
  refine wpAny_bind (wpAny_newTuple ?_ hr)
  refine wpAny_bind ?_
  unfold newObj
  refine wpAny_ite_false (decide_eq_false ?_) ?_
  · rw [sizeLine_eq]; simp
  · refine wpAny_bind (wpAny_alloc' ?_)
    refine wpAny_bind ?_
    have k2 : ((h.push { cls := .type "tuple", data := .seq rest.toArray }).push { cls := .ref C, data := .fields (#[Value.ref h.objs.size, .none, .none, .none, .bool false, .none] ++ (List.replicate 0 (rawInt 0)).toArray) }).get? C = some (excClassObj nm q C N bs bm hdct sn sub ab col dd k0 k1 k2 k3 k5 newId) := Heap.get?_push_of_some _ (Heap.get?_push_of_some _ hC)
    refine wpAny_bind (wpAny_load' k2 ?_)
    refine wpAny_pure ?_
    refine wpAny_ite_false (by rfl) ?_
    refine wpAny_pure ?_
    refine wpAny_pure ?_
    show R (.ok (.ret (.ref (h.push _).objs.size))) _
    rw [Heap.size_push]
    exact hq
/-- type.__call__ of such a class, with keywords -/
theorem type_call_ownK {E : Value → Shared → Prop} (F : ExcBaseFacts B newId initId bmB) (hT : ∀ X : String, bm.contains (.type X) = bmB.contains (.type X)) {rest : List Value} {kw : List (Str × Value)} {fI : Addr} {Q : PySem.Fin → Shared → Prop}
    (hck : ∀ p kw, checkBuiltinCall newId ⟨p, kw⟩ = checkBuiltinCall newId ⟨p, []⟩) (hqk : ∀ args, Code.quiet (.builtin newId args) = true)
    (hC : h.get? C = some (excClassObj nm q C N bs bm hdct sn sub ab col dd k0 k1 k2 k3 k5 newId)) (hi : PySem.W.Looks (model prog w) h (typeLookup (.ref C) "__init__") (some (.ref fI))) (hb : ∀ self, PySem.W.Looks (model prog w) h (bindSpecial (.ref fI) self) (.ref fI, [self])) (hr : rest.length ≤ sizeLine)
    (hq : codeAny (model prog w) A (.call (.ref fI) ⟨.ref (h.objs.size + 1) :: rest, kw⟩) (fun r s' => match r with
      | .ok (.ret v) => v = .none ∧ Q (.done (.ret (.ref (h.objs.size + 1)))) s'
      | .ok _ => False
      | .error e => E e s') { heap := (h.push (PySem.W.kdv_tup rest)).push (PySem.HandSPX.excO C h.objs.size), gens := g, drawn := d, toks := t, os := os }) :
    wpAny (model prog w) A (Builtin.«type.__call__» ⟨.ref C :: rest, kw⟩) Q E { heap := h, gens := g, drawn := d, toks := t, os := os } := by
  have k : ∀ b o, h.get? b = some o → ((h.push (PySem.W.kdv_tup rest)).push (PySem.HandSPX.excO C h.objs.size)).get? b = some o := fun b o e => Heap.get?_push_of_some _ (Heap.get?_push_of_some _ e)
  have hC1 := k _ _ hC
  have hget : ((h.push (PySem.W.kdv_tup rest)).push (PySem.HandSPX.excO C h.objs.size)).get? (h.objs.size + 1) = some (PySem.HandSPX.excO C h.objs.size) := by heap_get
  have hcC : (Value.ref C :: bm).contains (.ref C) = true := by 
    rw [List.contains_cons]
    simp
  have i1 := PySem.W.Looks.keeps hi k
  have b1 := PySem.W.Looks.keeps (hb (.ref (h.objs.size + 1))) k
  have hnt : decide ((Value.ref C == Value.type "type") = true) = false := by rfl
  unfold Builtin.«type.__call__»
  dsimp only [Args.pos]
  refine wpAny_ite_false hnt ?_
  refine wpAny_bind ?_
  refine wpAny_bind ?_
  refine wpAny_bind (wpAny_load' hC (wpAny_pure ?_))
  refine wpAny_pure ?_
  refine wpAny_ite_false (by rfl) ?_
  refine wpAny_bind (wpAny_madeBy_exc hC ?_)
  refine wpAny_bind (wpAny_pure ?_)
  refine wpAny_bind (wpAny_holding (wpAny_call (codeAny_call_builtin_code (hqk _) ?_)))
  rw [hck]
  refine PySem.HandSPX.check_new_own F hT hC ?_
  refine new_ownK F hT hC ?_ hr
  refine wpAny_bind ?_
  refine wpAny_bind ?_
  refine wpAny_bind ?_
  refine wpAny_loadPart_at hget (wpAny_pure ?_)
  refine wpAny_isSubtype_exc hC1 ?_
  rw [hcC]
  refine wpAny_ite_false (by rfl) ?_
  refine wpAny_bind (wpAny_holding ?_)
  refine wpAny_bind ?_
  refine wpAny_bind ?_
  refine wpAny_bind ?_
  refine wpAny_loadPart_at hget (wpAny_pure ?_)
  refine i1.at ?_
  refine wpAny_holding (wpAny_bind (b1.at ?_))
  refine wpAny_bind (wpAny_call (codeAny_mono hq fun r s' z => ?_))
  cases r with
  | error e => exact z
  | ok a =>
    cases a with
    | ret v =>
      obtain ⟨rfl, z⟩ := z
      refine wpAny_pure ?_
      refine wpAny_ite_false (by rfl) ?_
      exact wpAny_pure z
    | next => exact z.elim
    | brk => exact z.elim
    | cont => exact z.elim
/-- a call of such a class, with keywords -/
theorem call_ownK (F : ExcBaseFacts B newId initId bmB) (hT : ∀ X : String, bm.contains (.type X) = bmB.contains (.type X)) {rest : List Value} {kw : List (Str × Value)} {fI : Addr}
    (hck : ∀ p kw, checkBuiltinCall newId ⟨p, kw⟩ = checkBuiltinCall newId ⟨p, []⟩) (hqk : ∀ args, Code.quiet (.builtin newId args) = true) (hct : checkBuiltinCall "type.__call__" ⟨.ref C :: rest, kw⟩ = checkBuiltinCall "type.__call__" ⟨.ref C :: rest, []⟩)
    (hC : h.get? C = some (excClassObj nm q C N bs bm hdct sn sub ab col dd k0 k1 k2 k3 k5 newId)) (hi : PySem.W.Looks (model prog w) h (typeLookup (.ref C) "__init__") (some (.ref fI))) (hb : ∀ self, PySem.W.Looks (model prog w) h (bindSpecial (.ref fI) self) (.ref fI, [self])) (hr : rest.length ≤ sizeLine)
    (hq : codeAny (model prog w) (A.under (.builtin "type.__call__" ⟨.ref C :: rest, kw⟩)) (.call (.ref fI) ⟨.ref (h.objs.size + 1) :: rest, kw⟩) (PySem.W.InitBack (h.objs.size + 1) R) { heap := (h.push (PySem.W.kdv_tup rest)).push (PySem.HandSPX.excO C h.objs.size), gens := g, drawn := d, toks := t, os := os }) :
    codeAny (model prog w) A (.call (.ref C) ⟨rest, kw⟩) R { heap := h, gens := g, drawn := d, toks := t, os := os } := by
  have f1 := tc_lookup
  have f2 := tc_bind (.ref C)
  have hTy : Shared.TypeIs { heap := h, gens := g, drawn := d, toks := t, os := os } (.ref C) "type" := ⟨_, hC, rfl⟩
  refine codeAny_of_tree ?_
  show wpAny _ A.in1 (callAny (.ref C) ⟨rest, kw⟩) _ _ _
  unfold callAny
  dsimp only
  refine wpAny_bind (wpAny_load' hC ?_)
  show wpAny _ _ (callAny.viaDunder (.ref C) ⟨rest, kw⟩) _ _ _
  unfold callAny.viaDunder
  refine wpAny_bind (wpAny_specialOf hTy f1 ?_)
  refine wpAny_bind (wpAny_of_eq f2 ?_)
  dsimp only
  refine wpAny_bind ?_
  refine wpAny_pure ?_
  refine wpAny_ite_true (by rfl) ?_
  refine wpAny_pure ?_
  refine ⟨rfl, codeAny_call_builtin_at (Code.quiet_builtin _ (by decide +kernel)) entry_typeCall ?_⟩
  show wpAny _ _ (checkBuiltinCall "type.__call__" ⟨.ref C :: rest, kw⟩) _ _ _
  rw [hct]
  refine wpAny_check_type_call_sub hC ?_
  refine type_call_ownK F hT hck hqk hC hi hb hr (codeAny_mono hq fun r s' z => ?_)
  cases r with
  | error e => exact z
  | ok a => cases a <;> exact z
end

/-- what is needed of an exception's class to make one -/
structure OexA (K : PySem.W.Frag) (C : Addr) : Prop where
  cls : ∃ nm q N bs bm sn sub ab col dd k0 k1 k2 k3 k5 B newId initId bmB, K.lookup C = some (excClassObj nm q C N bs bm true sn sub ab col dd k0 k1 k2 k3 k5 newId) ∧ ExcBaseFacts B newId initId bmB ∧ (∀ X : String, bm.contains (.type X) = bmB.contains (.type X)) ∧ (∀ p kw, checkBuiltinCall newId ⟨p, kw⟩ = checkBuiltinCall newId ⟨p, []⟩) ∧ (∀ args, Code.quiet (.builtin newId args) = true)
  exC : PySem.W.subIn K (.ref C) (.type "BaseException") = some true
  tyC : PySem.W.typeIn K (.ref C) = some (.type "type")
  kC : PySem.W.keepIn K (.ref C) = true
theorem OexA.ofC {K : PySem.W.Frag} {C : Addr} (T : OexC K C) : OexA K C := by
  obtain ⟨nm, q, N, bs, bm, sn, sub, ab, col, dd, k0, k1, k2, k3, k5, hC, hb⟩ := T.cls
  exact ⟨⟨nm, q, N, bs, bm, sn, sub, ab, col, dd, k0, k1, k2, k3, k5, _, _, _, _, hC, PySem.F.excBase_ValueError, fun X => PySem.HandSPX.refsVE_contains X bm hb, fun _ _ => by kernel_rfl, fun args => Code.quiet_builtin args (by decide +kernel)⟩, T.exC, T.tyC, T.kC⟩
theorem OexA.ofO {K : PySem.W.Frag} {C : Addr} (T : OexO K C) : OexA K C := by
  obtain ⟨nm, q, N, bs, sn, sub, ab, col, dd, k0, k1, k2, k3, k5, hC⟩ := T.cls
  exact ⟨⟨nm, q, N, bs, ovMro, sn, sub, ab, col, dd, k0, k1, k2, k3, k5, _, _, _, _, hC, PySem.F.excBase_OverflowError, fun X => rfl, fun _ _ => by kernel_rfl, fun args => Code.quiet_builtin args (by decide +kernel)⟩, T.exC, T.tyC, T.kC⟩
/-- made with keywords alone -/
def tMkX (C : Addr) (m : Nat) (sp : Sp) (gV : List V → List V → List V) (tk : TA) : L2.St → Hp → XK → Prop := fun σ H Q => tk σ H fun zs H1 => zs.length = m ∧ ∀ a, H1 a = none → sp (gV [.ref a] zs) (upd H1 a (exo a C none)) (fun v H2 => v = .non ∧ ∃ (d : Addr) (fs : List (Str × V)), H2 a = some (exo a C (some d)) ∧ H2 d = some (exd d fs) ∧ H1 d = none ∧ Q (.ref C) (some d) (upd (del H2 a) d (.xd fs))) (fun _ _ _ => False)
section
variable {X : Cx} {kws : List Keyword} {tk : TA} {p pos : Pos}
theorem pmk_kw {CX : CXT} {x : Str} {C fI : Addr} {k : Nat} {fd : FuncData} {ps ks : List Str} {sp : Sp} {g : List Value → List Value → List Value} {gV : List V → List V → List V} (T : OexA X.K C) (iC : PySem.W.findIn X.K (.ref C) "__init__" = some (some (.ref fI))) (tI : PySem.W.typeIn X.K (.ref fI) = some (.type "function"))
    (F1 : FnOk X.prog X.w X.K X.mg X.base CX k fI fd ps sp) (hr : Room (k + 1) X.A) (hb : KBn X.K fd ps 1 ks g gV) (hx : Passes CX X (fun _ _ _ => False)) (hg : Gl X x) (hm : X.mg x = some (.ref C)) (hk : PK X kws tk)
    (hall : ((backToKw pos (keywordEach kws X.env)).all fun y => y.1.isSome) = true := by rfl) (hks : ((backToKw pos (keywordEach kws X.env)).filterMap fun y => y.1) = ks := by rfl)
    (hdb : (x == ("__debug__" : Str)) = false := by decide) (hst : (((backTo pos (starEach [] X.env)).any fun y => y.1) || ((backToKw pos (keywordEach kws X.env)).any fun y => y.1.isNone)) = false := by rfl) :
    PMk X (.Call (.Name x p) [] kws pos) (tMkX C ks.length sp gV tk) := by
  intro pins s σ H Q I h
  obtain ⟨nm, q, N, bs, bm, sn, sub, ab, col, dd, k0, k1, k2, k3, k5, B, newId, initId, bmB, hC, F, hT, hck, hqk⟩ := T.cls
  refine wpAny_Call_Name_kw (ld_glob I hg hm (PySem.W.callWith_of (P := fun h => X.K.In h) hst (PySem.W.keeps_K T.kC) (PyProof.Rows.evalArgs_kw2_nil hall (thn (hk.run pos pins s σ H _ I h) fun us s1 ⟨zs, H1, I1, r1, hz, q1⟩ => ⟨I1.kIn, ?_⟩))) hdb)
  rw [hks]
  show wpAny _ _ (call (.ref C) [] (ks.zip us)) _ _ _
  obtain ⟨hp, gg, dr, tt, os⟩ := s1
  let n : Addr := hp.objs.size + 1
  let G : Heap := (hp.push (PySem.W.kdv_tup [])).push (PySem.HandSPX.excO C hp.objs.size)
  have hq := q1 n (I1.hok.fresh (Nat.le_succ _))
  have old : ∀ b o, hp.get? b = some o → G.get? b = some o := fun b o z => Heap.get?_push_of_some _ (Heap.get?_push_of_some _ z)
  have at_ : G.get? n = some (PySem.HandSPX.excO C hp.objs.size) := by
    show ((hp.push (PySem.W.kdv_tup [])).push (PySem.HandSPX.excO C hp.objs.size)).get? (hp.objs.size + 1) = _
    heap_get
  have I2 : Inv X pins σ (upd H1 n (exo n C none)) ⟨G, gg, dr, tt, os⟩ := I1.laid (t' := tt) (a := n) (o := exo n C none) (h' := G) old (Nat.le_succ _) (exo_ok at_)
  have lu : us.length = ks.length := by rw [← Paired.length r1]; exact hz
  have bdy := codeAny_mono (F1.run _ X.stack _ _ ⟨[Value.ref n], ks.zip us⟩ (g [Value.ref n] us) _ _ (fun _ _ _ => False) (hr.make C [] (ks.zip us)) (I2.env0.make C [] (ks.zip us)) (hb.to _ [Value.ref n] us I2.kIn rfl lu) (hb.rel (.cons (show RelV (V.ref n) (Value.ref n) from rfl) .nil) r1) hq) (R' := PySem.W.InitBack n fun r s' => match r with | .ok (.ret v) => MkP X pins σ Q v s' | .ok _ => False | .error er => X.xe er s') fun r s' hq' => by
    cases r with
    | error er => exact hx pins σ _ _ er s' I2 hq'
    | ok fl =>
      cases fl with
      | ret u =>
        obtain ⟨v, H2, os2, bare2, un2, hok2, rv, ev, d, fs, ea, ed, hd1, q2⟩ := hq'
        subst ev
        obtain ⟨h2, g2, d2, t2, os'⟩ := s'
        exact ⟨rv, mk_end (raises_own T.exC T.tyC) I1 (Nat.le_succ _) old un2 hok2 os2 bare2 ea ed hd1 q2⟩
      | next => exact False.elim hq'
      | brk => exact False.elim hq'
      | cont => exact False.elim hq'
  exact wpAny_call (codeAny_mono (call_ownK F hT hck hqk (by kernel_rfl) (I1.kIn _ _ hC) (PySem.W.looks_findIn I1.kIn iC) (fun self => PySem.W.bind_fn I1.kIn self tI) (by simp) bdy) fun r s' z => z)
/-- an exception made is a value -/
theorem pe_mkx {e : Expr} {t : L2.St → Hp → XK → Prop} (h : PMk X e t) : PE X e (fun σ H Q => t σ H fun cls d H' => ∀ a, H' a = none → Q (.ref a) (upd H' a (ExK cls d a))) := by
  refine ⟨fun pins s σ H Q I q => ?_⟩
  refine thn (h pins s σ H _ I q) fun u s' hm => ?_
  obtain ⟨a, oe, vs, sI, H', cls, d, rfl, J, kp, na, he, hz, hd, _, nH, os, bare, _, q⟩ := hm
  obtain ⟨h1, g1, d1, t1, o1⟩ := s'
  obtain ⟨h0, g0, d0, t0, o0⟩ := sI
  dsimp only at kp na he os bare
  subst os
  have J2 := J.laidN (o := ExK cls d a) (t' := t1) (h' := h1) kp na nH ⟨⟨oe, vs, he, hz, hd⟩, ⟨oe, he⟩, fun _ _ ⟨o, v, q, r⟩ k => ⟨o, v, k o q, r⟩⟩
  exact ⟨.ref a, _, ⟨J2.ok, J2.os, bare, J2.base, J2.loc, J2.cell, J2.free, J2.freeC, J2.pin, J2.hok, J2.len⟩, rfl, q a nH⟩
end
end Q

/-! Lay12: expressions of the text, evaluated over data; that this is what they do. -/
namespace Q
open PySem L2

/-- an expression: whether a list that it gives is new; its value; its truth -/
structure Sem3 (S : Type) where
  fr : Bool
  v : EvF S
  t : EvT' S
/-- what is known of own classes: fields, methods, properties, how one is made -/
structure Obk (S : Type) where
  fld : Str → Option Addr := fun _ => none
  mth : Str → Option (Addr × Fn S) := fun _ => none
  prp : Str → Option (Addr × Fn S) := fun _ => none
  new : Str → Option (Addr × Fn S) := fun _ => none
  len : Option (Addr × Fn S) := none
  cat : Option (Str × Str × List Str) := none
  exc : Str → Option (List Str) := fun _ => none
  isx : Str → Str → Option Bool := fun _ _ => none
  fx : Str → Str → Bool := fun _ _ => false
structure Gk (S : Type) where
  glo : Str → Option D
  cal : Str → Option (Fn S)
  sp : List Str → Scope → (Expr → Sem3 S) → Expr → Option (Sem3 S) := fun _ _ _ _ => none
  exn : Str → Option Str := fun _ => none
  said : Str → Option (List (Str × Str × List Str)) := fun _ => none
  exn2 : Str → Option (Str × Str) := fun _ => none
  obj : Obk S := {}
/-- without lambdas -/
def Gk.mute {S : Type} (G : Gk S) : Gk S := { G with said := fun _ => none }
def bltNames : List String := ["len", "int", "abs", "tuple", "list", "sum", "max", "min", "all", "any", "repr", "isinstance", "range", "enumerate", "zip", "bool", "str", "dict", "sorted", "set"]
section
variable {S : Type} {C : Cn S} {W : L2.WX} {X : Cx}
structure Snd (C : Cn S) (W : L2.WX) (X : Cx) (e : Expr) (r : Sem3 S) : Prop where
  v : PE X e (tP C W r.v)
  f : r.fr = true → PE X e (tF C W r.v)
  t : PT X e (tT C W r.t)
structure MthOk (C : Cn S) (X : Cx) (c : Addr) (m : Str) (f : Fn S) : Prop where
  ok : ∃ (a : Addr) (fd : FuncData) (ps : List Str) (k : Nat), FnG X.prog X.w X.K X.mg X.base (L2.CX X.prog X.w) k a fd ps (spS C.K C.T C.cls f) ∧ Room k X.A ∧ Cls X.K c ∧ Meth X.K c m a ∧ Binds X.K fd ps []
structure PrpOk (C : Cn S) (X : Cx) (c : Addr) (m : Str) (f : Fn S) : Prop where
  ok : ∃ (p a : Addr) (fd : FuncData) (ps : List Str) (k : Nat), FnG X.prog X.w X.K X.mg X.base (L2.CX X.prog X.w) k a fd ps (spS C.K C.T C.cls f) ∧ Room (k + 1) X.A ∧ Cls X.K c ∧ PropOf X.K c m p a ∧ Binds X.K fd ps []
structure MkcOk (C : Cn S) (X : Cx) (x : Str) (c : Addr) (f : Fn S) : Prop where
  ok : ∃ (a : Addr) (fd : FuncData) (ps : List Str) (k : Nat), FnG X.prog X.w X.K X.mg X.base (L2.CX X.prog X.w) k a fd ps (spS C.K C.T C.cls f) ∧ Room (k + 1) X.A ∧ Mk X.K c a ∧ X.mg x = some (.ref c) ∧ Binds X.K fd ps []
structure LenOk (C : Cn S) (X : Cx) (c : Addr) (f : Fn S) : Prop where
  ok : ∃ (a : Addr) (fd : FuncData) (ps : List Str) (k : Nat), FnG X.prog X.w X.K X.mg X.base (L2.CX X.prog X.w) k a fd ps (spS C.K C.T C.cls f) ∧ Room (k + 1) X.A ∧ Cls X.K c ∧ Meth X.K c "__len__" a ∧ Binds X.K fd ps []
/-- two classes, and exceptions that are of one of them -/
structure CatOk (C : Cn S) (X : Cx) (x1 x2 : Str) (cs : List Str) : Prop where
  ok : ∃ c1 c2 : Addr, X.mg x1 = some (.ref c1) ∧ X.mg x2 = some (.ref c2) ∧ ∀ y ∈ cs, ∀ c, C.cls y = some c → PySem.W.exmAny X.K (.ref c) [.ref c1, .ref c2] = some true
/-- what an __init__ does, by its fields -/
def SpX : List Str → Addr → Sp → Prop
  | [f], c, sp => sp = spSup c f
  | [f, f2], c, sp => sp = spSup3 c f f2
  | _, _, _ => False
/-- its arguments by keywords, the last one first -/
def KwX (K : PySem.W.Frag) (fd : FuncData) (ps : List Str) (fs : List Str) : Prop := KBn K fd ps 1 fs.reverse (fun us ws => us ++ ws.reverse) (fun vs zs => vs ++ zs.reverse)
/-- exceptions of the class x are made, by place and by keywords -/
structure XmkOk (C : Cn S) (X : Cx) (x : Str) (fs : List Str) : Prop where
  ok : ∃ (fI : Addr) (fd : FuncData) (ps : List Str) (k : Nat) (sp : Sp), X.mg x = some (.ref (gaQ X.K x)) ∧ (OexC X.K (gaQ X.K x) ∨ OexO X.K (gaQ X.K x)) ∧ PySem.W.findIn X.K (.ref (gaQ X.K x)) "__init__" = some (some (.ref fI)) ∧ PySem.W.typeIn X.K (.ref fI) = some (.type "function") ∧
    FnOk X.prog X.w X.K X.mg X.base (fun _ _ _ _ _ _ => False) k fI fd ps sp ∧ Room (k + 1) X.A ∧ Binds X.K fd ps [] ∧ KwX X.K fd ps fs ∧ SpX fs (gaQ X.K x) sp
/-- isinstance of an exception of the class n, asked for y -/
structure IsxOk (C : Cn S) (X : Cx) (n y : Str) (b : Bool) : Prop where
  ok : ExcC X.K (gaQ X.K n) ∧ ∃ cv : Value, ((X.mg y = some cv ∧ ∃ a, cv = .ref a) ∨ (X.mg y = none ∧ ∃ T : String, bootBuiltins y = some (.type T) ∧ cv = .type T ∧ y ≠ Str.ofString "__name__")) ∧ PySem.W.kitOne X.K (.ref (gaQ X.K n)) cv = some b
/-- the field f of exceptions of the class n -/
structure FxOk (C : Cn S) (X : Cx) (n f : Str) : Prop where
  ok : XfC X.K (gaQ X.K n) ∧ PySem.W.findIn X.K (.ref (gaQ X.K n)) f = some none
structure ObkOk (C : Cn S) (X : Cx) (O : Obk S) : Prop where
  fld : ∀ f c, O.fld f = some c → Cls X.K c ∧ NoAttr X.K c f
  mth : ∀ m c f, O.mth m = some (c, f) → MthOk C X c m f
  prp : ∀ m c f, O.prp m = some (c, f) → PrpOk C X c m f
  new : ∀ x c f, O.new x = some (c, f) → MkcOk C X x c f
  len : ∀ c f, O.len = some (c, f) → LenOk C X c f
  cat : ∀ x1 x2 cs, O.cat = some (x1, x2, cs) → CatOk C X x1 x2 cs
  exc : ∀ x fs, O.exc x = some fs → XmkOk C X x fs
  isx : ∀ n y b, O.isx n y = some b → IsxOk C X n y b
  fx : ∀ n f, O.fx n f = true → FxOk C X n f
/-- what is said of expressions apart -/
def SpOk (C : Cn S) (G : Gk S) : Prop := ∀ {W : L2.WX} {X : Cx} {N : List Str} {sc : Scope} {f : Expr → Sem3 S}, Xk C W X N sc → (∀ x ∈ bltNames, X.mg (Str.ofString x) = none) → ObkOk C X G.obj → (∀ e, Snd C W X e (f e)) → ∀ e r, G.sp N sc f e = some r → Snd C W X e r
theorem spOk_no {G : Gk S} (h : ∀ N sc f e, G.sp N sc f e = none) : SpOk C G := fun _ _ _ _ e r q => by
  rw [h] at q
  cases q
structure GkB (C : Cn S) (X : Cx) (G : Gk S) : Prop where
  glo : ∀ x d, G.glo x = some d → ∃ v u, X.mg x = some u ∧ RelV v u ∧ (∀ H F, Rp C.K H F v d) ∧ ∀ ds, d ≠ .lst ds
  cal : ∀ x f, G.cal x = some f → CalOk C X x f
  blt : ∀ x ∈ bltNames, X.mg (Str.ofString x) = none
  spc : SpOk C G
  exn : ∀ x fl, G.exn x = some fl → ExOk C X x fl
  sys : SysOk X.K
  exn2 : ∀ x f1 f2, G.exn2 x = some (f1, f2) → ExOk3 C X x f1 f2
  obj : ObkOk C X G.obj
/-- .. and of defs that are handed lambdas -/
structure GkOk (C : Cn S) (X : Cx) (G : Gk S) : Prop extends GkB C X G where
  said : ∀ x tb, G.said x = some tb → ∃ zs kk, tb = tbOf zs ∧ SaidF C X x zs kk ∧ ∀ X' : Cx, X'.prog = X.prog → X'.w = X.w → X'.K = X.K → X'.mg = X.mg → X'.base = X.base → Room kk X'.A → GkB C X' G
theorem GkB.muted {G : Gk S} {C : Cn S} {X : Cx} (g : GkB C X G) : GkOk C X G.mute := { glo := g.glo, cal := g.cal, blt := g.blt, spc := fun k b o h e r q => g.spc k b o h e r q, exn := g.exn, sys := g.sys, exn2 := g.exn2, obj := g.obj, said := fun _ _ h => by cases h }
/-! ### built-ins by name -/
theorem bt_len : bootBuiltins (Str.ofString "len") = some (.builtin "len") := by decide +kernel
theorem bt_abs : bootBuiltins (Str.ofString "abs") = some (.builtin "abs") := by decide +kernel
theorem bt_sum : bootBuiltins (Str.ofString "sum") = some (.builtin "sum") := by decide +kernel
theorem bt_max : bootBuiltins (Str.ofString "max") = some (.builtin "max") := by decide +kernel
theorem bt_min : bootBuiltins (Str.ofString "min") = some (.builtin "min") := by decide +kernel
theorem bt_all : bootBuiltins (Str.ofString "all") = some (.builtin "all") := by decide +kernel
theorem bt_any : bootBuiltins (Str.ofString "any") = some (.builtin "any") := by decide +kernel
theorem bt_repr : bootBuiltins (Str.ofString "repr") = some (.builtin "repr") := by decide +kernel
theorem bt_int : bootBuiltins (Str.ofString "int") = some (.type "int") := by decide +kernel
theorem bt_tuple : bootBuiltins (Str.ofString "tuple") = some (.type "tuple") := by decide +kernel
theorem bt_list : bootBuiltins (Str.ofString "list") = some (.type "list") := by decide +kernel
def bi (x : Str) : Option (List D → Option D) :=
  if x = "len" then some bLen else if x = "int" then some bInt else if x = "abs" then some bAbs else if x = "tuple" then some bTuple else if x = "list" then some bList else if x = "sum" then some bSum
  else if x = "max" then some bMax else if x = "min" then some bMin else if x = "all" then some bAll else if x = "any" then some bAny else if x = "repr" then some bRepr else none
theorem sd_bi_any {N : List Str} {sc : Scope} {G : Gk S} (k : Xk C W X N sc) (gk : GkOk C X G) {x : Str} {f : List D → Option D} {g : EvL' S} {e : Expr} {es : List Expr} {p pos : Pos} (hb : bi x = some f) (hg : glB sc x = true) (ha : PA X (e :: es) (tAK C W g)) (hs : (e :: es).all (fun e => !isStar e) = true) :
    PE X (.Call (.Name x p) (e :: es) [] pos) (tF C W (biF f g)) := by
  unfold bi at hb
  by_cases h : x = Str.ofString "len"
  · rw [if_pos h] at hb
    have hb := Option.some.inj hb
    rw [← hb]
    have hm := gk.blt "len" (by simp [bltNames])
    rw [← h] at hm
    have hv := bt_len
    rw [← h] at hv
    exact sd_bi k cd_len hg hm hv ha hs
  rw [if_neg h] at hb
  clear h
  by_cases h : x = Str.ofString "int"
  · rw [if_pos h] at hb
    have hb := Option.some.inj hb
    rw [← hb]
    have hm := gk.blt "int" (by simp [bltNames])
    rw [← h] at hm
    have hv := bt_int
    rw [← h] at hv
    exact sd_ty k cd_int hg hm hv ha hs
  rw [if_neg h] at hb
  clear h
  by_cases h : x = Str.ofString "abs"
  · rw [if_pos h] at hb
    have hb := Option.some.inj hb
    rw [← hb]
    have hm := gk.blt "abs" (by simp [bltNames])
    rw [← h] at hm
    have hv := bt_abs
    rw [← h] at hv
    exact sd_bi k cd_abs hg hm hv ha hs
  rw [if_neg h] at hb
  clear h
  by_cases h : x = Str.ofString "tuple"
  · rw [if_pos h] at hb
    have hb := Option.some.inj hb
    rw [← hb]
    have hm := gk.blt "tuple" (by simp [bltNames])
    rw [← h] at hm
    have hv := bt_tuple
    rw [← h] at hv
    exact sd_ty k cd_tuple hg hm hv ha hs
  rw [if_neg h] at hb
  clear h
  by_cases h : x = Str.ofString "list"
  · rw [if_pos h] at hb
    have hb := Option.some.inj hb
    rw [← hb]
    have hm := gk.blt "list" (by simp [bltNames])
    rw [← h] at hm
    have hv := bt_list
    rw [← h] at hv
    exact sd_ty k cd_list hg hm hv ha hs
  rw [if_neg h] at hb
  clear h
  by_cases h : x = Str.ofString "sum"
  · rw [if_pos h] at hb
    have hb := Option.some.inj hb
    rw [← hb]
    have hm := gk.blt "sum" (by simp [bltNames])
    rw [← h] at hm
    have hv := bt_sum
    rw [← h] at hv
    exact sd_bi k (cd_sum k.calm) hg hm hv ha hs
  rw [if_neg h] at hb
  clear h
  by_cases h : x = Str.ofString "max"
  · rw [if_pos h] at hb
    have hb := Option.some.inj hb
    rw [← hb]
    have hm := gk.blt "max" (by simp [bltNames])
    rw [← h] at hm
    have hv := bt_max
    rw [← h] at hv
    exact sd_bi k (cd_max k.calm k.hu) hg hm hv ha hs
  rw [if_neg h] at hb
  clear h
  by_cases h : x = Str.ofString "min"
  · rw [if_pos h] at hb
    have hb := Option.some.inj hb
    rw [← hb]
    have hm := gk.blt "min" (by simp [bltNames])
    rw [← h] at hm
    have hv := bt_min
    rw [← h] at hv
    exact sd_bi k (cd_min k.calm k.hu) hg hm hv ha hs
  rw [if_neg h] at hb
  clear h
  by_cases h : x = Str.ofString "all"
  · rw [if_pos h] at hb
    have hb := Option.some.inj hb
    rw [← hb]
    have hm := gk.blt "all" (by simp [bltNames])
    rw [← h] at hm
    have hv := bt_all
    rw [← h] at hv
    exact sd_bi k (cd_all k.calm) hg hm hv ha hs
  rw [if_neg h] at hb
  clear h
  by_cases h : x = Str.ofString "any"
  · rw [if_pos h] at hb
    have hb := Option.some.inj hb
    rw [← hb]
    have hm := gk.blt "any" (by simp [bltNames])
    rw [← h] at hm
    have hv := bt_any
    rw [← h] at hv
    exact sd_bi k (cd_any k.calm) hg hm hv ha hs
  rw [if_neg h] at hb
  clear h
  by_cases h : x = Str.ofString "repr"
  · rw [if_pos h] at hb
    have hb := Option.some.inj hb
    rw [← hb]
    have hm := gk.blt "repr" (by simp [bltNames])
    rw [← h] at hm
    have hv := bt_repr
    rw [← h] at hv
    exact sd_bi k (cd_repr gk.sys k.gd k.hu) hg hm hv ha hs
  rw [if_neg h] at hb
  clear h
  cases hb

def stuckF : EvF S := fun _ _ => .stuck
def stuckT : EvT' S := fun _ _ => .stuck
def stuckL : EvL' S := fun _ _ => .stuck
theorem sd_stuckF {e : Expr} : PE X e (tF C W stuckF) := pe_false fun σ H Q ⟨P, s, R, q⟩ => q
theorem st_stuck {e : Expr} : PT X e (tT C W stuckT) := pt_false fun σ H Q ⟨P, s, R, q⟩ => q
theorem si_stuck {m : Bool} {tg e : Expr} : PI X tg e (tI m C W stuckL) := pi_false fun σ H R ⟨P, s, RR, q⟩ => q
def stuck3 : Sem3 S := ⟨true, stuckF, stuckT⟩
theorem Snd.stuck {e : Expr} : Snd C W X e stuck3 := ⟨PE.clean sd_stuckF, fun _ => sd_stuckF, st_stuck⟩
/-- of a plain test -/
def plain3 (v : EvF S) : Sem3 S := ⟨true, v, truth v⟩
theorem Snd.plain {e : Expr} {v : EvF S} (hK : C.K = X.K) (h : PE X e (tF C W v)) (hp : plainTest e = true) : Snd C W X e (plain3 v) := ⟨PE.clean h, fun _ => h, st_truth hK (PE.peek (PE.clean h)) hp⟩
def val3 (v : EvF S) : Sem3 S := ⟨false, v, truth v⟩
theorem Snd.val {e : Expr} {v : EvF S} (hK : C.K = X.K) (h : PE X e (tP C W v)) (hp : plainTest e = true) : Snd C W X e (val3 v) := ⟨h, fun z => (Bool.noConfusion z), st_truth hK (PE.peek h) hp⟩
/-! ### names in other places -/
def pk (N : List Str) (sc : Scope) (f : Expr → Sem3 S) (e : Expr) : EvF S := match e with
  | .Name x _ => if visB sc x = true then evVarK N sc x else (f e).v
  | _ => (f e).v
def pm (m : Bool) (N : List Str) (sc : Scope) (f : Expr → Sem3 S) (e : Expr) : EvF S := match e with
  | .Name x _ => if visB sc x = true then (if m = true then evVarS N sc x else evVarK N sc x) else (f e).v
  | _ => (f e).v
theorem sd_pk {N : List Str} {sc : Scope} {f : Expr → Sem3 S} (k : Xk C W X N sc) (h : ∀ e, Snd C W X e (f e)) (e : Expr) : PE X e (tK C W (pk N sc f e)) := by
  unfold pk
  split
  · split
    · exact sd_varK k _ _
    · exact PE.peek (h _).v
  · exact PE.peek (h _).v
theorem sd_pm {m : Bool} {N : List Str} {sc : Scope} {f : Expr → Sem3 S} (k : Xk C W X N sc) (h : ∀ e, Snd C W X e (f e)) (e : Expr) : PE X e (tM m C W (pm m N sc f e)) := by
  unfold pm
  split
  · split
    · cases m with
      | true => exact sd_varS k _ _
      | false => exact PE.km (sd_varK k _ _)
    · exact PE.m (h _).v
  · exact PE.m (h _).v
def argsC (N : List Str) (sc : Scope) (f : Expr → Sem3 S) : List Expr → EvL' S
  | [] => nilA
  | .Starred e _ :: es => starA (pk N sc f e) (argsC N sc f es)
  | e :: es => consA (f e).v (argsC N sc f es)
theorem sa_args {N : List Str} {sc : Scope} {f : Expr → Sem3 S} (k : Xk C W X N sc) (h : ∀ e, Snd C W X e (f e)) : ∀ es : List Expr, PA X es (tA C W (argsC N sc f es))
  | [] => sa_nil
  | e :: es => by
    unfold argsC
    split
    · rename_i q; cases q
    · rename_i q; cases q; exact sa_star k.K (sd_pk k h _) (sa_args k h es)
    · rename_i hn q
      cases q
      refine sa_cons (h _).v (sa_args k h es) ?_
      cases e <;> first | rfl | (exact absurd rfl (hn _ _))
def argsK (N : List Str) (sc : Scope) (f : Expr → Sem3 S) : List Expr → EvL' S
  | [] => nilA
  | e :: es => consA (pk N sc f e) (argsK N sc f es)
theorem sak_args {N : List Str} {sc : Scope} {f : Expr → Sem3 S} (k : Xk C W X N sc) (h : ∀ e, Snd C W X e (f e)) : ∀ es : List Expr, es.all (fun e => !isStar e) = true → PA X es (tAK C W (argsK N sc f es))
  | [], _ => sak_nil
  | e :: es, hs => by
    simp only [List.all_cons, Bool.and_eq_true, Bool.not_eq_true'] at hs
    exact sak_cons (sd_pk k h e) (sak_args k h es hs.2) hs.1
/-! ### targets of the text -/
structure Tg where
  ts : List Nat
  g : D → List Sl → Option (List Sl)
def noTg : Tg := ⟨[], fun _ _ => none⟩
mutual
def tgt (N : List Str) (sc : Scope) : Nat → Expr → Tg
  | 0, _ => noTg
  | n + 1, e => match e with
    | .Name x _ => ⟨tgSlot N x, tgName N sc x⟩
    | .Tuple es _ _ => if es.all (fun e => !isStar e) = true then ⟨(tgts N sc n es).1, gTupD es.length (tgts N sc n es).2⟩ else noTg
    | _ => noTg
def tgts (N : List Str) (sc : Scope) : Nat → List Expr → List Nat × (List D → List Sl → Option (List Sl))
  | _, [] => ([], gsN)
  | 0, _ => ([], fun _ _ => none)
  | n + 1, e :: es => ((tgt N sc n e).ts ++ (tgts N sc n es).1, gsC (tgt N sc n e).g (tgts N sc n es).2)
end
theorem tgt_ok {N : List Str} {sc : Scope} : ∀ n : Nat, (∀ e, TgOk (tgt N sc n e).ts (tgt N sc n e).g) ∧ ∀ es, TgsOk (tgts N sc n es).1 (tgts N sc n es).2
  | 0 => by
    refine ⟨fun e => by unfold tgt; exact fun _ _ _ h => (nomatch h), fun es => ?_⟩
    cases es with
    | nil => unfold tgts; exact tgo_nil
    | cons e es => unfold tgts; exact fun _ _ _ h => nomatch h
  | n + 1 => by
    obtain ⟨i1, i2⟩ := tgt_ok (N := N) (sc := sc) n
    refine ⟨fun e => ?_, fun es => ?_⟩
    · unfold tgt
      split
      · exact tgo_name
      · split
        · exact tgo_tup (i2 _)
        · exact fun _ _ _ h => nomatch h
      · exact fun _ _ _ h => nomatch h
    · cases es with
      | nil => unfold tgts; exact tgo_nil
      | cons e es => unfold tgts; exact tgo_cons (i1 e) (i2 es)
structure TgSnd (C : Cn S) (X : Cx) (e : Expr) (t : Tg) : Prop where
  p : PG X e (tG C t.ts t.g)
  o : TgOk t.ts t.g
theorem TgSnd.no {e : Expr} : TgSnd C X e noTg := ⟨pg_false fun v σ H k ⟨P, s, d, ρ', R, r, h, kx⟩ => (nomatch h), fun _ _ _ h => nomatch h⟩
theorem tgt_snd {N : List Str} {sc : Scope} (k : Xs C X N sc) : ∀ n : Nat, (∀ e, TgSnd C X e (tgt N sc n e)) ∧ ∀ es, es.all (fun e => !isStar e) = true → PGs X es (tGs C (tgts N sc n es).1 (tgts N sc n es).2) ∧ TgsOk (tgts N sc n es).1 (tgts N sc n es).2
  | 0 => by
    refine ⟨fun e => by unfold tgt; exact TgSnd.no, fun es hs => ?_⟩
    cases es with
    | nil => unfold tgts; exact ⟨sgs_nil, tgo_nil⟩
    | cons e es => unfold tgts; exact ⟨pgs_false fun v σ H k ⟨P, s, d, ρ', R, r, h, kx⟩ => (nomatch h), fun _ _ _ h => nomatch h⟩
  | n + 1 => by
    obtain ⟨i1, i2⟩ := tgt_snd k n
    refine ⟨fun e => ?_, fun es hs => ?_⟩
    · unfold tgt
      split
      · exact ⟨sg_name k, tgo_name⟩
      · rename_i es _ _
        split
        · rename_i hs
          obtain ⟨h1, h2⟩ := i2 es hs
          exact ⟨sg_tup k.K k.calm hs h1, tgo_tup h2⟩
        · exact TgSnd.no
      · exact TgSnd.no
    · cases es with
      | nil => unfold tgts; exact ⟨sgs_nil, tgo_nil⟩
      | cons e es =>
        simp only [List.all_cons, Bool.and_eq_true, Bool.not_eq_true'] at hs
        obtain ⟨h1, h2⟩ := i2 es hs.2
        unfold tgts
        exact ⟨sgs_cons hs.1 (i1 e).p h1, tgo_cons (i1 e).o h2⟩
/-! ### what is walked -/
def isTup : Expr → Bool
  | .Tuple _ _ _ => true
  | _ => false
def src (m : Bool) (N : List Str) (sc : Scope) (f : Expr → Sem3 S) (tg iter : Expr) : EvL' S := match iter with
  | .Call (.Name x _) [.Starred a _] [] _ => if x = "zip" ∧ glB sc "zip" = true then iZipS (pm m N sc f a) else stuckL
  | .Call (.Name x _) [a] [] _ =>
    if x = "range" then (if glB sc "range" = true ∧ isStar a = false then iRange1 (pk N sc f a) else stuckL)
    else if x = "enumerate" then (if glB sc "enumerate" = true ∧ isStar a = false ∧ isTup tg = true then iEnum (pm m N sc f a) else stuckL)
    else iSeq (f iter).v
  | .Call (.Name x _) [a, b] [] _ =>
    if x = "range" then (if glB sc "range" = true ∧ isStar a = false ∧ isStar b = false then iRange2 (pk N sc f a) (pk N sc f b) else stuckL)
    else if x = "zip" then (if glB sc "zip" = true ∧ isStar a = false ∧ isStar b = false ∧ isTup tg = true then iZip (pm m N sc f a) (pm m N sc f b) else stuckL)
    else iSeq (f iter).v
  | .Call (.Name x _) [a, b, c] [] _ =>
    if x = "range" then (if glB sc "range" = true ∧ isStar a = false ∧ isStar b = false ∧ isStar c = false then iRange3 (pk N sc f a) (pk N sc f b) (pk N sc f c) else stuckL)
    else iSeq (pm m N sc f iter)
  | _ => iSeq (pm m N sc f iter)
theorem si_src {m : Bool} {N : List Str} {sc : Scope} {G : Gk S} {f : Expr → Sem3 S} (k : Xk C W X N sc) (gk : GkOk C X G) (h : ∀ e, Snd C W X e (f e)) (tg iter : Expr) : PI X tg iter (tI m C W (src m N sc f tg iter)) := by
  unfold src
  split
  · split
    · rename_i q
      obtain ⟨rfl, q2⟩ := q
      exact si_zipS k q2 (gk.blt "zip" (by decide)) (sd_pm k h _)
    · exact si_stuck
  · split
    · subst_vars
      split
      · rename_i q; exact si_range1 k q.1 (gk.blt "range" (by decide)) q.2 (sd_pk k h _)
      · exact si_stuck
    · split
      · subst_vars
        split
        · rename_i q
          obtain ⟨q1, q2, q3⟩ := q
          cases tg <;> first | (simp [isTup] at q3; done) | exact si_enum k q1 (gk.blt "enumerate" (by decide)) q2 (sd_pm k h _)
        · exact si_stuck
      · exact si_seq k.K (PE.m (h _).v)
  · split
    · subst_vars
      split
      · rename_i q; exact si_range2 k q.1 (gk.blt "range" (by decide)) q.2.1 q.2.2 (sd_pk k h _) (sd_pk k h _)
      · exact si_stuck
    · split
      · subst_vars
        split
        · rename_i q
          obtain ⟨q1, q2, q4, q3⟩ := q
          cases tg <;> first | (simp [isTup] at q3; done) | exact si_zip k q1 (gk.blt "zip" (by decide)) q2 q4 (sd_pm k h _) (sd_pm k h _)
        · exact si_stuck
      · exact si_seq k.K (PE.m (h _).v)
  · split
    · subst_vars
      split
      · rename_i q; exact si_range3 k q.1 (gk.blt "range" (by decide)) q.2.1 q.2.2.1 q.2.2.2 (sd_pk k h _) (sd_pk k h _) (sd_pk k h _)
      · exact si_stuck
    · exact si_seq k.K (sd_pm k h _)
  · exact si_seq k.K (sd_pm k h _)
/-! ### tests of a comprehension -/
def yesT : EvT' S := fun _ s => .ok true s
def ifsT (f : Expr → Sem3 S) : List Expr → EvT' S
  | [] => yesT
  | [c] => (f c).t
  | _ => stuckT
theorem pts_mono {ifs : List Expr} {t t' : TT} (h : PTs X ifs t) (i : ∀ σ H Q, t' σ H Q → t σ H Q) : PTs X ifs t' := ⟨fun pins s σ H Q I q => h.run pins s σ H Q I (i σ H Q q)⟩
theorem st_ifs {f : Expr → Sem3 S} (h : ∀ e, Snd C W X e (f e)) (ifs : List Expr) : PTs X ifs (tT C W (ifsT f ifs)) := by
  unfold ifsT
  split
  · exact pts_mono pts_nil fun σ H Q ⟨P, s, R, q⟩ => q.now R
  · exact pts_one (h _).t
  · exact ⟨fun pins s σ H Q I ⟨P, st, R, q⟩ => q.elim⟩
/-- the slots of a comprehension's own names -/
def ownNames (N : List Str) (scope : Scope) : List (Str × Nat) := scope.names.filterMap fun y => match y.2 with
  | .local => (slotOf N y.1).map fun i => (y.1, i)
  | .cell => (slotOf N y.1).map fun i => (y.1, i)
  | _ => none
/-- the scope of a comprehension's block, as it runs in a def with the scope sc -/
def rl (scope sc : Scope) : Scope := { scope with names := scope.names.map fun (n, k) => if k == .free && sc.kind == .function && sc.names.lookup n == some .cell then (n, .cell) else (n, k) }
theorem rl_lookup {scope sc : Scope} {x : Str} {kd : NameKind} (hk : kd ≠ .free) (h : scope.names.lookup x = some kd) : (rl scope sc).names.lookup x = some kd := by
  unfold rl
  dsimp only
  generalize scope.names = l at h
  induction l with
  | nil => cases h
  | cons p l ih =>
    obtain ⟨n, k⟩ := p
    rw [List.lookup_cons] at h
    rw [List.map_cons]
    cases q : x == n with
    | true =>
      rw [q] at h
      cases h
      dsimp only
      split
      · rename_i z
        simp only [Bool.and_eq_true, beq_iff_eq] at z
        exact absurd z.1.1 hk
      · rw [List.lookup_cons, q]
    | false =>
      rw [q] at h
      dsimp only
      split
      · rw [List.lookup_cons, q]; exact ih h
      · rw [List.lookup_cons, q]; exact ih h
theorem Xk.blk {N : List Str} {sc : Scope} (k : Xk C W X N sc) (s : Shared) (H : Hp) (scope : Scope) (cl : List (Str × Addr)) (Ca : Addr) (fp : List Addr) : Xk C W0 (X.blk s H scope (compEnvC scope cl Ca X.env) fp) N (rl scope sc) := by
  refine ⟨k.K, k.names, k.nd, ?_, k.calm, k.hu, k.gd, takes0⟩
  rw [← k.scope]
  rfl
theorem Xs.blk {N : List Str} {sc : Scope} (k : Xk C W X N sc) (s : Shared) (H : Hp) (scope : Scope) (cl : List (Str × Addr)) (Ca : Addr) (fp : List Addr) : Xs C (X.blk s H scope (compEnvC scope cl Ca X.env) fp) N scope := by
  refine ⟨k.K, k.names, k.nd, k.calm, fun x h => ?_⟩
  have e : (X.blk s H scope (compEnvC scope cl Ca X.env) fp).env.scope = rl scope X.env.scope := rfl
  rcases locB_ok h with z | z
  · have := rl_lookup (sc := X.env.scope) (by decide) z
    exact ⟨.inl (by rw [e]; exact this), .inr (by rw [e]; exact this)⟩
  · have := rl_lookup (sc := X.env.scope) (by decide) z
    exact ⟨.inr (by rw [e]; exact this), .inl (by show (scope.names.lookup x == some .cell) = true; rw [z]; rfl)⟩
theorem GkOk.blk {G : Gk S} (g : GkOk C X G) (s : Shared) (H : Hp) (scope : Scope) (cl : List (Str × Addr)) (Ca : Addr) (fp : List Addr) : GkOk C (X.blk s H scope (compEnvC scope cl Ca X.env) fp) G :=
  ⟨⟨g.glo, fun x f h => ⟨(g.cal x f h).ok⟩, g.blt, g.spc, fun x fl h => ⟨(g.exn x fl h).ok⟩, g.sys, fun x f1 f2 h => ⟨(g.exn2 x f1 f2 h).ok⟩, ⟨g.obj.fld, fun m c f h => ⟨(g.obj.mth m c f h).ok⟩, fun m c f h => ⟨(g.obj.prp m c f h).ok⟩, fun x c f h => ⟨(g.obj.new x c f h).ok⟩, fun c f h => ⟨(g.obj.len c f h).ok⟩, fun x1 x2 cs h => ⟨(g.obj.cat x1 x2 cs h).ok⟩, fun x fs h => ⟨(g.obj.exc x fs h).ok⟩, fun n y b h => ⟨(g.obj.isx n y b h).ok⟩, fun n f h => ⟨(g.obj.fx n f h).ok⟩⟩⟩, fun x tb h => let ⟨zs, kk, e, F, r⟩ := g.said x tb h; ⟨zs, kk, e, ⟨F.ok, F.room, F.zs⟩, r⟩⟩
def isSet : Expr → Bool
  | .Set _ _ _ => true
  | _ => false
def lc3 (N : List Str) (sc scope : Scope) (f f2 : Expr → Sem3 S) (elt tg iter : Expr) (ifs : List Expr) : EvF S :=
  if blkC N sc scope (ownNames N scope) = true ∧ ((tgt N scope 20 tg).ts.all fun j => ((ownNames N scope).map (·.2)).contains j) = true ∧ isSet iter = false
  then lcE (src false N sc f tg iter) (tgt N scope 20 tg).g (ifsT f2 ifs) (f2 elt).v ((ownNames N scope).map (·.2)) else stuckF
theorem sd_lc3 {N : List Str} {sc : Scope} {G : Gk S} {f f2 : Expr → Sem3 S} (k : Xk C W X N sc) (gk : GkOk C X G) (h : ∀ e, Snd C W X e (f e)) {scope : Scope} (h2 : ∀ {X' : Cx}, Xk C W0 X' N (rl scope sc) → GkOk C X' G → ∀ e, Snd C W0 X' e (f2 e)) (elt tg iter : Expr) (ifs : List Expr) (pos : Pos) :
    PE X (.ListComp elt [⟨tg, iter, ifs, 0⟩] scope pos) (tF C W (lc3 N sc scope f f2 elt tg iter ifs)) := by
  unfold lc3
  split
  · rename_i q
    obtain ⟨q1, q2, q3⟩ := q
    refine pe_mono (pe_lc k.calm (by rw [k.names]; exact k.nd) (si_src (m := false) k gk h tg iter) (blkOk_by (by rw [k.names, k.scope]; exact q1)) (fun s H Ca cl fp => ((tgt_snd (Xs.blk k s H scope cl Ca fp) 20).1 tg).p)
      (fun s H Ca cl fp => st_ifs (h2 (k.blk s H scope cl Ca fp) (gk.blk s H scope cl Ca fp)) ifs) (fun s H Ca cl fp => (h2 (k.blk s H scope cl Ca fp) (gk.blk s H scope cl Ca fp) elt).v) ?_) fun σ H Q hq => ?_
    · intro x
      cases iter <;> first | rfl | (simp [isSet] at q3; done)
    · refine t_lc ((tgt_ok 20).1 tg) (fun j hj => ?_) hq
      have := List.all_eq_true.mp q2 j hj
      simpa using this
  · exact sd_stuckF
/-- a comprehension of two sources, the second one a new list -/
def lc4 (N : List Str) (sc scope : Scope) (f f2 : Expr → Sem3 S) (elt tg iter : Expr) (ifs : List Expr) (tg1 iter1 : Expr) (ifs1 : List Expr) : EvF S :=
  if (blkC N sc scope (ownNames N scope) = true ∧ ((tgt N scope 20 tg).ts.all fun j => ((ownNames N scope).map (·.2)).contains j) = true ∧ isSet iter = false) ∧ ((tgt N scope 20 tg1).ts.all fun j => ((ownNames N scope).map (·.2)).contains j) = true ∧ isSet iter1 = false ∧ (f2 iter1).fr = true
  then lcE2 (src false N sc f tg iter) (tgt N scope 20 tg).g (ifsT f2 ifs) (f2 iter1).v (tgt N scope 20 tg1).g (ifsT f2 ifs1) (f2 elt).v ((ownNames N scope).map (·.2)) (tgt N scope 20 tg1).ts else stuckF
theorem sd_lc4 {N : List Str} {sc : Scope} {G : Gk S} {f f2 : Expr → Sem3 S} (k : Xk C W X N sc) (gk : GkOk C X G) (h : ∀ e, Snd C W X e (f e)) {scope : Scope} (h2 : ∀ {X' : Cx}, Xk C W0 X' N (rl scope sc) → GkOk C X' G → ∀ e, Snd C W0 X' e (f2 e)) (elt tg iter : Expr) (ifs : List Expr) (tg1 iter1 : Expr) (ifs1 : List Expr) (pos : Pos) :
    PE X (.ListComp elt [⟨tg, iter, ifs, 0⟩, ⟨tg1, iter1, ifs1, 0⟩] scope pos) (tF C W (lc4 N sc scope f f2 elt tg iter ifs tg1 iter1 ifs1)) := by
  unfold lc4
  split
  · rename_i q
    obtain ⟨⟨q1, q2, q3⟩, q4, q5, q6⟩ := q
    refine pe_mono (pe_lc2 (vs1 := (tgt N scope 20 tg1).ts) (wi1 := iSeqA X.K (tF C W0 (f2 iter1).v)) k.calm (by rw [k.names]; exact k.nd) (si_src (m := false) k gk h tg iter) (blkOk_by (by rw [k.names, k.scope]; exact q1)) (fun j hj => by simpa using List.all_eq_true.mp q4 j hj) (fun s H Ca cl fp => ((tgt_snd (Xs.blk k s H scope cl Ca fp) 20).1 tg).p)
      (fun s H Ca cl fp => st_ifs (h2 (k.blk s H scope cl Ca fp) (gk.blk s H scope cl Ca fp)) ifs) (fun s H Ca cl fp => pi_seqA ((h2 (k.blk s H scope cl Ca fp) (gk.blk s H scope cl Ca fp) iter1).f q6)) (fun s H Ca cl fp => ((tgt_snd (Xs.blk k s H scope cl Ca fp) 20).1 tg1).p)
      (fun s H Ca cl fp => st_ifs (h2 (k.blk s H scope cl Ca fp) (gk.blk s H scope cl Ca fp)) ifs1) (fun s H Ca cl fp => (h2 (k.blk s H scope cl Ca fp) (gk.blk s H scope cl Ca fp) elt).v) ?_ ?_) fun σ H Q hq => ?_
    · intro x
      cases iter <;> first | rfl | (simp [isSet] at q3; done)
    · intro env x
      cases iter1 <;> first | rfl | (simp [isSet] at q5; done)
    · refine t_lc2 (K := X.K) k.K ((tgt_ok 20).1 tg) (fun j hj => ?_) ((tgt_ok 20).1 tg1) (fun j hj => hj) hq
      have := List.all_eq_true.mp q2 j hj
      simpa using this
  · exact sd_stuckF
end
end Q

/-! Lay13: the evaluation of expressions, whole. -/
namespace Q
open PySem L2
section
variable {S : Type} {C : Cn S} {W : L2.WX} {X : Cx}
def isBO : Expr → Bool
  | .BoolOp _ _ _ => true
  | _ => false
structure Snw (C : Cn S) (W : L2.WX) (X : Cx) (e : Expr) (r : Sem3 S) : Prop extends Snd C W X e r where
  w : isBO e = true → PW X e (tT C W r.t)
theorem Snw.of {e : Expr} {r : Sem3 S} (h : Snd C W X e r) (n : isBO e = false) : Snw C W X e r := ⟨h, fun z => by rw [n] at z; cases z⟩
theorem Snw.stuck {e : Expr} : Snw C W X e stuck3 := ⟨Snd.stuck, fun _ => ⟨fun wh pins s σ H Q I ⟨P, st, R, q⟩ => q.elim⟩⟩
def nm3 (G : Gk S) (N : List Str) (sc : Scope) (x : Str) : Sem3 S :=
  if visB sc x = true then ⟨false, evVar N sc x, truth (evVarK N sc x)⟩ else match G.glo x with
  | some d => if glB sc x = true then plain3 (evC (some d)) else stuck3
  | none => stuck3
theorem snd_nm {G : Gk S} {N : List Str} {sc : Scope} (k : Xk C W X N sc) (g : GkOk C X G) (x : Str) (pos : Pos) : Snd C W X (.Name x pos) (nm3 G N sc x) := by
  unfold nm3
  split
  · exact ⟨sd_var k x pos, fun z => Bool.noConfusion z, st_truth k.K (sd_varK k x pos) rfl⟩
  · split
    · rename_i d hd
      split
      · rename_i hg
        obtain ⟨h1, h2, h3⟩ := gl_of k hg
        obtain ⟨v, u, e1, e2, e3, e4⟩ := g.glo x d hd
        exact Snd.plain k.K (sd_c (t := tC v) (pe_glob h1 e1 e2 h2) e3 e4) rfl
      · exact Snd.stuck
    · exact Snd.stuck
def po3 (N : List Str) (sc : Scope) (f : Expr → Sem3 S) : Option Expr → EvO' S
  | none => noneO
  | some e => someO (pk N sc f e)
theorem so_po3 {N : List Str} {sc : Scope} {f : Expr → Sem3 S} (k : Xk C W X N sc) (h : ∀ e, Snd C W X e (f e)) (o : Option Expr) : PO X o (tO C W (po3 N sc f o)) := by
  cases o with
  | none => exact so_none
  | some e => exact so_some (sd_pk k h e)
/-! ### list(range(..)) -/
def lrD (lo hi : Int) : Option D := if -(2 ^ 62) ≤ lo ∧ lo < 2 ^ 62 ∧ -(2 ^ 62) ≤ hi ∧ hi < 2 ^ 62 ∧ (hi - lo).toNat ≤ 2 ^ 24 then some (.lst (rangeD lo (hi - lo).toNat)) else none
def lr1 (f : EvF S) : EvF S := fun ρ s => (f ρ s).bind fun d s1 => match d with
  | .int j => ofO (lrD 0 j) s1
  | _ => .stuck
def lr2 (f g : EvF S) : EvF S := fun ρ s => (f ρ s).bind fun d s1 => (g ρ s1).bind fun d2 s2 => match d, d2 with
  | .int i, .int j => ofO (lrD i j) s2
  | _, _ => .stuck
theorem rp_range {K : PySem.W.Frag} {H : Hp} {F : Addr → Prop} : ∀ (n : Nat) (lo : Int), RpL K H F ((List.range n).map fun i => V.int (lo + (i : Nat))) (rangeD lo n)
  | 0, _ => .nil
  | n + 1, lo => by
    rw [List.range_succ_eq_map, List.map_cons, List.map_map]
    refine .cons (by simpa using Rp.int lo) ?_
    have := rp_range (K := K) (H := H) (F := F) n (lo + 1)
    have e : ((fun i : Nat => V.int (lo + (i : Nat))) ∘ Nat.succ) = fun i : Nat => V.int (lo + 1 + (i : Nat)) := by
      funext i
      simp only [Function.comp, Nat.succ_eq_add_one]
      congr 1
      omega
    rw [e]
    exact this
theorem lr_end {P : Pt} {σ : L2.St} {H H1 : Hp} {s s1 : S} {lo hi : Int} {Q : VK} (R1 : Rel C P σ H1 s1) (x1 : Xt C.T s s1 H H1) (q : Run C W P σ H1 s1 (ofO (lrD lo hi) s1) fun d s' H' => ∀ v, Fr C P s' H H' v d → Q v H') :
    RgOk lo hi ∧ ∀ p, H1 p = none → Q (.ref p) (upd H1 p (.lst (rgV lo hi))) := by
  obtain ⟨d, e, k⟩ := run_ofO q
  unfold lrD at e
  split at e
  · rename_i hb
    cases e
    exact ⟨hb, fun p hp => k _ (R1.new hp) (Xt.new hp) _ ((Fr.newL R1 hp (rp_range _ _)).back x1)⟩
  · cases e
theorem sd_lr1 {N : List Str} {sc : Scope} {G : Gk S} (k : Xk C W X N sc) (g : GkOk C X G) {a : Expr} {p p2 pos pos2 : Pos} {f : EvF S} (hg : glB sc "list" = true) (hg2 : glB sc "range" = true) (hs : isStar a = false) (ha : PE X a (tK C W f)) : PE X (.Call (.Name "list" p) [.Call (.Name "range" p2) [a] [] pos2] [] pos) (tF C W (lr1 f)) := by
  refine pe_mono (pe_listRg k.calm (gl_of k hg).1 (g.blt "list" (by simp [bltNames])) (prg_1 (gl_of k hg2).1 (g.blt "range" (by simp [bltNames])) ha (star_no hs))) fun σ H Q ⟨P, s, R, q⟩ => ⟨P, s, R, q.bind.mono fun d s1 H1 R1 x1 q1 v tv => ?_⟩
  cases d with
  | int j => exact ⟨j, top_int tv.weak, lr_end R1 x1 q1⟩
  | _ => exact q1.elim
theorem sd_lr2 {N : List Str} {sc : Scope} {G : Gk S} (k : Xk C W X N sc) (g : GkOk C X G) {a b : Expr} {p p2 pos pos2 : Pos} {f h : EvF S} (hg : glB sc "list" = true) (hg2 : glB sc "range" = true) (hs : isStar a = false) (hs2 : isStar b = false) (ha : PE X a (tK C W f)) (hb : PE X b (tK C W h)) :
    PE X (.Call (.Name "list" p) [.Call (.Name "range" p2) [a, b] [] pos2] [] pos) (tF C W (lr2 f h)) := by
  refine pe_mono (pe_listRg k.calm (gl_of k hg).1 (g.blt "list" (by simp [bltNames])) (prg_2 (gl_of k hg2).1 (g.blt "range" (by simp [bltNames])) ha hb (star_no hs) (star_no hs2) (star_back (by simp [hs2])))) fun σ H Q ⟨P, s, R, q⟩ => ⟨P, s, R, q.bind.mono fun d s1 H1 R1 x1 q1 v tv => ⟨P, s1, R1, q1.bind.mono fun d2 s2 H2 R2 x2 q2 v2 tv2 => ?_⟩⟩
  cases d with
  | int i =>
    cases d2 with
    | int j => exact ⟨i, j, top_int tv.weak, top_int tv2.weak, lr_end R2 (x1.trans x2) q2⟩
    | _ => exact q2.elim
  | _ => exact q2.elim
/-! ### calls by name -/
def isi3 (N : List Str) (sc : Scope) (f : Expr → Sem3 S) : List Expr → Sem3 S
  | [a, .Name T _] => match tyName T with
    | some T' => if glB sc "isinstance" = true ∧ isStar a = false ∧ glB sc T = true then plain3 (isiE (pk N sc f a) T') else stuck3
    | none => stuck3
  | [a, .Tuple [.Name T _, .Name U _] _ _] => match tyName T, tyName U with
    | some T', some U' => if glB sc "isinstance" = true ∧ isStar a = false ∧ glB sc T = true ∧ glB sc U = true then plain3 (isi2E (pk N sc f a) T' U') else stuck3
    | _, _ => stuck3
  | _ => stuck3
theorem ty_blt {x : Str} {T : String} (h : tyName x = some T) : ∃ n ∈ bltNames, x = Str.ofString n := by
  obtain ⟨h1, h2⟩ := tyName_ok h
  refine ⟨T, ?_, h2⟩
  have : ∀ T ∈ knownT, T ∈ bltNames := by decide
  exact this T h1
theorem snd_isi {N : List Str} {sc : Scope} {G : Gk S} {f : Expr → Sem3 S} (k : Xk C W X N sc) (g : GkOk C X G) (h : ∀ e, Snd C W X e (f e)) (as : List Expr) (p pos : Pos) : Snd C W X (.Call (.Name "isinstance" p) as [] pos) (isi3 N sc f as) := by
  unfold isi3
  split
  · split
    · rename_i T' hT
      split
      · rename_i q
        obtain ⟨n, hn, rfl⟩ := ty_blt hT
        exact Snd.plain k.K (sd_isi k (sd_pk k h _) q.2.1 q.1 (g.blt "isinstance" (by simp [bltNames])) hT q.2.2 (g.blt n hn)) rfl
      · exact Snd.stuck
    · exact Snd.stuck
  · split
    · rename_i T' U' hT hU
      split
      · rename_i q
        obtain ⟨n, hn, rfl⟩ := ty_blt hT
        obtain ⟨m, hm, rfl⟩ := ty_blt hU
        exact Snd.plain k.K (sd_isi2 k (sd_pk k h _) q.2.1 q.1 (g.blt "isinstance" (by simp [bltNames])) hT q.2.2.1 (g.blt n hn) hU q.2.2.2 (g.blt m hm)) rfl
      · exact Snd.stuck
    · exact Snd.stuck
  · exact Snd.stuck
def lr3 (N : List Str) (sc : Scope) (f : Expr → Sem3 S) : List Expr → Option (Sem3 S)
  | [.Call (.Name y _) [a] [] _] => if y = "range" ∧ glB sc "list" = true ∧ glB sc "range" = true ∧ isStar a = false then some (plain3 (lr1 (pk N sc f a))) else none
  | [.Call (.Name y _) [a, b] [] _] => if y = "range" ∧ glB sc "list" = true ∧ glB sc "range" = true ∧ isStar a = false ∧ isStar b = false then some (plain3 (lr2 (pk N sc f a) (pk N sc f b))) else none
  | _ => none
theorem snd_lr {N : List Str} {sc : Scope} {G : Gk S} {f : Expr → Sem3 S} (k : Xk C W X N sc) (g : GkOk C X G) (h : ∀ e, Snd C W X e (f e)) (as : List Expr) (p pos : Pos) (r : Sem3 S) (e : lr3 N sc f as = some r) : Snd C W X (.Call (.Name "list" p) as [] pos) r := by
  unfold lr3 at e
  split at e
  · split at e
    · rename_i q
      obtain ⟨rfl, q2, q3, q4⟩ := q
      cases e
      exact Snd.plain k.K (sd_lr1 k g q2 q3 q4 (sd_pk k h _)) rfl
    · cases e
  · split at e
    · rename_i q
      obtain ⟨rfl, q2, q3, q4, q5⟩ := q
      cases e
      exact Snd.plain k.K (sd_lr2 k g q2 q3 q4 q5 (sd_pk k h _) (sd_pk k h _)) rfl
    · cases e
  · cases e
def own3 (G : Gk S) (N : List Str) (sc : Scope) (f : Expr → Sem3 S) (x : Str) (as : List Expr) : Sem3 S := match G.cal x with
  | some fn => if glB sc x = true ∧ (as.all fun e => !isStar e) = true then ⟨fn.fr, callF fn (argsC N sc f as), truth (callF fn (argsC N sc f as))⟩ else stuck3
  | none => match bi x with
    | some bf => if glB sc x = true ∧ (as.all fun e => !isStar e) = true ∧ as.isEmpty = false then plain3 (biF bf (argsK N sc f as)) else stuck3
    | none => stuck3
theorem snd_own {N : List Str} {sc : Scope} {G : Gk S} {f : Expr → Sem3 S} (k : Xk C W X N sc) (g : GkOk C X G) (h : ∀ e, Snd C W X e (f e)) (x : Str) (as : List Expr) (p pos : Pos) : Snd C W X (.Call (.Name x p) as [] pos) (own3 G N sc f x as) := by
  unfold own3
  split
  · rename_i fn hc
    split
    · rename_i q
      have hn : as = [] → argsC N sc f as = nilA := fun e => by subst e; rfl
      have hv := sd_call (p := p) (pos := pos) k (g.cal x fn hc) q.1 (sa_args k h as) q.2 hn
      exact ⟨hv, fun z => sd_callF k (g.cal x fn hc) z q.1 (sa_args k h as) q.2 hn, st_truth k.K (PE.peek hv) rfl⟩
    · exact Snd.stuck
  · split
    · rename_i bf hb
      split
      · rename_i q
        obtain ⟨q1, q2, q3⟩ := q
        cases as with
        | nil => cases q3
        | cons a as => exact Snd.plain k.K (sd_bi_any k g hb q1 (sak_args k h _ q2) q2) rfl
      · exact Snd.stuck
    · exact Snd.stuck
def call3 (G : Gk S) (N : List Str) (sc : Scope) (f : Expr → Sem3 S) (x : Str) (as : List Expr) : Sem3 S :=
  if x = "isinstance" then isi3 N sc f as
  else if x = "list" then (match lr3 N sc f as with
    | some r => r
    | none => own3 G N sc f x as)
  else own3 G N sc f x as
theorem snd_call {N : List Str} {sc : Scope} {G : Gk S} {f : Expr → Sem3 S} (k : Xk C W X N sc) (g : GkOk C X G) (h : ∀ e, Snd C W X e (f e)) (x : Str) (as : List Expr) (p pos : Pos) : Snd C W X (.Call (.Name x p) as [] pos) (call3 G N sc f x as) := by
  unfold call3
  split
  · subst_vars; exact snd_isi k g h as p pos
  · split
    · subst_vars
      split
      · rename_i r e; exact snd_lr k g h as p pos r e
      · exact snd_own k g h _ as p pos
    · exact snd_own k g h _ as p pos
def sub3 (N : List Str) (sc : Scope) (f : Expr → Sem3 S) (a i : Expr) : Sem3 S := match i with
  | .Slice lo hi st _ => match st with
    | none => plain3 (slE (pk N sc f a) (po3 N sc f lo) (po3 N sc f hi))
    | some (.UnaryOp .USub (.Constant (.int z) _ _) _) => if z = 1 ∧ lo.isNone = true ∧ hi.isNone = true then plain3 (revE (pk N sc f a)) else stuck3
    | _ => stuck3
  | i => val3 (bin dIx (pk N sc f a) (pk N sc f i))
theorem snd_sub {N : List Str} {sc : Scope} {f : Expr → Sem3 S} (k : Xk C W X N sc) (h : ∀ e, Snd C W X e (f e)) (a i : Expr) (pos : Pos) : Snd C W X (.Subscript a i pos) (sub3 N sc f a i) := by
  unfold sub3
  split
  · rename_i lo hi st p2
    split
    · exact Snd.plain k.K (sd_sl k.K (sd_pk k h a) (so_po3 k h lo) (so_po3 k h hi)) rfl
    · split
      · rename_i q
        obtain ⟨rfl, q2, q3⟩ := q
        cases lo with
        | some _ => cases q2
        | none =>
          cases hi with
          | some _ => cases q3
          | none => exact Snd.plain k.K (sd_rev k.K (sd_pk k h a)) rfl
      · exact Snd.stuck
    · exact Snd.stuck
  · rename_i hn
    refine Snd.val k.K (sd_ix k.K (sd_pk k h a) (sd_pk k h i) ?_) rfl
    cases i <;> first | rfl | exact absurd rfl (hn _ _ _ _)
/-- {} -/
def empE : EvF S := fun _ s => .ok .emp s
theorem sd_emp {pos : Pos} : PE X (.Dict [] [] pos) (tF C W empE) := pe_mono pe_dnewK fun σ H Q ⟨P, s, R, q⟩ p hp => (q (upd H p (.dK [])) (R.new hp) (Xt.new hp)) (.ref p) ⟨.emp (by
  have := R.fresh hp
  exact ⟨this.1, this.2.1, this.2.2.1, this.2.2.2⟩) upd_same, fun ds e => nomatch e⟩
/-- the evaluation -/
def evB : Gk S → List Str → Nat → Scope → Expr → Sem3 S
  | _, _, 0, _, _ => stuck3
  | G, N, n + 1, sc, e => match (if isBO e = true then none else G.sp N sc (evB G N n sc) e) with
    | some r => r
    | none => match e with
    | .Name x _ => nm3 G N sc x
    | .Constant c _ _ => plain3 (evC (cD c))
    | .BinOp a o b _ => plain3 (bin (dBin o) (pk N sc (evB G N n sc) a) (pk N sc (evB G N n sc) b))
    | .Compare a [op] [b] _ => if behindInMarks op b = true then stuck3 else ⟨true, bin (dCmp op) (pk N sc (evB G N n sc) a) (pk N sc (evB G N n sc) b), testB (bin (dCmp op) (pk N sc (evB G N n sc) a) (pk N sc (evB G N n sc) b))⟩
    | .Compare a [op, op'] [b, c] _ => if lastMarks [op, op'] [b, c] = true then stuck3 else
      ⟨true, chain (dCmp op) (dCmp op') (pk N sc (evB G N n sc) a) (pk N sc (evB G N n sc) b) (pk N sc (evB G N n sc) c), testB (chain (dCmp op) (dCmp op') (pk N sc (evB G N n sc) a) (pk N sc (evB G N n sc) b) (pk N sc (evB G N n sc) c))⟩
    | .BoolOp _ [a] _ => ⟨(evB G N n sc a).fr, (evB G N n sc a).v, (evB G N n sc a).t⟩
    | .BoolOp .And (a :: b :: r) pos => ⟨false, andV (evB G N n sc a).v (evB G N n sc (.BoolOp .And (b :: r) pos)).v, andT (evB G N n sc a).t (evB G N n sc (.BoolOp .And (b :: r) pos)).t⟩
    | .BoolOp .Or (a :: b :: r) pos => ⟨false, orV (evB G N n sc a).v (evB G N n sc (.BoolOp .Or (b :: r) pos)).v, orT (evB G N n sc a).t (evB G N n sc (.BoolOp .Or (b :: r) pos)).t⟩
    | .UnaryOp .Not a _ => ⟨true, notV (pk N sc (evB G N n sc) a), notT (evB G N n sc a).t⟩
    | .UnaryOp .USub a _ => plain3 (negV (pk N sc (evB G N n sc) a))
    | .IfExp c a b _ => ⟨(evB G N n sc a).fr && (evB G N n sc b).fr, ifE (evB G N n sc c).t (evB G N n sc a).v (evB G N n sc b).v, ifT (evB G N n sc c).t (evB G N n sc a).t (evB G N n sc b).t⟩
    | .Tuple es _ _ => plain3 (tupE (argsC N sc (evB G N n sc) es))
    | .List es _ => plain3 (lstE (argsC N sc (evB G N n sc) es))
    | .Dict [] [] _ => plain3 empE
    | .Subscript a i _ => sub3 N sc (evB G N n sc) a i
    | .Call (.Name x _) [.Lambda ⟨[], [], none, [], [], none, []⟩ body scope _] [] _ => (match G.said x with
      | some tb => if glB sc x = true ∧ LamX.lamSB sc scope = true then plain3 (saidE tb (evB G.mute N n scope body).v) else stuck3
      | none => stuck3)
    | .Call (.Name x _) [.Lambda ⟨[], [ar], none, [], [], none, [.Constant (.int _) _ _]⟩ body scope _] [] _ => (match G.said x with
      | some tb => if glB sc x = true ∧ lamDB sc scope ar.arg = true ∧ (N.contains ar.arg) = false then plain3 (saidE tb (evB G.mute N n scope body).v) else stuck3
      | none => stuck3)
    | .Call (.Name x _) as [] _ => call3 G N sc (evB G N n sc) x as
    | .ListComp elt [⟨tg, iter, ifs, a⟩] scope _ => if a = 0 then plain3 (lc3 N sc scope (evB G N n sc) (evB G N n (rl scope sc)) elt tg iter ifs) else stuck3
    | .ListComp elt [⟨tg, iter, ifs, a⟩, ⟨tg1, iter1, ifs1, a1⟩] scope _ => if a = 0 ∧ a1 = 0 then plain3 (lc4 N sc scope (evB G N n sc) (evB G N n (rl scope sc)) elt tg iter ifs tg1 iter1 ifs1) else stuck3
    | _ => stuck3
theorem ev_ok {N : List Str} : ∀ {G : Gk S} (n : Nat) {W : L2.WX} {X : Cx} {sc : Scope}, Xk C W X N sc → GkOk C X G → ∀ e, Snw C W X e (evB G N n sc e)
  | _, 0, _, _, _, _, _, _ => by unfold evB; exact Snw.stuck
  | G, n + 1, W, X, sc, k, g, e => by
    have ih : ∀ e, Snw C W X e (evB G N n sc e) := ev_ok n k g
    have h : ∀ e, Snd C W X e (evB G N n sc e) := fun e => (ih e).toSnd
    unfold evB
    split
    · rename_i r q
      split at q
      · cases q
      · rename_i hb
        exact .of (g.spc k g.blt g.obj h _ _ q) (Bool.eq_false_iff.mpr hb)
    rename_i hno
    clear hno
    split
    · exact .of (snd_nm k g _ _) rfl
    · exact .of (Snd.plain k.K (sd_const _ _ _) rfl) rfl
    · exact .of (Snd.plain k.K (sd_bin k.K (sd_pk k h _) (sd_pk k h _)) rfl) rfl
    · split
      · exact .stuck
      · rename_i hm
        have hm := Bool.eq_false_iff.mpr hm
        exact .of ⟨PE.clean (sd_cmp k.K (by have := k.hu; omega) (sd_pk k h _) (sd_pk k h _) hm), fun _ => sd_cmp k.K (by have := k.hu; omega) (sd_pk k h _) (sd_pk k h _) hm, st_cmp k.K (by have := k.hu; omega) (sd_pk k h _) (sd_pk k h _) hm⟩ rfl
    · split
      · exact .stuck
      · rename_i hm
        have hm := Bool.eq_false_iff.mpr hm
        exact .of ⟨PE.clean (sd_chain k.K (by have := k.hu; omega) (sd_pk k h _) (sd_pk k h _) (sd_pk k h _) hm), fun _ => sd_chain k.K (by have := k.hu; omega) (sd_pk k h _) (sd_pk k h _) (sd_pk k h _) hm, st_chain k.K (by have := k.hu; omega) (sd_pk k h _) (sd_pk k h _) (sd_pk k h _) hm⟩ rfl
    · rename_i op a pos
      have hw : PW X (.BoolOp op [a] pos) (tT C W (evB G N n sc a).t) := by
        cases op
        · exact pw_and1 (h a).t
        · exact pw_or1 (h a).t
      exact ⟨⟨pe_one (h a).v, fun z => pe_one ((h a).f z), hw.pt⟩, fun _ => hw⟩
    · exact ⟨⟨sd_and k.K (h _).v (h _).v, fun z => Bool.noConfusion z, (sw_and (h _).t ((ih _).w rfl)).pt⟩, fun _ => sw_and (h _).t ((ih _).w rfl)⟩
    · exact ⟨⟨sd_or k.K (h _).v (h _).v, fun z => Bool.noConfusion z, (sw_or (h _).t ((ih _).w rfl)).pt⟩, fun _ => sw_or (h _).t ((ih _).w rfl)⟩
    · exact .of ⟨PE.clean (sd_not k.K (sd_pk k h _)), fun _ => sd_not k.K (sd_pk k h _), st_not (h _).t⟩ rfl
    · exact .of (Snd.plain k.K (sd_neg (sd_pk k h _)) rfl) rfl
    · refine .of ⟨sd_if (h _).t (h _).v (h _).v, fun z => ?_, st_if (h _).t (h _).t (h _).t⟩ rfl
      simp only [Bool.and_eq_true] at z
      exact sd_ifF (h _).t ((h _).f z.1) ((h _).f z.2)
    · exact .of (Snd.plain k.K (sd_tup (sa_args k h _)) rfl) rfl
    · exact .of (Snd.plain k.K (sd_lst (sa_args k h _)) rfl) rfl
    · exact .of (Snd.plain k.K sd_emp rfl) rfl
    · exact .of (snd_sub k h _ _ _) rfl
    · split
      · rename_i tb hx
        split
        · rename_i q
          obtain ⟨zs, kk, rfl, F, re⟩ := g.said _ _ hx
          exact .of (Snd.plain k.K (sd_said k F q.1 (LamX.lamS_by (by rw [k.scope]; exact q.2)) rfl (fun _ _ _ _ _ => rfl) fun A outer s H E f' c' hgd hr =>
            (ev_ok n (⟨k.K, k.names, k.nd, rfl, rfl, by have := hr.un; show (A.deeper _).units + 200 < _; omega, hgd.trans k.gd, takes_of rfl rfl rfl rfl⟩ : Xk C (fun cl d _ H => E cl d H) (LamX.lamCx X A outer s H E _ f' c') N _) (re (LamX.lamCx X A outer s H E _ f' c') rfl rfl rfl rfl rfl hr).muted _).toSnd.v) rfl) rfl
        · exact .stuck
      · exact .stuck
    · split
      · rename_i tb hx
        split
        · rename_i q
          obtain ⟨zs, kk, rfl, F, re⟩ := g.said _ _ hx
          exact .of (Snd.plain k.K (sd_saidD k F q.1 (lamD_by (by rw [k.scope]; exact q.2.1)) (by rw [k.names]; intro hm; have h3 := List.contains_iff_mem.mpr hm; rw [q.2.2] at h3; cases h3) fun A outer s H E f' c' hgd hr =>
            (ev_ok n (⟨k.K, k.names, k.nd, rfl, rfl, by have := hr.un; show (A.deeper _).units + 200 < _; omega, hgd.trans k.gd, takes_of rfl rfl rfl rfl⟩ : Xk C (fun cl d _ H => E cl d H) (LamX.lamCx X A outer s H E _ f' c') N _) (re (LamX.lamCx X A outer s H E _ f' c') rfl rfl rfl rfl rfl hr).muted _).toSnd.v) rfl) rfl
        · exact .stuck
      · exact .stuck
    · exact .of (snd_call k g h _ _ _ _) rfl
    · split
      · subst_vars
        exact .of (Snd.plain k.K (sd_lc3 k g h (fun k' g' e => (ev_ok n k' g' e).toSnd) _ _ _ _ _) rfl) rfl
      · exact .stuck
    · split
      · rename_i q
        obtain ⟨rfl, rfl⟩ := q
        exact .of (Snd.plain k.K (sd_lc4 k g h (fun k' g' e => (ev_ok n k' g' e).toSnd) _ _ _ _ _ _ _ _) rfl) rfl
      · exact .stuck
    · exact .stuck
end
end Q

/-! Lay14: own lists: how a name comes to have one, how it is written, let go. -/
namespace Q
open PySem L2
section
variable {S : Type} {C : Cn S} {W : L2.WX} {X : Cx}
def Pt.addZs (P : Pt) (rs : List Addr) : Pt := { P with Z := fun b => P.Z b ∨ b ∈ rs }
theorem addZs_nil (P : Pt) : P.addZs [] = P := by
  cases P; simp [Pt.addZs]
theorem addZs_cons (P : Pt) (a : Addr) (rs : List Addr) : (P.addZs [a]).addZs rs = P.addZs (a :: rs) := by
  unfold Pt.addZs
  congr 1
  funext b
  simp [or_assoc]
theorem fc_addZs {P : Pt} {s : S} {rs : List Addr} {b : Addr} (h : Fc C P s b) (n : b ∉ rs) : Fc C (P.addZs rs) s b := ⟨h.1, h.2.1, fun z => z.elim h.2.2.1 n, h.2.2.2⟩
theorem fc_unZs {P : Pt} {s : S} {rs : List Addr} {b : Addr} (h : Fc C (P.addZs rs) s b) : Fc C P s b ∧ b ∉ rs := ⟨⟨h.1, h.2.1, fun z => h.2.2.1 (.inl z), h.2.2.2⟩, fun e => h.2.2.1 (.inr e)⟩
/-- places that are new since H are reserved -/
theorem Rel.addZs {P : Pt} {σ : L2.St} {H H1 : Hp} {s s1 : S} {rs : List Addr} (R : Rel C P σ H s) (x : Xt C.T s s1 H H1) (st : C.T.R s1 H1) (hn : ∀ a ∈ rs, H a = none) (ht : ∀ a ∈ rs, H1 a ≠ none) (ha : ∀ a ∈ rs, ¬ C.T.A s1 a) : Rel C (P.addZs rs) σ H1 s1 := by
  have R1 : Rel C P σ H1 s1 := R.xt x st
  have fz : ∀ b, Fc C P s b → H b ≠ none → Fc C (P.addZs rs) s1 b := fun b f n => fc_addZs (x.fc b f n) fun e => n (hn b e)
  refine ⟨R1.len, R1.st, R1.frm, R1.live, R1.grow, fun b z => ?_, fun i sl e => ?_⟩
  · rcases z with z | z
    · exact R1.za b z
    · exact ⟨R.none0 (hn b z), ht b z, ha b z⟩
  · have h := R.slot i sl e
    have own : ∀ ds, isOwn sl = some ds → OwnOk C (P.addZs rs) σ H1 s1 i ds := fun ds q => by
      have w : OwnOk C P σ H s i ds := R.own e q
      have w1 : OwnOk C P σ H1 s1 i ds := w.xt x R.st
      obtain ⟨vs, x1, x2⟩ := w.is
      refine ⟨w.at_, w.new, w1.na, fun z => z.elim w.nz fun e => ?_, w.one, vs, x1.xt x R.st w.na, x2.step (x.stays R.st fun _ f => f.2.2.2) fz⟩
      have e' : P.r i ∈ rs := e
      exact x1.ne (hn _ e')
    cases sl with
    | no => trivial
    | val d => obtain ⟨v, e1, e2⟩ := h; exact ⟨v, e1, e2.step (x.stays R.st fun _ f => f.2.2.2) fz⟩
    | own ds => exact own _ rfl
    | lck ds => exact own _ rfl
    | obj _ _ => exact own _ rfl
/-- slot i has the own list at a -/
def Pt.ownAt (P : Pt) (i : Nat) (a : Addr) (ds : List D) : Pt := { P with r := fun j => if j = i then a else P.r j, ρ := P.ρ.set i (.own ds) }
theorem root_ownAt {P : Pt} {i : Nat} {a b : Addr} {ds : List D} (h : (P.ownAt i a ds).root b) : b = a ∨ P.root b := by
  obtain ⟨j, sl, es, e1, e2, e3⟩ := h
  by_cases hj : j = i
  · subst hj
    left
    have e3' : (if j = j then a else P.r j) = b := e3
    rw [if_pos rfl] at e3'
    exact e3'.symm
  · right
    have e1' : (P.ρ.set i (.own ds))[j]? = some sl := e1
    rw [List.getElem?_set_ne (Ne.symm hj)] at e1'
    have e3' : (if j = i then a else P.r j) = b := e3
    rw [if_neg hj] at e3'
    exact ⟨j, sl, es, e1', e2, e3'⟩
theorem mroot_ownAt {P : Pt} {i : Nat} {a b : Addr} {ds : List D} (h : (P.ownAt i a ds).mroot b) : b = a ∨ P.mroot b := by
  obtain ⟨j, sl, e1, m, e3⟩ := h
  by_cases hj : j = i
  · subst hj
    left
    have e3' : (if j = j then a else P.r j) = b := e3
    rw [if_pos rfl] at e3'
    exact e3'.symm
  · right
    have e1' : (P.ρ.set i (.own ds))[j]? = some sl := e1
    rw [List.getElem?_set_ne (Ne.symm hj)] at e1'
    have e3' : (if j = i then a else P.r j) = b := e3
    rw [if_neg hj] at e3'
    exact ⟨j, sl, e1', m, e3'⟩
theorem fc_ownAt {P : Pt} {s : S} {i : Nat} {a b : Addr} {ds : List D} {rs : List Addr} (h : Fc C (P.addZs (a :: rs)) s b) : Fc C ((P.ownAt i a ds).addZs rs) s b := by
  obtain ⟨h1, h2⟩ := fc_unZs h
  simp only [List.mem_cons, not_or] at h2
  refine ⟨h1.1, fun q => ?_, fun z => z.elim h1.2.2.1 h2.2, h1.2.2.2⟩
  rcases root_ownAt (P := P) q with z | z
  · exact h2.1 z
  · exact h1.2.1 z
/-- a reserved list becomes a name's own -/
theorem Rel.takeOwn {P : Pt} {σ : L2.St} {H : Hp} {s : S} {i : Nat} {a : Addr} {rs : List Addr} {vs : List V} {ds : List D} (R : Rel C (P.addZs (a :: rs)) σ H s) (hl : H a = some (.lst vs)) (r : RpL C.K H (Fc C (P.addZs (a :: rs)) s) vs ds) (hi : i < P.ρ.length) (hr : a ∉ rs) (hz : ¬ P.Z a) :
    Rel C ((P.ownAt i a ds).addZs rs) (σ.set i (some (.ref a))) H s := by
  obtain ⟨z1, z2, z3⟩ := R.za a (.inr List.mem_cons_self)
  have nroot : ∀ j sl es, P.ρ[j]? = some sl → isOwn sl = some es → P.r j ≠ a := fun j sl es e1 e2 e3 => by
    have o : OwnOk C (P.addZs (a :: rs)) σ H s j es := R.own e1 e2
    exact o.nz (.inr (by rw [show (P.addZs (a :: rs)).r j = a from e3]; exact List.mem_cons_self))
  refine ⟨by simpa [Pt.ownAt, Pt.addZs] using R.len, R.st, R.frm, R.live, R.grow, fun b z => R.za b (z.elim .inl fun e => .inr (List.mem_cons_of_mem _ e)), fun j sl e => ?_⟩
  have e' : (P.ρ.set i (.own ds))[j]? = some sl := e
  by_cases hj : i = j
  · subst hj
    rw [List.getElem?_set_self hi] at e'
    cases e'
    have ra : ((P.ownAt i a ds).addZs rs).r i = a := by show (if i = i then a else P.r i) = a; rw [if_pos rfl]
    refine ⟨?_, by rw [ra]; exact z1, by rw [ra]; exact z3, by rw [ra]; exact fun z => z.elim hz hr, fun j' sl' es q1 q2 q3 => ?_, vs, by rw [ra]; exact hl, r.wk fun b f _ => fc_ownAt f⟩
    · rw [ra, List.getElem?_set_self]
      have := R.len
      rw [this]
      exact hi
    · by_cases hj' : j' = i
      · exact hj'
      · exfalso
        have q1' : (P.ρ.set i (.own ds))[j']? = some sl' := q1
        rw [List.getElem?_set_ne (Ne.symm hj')] at q1'
        have q3' : (if j' = i then a else P.r j') = (if i = i then a else P.r i) := q3
        rw [if_neg hj', if_pos rfl] at q3'
        exact nroot j' sl' es q1' q2 q3'
  · rw [List.getElem?_set_ne hj] at e'
    have h := R.slot j sl e'
    have rj : ((P.ownAt i a ds).addZs rs).r j = P.r j := by show (if j = i then a else P.r j) = P.r j; rw [if_neg (Ne.symm hj)]
    have own : ∀ es, isOwn sl = some es → OwnOk C ((P.ownAt i a ds).addZs rs) (σ.set i (some (.ref a))) H s j es := fun es q => by
      have w : OwnOk C (P.addZs (a :: rs)) σ H s j es := R.own e' q
      obtain ⟨ws, x1, x2⟩ := w.is
      have nz : ¬ (P.Z (P.r j) ∨ P.r j ∈ rs) := fun z => w.nz (z.elim .inl fun e => .inr (List.mem_cons_of_mem _ e))
      refine ⟨by rw [rj, List.getElem?_set_ne hj]; exact w.at_, by rw [rj]; exact w.new, by rw [rj]; exact w.na, by rw [rj]; exact nz, fun j' sl' es' q1 q2 q3 => ?_, ws, by rw [rj]; exact x1, x2.wk fun b f _ => fc_ownAt f⟩
      rw [rj] at q3
      have q1' : (P.ρ.set i (.own ds))[j']? = some sl' := q1
      by_cases hj' : j' = i
      · subst hj'
        exfalso
        have q3' : (if j' = j' then a else P.r j') = P.r j := q3
        rw [if_pos rfl] at q3'
        exact nroot j sl es e' q q3'.symm
      · rw [List.getElem?_set_ne (Ne.symm hj')] at q1'
        have q3' : (if j' = i then a else P.r j') = P.r j := q3
        rw [if_neg hj'] at q3'
        exact w.one j' sl' es' q1' q2 q3'
    cases sl with
    | no => trivial
    | val d =>
      obtain ⟨v, e1, e2⟩ := h
      exact ⟨v, by rw [List.getElem?_set_ne hj]; exact e1, e2.wk fun b f _ => fc_ownAt f⟩
    | own es => exact own _ rfl
    | lck es => exact own _ rfl
    | obj _ _ => exact own _ rfl
/-- an own list is written -/
theorem Rel.write {P : Pt} {σ : L2.St} {H : Hp} {s : S} {i : Nat} {ds es : List D} {ws : List V} (R : Rel C P σ H s) (e : P.ρ[i]? = some (.own ds)) (r : RpL C.K H (Fc C P s) ws es) :
    Rel C { P with ρ := P.ρ.set i (.own es) } σ (upd H (P.r i) (.lst ws)) s ∧ Stp C.T P s H { P with ρ := P.ρ.set i (.own es) } s (upd H (P.r i) (.lst ws)) := by
  have hi : i < P.ρ.length := (List.getElem?_eq_some_iff.mp e).1
  have o : OwnOk C P σ H s i (.lst, ds) := R.own e rfl
  obtain ⟨vs, hl, _⟩ := o.isL
  have lv : ∀ b, H b ≠ none → upd H (P.r i) (.lst ws) b ≠ none := fun b n => by
    by_cases q : b = P.r i
    · subst q; rw [upd_same]; simp
    · rw [upd_ne q]; exact n
  have rt : ∀ {b}, ({ P with ρ := P.ρ.set i (.own es) } : Pt).root b → P.root b := fun {b} h => by
    obtain ⟨j, sl, fs, e1, e2, e3⟩ := h
    have e1' : (P.ρ.set i (.own es))[j]? = some sl := e1
    by_cases hj : i = j
    · subst hj; exact ⟨i, _, _, e, rfl, e3⟩
    · rw [List.getElem?_set_ne hj] at e1'; exact ⟨j, sl, fs, e1', e2, e3⟩
  have mrt : ∀ {b}, ({ P with ρ := P.ρ.set i (.own es) } : Pt).mroot b → P.mroot b := fun {b} h => by
    obtain ⟨j, sl, e1, m, e3⟩ := h
    have e1' : (P.ρ.set i (.own es))[j]? = some sl := e1
    by_cases hj : i = j
    · subst hj; exact ⟨i, _, e, rfl, e3⟩
    · rw [List.getElem?_set_ne hj] at e1'; exact ⟨j, sl, e1', m, e3⟩
  have fc : ∀ b, Fc C P s b → Fc C { P with ρ := P.ρ.set i (.own es) } s b := fun b f => ⟨f.1, fun q => f.2.1 (rt q), f.2.2.1, f.2.2.2⟩
  have fz : ∀ b, Fc C P s b → b ≠ P.r i := fun b f q => f.2.1 ⟨i, _, _, e, rfl, q.symm⟩
  have sty : Stays (Fc C P s) H (upd H (P.r i) (.lst ws)) := stays_zmod hl fz
  refine ⟨⟨by simpa using R.len, C.T.mono R.st fun b u q h => by rw [upd_ne (fun z => q.elim (fun q => o.na (by rw [← z]; exact q)) fun q => by rw [z, hl] at h; exact q (by rw [← Option.some.inj h]; exact trivial))]; exact h, fun b u h n => ?_, fun b n => lv b (R.live b n), R.grow, fun b z => ?_, fun j sl h => ?_⟩,
    ⟨fun b u h n m => by rw [upd_ne (fun z => m ⟨i, _, e, rfl, z.symm⟩)]; exact h, lv, fun _ h => .inl h, fun _ h => .inl (rt h), fun _ h => .inl (mrt h), rfl, fun j fs h => ?_⟩⟩
  · rw [upd_ne (fun z => by rw [z, o.new] at h; cases h)]; exact R.frm b u h n
  · obtain ⟨y1, y2, y3⟩ := R.za b z
    exact ⟨y1, lv b y2, y3⟩
  · have h' : (P.ρ.set i (.own es))[j]? = some sl := h
    by_cases hj : i = j
    · subst hj
      rw [List.getElem?_set_self hi] at h'
      cases h'
      refine ⟨o.at_, o.new, o.na, o.nz, fun j' sl' es' q1 q2 q3 => ?_, ws, upd_same, r.step sty fun b f _ => fc b f⟩
      have q1' : (P.ρ.set i (.own es))[j']? = some sl' := q1
      by_cases hj' : i = j'
      · exact hj'.symm
      · rw [List.getElem?_set_ne hj'] at q1'
        exact o.one j' sl' es' q1' q2 q3
    · rw [List.getElem?_set_ne hj] at h'
      have hs := R.slot j sl h'
      have own : ∀ fs, isOwn sl = some fs → OwnOk C { P with ρ := P.ρ.set i (.own es) } σ (upd H (P.r i) (.lst ws)) s j fs := fun fs q => by
        have w : OwnOk C P σ H s j fs := R.own h' q
        obtain ⟨us, x1, x2⟩ := w.is
        refine ⟨w.at_, w.new, w.na, w.nz, fun j' sl' es' q1 q2 q3 => ?_, us, x1.zmod hl trivial (fun z => hj (w.one i _ _ e rfl z.symm)), x2.step sty fun b f _ => fc b f⟩
        have q1' : (P.ρ.set i (.own es))[j']? = some sl' := q1
        by_cases hj' : i = j'
        · subst hj'
          exact w.one i _ _ e rfl q3
        · rw [List.getElem?_set_ne hj'] at q1'
          exact w.one j' sl' es' q1' q2 q3
      cases sl with
      | no => trivial
      | val d =>
        obtain ⟨v, e1, e2⟩ := hs
        exact ⟨v, e1, e2.step sty fun b f _ => fc b f⟩
      | own fs => exact own _ rfl
      | lck fs => exact own _ rfl
      | obj _ _ => exact own _ rfl
  · have h' : (P.ρ.set i (.own es))[j]? = some (.lck fs) := h
    by_cases hj : i = j
    · subst hj; rw [List.getElem?_set_self hi] at h'; cases h'
    · rw [List.getElem?_set_ne hj] at h'; exact ⟨⟨fs, h'⟩, rfl⟩
/-! ### letting go, locking -/
def isLs : Sl → Option (List D)
  | .own ds => some ds
  | .lck ds => some ds
  | _ => none
/-- the slot as a plain value -/
def relS : Sl → Sl
  | .own ds => .val (.lst ds)
  | .lck ds => .val (.lst ds)
  | sl => sl
def relAt (ρ : List Sl) (i : Nat) : List Sl := match ρ[i]? with
  | some sl => ρ.set i (relS sl)
  | none => ρ
theorem Rel.release {P : Pt} {σ : L2.St} {H : Hp} {s : S} (R : Rel C P σ H s) (i : Nat) : Rel C { P with ρ := relAt P.ρ i } σ H s ∧ Stp C.T P s H { P with ρ := relAt P.ρ i } s H := by
  unfold relAt
  split
  · rename_i sl e
    cases q : isLs sl with
    | none =>
      have : relS sl = sl := by cases sl <;> simp [isLs] at q <;> rfl
      rw [this]
      have : P.ρ.set i sl = P.ρ := by
        apply List.ext_getElem?
        intro j
        by_cases hj : i = j
        · subst hj; rw [List.getElem?_set_self (List.getElem?_eq_some_iff.mp e).1, e]
        · rw [List.getElem?_set_ne hj]
      rw [this]
      exact ⟨R, Stp.refl⟩
    | some ds =>
      have hr : relS sl = .val (.lst ds) := by cases sl <;> simp [isLs] at q <;> subst q <;> rfl
      rw [hr]
      have q0 : isOwn sl = some (.lst, ds) := by cases sl <;> simp [isLs] at q <;> subst q <;> rfl
      have o : OwnOk C P σ H s i (.lst, ds) := R.own e q0
      obtain ⟨vs, hl, r⟩ := o.isL
      have hi : i < P.ρ.length := (List.getElem?_eq_some_iff.mp e).1
      refine ⟨?_, stp_setVal⟩
      have fa : Fc C { P with ρ := P.ρ.set i (.val (.lst ds)) } s (P.r i) := by
        refine ⟨.inr o.new, fun ⟨j, sl', es, e1, e2, e3⟩ => ?_, o.nz, o.na⟩
        have e1' : (P.ρ.set i (.val (.lst ds)))[j]? = some sl' := e1
        by_cases hj : i = j
        · subst hj; rw [List.getElem?_set_self hi] at e1'; cases e1'; cases e2
        · rw [List.getElem?_set_ne hj] at e1'
          exact hj (o.one j sl' es e1' e2 e3).symm
      refine ⟨by simpa using R.len, R.st, R.frm, R.live, R.grow, R.za, fun j sl' e' => ?_⟩
      have e'' : (P.ρ.set i (.val (.lst ds)))[j]? = some sl' := e'
      by_cases hj : i = j
      · subst hj
        rw [List.getElem?_set_self hi] at e''
        cases e''
        exact ⟨_, o.at_, .lst fa hl (r.wk fun b f _ => fc_set f)⟩
      · rw [List.getElem?_set_ne hj] at e''
        have h := R.slot j sl' e''
        have own : ∀ es, isOwn sl' = some es → OwnOk C { P with ρ := P.ρ.set i (.val (.lst ds)) } σ H s j es := fun es q' => by
          have w : OwnOk C P σ H s j es := R.own e'' q'
          obtain ⟨ws, x1, x2⟩ := w.is
          refine ⟨w.at_, w.new, w.na, w.nz, fun j' sl2 es' q1 q2 q3 => ?_, ws, x1, x2.wk fun b f _ => fc_set f⟩
          have q1' : (P.ρ.set i (.val (.lst ds)))[j']? = some sl2 := q1
          by_cases hj' : i = j'
          · subst hj'; rw [List.getElem?_set_self hi] at q1'; cases q1'; cases q2
          · rw [List.getElem?_set_ne hj'] at q1'; exact w.one j' sl2 es' q1' q2 q3
        cases sl' with
        | no => trivial
        | val d => obtain ⟨v, y1, y2⟩ := h; exact ⟨v, y1, y2.wk fun b f _ => fc_set f⟩
        | own es => exact own _ rfl
        | lck es => exact own _ rfl
        | obj _ _ => exact own _ rfl
  · exact ⟨R, Stp.refl⟩
def unlAt (ρ : List Sl) (i : Nat) : List Sl := match ρ[i]? with
  | some (.lck ds) => ρ.set i (.own ds)
  | _ => ρ
theorem Rel.swap {P : Pt} {σ : L2.St} {H : Hp} {s : S} {i : Nat} {sl sl' : Sl} {ds : Pay} (R : Rel C P σ H s) (e : P.ρ[i]? = some sl) (q : isOwn sl = some ds) (q' : isOwn sl' = some ds) : Rel C { P with ρ := P.ρ.set i sl' } σ H s := by
  have hi : i < P.ρ.length := (List.getElem?_eq_some_iff.mp e).1
  have rt : ∀ {b}, ({ P with ρ := P.ρ.set i sl' } : Pt).root b → P.root b := fun {b} h => by
    obtain ⟨j, s2, fs, e1, e2, e3⟩ := h
    have e1' : (P.ρ.set i sl')[j]? = some s2 := e1
    by_cases hj : i = j
    · subst hj; exact ⟨i, _, ds, e, q, e3⟩
    · rw [List.getElem?_set_ne hj] at e1'; exact ⟨j, s2, fs, e1', e2, e3⟩
  have fc : ∀ b, Fc C P s b → Fc C { P with ρ := P.ρ.set i sl' } s b := fun b f => ⟨f.1, fun q => f.2.1 (rt q), f.2.2.1, f.2.2.2⟩
  refine ⟨by simpa using R.len, R.st, R.frm, R.live, R.grow, R.za, fun j s2 h => ?_⟩
  have h' : (P.ρ.set i sl')[j]? = some s2 := h
  have own : ∀ fs s3, P.ρ[j]? = some s3 → isOwn s3 = some fs → OwnOk C { P with ρ := P.ρ.set i sl' } σ H s j fs := fun fs s3 h3 q3 => by
    have w : OwnOk C P σ H s j fs := R.own h3 q3
    obtain ⟨us, x1, x2⟩ := w.is
    refine ⟨w.at_, w.new, w.na, w.nz, fun j' sl2 es' y1 y2 y3 => ?_, us, x1, x2.wk fun b f _ => fc b f⟩
    have y1' : (P.ρ.set i sl')[j']? = some sl2 := y1
    by_cases hj' : i = j'
    · subst hj'; exact w.one i sl ds e q y3
    · rw [List.getElem?_set_ne hj'] at y1'; exact w.one j' sl2 es' y1' y2 y3
  by_cases hj : i = j
  · subst hj
    rw [List.getElem?_set_self hi] at h'
    cases h'
    cases sl' <;> simp [isOwn] at q' <;> subst q' <;> exact own _ sl e q
  · rw [List.getElem?_set_ne hj] at h'
    have hs := R.slot j s2 h'
    cases s2 with
    | no => trivial
    | val d => obtain ⟨v, e1, e2⟩ := hs; exact ⟨v, e1, e2.wk fun b f _ => fc b f⟩
    | own fs => exact own _ _ h' rfl
    | lck fs => exact own _ _ h' rfl
    | obj _ _ => exact own _ _ h' rfl
theorem lk_ownAt {P : Pt} {i : Nat} {a : Addr} {ds : List D} {j : Nat} {es : List D} (h : (P.ownAt i a ds).ρ[j]? = some (.lck es)) : (∃ fs, P.ρ[j]? = some (.lck fs)) ∧ (P.ownAt i a ds).r j = P.r j := by
  have h' : (P.ρ.set i (.own ds))[j]? = some (.lck es) := h
  by_cases hj : j = i
  · subst hj
    by_cases hl : j < P.ρ.length
    · rw [List.getElem?_set_self hl] at h'; cases h'
    · rw [List.getElem?_eq_none (by simpa using hl)] at h'; cases h'
  · rw [List.getElem?_set_ne (Ne.symm hj)] at h'
    exact ⟨⟨es, h'⟩, by show (if j = i then a else P.r j) = P.r j; rw [if_neg hj]⟩
end
end Q

/-! Lay15: statements. -/
namespace Q
open PySem L2
/-- how a statement ends -/
inductive Out (S : Type) where
  | nxt (ρ : List Sl) (s : S) | ret (fr : Bool) (d : D) (s : S) | brk (ρ : List Sl) (s : S) | cnt (ρ : List Sl) (s : S) | err (x : Exn) (ρ : List Sl) (s : S) | stuck
  | new (ok : Addr → Bool) (k : Addr → Out S)
abbrev ExF (S : Type) := List Sl → S → Out S
section
variable {S : Type} {C : Cn S} {W : L2.WX} {X : Cx}
def RunS (C : Cn S) (W : L2.WX) (P : Pt) (H : Hp) (s : S) : Out S → Ends → Prop
  | .nxt ρ' s', Dn => ∀ P' σ' H', P'.ρ = ρ' → Rel C P' σ' H' s' → Stp C.T P s H P' s' H' → Dn.nx σ' H'
  | .brk ρ' s', Dn => ∀ P' σ' H', P'.ρ = ρ' → Rel C P' σ' H' s' → Stp C.T P s H P' s' H' → Dn.bk σ' H'
  | .cnt ρ' s', Dn => ∀ P' σ' H', P'.ρ = ρ' → Rel C P' σ' H' s' → Stp C.T P s H P' s' H' → Dn.ct σ' H'
  | .ret fr d s', Dn => ∀ v H', Xt C.T C.s0 s' C.H0 H' → C.T.R s' H' → FrP C.K C.H0 H' (RetF C.T C.F0 C.H0 s') fr v d → Dn.rt v H'
  | .err x ρ' s', _ => ∀ P' σ' cls dd H', P'.ρ = ρ' → Rel C P' σ' H' s' → Stp C.T P s H P' s' H' → RX C (Fc C P' s') H' x cls dd → W cls dd σ' H'
  | .stuck, _ => False
  | .new p g, Dn => ∀ a, p a = true → RunS C W P H s (g a) Dn
def tS (C : Cn S) (W : L2.WX) (g : ExF S) : TS := fun Dn σ H => ∃ P s, Rel C P σ H s ∧ RunS C W P H s (g P.ρ s) Dn
theorem RunS.step {P P' : Pt} {H H' : Hp} {s s' : S} {o : Out S} {Dn : Ends} (h : RunS C W P H s o Dn) (x : Stp C.T P s H P' s' H') : RunS C W P' H' s' o Dn := by
  induction o with
  | nxt ρ2 s2 => exact fun P2 σ2 H2 e R2 x2 => h P2 σ2 H2 e R2 (x.trans x2)
  | brk ρ2 s2 => exact fun P2 σ2 H2 e R2 x2 => h P2 σ2 H2 e R2 (x.trans x2)
  | cnt ρ2 s2 => exact fun P2 σ2 H2 e R2 x2 => h P2 σ2 H2 e R2 (x.trans x2)
  | ret fr d s2 => exact h
  | err y ρ2 s2 => exact fun P2 σ2 c dd H2 e R2 x2 => h P2 σ2 c dd H2 e R2 (x.trans x2)
  | stuck => exact h
  | new p g ih => exact fun a ha => ih a (h a ha)
/-- from an expression's end to a statement's -/
def thenS {α : Type} (ρ : List Sl) : Res S α → (α → S → Out S) → Out S
  | .ok a s, k => k a s
  | .err x s, _ => .err x ρ s
  | .stuck, _ => .stuck
  | .new p g, k => .new p fun a => thenS ρ (g a) k
theorem RunS.run {α : Type} {P : Pt} {σ : L2.St} {H : Hp} {s : S} {m : Res S α} {k : α → S → Out S} {Dn : Ends} (h : RunS C W P H s (thenS P.ρ m k) Dn) : Run C W P σ H s m fun a s1 H1 => RunS C W P H1 s1 (k a s1) Dn := by
  induction m with
  | ok a s1 => exact fun H1 R1 x1 => RunS.step (o := k a s1) h x1.stp
  | err y s1 => exact fun c dd H1 R1 x1 rx => h P σ c dd H1 rfl R1 x1.stp rx
  | stuck => exact h
  | new p g ih => exact fun a ha => ih a (h a ha)
theorem ps_mono {st : Stmt} {t t' : TS} (h : PS X st t) (i : ∀ D σ H, t' D σ H → t D σ H) : PS X st t' := ⟨fun pins s σ H D I q => h.run pins s σ H D I (i D σ H q)⟩
theorem pss_mono {st : List Stmt} {t t' : TS} (h : PSs X st t) (i : ∀ D σ H, t' D σ H → t D σ H) : PSs X st t' := ⟨fun pins s σ H D I q => h.run pins s σ H D I (i D σ H q)⟩
def stuckS : ExF S := fun _ _ => .stuck
theorem sx_stuck {st : Stmt} : PS X st (tS C W stuckS) := ⟨fun pins s σ H D I ⟨P, st, R, q⟩ => q.elim⟩
theorem sxs_stuck {st : List Stmt} : PSs X st (tS C W stuckS) := ⟨fun pins s σ H D I ⟨P, st, R, q⟩ => q.elim⟩
/-! ### blocks -/
def nextS : ExF S := fun ρ s => .nxt ρ s
def Out.next : Out S → ExF S → Out S
  | .nxt ρ s, k => k ρ s
  | .ret fr d s, _ => .ret fr d s
  | .brk ρ s, _ => .brk ρ s
  | .cnt ρ s, _ => .cnt ρ s
  | .err x ρ s, _ => .err x ρ s
  | .stuck, _ => .stuck
  | .new p g, k => .new p fun a => (g a).next k
def seqS (f g : ExF S) : ExF S := fun ρ s => (f ρ s).next g
theorem sxs_nil : PSs X [] (tS C W nextS) := pss_mono pss_nil fun D σ H ⟨P, s, R, q⟩ => q P σ H rfl R Stp.refl
theorem sxs_cons {st : Stmt} {rest : List Stmt} {f g : ExF S} (h1 : PS X st (tS C W f)) (h2 : PSs X rest (tS C W g)) : PSs X (st :: rest) (tS C W (seqS f g)) := by
  refine pss_mono (pss_cons h1 h2) fun D σ H ⟨P, s, R, q⟩ => ⟨P, s, R, ?_⟩
  unfold seqS at q
  revert q
  induction f P.ρ s with
  | nxt ρ' s' =>
    intro q
    intro P' σ' H' ep R' x
    exact ⟨P', s', R', by rw [ep]; exact RunS.step q x⟩
  | ret fr d s' => exact fun q => q
  | brk ρ' s' => exact fun q => q
  | cnt ρ' s' => exact fun q => q
  | err x ρ' s' => exact fun q => q
  | stuck => exact fun q => q
  | new p k ih => exact fun q a ha => ih a (q a ha)
theorem sx_pass {pos : Pos} : PS X (.Pass pos) (tS C W nextS) := ps_mono ps_pass fun D σ H ⟨P, s, R, q⟩ => q P σ H rfl R Stp.refl
def brkS : ExF S := fun ρ s => .brk ρ s
def cntS : ExF S := fun ρ s => .cnt ρ s
theorem sx_brk {pos : Pos} : PS X (.Break pos) (tS C W brkS) := ps_mono ps_break fun D σ H ⟨P, s, R, q⟩ => q P σ H rfl R Stp.refl
theorem sx_cnt {pos : Pos} : PS X (.Continue pos) (tS C W cntS) := ps_mono ps_continue fun D σ H ⟨P, s, R, q⟩ => q P σ H rfl R Stp.refl
def ifS (c : EvT' S) (f g : ExF S) : ExF S := fun ρ s => thenS ρ (c ρ s) fun b s1 => if b = true then f ρ s1 else g ρ s1
theorem sx_if {c : Expr} {a b : List Stmt} {pos : Pos} {h : EvT' S} {f g : ExF S} (hc : PT X c (tT C W h)) (ha : PSs X a (tS C W f)) (hb : PSs X b (tS C W g)) : PS X (.If c a b pos) (tS C W (ifS h f g)) := by
  refine ps_mono (ps_if hc ha hb) fun D σ H ⟨P, s, R, q⟩ => ⟨P, s, R, q.run.mono fun b s1 H1 R1 x1 q1 => ?_⟩
  cases b with
  | true => exact iteT ⟨P, s1, R1, q1⟩
  | false => exact iteF ⟨P, s1, R1, q1⟩
/-! ### release ahead of a statement -/
def relAll (ρ : List Sl) : List Nat → List Sl
  | [] => ρ
  | i :: is => relAt (relAll ρ is) i
theorem Rel.releases {P : Pt} {σ : L2.St} {H : Hp} {s : S} (R : Rel C P σ H s) : ∀ is : List Nat, Rel C { P with ρ := relAll P.ρ is } σ H s ∧ Stp C.T P s H { P with ρ := relAll P.ρ is } s H
  | [] => ⟨R, Stp.refl⟩
  | i :: is => by
    obtain ⟨h1, h2⟩ := Rel.releases R is
    obtain ⟨h3, h4⟩ := h1.release i
    exact ⟨h3, h2.trans h4⟩
def relS' (is : List Nat) (f : ExF S) : ExF S := fun ρ s => f (relAll ρ is) s
theorem sx_rel {st : Stmt} {f : ExF S} (is : List Nat) (h : PS X st (tS C W f)) : PS X st (tS C W (relS' is f)) := ps_mono h fun D σ H ⟨P, s, R, q⟩ => by
  obtain ⟨h1, h2⟩ := R.releases is
  exact ⟨_, s, h1, RunS.step q h2⟩
/-! ### return -/
theorem Rel.ent {P : Pt} {σ : L2.St} {H : Hp} {s : S} (R : Rel C P σ H s) : Xt C.T C.s0 s C.H0 H := ⟨R.frm, R.live, R.grow⟩
def retV (fr : Bool) (f : EvF S) : ExF S := fun ρ s => thenS ρ (f ρ s) fun d s1 => .ret fr d s1
theorem fc_ret {P : Pt} {s : S} {a : Addr} (f : Fc C P s a) : RetF C.T C.F0 C.H0 s a := ⟨f.1, f.2.2.2⟩
theorem sx_ret {e : Expr} {pos : Pos} {f : EvF S} (h : PE X e (tP C W f)) : PS X (.Return (some e) pos) (tS C W (retV false f)) :=
  ps_mono (ps_ret h) fun D σ H ⟨P, s, R, q⟩ => ⟨P, s, R, q.run.mono fun d s1 H1 R1 x1 q1 v rv => q1 v H1 R1.ent R1.st ⟨rv.wk fun a f _ => fc_ret f, fun z => Bool.noConfusion z⟩⟩
theorem sx_retF {e : Expr} {pos : Pos} {f : EvF S} (h : PE X e (tF C W f)) : PS X (.Return (some e) pos) (tS C W (retV true f)) :=
  ps_mono (ps_ret h) fun D σ H ⟨P, s, R, q⟩ => ⟨P, s, R, q.run.mono fun d s1 H1 R1 x1 q1 v rv => q1 v H1 R1.ent R1.st ⟨rv.1.wk fun a f _ => fc_ret f, fun _ ds e => by
    obtain ⟨a, ws, h1, h2, h3, h4⟩ := rv.2 ds e
    exact ⟨a, ws, h1, R.none0 h2, h3, h4.wk fun b f _ => ⟨fc_ret f.1, f.2⟩⟩⟩⟩
/-- return x -/
def retN (N : List Str) (sc : Scope) (x : Str) : ExF S := fun ρ s => match slotOf N x with
  | some i => if visB sc x && x != ("__debug__" : Str) && x != ("__classdict__" : Str) then (match ρ[i]? with
    | some (.val d) => .ret false d s
    | some (.own ds) => .ret true (.lst ds) s
    | some (.lck ds) => .ret true (.lst ds) s
    | _ => .stuck) else .stuck
  | none => .stuck
theorem OwnOk.ret {P : Pt} {σ : L2.St} {H : Hp} {s : S} {i : Nat} {ds : List D} {sl : Sl} (o : OwnOk C P σ H s i (.lst, ds)) (e : P.ρ[i]? = some sl) (q : isOwn sl = some (.lst, ds)) : FrP C.K C.H0 H (RetF C.T C.F0 C.H0 s) true (.ref (P.r i)) (.lst ds) := by
  obtain ⟨vs, h1, h2⟩ := o.isL
  refine ⟨.lst ⟨.inr o.new, o.na⟩ h1 (h2.wk fun a f _ => fc_ret f), fun _ es e' => ?_⟩
  cases e'
  exact ⟨_, vs, rfl, o.new, h1, h2.wk fun a f _ => ⟨fc_ret f, fun z => f.2.1 ⟨i, sl, (.lst, ds), e, q, z.symm⟩⟩⟩
theorem sx_retN {N : List Str} {sc : Scope} (k : Xk C W X N sc) (x : Str) (p pos : Pos) : PS X (.Return (some (.Name x p)) pos) (tS C W (retN N sc x)) := by
  unfold retN
  split
  · rename_i i e
    split
    · rename_i h
      simp only [Bool.and_eq_true, bne_iff_ne, ne_eq] at h
      refine ps_mono (ps_ret (pe_var (i := i) (by rw [k.names]; exact slotOf_some e) (by rw [k.scope]; exact visB_ok h.1.1) (by simpa using h.1.2) (by simpa using h.2))) fun D σ H ⟨P, s, R, q⟩ => ?_
      dsimp only at q
      split at q
      · rename_i d hd
        obtain ⟨v, e1, e2⟩ := R.slot i _ hd
        exact ⟨v, e1, q v H R.ent R.st ⟨e2.wk fun a f _ => fc_ret f, fun z => Bool.noConfusion z⟩⟩
      · rename_i d hd
        have o : OwnOk C P σ H s i (.lst, d) := R.slot i _ hd
        exact ⟨_, o.at_, q _ H R.ent R.st (o.ret hd rfl)⟩
      · rename_i d hd
        have o : OwnOk C P σ H s i (.lst, d) := R.slot i _ hd
        exact ⟨_, o.at_, q _ H R.ent R.st (o.ret hd rfl)⟩
      · exact q.elim
    · exact sx_stuck
  · exact sx_stuck
def retNone : ExF S := fun _ s => .ret false .non s
theorem sx_retNone {pos : Pos} : PS X (.Return none pos) (tS C W retNone) := ps_mono ps_retN fun D σ H ⟨P, s, R, q⟩ => q .non H R.ent R.st ⟨.non, fun z => Bool.noConfusion z⟩
/-! ### values dropped -/
def dropS (f : EvF S) : ExF S := fun ρ s => thenS ρ (f ρ s) fun _ s1 => .nxt ρ s1
def isComp : Expr → Bool
  | .ListComp _ _ _ _ => true
  | .SetComp _ _ _ _ => true
  | .DictComp _ _ _ _ _ => true
  | _ => false
theorem swaps_no {e : Expr} {t : Option Expr} {l : Nat} {env : Env} (h : isComp e = false) : swapsWith e t l env = pure false := by
  cases e <;> first | rfl | (simp [isComp] at h; done)
theorem sx_drop {e : Expr} {pos : Pos} {f : EvF S} (hc : isComp e = false) (h : PE X e (tP C W f)) : PS X (.Expr e pos) (tS C W (dropS f)) :=
  ps_mono (ps_expr h (swaps_no hc)) fun D σ H ⟨P, s, R, q⟩ => ⟨P, s, R, q.run.mono fun d s1 H1 R1 x1 q1 v rv => q1 P σ H1 rfl R1 Stp.refl⟩
/-! ### assignments -/
def asgS (f : EvF S) (g : D → List Sl → Option (List Sl)) : ExF S := fun ρ s => thenS ρ (f ρ s) fun d s1 => match g d ρ with
  | some ρ' => .nxt ρ' s1
  | none => .stuck
theorem t_asg {f : EvF S} {ts : List Nat} {g : D → List Sl → Option (List Sl)} {D : Ends} {σ : L2.St} {H : Hp} (h : tS C W (asgS f g) D σ H) : tAsg (tP C W f) (tG C ts g) D σ H := by
  obtain ⟨P, s, R, q⟩ := h
  refine ⟨P, s, R, q.run.mono fun d s1 H1 R1 x1 q1 v rv => ?_⟩
  split at q1
  · rename_i ρ' e
    exact ⟨P, s1, d, ρ', R1, rv, e, fun σ' R' st _ => q1 { P with ρ := ρ' } σ' H1 rfl R' st⟩
  · exact q1.elim
theorem sx_asg {tg e : Expr} {pos : Pos} {f : EvF S} {ts : List Nat} {g : D → List Sl → Option (List Sl)} (he : PE X e (tP C W f)) (hg : PG X tg (tG C ts g)) (h1 : swapsWithSole [tg] e pos.line X.env = pure false) (h2 : swappedStores [tg] e X.env = pure none) (hs : isStar tg = false) : PS X (.Assign [tg] e pos) (tS C W (asgS f g)) :=
  ps_mono (ps_asg he hg h1 h2 (by cases tg <;> first | rfl | (simp [isStar] at hs; done))) fun D σ H h => t_asg h
/-- a name gets an own list -/
def ownS (i : Nat) (f : EvF S) : ExF S := fun ρ s => thenS ρ (f ρ s) fun d s1 => if i < ρ.length then (match d with
  | .lst ds => .nxt (ρ.set i (.own ds)) s1
  | d => .nxt (ρ.set i (.val d)) s1) else .stuck
theorem Rel.newOwn {P : Pt} {σ : L2.St} {H H1 : Hp} {s s1 : S} {i : Nat} {v : V} {ds : List D} (R : Rel C P σ H s) (R1 : Rel C P σ H1 s1) (x1 : Xt C.T s s1 H H1) (fr : Fr C P s1 H H1 v (.lst ds)) (hi : i < P.ρ.length) :
    ∃ a, Rel C (P.ownAt i a ds) (σ.set i (some v)) H1 s1 ∧ Stp C.T P s H (P.ownAt i a ds) s1 H1 := by
  obtain ⟨a, vs, rfl, h1, h2, h3⟩ := fr.2 ds rfl
  have fa : Fc C P s1 a := by
    have := fr.1
    cases this with
    | lst f _ _ => exact f
  have RZ : Rel C (P.addZs [a]) σ H1 s1 := R.addZs x1 R1.st (fun b hb => by simp at hb; subst hb; exact h1) (fun b hb => by simp at hb; subst hb; rw [h2]; simp) (fun b hb => by simp at hb; subst hb; exact fa.2.2.2)
  have r := Rel.takeOwn (i := i) RZ h2 (h3.wk fun b f _ => fc_addZs f.1 (by simpa using f.2)) hi (by simp) fa.2.2.1
  rw [addZs_nil] at r
  exact ⟨a, r, ⟨fun b o e n m => x1.keep b o e n, x1.live, x1.grow, fun b q => (root_ownAt q).elim (fun z => .inr (by rw [z]; exact h1)) .inl, fun b q => (mroot_ownAt q).elim (fun z => .inr (by rw [z]; exact h1)) .inl, rfl, fun j es e => lk_ownAt e⟩⟩
theorem t_own {i : Nat} {f : EvF S} {D : Ends} {σ : L2.St} {H : Hp} (h : tS C W (ownS i f) D σ H) : tAsg (tF C W f) (gName i) D σ H := by
  obtain ⟨P, s, R, q⟩ := h
  refine ⟨P, s, R, ?_⟩
  unfold ownS at q
  revert q
  induction f P.ρ s with
  | stuck => exact fun q => q
  | new p g ih => exact fun q a ha => ih a (q a ha)
  | err y s1 => exact fun q c dd H1 R1 x1 rx => q P σ c dd H1 rfl R1 x1.stp rx
  | ok d s1 =>
    intro q H1 R1 x1 v fr
    simp only [thenS] at q
    split at q
    · rename_i hi
      cases d with
      | lst ds =>
        obtain ⟨a, r, st⟩ := Rel.newOwn R R1 x1 fr hi
        exact q _ _ _ rfl r st
      | _ => exact q _ _ _ rfl (R1.setVal fr.1 hi) (x1.stp.trans stp_setVal)
    · exact q.elim
end
end Q

/-! Lay16: a, b = x, y; which way an assignment goes. -/
namespace Q
open PySem L2
section
variable {S : Type} {C : Cn S} {W : L2.WX} {X : Cx}
/-- values side by side: plain ones, own lists at rs -/
inductive OwnR (C : Cn S) (P : Pt) (s : S) (H : Hp) : List Bool → List V → List D → List Addr → Prop
  | nil : OwnR C P s H [] [] [] []
  | val {o : Bool} {os : List Bool} {v : V} {vs : List V} {d : D} {ds : List D} {rs : List Addr} : (o = true → ∀ es, d ≠ .lst es) → Rp C.K H (Fc C P s) v d → OwnR C P s H os vs ds rs → OwnR C P s H (o :: os) (v :: vs) (d :: ds) rs
  | own {os : List Bool} {a : Addr} {ws : List V} {es : List D} {vs : List V} {ds : List D} {rs : List Addr} : H a = some (.lst ws) → RpL C.K H (Fc C P s) ws es → OwnR C P s H os vs ds rs → OwnR C P s H (true :: os) (.ref a :: vs) (.lst es :: ds) (a :: rs)
theorem OwnR.mono {P P' : Pt} {s : S} {H : Hp} (i : ∀ b, Fc C P s b → Fc C P' s b) : ∀ {os : List Bool} {vs : List V} {ds : List D} {rs : List Addr}, OwnR C P s H os vs ds rs → OwnR C P' s H os vs ds rs
  | _, _, _, _, .nil => .nil
  | _, _, _, _, .val n r t => .val n (r.wk fun b f _ => i b f) (OwnR.mono i t)
  | _, _, _, _, .own h r t => .own h (r.wk fun b f _ => i b f) (OwnR.mono i t)
def tAZ (C : Cn S) (W : L2.WX) (os : List Bool) (f : EvL' S) : TA := fun σ H Q => ∃ P s, Rel C P σ H s ∧ Run C W P σ H s (f P.ρ s) fun ds s' H' => ∀ vs rs, (∀ a ∈ rs, H a = none) → rs.Nodup → Rel C (P.addZs rs) σ H' s' → OwnR C (P.addZs rs) s' H' os vs ds rs → Q vs H'
theorem saz_nil : PA X [] (tAZ C W [] nilA) := pa_mono pa_nil fun σ H Q ⟨P, s, R, q⟩ => (q.now R) [] [] (fun _ h => nomatch h) .nil (by rw [addZs_nil]; exact R) .nil
theorem saz_val {e : Expr} {es : List Expr} {os : List Bool} {f : EvF S} {g : EvL' S} (he : PE X e (tP C W f)) (hr : PA X es (tAZ C W os g)) (hs : isStar e = false) : PA X (e :: es) (tAZ C W (false :: os) (consA f g)) := by
  refine pa_mono (pa_cons he hr (star_no hs)) fun σ H Q ⟨P, s, R, q⟩ => ⟨P, s, R, q.bind.mono fun d s1 H1 R1 x1 q1 v rv => ⟨P, s1, R1, q1.bind.mono fun ds s2 H2 R2 x2 q2 vs rs hn nd RZ ow => ?_⟩⟩
  refine (q2.now R2) _ rs (fun a h => x1.none_of (hn a h)) nd RZ (.val (fun z => Bool.noConfusion z) ?_ ow)
  exact rv.step (x2.stays R1.st fun _ f => f.2.2.2) fun a f n => fc_addZs (x2.fc a f n) fun h => n (hn a h)
theorem saz_own {e : Expr} {es : List Expr} {os : List Bool} {f : EvF S} {g : EvL' S} (he : PE X e (tF C W f)) (hr : PA X es (tAZ C W os g)) (hs : isStar e = false) : PA X (e :: es) (tAZ C W (true :: os) (consA f g)) := by
  refine pa_mono (pa_cons he hr (star_no hs)) fun σ H Q ⟨P, s, R, q⟩ => ⟨P, s, R, q.bind.mono fun d s1 H1 R1 x1 q1 v fr => ?_⟩
  by_cases hl : ∃ es, d = .lst es
  · obtain ⟨es, rfl⟩ := hl
    obtain ⟨a, ws, rfl, h1, h2, h3⟩ := fr.2 es rfl
    have fa : Fc C P s1 a := by
      have := fr.1
      cases this with
      | lst f _ _ => exact f
    have RZ1 : Rel C (P.addZs [a]) σ H1 s1 := R.addZs x1 R1.st (fun b hb => by simp at hb; subst hb; exact h1) (fun b hb => by simp at hb; subst hb; rw [h2]; simp) (fun b hb => by simp at hb; subst hb; exact fa.2.2.2)
    refine ⟨P.addZs [a], s1, RZ1, ?_⟩
    have q1' := q1.bind
    show Run C W (P.addZs [a]) σ H1 s1 (g P.ρ s1) _
    revert q1'
    clear q1
    induction g P.ρ s1 with
    | stuck => exact fun q1' => q1'.elim
    | new p k ih => exact fun q1' b hb => ih b (q1' b hb)
    | err y s2 =>
      intro q1'
      intro c dd H2 RZ2 x2 rx
      have R2 : Rel C P σ H2 s2 := R1.xt x2 RZ2.st
      obtain ⟨cc, y1, y2, y3, y4⟩ := rx
      refine q1' c dd H2 R2 x2 ⟨cc, y1, y2, y3, fun z => ?_⟩
      obtain ⟨dx, us, g1, g2, g3⟩ := y4 z
      exact ⟨dx, us, g1, g2, g3.wk fun b f _ => (fc_unZs f).1⟩
    | ok ds s2 =>
      intro q1'
      intro H2 RZ2 x2 vs rs hn nd RZ3 ow
      have R2 : Rel C P σ H2 s2 := R1.xt x2 RZ2.st
      rw [addZs_cons] at RZ3 ow
      have ha : a ∉ rs := fun h => by rw [hn a h] at h2; cases h2
      refine (q1' H2 R2 x2).now R2 _ (a :: rs) (fun b hb => ?_) (List.nodup_cons.mpr ⟨ha, nd⟩) RZ3 (.own (x2.keep _ _ h2 fa.2.2.2) ?_ ow)
      · rcases List.mem_cons.mp hb with z | z
        · rw [z]; exact h1
        · exact x1.none_of (hn b z)
      · refine h3.step (x2.stays R1.st fun _ f => f.1.2.2.2) fun b f n => fc_addZs (x2.fc b f.1 n) fun h => ?_
        rcases List.mem_cons.mp h with z | z
        · exact f.2 z
        · exact n (hn b z)
  · refine ⟨P, s1, R1, q1.bind.mono fun ds s2 H2 R2 x2 q2 vs rs hn nd RZ ow => ?_⟩
    refine (q2.now R2) _ rs (fun a h => x1.none_of (hn a h)) nd RZ (.val (fun _ es e => hl ⟨es, e⟩) ?_ ow)
    exact fr.1.step (x2.stays R1.st fun _ f => f.2.2.2) fun a f n => fc_addZs (x2.fc a f n) fun h => n (hn a h)
/-- names set in turn -/
def slO (o : Bool) (d : D) : Sl := match o, d with
  | true, .lst es => .own es
  | _, d => .val d
def asgL : List (Nat × Bool) → List D → List Sl → Option (List Sl)
  | [], [], ρ => some ρ
  | (i, o) :: is, d :: ds, ρ => if i < ρ.length then asgL is ds (ρ.set i (slO o d)) else none
  | _, _, _ => none
def setAll : List Nat → List V → L2.St → L2.St
  | i :: is, v :: vs, σ => setAll is vs (σ.set i (some v))
  | _, _, σ => σ
theorem Rel.asgL : ∀ {is : List (Nat × Bool)} {P : Pt} {σ : L2.St} {H : Hp} {s : S} {vs : List V} {ds : List D} {rs : List Addr} {ρ' : List Sl}, Rel C (P.addZs rs) σ H s → OwnR C (P.addZs rs) s H (is.map (·.2)) vs ds rs → Q.asgL is ds P.ρ = some ρ' → rs.Nodup → (∀ a ∈ rs, ¬ P.Z a) →
    ∃ P' : Pt, P'.ρ = ρ' ∧ Rel C P' (setAll (is.map (·.1)) vs σ) H s ∧ P'.Z = P.Z ∧ (∀ b, P'.root b → P.root b ∨ b ∈ rs) ∧ (∀ b, P'.mroot b → P.mroot b ∨ b ∈ rs) ∧ ∀ j es, P'.ρ[j]? = some (.lck es) → (∃ fs, P.ρ[j]? = some (.lck fs)) ∧ P'.r j = P.r j
  | [], P, σ, H, s, vs, ds, rs, ρ', R, ow, e, nd, nz => by
    cases ow
    cases e
    rw [addZs_nil] at R
    exact ⟨P, rfl, R, rfl, fun _ h => .inl h, fun _ h => .inl h, fun j es e => ⟨⟨es, e⟩, rfl⟩⟩
  | (i, o) :: is, P, σ, H, s, vs, ds, rs, ρ', R, ow, e, nd, nz => by
    cases ow with
    | val n r t =>
      rename_i v vs d ds
      simp only [Q.asgL] at e
      split at e
      · rename_i hi
        have hs : slO o d = .val d := by
          cases o with
          | false => rfl
          | true => cases d <;> first | rfl | (exact absurd rfl (n rfl _))
        rw [hs] at e
        have R1 : Rel C (({ P with ρ := P.ρ.set i (.val d) } : Pt).addZs rs) (σ.set i (some v)) H s := R.setVal r hi
        have ow1 := t.mono (P' := ({ P with ρ := P.ρ.set i (.val d) } : Pt).addZs rs) fun b f => fc_set (P := P.addZs rs) f
        obtain ⟨P', h1, h2, h3, h4, h5, h6⟩ := Rel.asgL R1 ow1 e nd nz
        exact ⟨P', h1, h2, h3, fun b h => (h4 b h).elim (fun z => .inl (root_set (P := P) z)) .inr, fun b h => (h5 b h).elim (fun z => .inl (mroot_set (P := P) z)) .inr, fun j es h => by
          obtain ⟨⟨fs, g1⟩, g2⟩ := h6 j es h
          obtain ⟨g3, g4⟩ := (stp_setVal (C := C) (P := P) (s := s) (H := H) (i := i) (d := d)).lk j fs g1
          exact ⟨g3, g2.trans g4⟩⟩
      · cases e
    | own hl r t =>
      rename_i a ws es vs ds rs
      simp only [Q.asgL] at e
      split at e
      · rename_i hi
        have hn := List.nodup_cons.mp nd
        have R1 := Rel.takeOwn (i := i) R hl r hi hn.1 (nz a List.mem_cons_self)
        have ow1 := t.mono (P' := (P.ownAt i a es).addZs rs) fun b f => fc_ownAt f
        obtain ⟨P', h1, h2, h3, h4, h5, h6⟩ := Rel.asgL (P := P.ownAt i a es) R1 ow1 e hn.2 (fun b h => nz b (List.mem_cons_of_mem _ h))
        refine ⟨P', h1, h2, h3, fun b h => ?_, fun b h => ?_, fun j fs h => ?_⟩
        · rcases h4 b h with z | z
          · rcases root_ownAt z with z | z
            · exact .inr (by rw [z]; exact List.mem_cons_self)
            · exact .inl z
          · exact .inr (List.mem_cons_of_mem _ z)
        · rcases h5 b h with z | z
          · rcases mroot_ownAt z with z | z
            · exact .inr (by rw [z]; exact List.mem_cons_self)
            · exact .inl z
          · exact .inr (List.mem_cons_of_mem _ z)
        · obtain ⟨⟨gs, g1⟩, g2⟩ := h6 j fs h
          obtain ⟨g3, g4⟩ := lk_ownAt g1
          exact ⟨g3, g2.trans g4⟩
      · cases e
def parS (is : List (Nat × Bool)) (f : EvL' S) : ExF S := fun ρ s => thenS ρ (f ρ s) fun ds s1 => match asgL is ds ρ with
  | some ρ' => .nxt ρ' s1
  | none => .stuck
theorem OwnR.len {P : Pt} {s : S} {H : Hp} {os : List Bool} {vs : List V} {ds : List D} {rs : List Addr} (h : OwnR C P s H os vs ds rs) : vs.length = os.length := by
  induction h with
  | nil => rfl
  | val _ _ _ ih => simp [ih]
  | own _ _ _ ih => simp [ih]
theorem t_par {is : List (Nat × Bool)} {f : EvL' S} {D : Ends} {σ : L2.St} {H : Hp} (h : tS C W (parS is f) D σ H) : tAZ C W (is.map (·.2)) f σ H fun vs H1 => vs.length = is.length ∧ D.nx (setAll (is.map (·.1)) vs σ) H1 := by
  obtain ⟨P, s, R, q⟩ := h
  refine ⟨P, s, R, ?_⟩
  unfold parS at q
  revert q
  induction f P.ρ s with
  | stuck => exact fun q => q
  | new p k ih => exact fun q b hb => ih b (q b hb)
  | err y s1 => exact fun q c dd H1 R1 x1 rx => q P σ c dd H1 rfl R1 x1.stp rx
  | ok ds s1 =>
    intro q H1 R1 x1 vs rs hn nd RZ ow
    simp only [thenS] at q
    split at q
    · rename_i ρ' e
      obtain ⟨P', h1, h2, h3, h4, h5, h6⟩ := Rel.asgL RZ ow e nd (fun a ha z => (R.za a z).2.1 (hn a ha))
      refine ⟨by simpa using ow.len, q P' _ H1 h1 h2 ⟨fun a o ea na _ => x1.keep a o ea na, x1.live, x1.grow, fun b hb => (h4 b hb).elim .inl fun z => .inr (hn b z), fun b hb => (h5 b hb).elim .inl fun z => .inr (hn b z), h3, h6⟩⟩
    · exact q.elim
/-! ### which way -/
def bkS (sc : Scope) : ScopeKind := if sc.kind.isAnnotationScope then .function else sc.kind
def swNames (sc : Scope) (ts : List Expr) : List Str := ts.filterMap fun
    | .Name id pos => if sc.names.lookup id == some .local && pos.line == (ts.head?.map (·.pos.line)).getD 0 then some id else none
    | _ => none
/-- what swappedStores says: none where it is not said -/
def sws (sc : Scope) (tg v : Expr) : Option (Option (List Str)) := match tg, v with
  | .Tuple ts _ _, .Tuple vs _ _ =>
    if !(ts.length == 2 || ts.length == 3) || vs.length != ts.length || bkS sc != .function then some none
    else if vs.any isStar then some none
    else if (swNames sc ts).length != ts.length || (swNames sc ts).eraseDups.length != (swNames sc ts).length then some none
    else if vs.all (foldedForSure 8) then some none
    else if vs.all (constantsAlone 8) then none
    else some (some (swNames sc ts))
  | .List _ _, .Tuple _ _ _ => none
  | _, _ => some none
def swsM (sc : Scope) (ts vs : List Expr) : Sem (Option (List Str)) :=
    if (!(ts.length == 2 || ts.length == 3) || vs.length != ts.length || bkS sc != .function) = true then pure none
    else if vs.any isStar = true then pure none
    else if ((swNames sc ts).length != ts.length || (swNames sc ts).eraseDups.length != (swNames sc ts).length) = true then pure none
    else if vs.all (foldedForSure 8) = true then pure none
    else if vs.all (constantsAlone 8) = true then (do unsupported "assign.tuple-of-constant-expressions:order-of-the-stores"; pure (some (swNames sc ts)))
    else pure (some (swNames sc ts))
theorem swsM_eq (env : Env) (ts vs : List Expr) (a c : Nat) (b d : Pos) : swappedStores [.Tuple ts a b] (.Tuple vs c d) env = swsM env.scope ts vs := by
  unfold swsM swNames bkS swappedStores Env.blockKind Env.kindOf
  rfl
theorem sws_ok {sc : Scope} {env : Env} (he : env.scope = sc) {tg v : Expr} {r : Option (List Str)} (h : sws sc tg v = some r) : swappedStores [tg] v env = pure r := by
  unfold sws at h
  split at h
  · rename_i ts _ _ vs _ _
    rw [swsM_eq, he]
    unfold swsM
    split at h
    · rename_i c; cases h; rw [if_pos c]
    rename_i c
    rw [if_neg c]
    split at h
    · rename_i c; cases h; rw [if_pos c]
    rename_i c
    rw [if_neg c]
    split at h
    · rename_i c; cases h; rw [if_pos c]
    rename_i c
    rw [if_neg c]
    split at h
    · rename_i c; cases h; rw [if_pos c]
    rename_i c
    rw [if_neg c]
    split at h
    · cases h
    rename_i c
    cases h
    rw [if_neg c]
  · cases h
  · cases h
    rename_i h1 h2
    unfold swappedStores
    cases tg <;> first
      | rfl
      | (cases v <;> first | rfl | (exfalso; first | exact h1 _ _ _ _ _ _ rfl rfl | exact h2 _ _ _ _ _ rfl rfl))
end
end Q

/-! Lay17: assignments of the text; append, extend, pop, items; loops. -/
namespace Q
open PySem L2
section
variable {S : Type} {C : Cn S} {W : L2.WX} {X : Cx}
/-- where statements run: in a def -/
structure Xd (C : Cn S) (W : L2.WX) (X : Cx) (N : List Str) (sc : Scope) : Prop extends Xk C W X N sc where
  s : Xs C X N sc
  own : PassesOwn (model X.prog X.w) X.A X.env X.xe
  stk : X.stack = X.env :: X.outer
  frm : X.env.frame = some X.env.locals
theorem sole_no {t e : Expr} {l : Nat} {env : Env} (h : isComp e = false) : swapsWithSole [t] e l env = pure false := by
  unfold swapsWithSole
  exact swaps_no h
theorem t_valN {N : List Str} {sc : Scope} {x : Str} {i : Nat} {f : EvF S} (hi : slotOf N x = some i) {D : Ends} {σ : L2.St} {H : Hp} (h : tS C W (asgS f (tgName N sc x)) D σ H) : tAsg (tF C W f) (gName i) D σ H := by
  obtain ⟨P, s, R, q⟩ := h
  refine ⟨P, s, R, q.run.mono fun d s1 H1 R1 x1 q1 v rv => ?_⟩
  unfold tgName at q1
  rw [hi] at q1
  dsimp only at q1
  split at q1
  · rename_i ρ' e
    split at e
    · rename_i c
      cases e
      simp only [Bool.and_eq_true, decide_eq_true_eq] at c
      exact q1 { P with ρ := P.ρ.set i (.val d) } _ H1 rfl (R1.setVal rv.1 c.2) stp_setVal
    · cases e
  · exact q1.elim
/-! ### comprehensions given to a name -/
def swB (sc : Scope) (e : Expr) (x : Str) (p : Pos) : Bool := match e with
  | .ListComp _ _ s _ => bkS sc == .function && sc.names.lookup x == some .local && p.line == e.pos.line && !(s.names.any fun (n, k) => n == x && (k == .local || k == .cell))
  | _ => false
theorem swB_eq {sc : Scope} {env : Env} (he : env.scope = sc) {elt : Expr} {gs : List Comprehension} {s : Scope} {pos : Pos} {x : Str} {p : Pos} {l : Nat} : swapsWith (.ListComp elt gs s pos) (some (.Name x p)) l env = pure (swB sc (.ListComp elt gs s pos) x p) := by
  subst he
  rfl
theorem ps_lcAsg {N : List Str} {sc : Scope} {G : Gk S} {f f2 : Expr → Sem3 S} (k : Xd C W X N sc) (gk : GkOk C X G) (h : ∀ e, Snd C W X e (f e)) {scope : Scope} (h2 : ∀ {X' : Cx}, Xk C W0 X' N (rl scope sc) → GkOk C X' G → ∀ e, Snd C W0 X' e (f2 e)) (elt tg iter : Expr) (ifs : List Expr) (pos py spos : Pos) (y : Str) (i : Nat) (hi : slotOf N y = some i) (hl : locB sc y = true) :
    PS X (.Assign [.Name y py] (.ListComp elt [⟨tg, iter, ifs, 0⟩] scope pos) spos) (tAsg (tF C W (lc3 N sc scope f f2 elt tg iter ifs)) (gName i)) := by
  have hN : X.N[i]? = some y := by rw [k.names]; exact slotOf_some hi
  obtain ⟨hL, hF⟩ := k.s.loc y hl
  cases hsw : swB sc (.ListComp elt [⟨tg, iter, ifs, 0⟩] scope pos) y py with
  | false =>
    exact ps_set (by rw [k.names]; exact k.nd) hN hL (sd_lc3 k.toXk gk h h2 elt tg iter ifs pos) (by rw [swB_eq k.scope, hsw]) hF
  | true =>
    have hy : X.env.scope.names.lookup y = some .local := by
      simp only [swB, Bool.and_eq_true, beq_iff_eq] at hsw
      rw [k.scope]
      exact hsw.1.1.2
    unfold lc3
    split
    · rename_i q
      obtain ⟨q1, q2, q3⟩ := q
      refine ps_mono (ps_setLc k.calm (by rw [k.names]; exact k.nd) hN hy (by rw [swB_eq k.scope, hsw]) (si_src (m := false) k.toXk gk h tg iter) (blkOk_by (by rw [k.names, k.scope]; exact q1)) (fun s H Ca cl fp => ((tgt_snd (Xs.blk k.toXk s H scope cl Ca fp) 20).1 tg).p)
        (fun s H Ca cl fp => st_ifs (h2 (k.toXk.blk s H scope cl Ca fp) (gk.blk s H scope cl Ca fp)) ifs) (fun s H Ca cl fp => (h2 (k.toXk.blk s H scope cl Ca fp) (gk.blk s H scope cl Ca fp) elt).v) ?_) fun D σ H hq => ?_
      · intro x
        cases iter <;> first | rfl | (simp [isSet] at q3; done)
      · refine t_lc ((tgt_ok 20).1 tg) (fun j hj => ?_) hq
        have := List.all_eq_true.mp q2 j hj
        simpa using this
    · exact ⟨fun pins s σ H D I ⟨P, st, R, q⟩ => q.elim⟩
/-- x = e -/
def setN (G : Gk S) (N : List Str) (sc : Scope) (ow : List Str) (n : Nat) (x : Str) (e : Expr) : ExF S := match slotOf N x with
  | some i => if locB sc x = true then (match e with
    | .ListComp elt [⟨tg, iter, ifs, a⟩] scope _ => if a = 0 then (if ow.contains x = true then ownS i (lc3 N sc scope (evB G N n sc) (evB G N n (rl scope sc)) elt tg iter ifs) else asgS (lc3 N sc scope (evB G N n sc) (evB G N n (rl scope sc)) elt tg iter ifs) (tgName N sc x)) else stuckS
    | e => if isComp e = true then stuckS else if ow.contains x = true ∧ (evB G N n sc e).fr = true then ownS i (evB G N n sc e).v else asgS (evB G N n sc e).v (tgName N sc x)) else stuckS
  | none => stuckS
theorem sx_setN {G : Gk S} {N : List Str} {sc : Scope} (k : Xd C W X N sc) (g : GkOk C X G) (ow : List Str) (n : Nat) (x : Str) (e : Expr) (px pos : Pos) (hw : swappedStores [.Name x px] e X.env = pure none) : PS X (.Assign [.Name x px] e pos) (tS C W (setN G N sc ow n x e)) := by
  have h : ∀ e, Snd C W X e (evB G N n sc e) := fun e => (ev_ok n k.toXk g e).toSnd
  unfold setN
  split
  · rename_i i hi
    split
    · rename_i hl
      have hN : X.N[i]? = some x := by rw [k.names]; exact slotOf_some hi
      obtain ⟨hL, hF⟩ := k.s.loc x hl
      split
      · split
        · subst_vars
          split
          · exact ps_mono (ps_lcAsg k g h (fun k' g' e => (ev_ok n k' g' e).toSnd) _ _ _ _ _ px pos x i hi hl) fun D σ H q => t_own q
          · exact ps_mono (ps_lcAsg k g h (fun k' g' e => (ev_ok n k' g' e).toSnd) _ _ _ _ _ px pos x i hi hl) fun D σ H q => t_valN hi q
        · exact sx_stuck
      · split
        · exact sx_stuck
        · rename_i hc
          have hc := Bool.eq_false_iff.mpr hc
          split
          · rename_i q
            exact ps_mono (ps_set (by rw [k.names]; exact k.nd) hN hL ((h _).f q.2) (swaps_no hc) hF) fun D σ H q => t_own q
          · exact sx_asg (h _).v (sg_name k.s) (sole_no hc) hw rfl
    · exact sx_stuck
  · exact sx_stuck
/-! ### a, b = x, y and a, b, c = x, y, z -/
def azs (f : Expr → Sem3 S) (ow : List Str) : List (Str × Expr) → List Bool × EvL' S
  | [] => ([], nilA)
  | (x, e) :: r => ((ow.contains x && (f e).fr) :: (azs f ow r).1, consA (f e).v (azs f ow r).2)
theorem sa_azs {f : Expr → Sem3 S} (h : ∀ e, Snd C W X e (f e)) (ow : List Str) : ∀ l : List (Str × Expr), (l.map (·.2)).all (fun e => !isStar e) = true → PA X (l.map (·.2)) (tAZ C W (azs f ow l).1 (azs f ow l).2)
  | [], _ => saz_nil
  | (x, e) :: r, hs => by
    simp only [List.map_cons, List.all_cons, Bool.and_eq_true, Bool.not_eq_true'] at hs
    unfold azs
    cases q : (ow.contains x && (f e).fr) with
    | true =>
      simp only [Bool.and_eq_true] at q
      exact saz_own ((h e).f q.2) (sa_azs h ow r hs.2) hs.1
    | false => exact saz_val (h e).v (sa_azs h ow r hs.2) hs.1
theorem tAZ.mono {os : List Bool} {f : EvL' S} {σ : L2.St} {H : Hp} {Q Q' : List V → Hp → Prop} (h : tAZ C W os f σ H Q) (i : ∀ vs H', Q vs H' → Q' vs H') : tAZ C W os f σ H Q' := by
  obtain ⟨P, s, R, q⟩ := h
  exact ⟨P, s, R, q.mono fun ds s' H' _ _ k vs rs h1 h2 h3 h4 => i vs H' (k vs rs h1 h2 h3 h4)⟩
def par3 (N : List Str) (sc : Scope) (f : Expr → Sem3 S) (ow : List Str) (names : List Str) (ts vs : List Expr) : ExF S := match ts, vs with
  | [.Name x _, .Name y _], [a, b] => match slotOf N x, slotOf N y with
    | some i, some j => if names = [x, y] ∧ i ≠ j ∧ sc.names.lookup x = some .local ∧ sc.names.lookup y = some .local ∧ isStar a = false ∧ isStar b = false then parS (List.zip [i, j] (azs f ow [(x, a), (y, b)]).1) (azs f ow [(x, a), (y, b)]).2 else stuckS
    | _, _ => stuckS
  | [.Name x _, .Name y _, .Name z _], [a, b, c] => match slotOf N x, slotOf N y, slotOf N z with
    | some i, some j, some l => if names = [x, y, z] ∧ i ≠ j ∧ i ≠ l ∧ j ≠ l ∧ sc.names.lookup x = some .local ∧ sc.names.lookup y = some .local ∧ sc.names.lookup z = some .local ∧ isStar a = false ∧ isStar b = false ∧ isStar c = false then parS (List.zip [i, j, l] (azs f ow [(x, a), (y, b), (z, c)]).1) (azs f ow [(x, a), (y, b), (z, c)]).2 else stuckS
    | _, _, _ => stuckS
  | _, _ => stuckS
theorem sx_par3 {N : List Str} {sc : Scope} {f : Expr → Sem3 S} (k : Xd C W X N sc) (h : ∀ e, Snd C W X e (f e)) (ow : List Str) (ts vs : List Expr) (kt k2 : Nat) (pt pt2 pos : Pos) (names : List Str) (hw : swappedStores [.Tuple ts kt pt] (.Tuple vs k2 pt2) X.env = pure (some names)) :
    PS X (.Assign [.Tuple ts kt pt] (.Tuple vs k2 pt2) pos) (tS C W (par3 N sc f ow names ts vs)) := by
  unfold par3
  split
  · rename_i x px y py a b
    split
    · rename_i i j hi hj
      split
      · rename_i q
        obtain ⟨rfl, q1, q2, q3, q4, q5⟩ := q
        refine ps_mono (ps_par k.calm (by rw [k.names]; exact k.nd) (by rw [k.names]; exact slotOf_some hi) (by rw [k.names]; exact slotOf_some hj) q1 (by rw [k.scope]; exact q2) (by rw [k.scope]; exact q3) (sa_azs h ow [(x, a), (y, b)] (by simp [q4, q5])) hw rfl) fun D σ H hq => ?_
        refine tAZ.mono (t_par hq) fun vs H' ⟨hl, hx⟩ => ?_
        match vs, hl with
        | [v, w], _ => exact ⟨v, w, rfl, hx⟩
      · exact sx_stuck
    · exact sx_stuck
  · rename_i x px y py z pz a b c
    split
    · rename_i i j l hi hj hl
      split
      · rename_i q
        obtain ⟨rfl, q1, q2, q3, q4, q5, q6, q7, q8, q9⟩ := q
        refine ps_mono (ps_par3 k.calm (by rw [k.names]; exact k.nd) (by rw [k.names]; exact slotOf_some hi) (by rw [k.names]; exact slotOf_some hj) (by rw [k.names]; exact slotOf_some hl) q1 q2 q3 (by rw [k.scope]; exact q4) (by rw [k.scope]; exact q5) (by rw [k.scope]; exact q6) (sa_azs h ow [(x, a), (y, b), (z, c)] (by simp [q7, q8, q9])) hw rfl) fun D σ H hq => ?_
        refine tAZ.mono (t_par hq) fun vs H' ⟨hl, hx⟩ => ?_
        match vs, hl with
        | [u, v, w], _ => exact ⟨u, v, w, rfl, hx⟩
      · exact sx_stuck
    · exact sx_stuck
  · exact sx_stuck
/-! ### methods of own lists -/
theorem nd_of {N : List Str} {sc : Scope} (k : Xd C W X N sc) : X.N.Nodup := by rw [k.names]; exact k.nd
/-- x, an own list in slot i -/
def okN (N : List Str) (sc : Scope) (x : Str) : Option Nat := match slotOf N x with
  | some i => if visB sc x && x != ("__debug__" : Str) && x != ("__classdict__" : Str) then some i else none
  | none => none
theorem pe_okN {N : List Str} {sc : Scope} (k : Xk C W X N sc) {x : Str} {i : Nat} {pos : Pos} (h : okN N sc x = some i) : PE X (.Name x pos) (tVar i) := by
  unfold okN at h
  split at h
  · rename_i j e
    split at h
    · rename_i c
      cases h
      simp only [Bool.and_eq_true, bne_iff_ne, ne_eq] at c
      exact pe_var (by rw [k.names]; exact slotOf_some e) (by rw [k.scope]; exact visB_ok c.1.1) (by simpa using c.1.2) (by simpa using c.2)
    · cases h
  · cases h
/-- x.append(e) -/
def appS (i : Nat) (f : EvF S) : ExF S := fun ρ s => match ρ[i]? with
  | some (.own ds) => thenS ρ (f ρ s) fun d s1 => if ds.length < sizeLine then .nxt (ρ.set i (.own (ds ++ [d]))) s1 else .stuck
  | _ => .stuck
theorem sx_app {N : List Str} {sc : Scope} (k : Xd C W X N sc) {x : Str} {i : Nat} {e : Expr} {p ap cp pos : Pos} {f : EvF S} (hi : okN N sc x = some i) (hs : isStar e = false) (hl : (ap.endLine == cp.line) = true) (he : PE X e (tP C W f)) :
    PS X (.Expr (.Call (.Attribute (.Name x p) "append" ap) [e] [] cp) pos) (tS C W (appS i f)) := by
  have hb : (((backTo cp (starEach [e] X.env)).all fun x => !x.1) && (backToKw cp (keywordEach [] X.env)).all fun x => x.1.isSome) && decide (([e].length + ([] : List Keyword).length + if ([] : List Keyword).isEmpty = true then 0 else 1) < 30) = true := by
    rw [star_no hs]; rfl
  refine ps_mono (ps_expr (pe_bm PySem.F.plainAttrs_list PySem.F.slot_list_append PySem.F.type_list_append mt_append (pe_okN k.toXk hi) (pa_cons he pa_nil (star_no hs)) rfl hb hl (star_no hs) (star_back (by rfl))) rfl) fun D σ H ⟨P, s, R, q⟩ => ?_
  unfold appS at q
  split at q
  · rename_i ds hd
    have o : OwnOk C P σ H s i (.lst, ds) := R.slot i _ hd
    obtain ⟨vs, h1, h2⟩ := o.isL
    refine ⟨_, o.at_, .inl ⟨rfl, vs, .inl (.inl h1)⟩, P, s, R, q.run.mono fun d s1 H1 R1 x1 q1 v rv => ?_⟩
    have o1 : OwnOk C P σ H1 s1 i (.lst, ds) := R1.slot i _ hd
    obtain ⟨ws, g1, g2⟩ := o1.isL
    split at q1
    · rename_i hz
      obtain ⟨w1, w2⟩ := R1.write hd (g2.append (.cons rv .nil))
      exact ⟨_, ws, v, rfl, rfl, g1, by rw [g2.length]; exact hz, q1 _ σ _ rfl w1 w2⟩
    · exact q1.elim
  · exact q.elim
/-- x[j] = e -/
def setItemS (i : Nat) (fe fj : EvF S) : ExF S := fun ρ s => match ρ[i]? with
  | some (.own ds) => thenS ρ (fe ρ s) fun d s1 => thenS ρ (fj ρ s1) fun j s2 => match j with
    | .int z => (match ixN ds.length z with
      | some n => .nxt (ρ.set i (.own (ds.set n d))) s2
      | none => .stuck)
    | _ => .stuck
  | _ => .stuck
theorem sx_setItem {N : List Str} {sc : Scope} (k : Xd C W X N sc) {x : Str} {i : Nat} {j e : Expr} {p tp pos : Pos} {fe fj : EvF S} (hi : okN N sc x = some i) (hc : isComp e = false) (hj : isSlice j = false) (hw : swappedStores [.Subscript (.Name x p) j tp] e X.env = pure none) (he : PE X e (tP C W fe)) (hjj : PE X j (tK C W fj)) :
    PS X (.Assign [.Subscript (.Name x p) j tp] e pos) (tS C W (setItemS i fe fj)) := by
  refine ps_mono (ps_asg he (pg_sub (pe_okN k.toXk hi) hjj set_list (by intro v; cases j <;> first | rfl | (simp [isSlice] at hj; done))) (sole_no hc) hw rfl) fun D σ H ⟨P, s, R, q⟩ => ?_
  unfold setItemS at q
  split at q
  · rename_i ds hd
    refine ⟨P, s, R, q.run.mono fun d s1 H1 R1 x1 q1 v rv => ?_⟩
    have o1 : OwnOk C P σ H1 s1 i (.lst, ds) := R1.slot i _ hd
    refine ⟨_, o1.at_, P, s1, R1, q1.run.mono fun z s2 H2 R2 x2 q2 w tw => ?_⟩
    have o2 : OwnOk C P σ H2 s2 i (.lst, ds) := R2.slot i _ hd
    obtain ⟨ws, g1, g2⟩ := o2.isL
    cases z with
    | int z =>
      dsimp only at q2
      split at q2
      · rename_i n hn
        obtain ⟨w1, w2⟩ := R2.write hd (g2.set (rv.xt x2 R1.st) n)
        exact ⟨_, ws, z, n, rfl, top_int tw.weak, g1, by rw [g2.length]; exact hn, q2 _ σ _ rfl w1 w2⟩
      · exact q2.elim
    | _ => exact q2.elim
  · exact q.elim
/-- x += e, of ints -/
def augI : Operator → Int → Int → Option Int
  | .Add, i, j => some (i + j)
  | .Sub, i, j => some (i - j)
  | _, _, _ => none
def augS (i : Nat) (op : Operator) (f : EvF S) : ExF S := fun ρ s => match ρ[i]? with
  | some (.val (.int a)) => thenS ρ (f ρ s) fun d s1 => match d with
    | .int b => (match augI op a b with
      | some c => .nxt (ρ.set i (.val (.int c))) s1
      | none => .stuck)
    | _ => .stuck
  | _ => .stuck
theorem sx_aug {N : List Str} {sc : Scope} (k : Xd C W X N sc) {x : Str} {i : Nat} {op : Operator} {e : Expr} {p pos : Pos} {f : EvF S} (ho : op = .Add ∨ op = .Sub) (hi : slotOf N x = some i) (hl : locB sc x = true) (he : PE X e (tK C W f)) : PS X (.AugAssign (.Name x p) op e pos) (tS C W (augS i op f)) := by
  have hN : X.N[i]? = some x := by rw [k.names]; exact slotOf_some hi
  obtain ⟨hL, hF⟩ := k.s.loc x hl
  have main : ∀ (g : Int → Int → Int), PIp X op (ipI g) → (∀ a b, augI op a b = some (g a b)) → PS X (.AugAssign (.Name x p) op e pos) (tS C W (augS i op f)) := by
    intro g hp hg
    refine ps_mono (ps_aug (nd_of k) hN hL he hp hF) fun D σ H ⟨P, s, R, q⟩ => ?_
    unfold augS at q
    split at q
    · rename_i a hd
      obtain ⟨v, e1, e2⟩ := R.slot i _ hd
      have := rp_int e2
      subst this
      refine ⟨_, e1, P, s, R, q.run.mono fun d s1 H1 R1 x1 q1 w tw => ?_⟩
      cases d with
      | int b =>
        dsimp only at q1
        rw [hg] at q1
        dsimp only at q1
        exact ⟨a, b, rfl, top_int tw.weak, q1 { P with ρ := P.ρ.set i (.val (.int (g a b))) } _ H1 rfl (R1.setVal (.int _) (List.getElem?_eq_some_iff.mp hd).1) stp_setVal⟩
      | _ => exact q1.elim
    · exact q.elim
  rcases ho with rfl | rfl
  · exact main _ ip_add fun _ _ => rfl
  · exact main _ ip_sub fun _ _ => rfl
end
end Q

/-! Lay18: loops. -/
namespace Q
open PySem L2
section
variable {S : Type} {C : Cn S} {W : L2.WX} {X : Cx}
/-! ### locks -/
def unlO (i : Nat) : Out S → Out S
  | .nxt ρ s => .nxt (unlAt ρ i) s
  | .brk ρ s => .brk (unlAt ρ i) s
  | .cnt ρ s => .cnt (unlAt ρ i) s
  | .err x ρ s => .err x (unlAt ρ i) s
  | .ret fr d s => .ret fr d s
  | .stuck => .stuck
  | .new p g => .new p fun a => unlO i (g a)
def lock1 (i : Nat) (f : ExF S) : ExF S := fun ρ s => match ρ[i]? with
  | some (.own ds) => unlO i (f (ρ.set i (.lck ds)) s)
  | _ => f ρ s
/-- slot i, locked or unlocked: what is there has the same places -/
theorem root_sw {P : Pt} {i : Nat} {sl sl' : Sl} {ds es : Pay} (e : P.ρ[i]? = some sl) (q : isOwn sl = some ds) (q' : isOwn sl' = some es) {a : Addr} (h : ({ P with ρ := P.ρ.set i sl' } : Pt).root a) : P.root a := by
  obtain ⟨j, s2, fs, e1, e2, e3⟩ := h
  have e1' : (P.ρ.set i sl')[j]? = some s2 := e1
  by_cases hj : i = j
  · subst hj; exact ⟨i, _, ds, e, q, e3⟩
  · rw [List.getElem?_set_ne hj] at e1'; exact ⟨j, s2, fs, e1', e2, e3⟩
theorem Rel.unl {P' : Pt} {σ : L2.St} {H' : Hp} {s' : S} (i : Nat) (R : Rel C P' σ H' s') : Rel C { P' with ρ := unlAt P'.ρ i } σ H' s' := by
  unfold unlAt
  split
  · rename_i ds e; exact R.swap e rfl rfl
  · exact R
theorem stp_unl {T : StK S} {P P' : Pt} {s s' : S} {H H' : Hp} {i : Nat} {ds : List D} (e : P.ρ[i]? = some (.own ds)) (x : Stp T { P with ρ := P.ρ.set i (.lck ds) } s H P' s' H') : Stp T P s H { P' with ρ := unlAt P'.ρ i } s' H' := by
  have hi : i < P.ρ.length := (List.getElem?_eq_some_iff.mp e).1
  have rt : ∀ {a}, ({ P with ρ := P.ρ.set i (.lck ds) } : Pt).root a → P.root a := fun h => root_sw e rfl rfl h
  have mrt : ∀ {a}, ({ P with ρ := P.ρ.set i (.lck ds) } : Pt).mroot a → P.mroot a := fun {a} h => by
    obtain ⟨j, sl, e1, m, e3⟩ := h
    have e1' : (P.ρ.set i (.lck ds))[j]? = some sl := e1
    by_cases hj : i = j
    · subst hj; rw [List.getElem?_set_self hi] at e1'; cases e1'; cases m
    · rw [List.getElem?_set_ne hj] at e1'; exact ⟨j, sl, e1', m, e3⟩
  have urt : ∀ {a}, ({ P' with ρ := unlAt P'.ρ i } : Pt).root a → P'.root a := fun {a} h => by
    unfold unlAt at h
    split at h
    · rename_i es e'; exact root_sw e' rfl rfl h
    · exact h
  have unr : ∀ {j sl}, (unlAt P'.ρ i)[j]? = some sl → P'.ρ[j]? = some sl ∨ (j = i ∧ ∃ fs, P'.ρ[i]? = some (.lck fs)) := fun {j sl} h => by
    unfold unlAt at h
    split at h
    · rename_i fs e'
      by_cases hj : i = j
      · exact .inr ⟨hj.symm, fs, e'⟩
      · rw [List.getElem?_set_ne hj] at h; exact .inl h
    · exact .inl h
  have unk : ∀ {j es}, (unlAt P'.ρ i)[j]? = some (.lck es) → j ≠ i ∧ P'.ρ[j]? = some (.lck es) := fun {j es} h => by
    unfold unlAt at h
    split at h
    · rename_i fs e'
      by_cases hj : i = j
      · subst hj; rw [List.getElem?_set_self (List.getElem?_eq_some_iff.mp e').1] at h; cases h
      · rw [List.getElem?_set_ne hj] at h; exact ⟨Ne.symm hj, h⟩
    · rename_i hn
      refine ⟨fun q => ?_, h⟩
      subst q
      exact hn _ h
  refine ⟨fun a o h n m => x.keep a o h n fun q => m (mrt q), x.live, x.grow, fun a h => (x.rgrow a (urt h)).imp rt id, fun a h => ?_, x.zs, fun j es h => ?_⟩
  · obtain ⟨j, es, h1, m, h2⟩ := h
    rcases unr h1 with h1 | ⟨rfl, fs, h1⟩
    · exact (x.mgrow a ⟨j, es, h1, m, h2⟩).imp mrt id
    · obtain ⟨_, hr⟩ := x.lk j fs h1
      exact .inl ⟨j, _, e, rfl, hr.symm.trans h2⟩
  · obtain ⟨hj, h1⟩ := unk h
    obtain ⟨⟨fs, h2⟩, h3⟩ := x.lk j es h1
    have h2' : (P.ρ.set i (.lck ds))[j]? = some (.lck fs) := h2
    rw [List.getElem?_set_ne (Ne.symm hj)] at h2'
    exact ⟨⟨fs, h2'⟩, h3⟩
theorem RX.at {P P' : Pt} {s : S} {H : Hp} {x : Exn} {cls : Value} {dd : Option Addr} (h : RX C (Fc C P s) H x cls dd) (hi : ∀ a, Fc C P s a → Fc C P' s a) : RX C (Fc C P' s) H x cls dd := by
  obtain ⟨c, h1, h2, h3, h4⟩ := h
  refine ⟨c, h1, h2, h3, fun n => ?_⟩
  obtain ⟨dx, vs, e1, e2, e3⟩ := h4 n
  exact ⟨dx, vs, e1, e2, e3.wk fun a f _ => hi a f⟩
theorem sx_lock {st : Stmt} {f : ExF S} (i : Nat) (h : PS X st (tS C W f)) : PS X st (tS C W (lock1 i f)) := ps_mono h fun Dn σ H ⟨P, s, R, q⟩ => by
  unfold lock1 at q
  split at q
  · rename_i ds e
    refine ⟨{ P with ρ := P.ρ.set i (.lck ds) }, s, R.swap e rfl rfl, ?_⟩
    dsimp only
    revert q
    induction f (P.ρ.set i (.lck ds)) s with
    | nxt ρ' s' =>
      intro q
      exact fun P' σ' H' ep R' x => q { P' with ρ := unlAt P'.ρ i } σ' H' (by rw [← ep]) (R'.unl i) (stp_unl e x)
    | brk ρ' s' =>
      intro q
      exact fun P' σ' H' ep R' x => q { P' with ρ := unlAt P'.ρ i } σ' H' (by rw [← ep]) (R'.unl i) (stp_unl e x)
    | cnt ρ' s' =>
      intro q
      exact fun P' σ' H' ep R' x => q { P' with ρ := unlAt P'.ρ i } σ' H' (by rw [← ep]) (R'.unl i) (stp_unl e x)
    | err y ρ' s' =>
      intro q
      refine fun P' σ' c dd H' ep R' x rx => q { P' with ρ := unlAt P'.ρ i } σ' c dd H' (by rw [← ep]) (R'.unl i) (stp_unl e x) (rx.at fun a fa => ?_)
      refine ⟨fa.1, fun z => fa.2.1 ?_, fa.2.2.1, fa.2.2.2⟩
      unfold unlAt at z
      split at z
      · rename_i es e'; exact root_sw e' rfl rfl z
      · exact z
    | ret fr d s' => exact fun q => q
    | stuck => exact fun q => q
    | new p g ih => exact fun q a ha => ih a (q a ha)
  · exact ⟨P, s, R, q⟩
def lockS : List Nat → ExF S → ExF S
  | [], f => f
  | i :: is, f => lock1 i (lockS is f)
theorem sx_locks {st : Stmt} {f : ExF S} (h : PS X st (tS C W f)) : ∀ is, PS X st (tS C W (lockS is f))
  | [] => h
  | i :: is => sx_lock i (sx_locks h is)
/-! ### while -/
/-- a turn of a loop, then the rest -/
def Out.turn : Out S → ExF S → Out S
  | .nxt ρ s, k => k ρ s
  | .cnt ρ s, k => k ρ s
  | .brk ρ s, _ => .nxt ρ s
  | .ret fr d s, _ => .ret fr d s
  | .err x ρ s, _ => .err x ρ s
  | .stuck, _ => .stuck
  | .new p g, k => .new p fun a => (g a).turn k
def whileGo (c : EvT' S) (body : ExF S) : Nat → ExF S
  | 0 => stuckS
  | n + 1 => fun ρ s => thenS ρ (c ρ s) fun b s1 => if b = true then (body ρ s1).turn (whileGo c body n) else .nxt ρ s1
theorem sx_while {N : List Str} {sc : Scope} (k : Xd C W X N sc) {c : Expr} {body : List Stmt} {pos : Pos} {h : EvT' S} {f : ExF S} (hc : PT X c (tT C W h)) (hb : PSs X body (tS C W f)) (n : Nat) : PS X (.While c body [] pos) (tS C W (whileGo h f n)) := by
  refine ps_mono (ps_while k.own hc hb) fun D σ H q => ?_
  refine ⟨fun m σ H => tS C W (whileGo h f m) D σ H, ⟨n, q⟩, fun m σ H q => ?_⟩
  obtain ⟨P, s, R, q⟩ := q
  cases m with
  | zero => exact q.elim
  | succ m =>
    refine ⟨P, s, R, (RunS.run (σ := σ) q).mono fun b s1 H1 R1 x1 q1 => ?_⟩
    cases b with
    | true =>
      rw [if_pos rfl]
      rw [if_pos rfl] at q1
      refine ⟨fun σ' H' => tS C W (whileGo h f m) D σ' H', fun σ' H' z => ⟨m, Nat.lt_succ_self _, z⟩, P, s1, R1, ?_⟩
      revert q1
      induction f P.ρ s1 with
      | nxt ρ2 s2 => exact fun q1 P' σ' H' ep R' x => ⟨P', s2, R', by rw [ep]; exact RunS.step q1 x⟩
      | cnt ρ2 s2 => exact fun q1 P' σ' H' ep R' x => ⟨P', s2, R', by rw [ep]; exact RunS.step q1 x⟩
      | brk ρ2 s2 => exact fun q1 => q1
      | ret fr d s2 => exact fun q1 => q1
      | err y ρ2 s2 => exact fun q1 => q1
      | stuck => exact fun q1 => q1
      | new p g ih => exact fun q1 a ha => ih a (q1 a ha)
    | false =>
      rw [if_neg Bool.false_ne_true]
      rw [if_neg Bool.false_ne_true] at q1
      exact q1 P σ H1 rfl R1 Stp.refl
/-! ### for -/
def forGo (g : D → List Sl → Option (List Sl)) (body : ExF S) : List D → ExF S
  | [] => nextS
  | d :: ds => fun ρ s => match g d ρ with
    | none => .stuck
    | some ρ1 => (body ρ1 s).turn (forGo g body ds)
def forS (it : EvL' S) (g : D → List Sl → Option (List Sl)) (body : ExF S) : ExF S := fun ρ s => thenS ρ (it ρ s) fun ds s1 => forGo g body ds ρ s1
theorem sx_for {N : List Str} {sc : Scope} (k : Xd C W X N sc) {tg iter : Expr} {body : List Stmt} {pos : Pos} {it : EvL' S} {ts : List Nat} {g : D → List Sl → Option (List Sl)} {f : ExF S} (hi : PI X tg iter (tI true C W it)) (hg : PG X tg (tG C ts g)) (hb : PSs X body (tS C W f)) (hs : isSet iter = false) : PS X (.For tg iter body [] pos) (tS C W (forS it g f)) := by
  refine ps_mono (ps_for k.own k.calm hi hg hb (by intro x; cases iter <;> first | rfl | (simp [isSet] at hs; done))) fun D σ H ⟨P, s, R, q⟩ => ⟨P, s, R, (RunS.run (σ := σ) q).mono fun ds s1 H1 R1 x1 q1 J wm => ?_⟩
  refine ⟨fun i m σ' H' => m = ds.length - i ∧ i ≤ ds.length ∧ ∃ P' s', Rel C P' σ' H' s' ∧ Stp C.T P s1 H1 P' s' H' ∧ RunS C W P' H' s' (forGo g f (ds.drop i) P'.ρ s') D, ⟨_, rfl, Nat.zero_le _, P, s1, R1, Stp.refl, q1⟩, ?_⟩
  rintro i m σ' H' ⟨rfl, hl, P', s', R', x', q'⟩
  by_cases he : i = ds.length
  · left
    subst he
    refine ⟨wm.stop P' s' H' x' R'.st, ?_⟩
    rw [List.drop_length] at q'
    exact q' P' σ' H' rfl R' Stp.refl
  · right
    have hlt : i < ds.length := Nat.lt_of_le_of_ne hl he
    have hd : ds[i]? = some ds[i] := List.getElem?_eq_getElem hlt
    obtain ⟨go, yl⟩ := wm.go i _ P' s' H' hd x' R'.st
    rw [List.drop_eq_getElem_cons hlt] at q'
    refine ⟨go, fun σ2 H2 => ∃ P2 s2, Rel C P2 σ2 H2 s2 ∧ Stp C.T P s1 H1 P2 s2 H2 ∧ RunS C W P2 H2 s2 (forGo g f (ds.drop (i + 1)) P2.ρ s2) D, fun σ2 H2 z => ⟨_, by omega, rfl, hlt, z⟩, fun x H3 y => ?_⟩
    obtain ⟨x3, st3, r3⟩ := yl x H3 y
    have R3 : Rel C P' σ' H3 s' := R'.xt x3 st3
    unfold forGo at q'
    split at q'
    · exact q'.elim
    · rename_i ρ1 e1
      refine ⟨P', s', _, ρ1, R3, r3.wk fun a fa _ => fa.1, e1, fun σ4 R4 x4 _ => ⟨_, s', R4, ?_⟩⟩
      have x14 := x'.trans (x3.stp.trans x4)
      dsimp only
      revert q'
      induction f ρ1 s' with
      | nxt ρ2 s2 =>
        intro q'
        exact fun P5 σ5 H5 ep R5 x5 => ⟨P5, s2, R5, x14.trans x5, by rw [ep]; exact RunS.step q' (x3.stp.trans (x4.trans x5))⟩
      | cnt ρ2 s2 =>
        intro q'
        exact fun P5 σ5 H5 ep R5 x5 => ⟨P5, s2, R5, x14.trans x5, by rw [ep]; exact RunS.step q' (x3.stp.trans (x4.trans x5))⟩
      | brk ρ2 s2 =>
        intro q'
        exact fun P5 σ5 H5 ep R5 x5 => q' P5 σ5 H5 ep R5 (x3.stp.trans (x4.trans x5))
      | ret fr d s2 => exact fun q' => q'
      | new p g ih => exact fun q' a ha => ih a (q' a ha)
      | err z ρ2 s2 =>
        intro q'
        exact fun P5 σ5 c dd H5 ep R5 x5 rx => q' P5 σ5 c dd H5 ep R5 (x3.stp.trans (x4.trans x5)) rx
      | stuck => exact fun q' => q'
end
end Q

/-! Lay18b: a local that holds one of two defs, called at once in the statement behind. -/
namespace Q
open PySem L2
section
variable {S : Type} {C : Cn S} {W : L2.WX} {X : Cx}
theorem root_setN {P : Pt} {i : Nat} {a : Addr} (h : ({ P with ρ := P.ρ.set i .no } : Pt).root a) : P.root a := by
  obtain ⟨j, sl, ds, e1, e2, e3⟩ := h
  by_cases hj : i = j
  · subst hj
    have e1' : (P.ρ.set i .no)[i]? = some sl := e1
    by_cases hl : i < P.ρ.length
    · rw [List.getElem?_set_self hl] at e1'
      cases e1'
      cases e2
    · rw [List.getElem?_eq_none (by simpa using hl)] at e1'
      cases e1'
  · have e1' : (P.ρ.set i .no)[j]? = some sl := e1
    rw [List.getElem?_set_ne hj] at e1'
    exact ⟨j, sl, ds, e1', e2, e3⟩
theorem mroot_setN {P : Pt} {i : Nat} {a : Addr} (h : ({ P with ρ := P.ρ.set i .no } : Pt).mroot a) : P.mroot a := by
  obtain ⟨j, sl, e1, m, e3⟩ := h
  have e1' : (P.ρ.set i .no)[j]? = some sl := e1
  by_cases hj : i = j
  · subst hj
    by_cases hl : i < P.ρ.length
    · rw [List.getElem?_set_self hl] at e1'
      cases e1'
      cases m
    · rw [List.getElem?_eq_none (by simpa using hl)] at e1'
      cases e1'
  · rw [List.getElem?_set_ne hj] at e1'
    exact ⟨j, sl, e1', m, e3⟩
theorem fc_setN {P : Pt} {s : S} {i : Nat} {a : Addr} (h : Fc C P s a) : Fc C { P with ρ := P.ρ.set i .no } s a := ⟨h.1, fun q => h.2.1 (root_setN q), h.2.2.1, h.2.2.2⟩
theorem Rel.setNo {P : Pt} {σ : L2.St} {H : Hp} {s : S} {i : Nat} {v : V} (R : Rel C P σ H s) (hi : i < P.ρ.length) : Rel C { P with ρ := P.ρ.set i .no } (σ.set i (some v)) H s := by
  refine ⟨by simp [R.len], R.st, R.frm, R.live, R.grow, R.za, fun j sl e => ?_⟩
  have e' : (P.ρ.set i .no)[j]? = some sl := e
  by_cases hj : i = j
  · subst hj
    rw [List.getElem?_set_self hi] at e'
    cases e'
    trivial
  · rw [List.getElem?_set_ne hj] at e'
    have h := R.slot j sl e'
    have own : ∀ ds, isOwn sl = some ds → OwnOk C { P with ρ := P.ρ.set i .no } (σ.set i (some v)) H s j ds := fun ds q => by
      have o : OwnOk C P σ H s j ds := R.own e' q
      obtain ⟨vs, x1, x2⟩ := o.is
      refine ⟨by rw [List.getElem?_set_ne hj]; exact o.at_, o.new, o.na, o.nz, fun j' sl' es q1 q2 q3 => ?_, vs, x1, x2.wk fun a f _ => fc_setN f⟩
      have q1' : (P.ρ.set i .no)[j']? = some sl' := q1
      by_cases hj' : i = j'
      · subst hj'
        rw [List.getElem?_set_self hi] at q1'
        cases q1'
        cases q2
      · rw [List.getElem?_set_ne hj'] at q1'
        exact o.one j' sl' es q1' q2 q3
    cases sl with
    | no => trivial
    | val d' =>
      obtain ⟨w, e1, e2⟩ := h
      exact ⟨w, by rw [List.getElem?_set_ne hj]; exact e1, e2.wk fun a f _ => fc_setN f⟩
    | own ds => exact own _ rfl
    | lck ds => exact own _ rfl
    | obj _ _ => exact own _ rfl
theorem stp_setNo {P : Pt} {s : S} {H : Hp} {i : Nat} : Stp C.T P s H { P with ρ := P.ρ.set i .no } s H :=
  ⟨fun _ _ e _ _ => e, fun _ h => h, fun _ h => .inl h, fun _ h => .inl (root_setN h), fun _ h => .inl (mroot_setN h), rfl, fun j es e => by
    have e' : (P.ρ.set i .no)[j]? = some (.lck es) := e
    by_cases hj : i = j
    · subst hj
      by_cases hl : i < P.ρ.length
      · rw [List.getElem?_set_self hl] at e'; cases e'
      · rw [List.getElem?_eq_none (by simpa using hl)] at e'; cases e'
    · rw [List.getElem?_set_ne hj] at e'; exact ⟨⟨es, e'⟩, rfl⟩⟩
/-- a call of a local that holds the def at a -/
theorem pe_callH {N : List Str} {sc : Scope} (k : Xk C W X N sc) {h : Str} {i : Nat} {f : Fn S} {g : EvL' S} {e : Expr} {es : List Expr} {p pos : Pos} {a : Addr} {fd : FuncData} {ps : List Str} {kk : Nat}
    (F : FnG X.prog X.w X.K X.mg X.base (L2.CX X.prog X.w) kk a fd ps (spS C.K C.T C.cls f)) (hr : Room kk X.A) (hk : PySem.W.keepIn X.K (.ref a) = true) (hb : Binds X.K fd ps []) (hi : okN N sc h = some i) (ha : PA X (e :: es) (tA C W g)) (hs : (e :: es).all (fun e => !isStar e) = true) :
    PE X (.Call (.Name h p) (e :: es) [] pos) (fun σ H Q => σ[i]? = some (some (.ref a)) ∧ tP C W (callF f g) σ H Q) := by
  simp only [List.all_cons, Bool.and_eq_true, Bool.not_eq_true'] at hs
  refine ⟨fun pins s σ H Q I hh => ?_⟩
  obtain ⟨h1, P, st, R, q⟩ := hh
  have ht := t_call (f := f) R (q.mono fun d s' H' _ _ kk v rv _ => kk v rv)
  refine wpAny_Call_Name_kw (thn ((pe_okN (pos := p) k hi).run pins s σ H (fun v H1 => v = .ref a ∧ H1 = H) I ⟨.ref a, h1, rfl, rfl⟩) fun u s1 ⟨v, H1, I1, r1, q1⟩ => ?_)
  obtain ⟨rfl, rfl⟩ := q1
  cases r1
  refine PySem.W.callWith_K (h₀ := X.base) I.ok.mod.kin hk (thn (ha.run pos pins s1 σ _ _ I1 ht) fun us s2 ⟨vs, H2, I2, r, q⟩ => ⟨I2.kIn, ?_⟩) (star_no hs.1) (star_back hs.2)
  exact run_fnG (E := WE W) F hr k.gd hb (passAt k.tk σ) I2 r q
theorem t_seq {f g : ExF S} {D : Ends} {σ : L2.St} {H : Hp} (h : tS C W (seqS f g) D σ H) : tSeq (tS C W f) (tS C W g) D σ H := by
  obtain ⟨P, s, R, q⟩ := h
  refine ⟨P, s, R, ?_⟩
  unfold seqS at q
  revert q
  induction f P.ρ s with
  | nxt ρ' s' =>
    intro q
    intro P' σ' H' ep R' x
    exact ⟨P', s', R', by rw [ep]; exact RunS.step q x⟩
  | ret fr d s' => exact fun q => q
  | brk ρ' s' => exact fun q => q
  | cnt ρ' s' => exact fun q => q
  | err x ρ' s' => exact fun q => q
  | stuck => exact fun q => q
  | new p k ih => exact fun q a ha => ih a (q a ha)
/-- the test of the pair's second statement, then its body -/
def pickT (f : Fn S) (a : EvL' S) (B : ExF S) : ExF S := ifS (notT (truth (callF f a))) B nextS
def pickS (i : Nat) (c : EvT' S) (f g : Fn S) (a : EvL' S) (B : ExF S) : ExF S := fun ρ s => thenS ρ (c ρ s) fun b s1 => if i < ρ.length then pickT (if b = true then f else g) a B (ρ.set i .no) s1 else .stuck
theorem sx_pickT {N : List Str} {sc : Scope} (k : Xk C W X N sc) {h : Str} {i : Nat} {f : Fn S} {g : EvL' S} {e : Expr} {es : List Expr} {p pos pos1 pos2 : Pos} {a : Addr} {fd : FuncData} {ps : List Str} {kk : Nat} {body : List Stmt} {B : ExF S}
    (F : FnG X.prog X.w X.K X.mg X.base (L2.CX X.prog X.w) kk a fd ps (spS C.K C.T C.cls f)) (hr : Room kk X.A) (hk : PySem.W.keepIn X.K (.ref a) = true) (hb : Binds X.K fd ps []) (hi : okN N sc h = some i) (ha : PA X (e :: es) (tA C W g)) (hs : (e :: es).all (fun e => !isStar e) = true) (hB : PSs X body (tS C W B)) :
    PS X (.If (.UnaryOp .Not (.Call (.Name h p) (e :: es) [] pos) pos1) body [] pos2) (fun D σ H => σ[i]? = some (some (.ref a)) ∧ tS C W (pickT f g B) D σ H) := by
  have h0 := pe_callH (p := p) (pos := pos) k F hr hk hb hi ha hs
  have h1 := pt_not (pos := pos1) (pt_truth h0 fun whole => rfl)
  refine ps_mono (ps_if h1 hB (sxs_nil (C := C) (W := W))) fun D σ H ⟨q0, P, s, R, q⟩ => ⟨q0, P, s, R, ?_⟩
  have q := RunS.run (σ := σ) q
  have q : Run C W P σ H s ((truth (callF f g) P.ρ s).bind fun b s1 => .ok (!b) s1) _ := q
  have q := q.bind
  have q : Run C W P σ H s ((callF f g P.ρ s).bind fun d s1 => ofO (dTru d) s1) _ := q
  refine q.bind.mono fun d s1 H1 R1 x1 q1 v rv => ?_
  obtain ⟨b, e, kx⟩ := run_ofO q1
  refine ⟨b, by rw [← k.K]; exact tru_top (.inl rv) e, ?_⟩
  have q2 := (kx H1 R1 Xt.refl).now R1
  cases b with
  | false => exact iteT ⟨P, s1, R1, q2⟩
  | true => exact iteF ⟨P, s1, R1, q2⟩
theorem sxs_pick {N : List Str} {sc : Scope} (k : Xd C W X N sc) {h x y : Str} {i : Nat} {c : Expr} {ct : EvT' S} {f g : Fn S} {a : EvL' S} {e : Expr} {es : List Expr} {p pos pos1 pos2 p1 p2 p3 p4 p5 : Pos} {body rest : List Stmt} {B R : ExF S}
    (cf : CalOk C X x f) (cg : CalOk C X y g) (hx : glB sc x = true) (hy : glB sc y = true) (hl : locB sc h = true) (hi : okN N sc h = some i) (hj : slotOf N h = some i) (hw : swappedStores [.Name h p1] (.IfExp c (.Name x p2) (.Name y p3) p4) X.env = pure none) (hc : PT X c (tT C W ct)) (ha : PA X (e :: es) (tA C W a)) (hs : (e :: es).all (fun e => !isStar e) = true) (hB : PSs X body (tS C W B)) (hR : PSs X rest (tS C W R)) :
    PSs X (.Assign [.Name h p1] (.IfExp c (.Name x p2) (.Name y p3) p4) p5 :: .If (.UnaryOp .Not (.Call (.Name h p) (e :: es) [] pos) pos1) body [] pos2 :: rest) (tS C W (seqS (pickS i ct f g a B) R)) := by
  obtain ⟨af, fd, ps, kf, F, hr, hm, hk, hb⟩ := cf.ok
  obtain ⟨ag, fd', ps', kg, G, hr', hm', hk', hb'⟩ := cg.ok
  obtain ⟨u1, u2, u3⟩ := gl_of k.toXk hx
  obtain ⟨w1, w2, w3⟩ := gl_of k.toXk hy
  have hN : X.N[i]? = some h := by rw [k.names]; exact slotOf_some hj
  obtain ⟨hL, hF⟩ := k.s.loc h hl
  have s1 := ps_asg (pos := p5) (pe_ifExp (pos := p4) hc (pe_glob (pos := p2) u1 hm (v := .ref af) (by trivial) u2) (pe_glob (pos := p3) w1 hm' (v := .ref ag) (by trivial) w2)) (pg_name (pos := p1) (i := i) (by rw [k.names]; exact k.nd) hN hL hF) (sole_no rfl) hw
  have t1 := sx_pickT (p := p) (pos := pos) (pos1 := pos1) (pos2 := pos2) k.toXk F hr hk hb hi ha hs hB
  have t2 := sx_pickT (p := p) (pos := pos) (pos1 := pos1) (pos2 := pos2) k.toXk G hr' hk' hb' hi ha hs hB
  refine pss_mono (pss_cons s1 (pss_cons (t := fun D σ H => ∃ b : Bool, σ[i]? = some (some (.ref (if b = true then af else ag))) ∧ tS C W (pickT (if b = true then f else g) a B) D σ H) ⟨fun pins s σ H D I ⟨b, q1, q2⟩ => by
    cases b with
    | true => exact t1.run pins s σ H D I ⟨q1, q2⟩
    | false => exact t2.run pins s σ H D I ⟨q1, q2⟩⟩ hR)) fun D σ H ⟨P, s, R0, q⟩ => ?_
  have q' : RunS C W P H s (thenS P.ρ (ct P.ρ s) fun b s1 => if i < P.ρ.length then seqS (pickT (if b = true then f else g) a B) R (P.ρ.set i .no) s1 else .stuck) D := by
    have e1 : seqS (pickS i ct f g a B) R P.ρ s = thenS P.ρ (ct P.ρ s) fun b s1 => if i < P.ρ.length then seqS (pickT (if b = true then f else g) a B) R (P.ρ.set i .no) s1 else .stuck := by
      unfold seqS pickS
      induction ct P.ρ s with
      | ok b s1 =>
        simp only [thenS]
        by_cases hlt : i < P.ρ.length
        · rw [if_pos hlt, if_pos hlt]
        · rw [if_neg hlt, if_neg hlt]
          rfl
      | err y s1 => rfl
      | stuck => rfl
      | new p k ih => exact congrArg (Out.new p) (funext ih)
    rw [← e1]
    exact q
  refine ⟨P, s, R0, q'.run.mono fun b s1 H1 R1 x1 q1 => ?_⟩
  by_cases hlt : i < P.ρ.length
  · rw [if_pos hlt] at q1
    have hlt' : i < σ.length := by rw [R0.len]; exact hlt
    cases b with
    | true => exact iteT ⟨true, by rw [List.getElem?_set_self hlt']; rfl, t_seq ⟨_, s1, R1.setNo hlt, RunS.step q1 stp_setNo⟩⟩
    | false => exact iteF ⟨false, by rw [List.getElem?_set_self hlt']; rfl, t_seq ⟨_, s1, R1.setNo hlt, RunS.step q1 stp_setNo⟩⟩
  · rw [if_neg hlt] at q1
    exact q1.elim
end
end Q

/-! Lay18c: raise C(e), C an own class whose __init__ stores one field. -/
namespace Q
open PySem L2
section
variable {S : Type} {C : Cn S} {W : L2.WX} {X : Cx}
def raiseS (x fl : Str) (f : EvF S) : ExF S := fun ρ s => thenS ρ (f ρ s) fun d s1 => .err ⟨x, [(fl, d)]⟩ ρ s1
theorem sx_raise {N : List Str} {sc : Scope} (k : Xk C W X N sc) {x fl : Str} {e : Expr} {p pos pos' : Pos} {f : EvF S} (ok : ExOk C X x fl) (hg : glB sc x = true) (hs : isStar e = false) (ha : PA X [e] (tA C W (consA f nilA))) :
    PS X (.Raise (some (.Call (.Name x p) [e] [] pos)) none pos') (tS C W (raiseS x fl f)) := by
  obtain ⟨c, fI, fd, ps, kk, e1, e2, T, iC, tI, F, hr, hb, _⟩ := ok.ok
  obtain ⟨g1, g2, g3⟩ := gl_of k hg
  have mk := T.elim (fun T => pmk_oex (p := p) (pos := pos) T iC tI F hr hb .nil (fun _ _ _ _ _ _ _ z => z.elim) g1 e2 ha g2 (star_no hs) (star_back (by rfl))) fun T => pmk_oexO (p := p) (pos := pos) T iC tI F hr hb .nil (fun _ _ _ _ _ _ _ z => z.elim) g1 e2 ha g2 (star_no hs) (star_back (by rfl))
  have h := ps_raise (pos := pos') k.calm k.tk mk
  refine ps_mono h fun D σ H ⟨P, s, R, q⟩ => ?_
  refine ⟨P, s, R, ?_⟩
  have q2 : Run C W P σ H s ((f P.ρ s).bind fun d s1 => .ok [d] s1) fun ds s' H' => ∀ vs, RpL C.K H' (Fc C P s') vs ds → vs.length ≤ 1000 ∧ ∀ a, H' a = none → spSup c fl (.ref a :: (vs ++ [])) (upd H' a (exo a c none)) (fun v H2 => v = .non ∧ ∃ (d : Addr) (fs : List (Str × V)), H2 a = some (exo a c (some d)) ∧ H2 d = some (exd d fs) ∧ H' d = none ∧ W (.ref c) (some d) σ (upd (del H2 a) d (.xd fs))) (fun _ _ _ => False) := by
    unfold raiseS at q
    have q := q.run (σ := σ)
    revert q
    induction f P.ρ s with
    | new p g ih => exact fun q a ha => ih a (q a ha)
    | ok d s1 =>
      intro q
      intro H1 R1 x1 vs rv
      cases rv with
      | cons rv rn =>
        cases rn
        rename_i v
        have q1 := q H1 R1 x1
        refine ⟨by simp, fun a ha => ⟨a, v, rfl, upd_same, fun dx n ne => ⟨rfl, dx, [(fl, v)], upd_same, ?_, ?_, ?_⟩⟩⟩
        · rw [upd_ne ne, upd_same]
        · rw [upd_ne ne] at n; exact n
        · rw [upd_ne ne] at n
          have eh : upd (del (upd (upd (upd H1 a (exo a c none)) dx (exd dx [(fl, v)])) a (exo a c (some dx))) a) dx (.xd [(fl, v)]) = upd H1 dx (.xd [(fl, v)]) := by
            funext b
            by_cases hb : b = dx
            · subst hb; rw [upd_same, upd_same]
            · rw [upd_ne hb, upd_ne hb]
              by_cases hba : b = a
              · subst hba; rw [del_same, ha]
              · rw [del_ne hba, upd_ne hba, upd_ne hb, upd_ne hba]
          rw [eh]
          exact q1 P σ (.ref c) (some dx) _ rfl (R1.new n) (Xt.new n).stp ⟨c, e1, rfl, ⟨fun z => absurd z (by simp), fun _ => ⟨dx, [v], rfl, upd_same, .cons (rv.xt (Xt.new n) R1.st) .nil⟩⟩⟩
    | err y s1 => exact fun q => q
    | stuck => exact fun q => q
  exact q2
end
end Q

/-! Lay40: raise C(e, f), C an own class whose __init__ stores two fields. -/
namespace Q
open PySem L2
section
variable {S : Type} {C : Cn S} {W : L2.WX} {X : Cx}
def raise2S (x fl fl2 : Str) (f g : EvF S) : ExF S := fun ρ s => thenS ρ (f ρ s) fun d s1 => thenS ρ (g ρ s1) fun d2 s2 => .err ⟨x, [(fl2, d2), (fl, d)]⟩ ρ s2
theorem sx_raise2 {N : List Str} {sc : Scope} (k : Xk C W X N sc) {x fl fl2 : Str} {e e2 : Expr} {p pos pos' : Pos} {f g : EvF S} (ok : ExOk3 C X x fl fl2) (hg : glB sc x = true) (hs : isStar e = false) (hs2 : isStar e2 = false) (ha : PA X [e, e2] (tA C W (consA f (consA g nilA)))) :
    PS X (.Raise (some (.Call (.Name x p) [e, e2] [] pos)) none pos') (tS C W (raise2S x fl fl2 f g)) := by
  obtain ⟨c, fI, fd, ps, kk, e1, em, T, iC, tI, F, hr, hb, _⟩ := ok.ok
  obtain ⟨g1, g2, g3⟩ := gl_of k hg
  have h := ps_raise (pos := pos') k.calm k.tk (pmk_oex (p := p) (pos := pos) T iC tI F hr hb .nil (fun _ _ _ _ _ _ _ z => z.elim) g1 em ha g2 (by rw [star_no hs]) (by rw [star_no hs2]; rfl))
  refine ps_mono h fun D σ H ⟨P, s, R, q⟩ => ?_
  refine ⟨P, s, R, ?_⟩
  have q2 : Run C W P σ H s (consA f (consA g nilA) P.ρ s) fun ds s' H' => ∀ vs, RpL C.K H' (Fc C P s') vs ds → vs.length ≤ 1000 ∧ ∀ a, H' a = none → spSup3 c fl fl2 (.ref a :: (vs ++ [])) (upd H' a (exo a c none)) (fun v H2 => v = .non ∧ ∃ (d : Addr) (fs : List (Str × V)), H2 a = some (exo a c (some d)) ∧ H2 d = some (exd d fs) ∧ H' d = none ∧ W (.ref c) (some d) σ (upd (del H2 a) d (.xd fs))) (fun _ _ _ => False) := by
    unfold raise2S at q
    unfold consA
    revert q
    induction f P.ρ s with
    | new p k ih => exact fun q a ha => ih a (q a ha)
    | ok d s1 =>
      intro q
      have q : RunS C W P H s (thenS P.ρ (g P.ρ s1) fun d2 s2 => .err ⟨x, [(fl2, d2), (fl, d)]⟩ P.ρ s2) D := q
      show Run C W P σ H s (((g P.ρ s1).bind fun d2 s2 => (nilA P.ρ s2).bind fun ds s3 => .ok (d2 :: ds) s3).bind fun ds s2 => .ok (d :: ds) s2) _
      revert q
      induction g P.ρ s1 with
      | new p k ih => exact fun q a ha => ih a (q a ha)
      | ok d2 s2 =>
        intro q
        intro H1 R1 x1 vs rv
        cases rv with
        | cons rv rn =>
          cases rn with
          | cons rv2 rn =>
          cases rn
          rename_i v v2
          refine ⟨by simp, fun a ha => ⟨a, v, v2, rfl, upd_same, fun dx n ne => ⟨rfl, dx, [(fl2, v2), (fl, v)], upd_same, ?_, ?_, ?_⟩⟩⟩
          · rw [upd_ne ne, upd_same]
          · rw [upd_ne ne] at n; exact n
          · rw [upd_ne ne] at n
            have eh : upd (del (upd (upd (upd H1 a (exo a c none)) dx (exd dx [(fl2, v2), (fl, v)])) a (exo a c (some dx))) a) dx (.xd [(fl2, v2), (fl, v)]) = upd H1 dx (.xd [(fl2, v2), (fl, v)]) := by
              funext b
              by_cases hb : b = dx
              · subst hb; rw [upd_same, upd_same]
              · rw [upd_ne hb, upd_ne hb]
                by_cases hba : b = a
                · subst hba; rw [del_same, ha]
                · rw [del_ne hba, upd_ne hba, upd_ne hb, upd_ne hba]
            rw [eh]
            exact q P σ (.ref c) (some dx) _ rfl (R1.new n) (x1.trans (Xt.new n)).stp ⟨c, e1, rfl, ⟨fun z => absurd z (by simp), fun _ => ⟨dx, [v2, v], rfl, upd_same, .cons (rv2.xt (Xt.new n) R1.st) (.cons (rv.xt (Xt.new n) R1.st) .nil)⟩⟩⟩
      | err y s2 =>
        intro q
        exact fun cls dd H1 R1 x1 rx => q P σ cls dd H1 rfl R1 x1.stp rx
      | stuck => exact fun q => q.elim
    | err y s1 =>
      intro q
      exact fun cls dd H1 R1 x1 rx => q P σ cls dd H1 rfl R1 x1.stp rx
    | stuck => exact fun q => q.elim
  exact q2
end
end Q

/-! Lay19: the run of statements. -/
namespace Q
open PySem L2
/-! ### names that a statement hands on as values -/
def unstar : Expr → Expr
  | .Starred e _ => e
  | e => e
mutual
def escE (cal : Str → Bool) : Nat → Expr → List Str
  | 0, _ => []
  | n + 1, e => match e with
    | .Name x _ => [x]
    | .BinOp a _ b _ => escP cal n a ++ escP cal n b
    | .Compare a _ bs _ => escP cal n a ++ bs.flatMap (escP cal n)
    | .BoolOp _ vs _ => vs.flatMap (escE cal n)
    | .UnaryOp _ a _ => escP cal n a
    | .IfExp c a b _ => escT cal n c ++ escE cal n a ++ escE cal n b
    | .Tuple es _ _ => es.flatMap fun e => if isStar e = true then escP cal n (unstar e) else escE cal n e
    | .List es _ => es.flatMap fun e => if isStar e = true then escP cal n (unstar e) else escE cal n e
    | .Subscript a i _ => escP cal n a ++ escP cal n i
    | .Slice lo hi _ _ => (lo.toList ++ hi.toList).flatMap (escP cal n)
    | .Call (.Name f _) as _ _ => if cal f = true then as.flatMap (escE cal n) else as.flatMap (escP cal n)
    | .Call (.Attribute _ _ _) as _ _ => as.flatMap (escE cal n)
    | .ListComp elt gs _ _ => escE cal n elt ++ gs.flatMap fun g => escP cal n g.iter ++ g.ifs.flatMap (escT cal n)
    | _ => []
def escP (cal : Str → Bool) : Nat → Expr → List Str
  | 0, _ => []
  | n + 1, e => match e with
    | .Name _ _ => []
    | e => escE cal n e
def escT (cal : Str → Bool) : Nat → Expr → List Str
  | 0, _ => []
  | n + 1, e => match e with
    | .Name _ _ => []
    | .BoolOp _ vs _ => vs.flatMap (escT cal n)
    | .UnaryOp .Not a _ => escT cal n a
    | e => escE cal n e
end
/-- the names that are walked -/
def walked : Expr → List Str
  | .Name x _ => [x]
  | .Call (.Name _ _) as _ _ => as.flatMap fun
    | .Name x _ => [x]
    | _ => []
  | _ => []
def slots (N : List Str) (xs : List Str) : List Nat := (xs.filterMap (slotOf N)).eraseDups
section
variable {S : Type} {C : Cn S} {W : L2.WX} {X : Cx}
/-- what a def's statements need to know -/
structure Dk (S : Type) where
  G : Gk S
  N : List Str
  sc : Scope
  ow : List Str
  wf : Nat
  st : Stmt → Option (ExF S) := fun _ => none
def StOk (C : Cn S) (W : L2.WX) (X : Cx) (K : Dk S) : Prop := ∀ st f, K.st st = some f → PS X st (tS C W f)
def Dk.ev (K : Dk S) (e : Expr) : Sem3 S := evB K.G K.N 40 K.sc e
def Dk.rE (K : Dk S) (e : Expr) : List Nat := slots K.N (escE (fun x => (K.G.cal x).isSome) 80 e)
def Dk.rT (K : Dk S) (e : Expr) : List Nat := slots K.N (escT (fun x => (K.G.cal x).isSome) 80 e)
def Dk.rP (K : Dk S) (e : Expr) : List Nat := slots K.N (escP (fun x => (K.G.cal x).isSome) 80 e)
def retS (K : Dk S) : Option Expr → ExF S
  | none => retNone
  | some e => match e with
    | .Name x _ => if visB K.sc x = true then retN K.N K.sc x else retV false (K.ev e).v
    | e => relS' (K.rE e) (if (K.ev e).fr = true then retV true (K.ev e).v else retV false (K.ev e).v)
theorem sx_rets {K : Dk S} (k : Xd C W X K.N K.sc) (g : GkOk C X K.G) (o : Option Expr) (pos : Pos) : PS X (.Return o pos) (tS C W (retS K o)) := by
  have h : ∀ e, Snd C W X e (K.ev e) := fun e => (ev_ok 40 k.toXk g e).toSnd
  unfold retS
  split
  · exact sx_retNone
  · split
    · split
      · exact sx_retN k.toXk _ _ _
      · exact sx_ret (h _).v
    · refine sx_rel _ ?_
      split
      · rename_i q; exact sx_retF ((h _).f q)
      · exact sx_ret (h _).v
def asg1 (K : Dk S) (tg e : Expr) : ExF S := match sws K.sc tg e with
  | none => stuckS
  | some none => (match tg with
    | .Name x _ => relS' (K.rE e) (setN K.G K.N K.sc K.ow 40 x e)
    | .Subscript (.Name x _) j _ => if isComp e = true ∨ isSlice j = true then stuckS else (match okN K.N K.sc x with
      | some i => relS' (K.rE e ++ K.rP j) (setItemS i (K.ev e).v (pk K.N K.sc K.ev j))
      | none => stuckS)
    | .Tuple ts kd p => if isComp e = true then stuckS else relS' (K.rE e) (asgS (K.ev e).v (tgt K.N K.sc 20 (.Tuple ts kd p)).g)
    | _ => stuckS)
  | some (some names) => (match tg, e with
    | .Tuple ts _ _, .Tuple vs _ _ => relS' (K.rE e) (par3 K.N K.sc K.ev K.ow names ts vs)
    | _, _ => stuckS)
theorem sx_asg1 {K : Dk S} (k : Xd C W X K.N K.sc) (g : GkOk C X K.G) (tg e : Expr) (pos : Pos) : PS X (.Assign [tg] e pos) (tS C W (asg1 K tg e)) := by
  have h : ∀ e, Snd C W X e (K.ev e) := fun e => (ev_ok 40 k.toXk g e).toSnd
  unfold asg1
  split
  · exact sx_stuck
  · rename_i hs
    have hw := sws_ok k.scope hs
    split
    · exact sx_rel _ (sx_setN k g _ 40 _ _ _ _ hw)
    · split
      · exact sx_stuck
      · rename_i q
        simp only [not_or, Bool.not_eq_true] at q
        split
        · rename_i i hi
          exact sx_rel _ (sx_setItem k hi q.1 q.2 hw (h _).v (sd_pk k.toXk h _))
        · exact sx_stuck
    · split
      · exact sx_stuck
      · rename_i q
        exact sx_rel _ (sx_asg (h _).v ((tgt_snd k.s 20).1 _).p (sole_no (Bool.eq_false_iff.mpr q)) hw rfl)
    · exact sx_stuck
  · rename_i names hs
    have hw := sws_ok k.scope hs
    split
    · exact sx_rel _ (sx_par3 k h _ _ _ _ _ _ _ _ _ hw)
    · exact sx_stuck
def expS (K : Dk S) (e : Expr) : ExF S := match e with
  | .Call (.Attribute (.Name x _) m ap) [a] [] cp => if m = "append" ∧ isStar a = false ∧ (ap.endLine == cp.line) = true then (match okN K.N K.sc x with
    | some i => relS' (K.rE a) (appS i (K.ev a).v)
    | none => stuckS) else stuckS
  | e => if isComp e = true then stuckS else relS' (K.rE e) (dropS (K.ev e).v)
theorem sx_exp {K : Dk S} (k : Xd C W X K.N K.sc) (g : GkOk C X K.G) (e : Expr) (pos : Pos) : PS X (.Expr e pos) (tS C W (expS K e)) := by
  have h : ∀ e, Snd C W X e (K.ev e) := fun e => (ev_ok 40 k.toXk g e).toSnd
  unfold expS
  split
  · split
    · rename_i q
      obtain ⟨rfl, q2, q3⟩ := q
      split
      · rename_i i hi
        exact sx_rel _ (sx_app k hi q2 q3 (h _).v)
      · exact sx_stuck
    · exact sx_stuck
  · split
    · exact sx_stuck
    · rename_i q
      exact sx_rel _ (sx_drop (Bool.eq_false_iff.mpr q) (h _).v)
def aug1 (K : Dk S) (tg : Expr) (op : Operator) (e : Expr) : ExF S := match tg with
  | .Name x _ => if op = .Add ∨ op = .Sub then (match slotOf K.N x with
    | some i => if locB K.sc x = true then relS' (K.rP e) (augS i op (pk K.N K.sc K.ev e)) else stuckS
    | none => stuckS) else stuckS
  | _ => stuckS
theorem sx_aug1 {K : Dk S} (k : Xd C W X K.N K.sc) (g : GkOk C X K.G) (tg : Expr) (op : Operator) (e : Expr) (pos : Pos) : PS X (.AugAssign tg op e pos) (tS C W (aug1 K tg op e)) := by
  have h : ∀ e, Snd C W X e (K.ev e) := fun e => (ev_ok 40 k.toXk g e).toSnd
  unfold aug1
  split
  · split
    · rename_i ho
      split
      · rename_i i hi
        split
        · rename_i hl
          exact sx_rel _ (sx_aug k ho hi hl (sd_pk k.toXk h _))
        · exact sx_stuck
      · exact sx_stuck
    · exact sx_stuck
  · exact sx_stuck
def raise1 (K : Dk S) (x : Str) (e : Expr) : ExF S := match K.G.exn x with
  | some fl => if glB K.sc x = true ∧ isStar e = false then relS' (K.rE e) (raiseS x fl (K.ev e).v) else stuckS
  | none => stuckS
theorem sx_raise1 {K : Dk S} (k : Xd C W X K.N K.sc) (g : GkOk C X K.G) (x : Str) (e : Expr) (p pos pos' : Pos) : PS X (.Raise (some (.Call (.Name x p) [e] [] pos)) none pos') (tS C W (raise1 K x e)) := by
  have h : ∀ e, Snd C W X e (K.ev e) := fun e => (ev_ok 40 k.toXk g e).toSnd
  unfold raise1
  split
  · rename_i fl hx
    split
    · rename_i q
      exact sx_rel _ (sx_raise k.toXk (g.exn x fl hx) q.1 q.2 (sa_cons (h _).v sa_nil q.2))
    · exact sx_stuck
  · exact sx_stuck
def raise2 (K : Dk S) (x : Str) (e e2 : Expr) : ExF S := match K.G.exn2 x with
  | some (f1, f2) => if glB K.sc x = true ∧ isStar e = false ∧ isStar e2 = false then relS' (K.rE e ++ K.rE e2) (raise2S x f1 f2 (K.ev e).v (K.ev e2).v) else stuckS
  | none => stuckS
theorem sx_raise2' {K : Dk S} (k : Xd C W X K.N K.sc) (g : GkOk C X K.G) (x : Str) (e e2 : Expr) (p pos pos' : Pos) : PS X (.Raise (some (.Call (.Name x p) [e, e2] [] pos)) none pos') (tS C W (raise2 K x e e2)) := by
  have h : ∀ e, Snd C W X e (K.ev e) := fun e => (ev_ok 40 k.toXk g e).toSnd
  unfold raise2
  split
  · rename_i f1 f2 hx
    split
    · rename_i q
      exact sx_rel _ (sx_raise2 k.toXk (g.exn2 x f1 f2 hx) q.1 q.2.1 q.2.2 (sa_cons (h _).v (sa_cons (h _).v sa_nil q.2.2) q.2.1))
    · exact sx_stuck
  · exact sx_stuck
/-- h = f if c else g, behind it: if not h(..): body -/
def pickX (K : Dk S) (rec : List Stmt → ExF S) : List Stmt → Option (ExF S)
  | .Assign [.Name h p1] (.IfExp c (.Name x p2) (.Name y p3) p4) _ :: .If (.UnaryOp .Not (.Call (.Name h' _) (e :: es) [] _) _) body [] _ :: r =>
    match K.G.cal x, K.G.cal y, okN K.N K.sc h, sws K.sc (.Name h p1) (.IfExp c (.Name x p2) (.Name y p3) p4) with
    | some f, some g, some i, some none => if h' = h ∧ glB K.sc x = true ∧ glB K.sc y = true ∧ locB K.sc h = true ∧ slotOf K.N h = some i ∧ ((e :: es).all fun e => !isStar e) = true then some (seqS (pickS i (K.ev c).t f g (argsC K.N K.sc K.ev (e :: es)) (rec body)) (rec r)) else none
    | _, _, _, _ => none
  | _ => none
theorem sxs_pickX {K : Dk S} (k : Xd C W X K.N K.sc) (g : GkOk C X K.G) {rec : List Stmt → ExF S} (hrec : ∀ l, PSs X l (tS C W (rec l))) {l : List Stmt} {f : ExF S} (e : pickX K rec l = some f) : PSs X l (tS C W f) := by
  have h : ∀ e, Snd C W X e (K.ev e) := fun e => (ev_ok 40 k.toXk g e).toSnd
  unfold pickX at e
  split at e
  · split at e
    · rename_i f1 f2 i c1 c2 c3 c4
      split at e
      · rename_i q
        obtain ⟨rfl, q2, q3, q4, q5, q6⟩ := q
        cases e
        exact sxs_pick k (g.cal _ _ c1) (g.cal _ _ c2) q2 q3 q4 c3 q5 (sws_ok k.scope c4) (h _).t (sa_args k.toXk h _) q6 (hrec _) (hrec _)
      · cases e
    · cases e
  · cases e
mutual
def exB (K : Dk S) : Nat → Stmt → ExF S
  | 0, _ => stuckS
  | m + 1, st => match K.st st with
    | some f => f
    | none => match st with
    | .Pass _ => nextS
    | .Break _ => brkS
    | .Continue _ => cntS
    | .Return o _ => retS K o
    | .Assign [tg] e _ => asg1 K tg e
    | .AugAssign tg op e _ => aug1 K tg op e
    | .Expr e _ => expS K e
    | .If c a b _ => relS' (K.rT c) (ifS (K.ev c).t (exs K m a) (exs K m b))
    | .While c body [] _ => whileGo (K.ev c).t (exs K m body) K.wf
    | .Raise (some (.Call (.Name x _) [e] [] _)) none _ => raise1 K x e
    | .Raise (some (.Call (.Name x _) [e, e2] [] _)) none _ => raise2 K x e e2
    | .For tg iter body [] _ => if isSet iter = true then stuckS else lockS (slots K.N (walked iter)) (relS' (K.rP iter) (forS (src true K.N K.sc K.ev tg iter) (tgt K.N K.sc 20 tg).g (exs K m body)))
    | _ => stuckS
def exs (K : Dk S) : Nat → List Stmt → ExF S
  | 0, _ => stuckS
  | m + 1, l => match l with
    | [] => nextS
    | st :: r => match pickX K (exs K m) (st :: r) with
      | some f => f
      | none => seqS (exB K m st) (exs K m r)
end
theorem ex_ok {K : Dk S} (k : Xd C W X K.N K.sc) (g : GkOk C X K.G) (so : StOk C W X K) : ∀ m : Nat, (∀ st, PS X st (tS C W (exB K m st))) ∧ ∀ l, PSs X l (tS C W (exs K m l))
  | 0 => by
    refine ⟨fun st => ?_, fun l => ?_⟩
    · unfold exB; exact sx_stuck
    · unfold exs; exact sxs_stuck
  | m + 1 => by
    obtain ⟨i1, i2⟩ := ex_ok k g so m
    have h : ∀ e, Snd C W X e (K.ev e) := fun e => (ev_ok 40 k.toXk g e).toSnd
    refine ⟨fun st => ?_, fun l => ?_⟩
    · unfold exB
      split
      · rename_i f q; exact so st f q
      rename_i hno
      clear hno
      split
      · exact sx_pass
      · exact sx_brk
      · exact sx_cnt
      · exact sx_rets k g _ _
      · exact sx_asg1 k g _ _ _
      · exact sx_aug1 k g _ _ _ _
      · exact sx_exp k g _ _
      · exact sx_rel _ (sx_if (h _).t (i2 _) (i2 _))
      · exact sx_while k (h _).t (i2 _) _
      · exact sx_raise1 k g _ _ _ _ _
      · exact sx_raise2' k g _ _ _ _ _ _
      · split
        · exact sx_stuck
        · rename_i q
          exact sx_locks (sx_rel _ (sx_for k (si_src k.toXk g h _ _) ((tgt_snd k.s 20).1 _).p (i2 _) (Bool.eq_false_iff.mpr q))) _
      · exact sx_stuck
    · unfold exs
      split
      · exact sxs_nil
      · split
        · rename_i f q; exact sxs_pickX k g i2 q
        · exact sxs_cons (i1 _) (i2 _)
end
end Q

/-! Lay20: defs by their bodies. -/
namespace Q
open PySem PySem.Spec PyProof.Rows L2
section
variable {S : Type}
def rho0 (N : List Str) (ds : List D) : List Sl := ds.map Sl.val ++ List.replicate (N.length - ds.length) .no
def isL : D → Bool
  | .lst _ => true
  | _ => false
def endR (fr : Bool) : Out S → Res S D
  | .nxt _ s => .ok .non s
  | .ret f d s => if fr = true ∧ f = false ∧ isL d = true then .stuck else .ok d s
  | .err x _ s => .err x s
  | .new p g => .new p fun a => endR fr (g a)
  | _ => .stuck
/-- a def: its parameters' number, its body's run -/
def runDef (fr : Bool) (K : List D → S → Dk S) (m : Nat) (N : List Str) (np : Nat) (body : List Stmt) : Fn S := ⟨np, fr, fun ds s => endR fr (exs (K ds s) m body (rho0 N ds) s)⟩
/-- a name of the module that is called -/
def CalM (P : Program) (w : World) (K : PySem.W.Frag) (mg : Str → Option Value) (base : Heap) (T : StK S) (cls : Str → Option Addr) (k : Nat) (x : Str) (f : Fn S) : Prop :=
  ∃ (a : Addr) (fd : FuncData) (ps : List Str), FnG P w K mg base (L2.CX P w) k a fd ps (spS K T cls f) ∧ mg x = some (.ref a) ∧ PySem.W.keepIn K (.ref a) = true ∧ Binds K fd ps []
/-- such a class, in the written part -/
def ExM (P : Program) (w : World) (K : PySem.W.Frag) (mg : Str → Option Value) (base : Heap) (cls : Str → Option Addr) (k : Nat) (x fl : Str) : Prop :=
  2 ≤ k ∧ ∃ (c fI : Addr) (fd : FuncData) (ps : List Str), cls x = some c ∧ mg x = some (.ref c) ∧ (OexC K c ∨ OexO K c) ∧ PySem.W.findIn K (.ref c) "__init__" = some (some (.ref fI)) ∧ PySem.W.typeIn K (.ref fI) = some (.type "function") ∧
    FnOk P w K mg base (fun _ _ _ _ _ _ => False) 1 fI fd ps (spSup c fl) ∧ Binds K fd ps [] ∧ PySem.W.exmOne K (.ref c) (.ref c) = some true
/-- .. with two fields -/
def ExM3 (P : Program) (w : World) (K : PySem.W.Frag) (mg : Str → Option Value) (base : Heap) (cls : Str → Option Addr) (k : Nat) (x fl fl2 : Str) : Prop :=
  2 ≤ k ∧ ∃ (c fI : Addr) (fd : FuncData) (ps : List Str), cls x = some c ∧ mg x = some (.ref c) ∧ OexC K c ∧ PySem.W.findIn K (.ref c) "__init__" = some (some (.ref fI)) ∧ PySem.W.typeIn K (.ref fI) = some (.type "function") ∧
    FnOk P w K mg base (fun _ _ _ _ _ _ => False) 1 fI fd ps (spSup3 c fl fl2) ∧ Binds K fd ps [] ∧ PySem.W.exmOne K (.ref c) (.ref c) = some true
/-- own classes, in the written part -/
structure ObkM (P : Program) (w : World) (K : PySem.W.Frag) (mg : Str → Option Value) (base : Heap) (T : StK S) (cls : Str → Option Addr) (k : Nat) (O : Obk S) : Prop where
  fld : ∀ f c, O.fld f = some c → Cls K c ∧ NoAttr K c f
  mth : ∀ m c f, O.mth m = some (c, f) → ∃ (a : Addr) (fd : FuncData) (ps : List Str), FnG P w K mg base (L2.CX P w) k a fd ps (spS K T cls f) ∧ Cls K c ∧ Meth K c m a ∧ Binds K fd ps []
  prp : ∀ m c f, O.prp m = some (c, f) → ∃ (p a : Addr) (fd : FuncData) (ps : List Str) (j : Nat), j + 1 ≤ k ∧ FnG P w K mg base (L2.CX P w) j a fd ps (spS K T cls f) ∧ Cls K c ∧ PropOf K c m p a ∧ Binds K fd ps []
  new : ∀ x c f, O.new x = some (c, f) → ∃ (a : Addr) (fd : FuncData) (ps : List Str) (j : Nat), j + 1 ≤ k ∧ FnG P w K mg base (L2.CX P w) j a fd ps (spS K T cls f) ∧ Mk K c a ∧ mg x = some (.ref c) ∧ Binds K fd ps []
  len : ∀ c f, O.len = some (c, f) → ∃ (a : Addr) (fd : FuncData) (ps : List Str) (j : Nat), j + 1 ≤ k ∧ FnG P w K mg base (L2.CX P w) j a fd ps (spS K T cls f) ∧ Cls K c ∧ Meth K c "__len__" a ∧ Binds K fd ps []
  cat : ∀ x1 x2 cs, O.cat = some (x1, x2, cs) → ∃ c1 c2 : Addr, mg x1 = some (.ref c1) ∧ mg x2 = some (.ref c2) ∧ ∀ y ∈ cs, ∀ c, cls y = some c → PySem.W.exmAny K (.ref c) [.ref c1, .ref c2] = some true
  exc : ∀ x fs, O.exc x = some fs → 2 ≤ k ∧ ∃ (fI : Addr) (fd : FuncData) (ps : List Str) (sp : Sp), mg x = some (.ref (gaQ K x)) ∧ (OexC K (gaQ K x) ∨ OexO K (gaQ K x)) ∧ PySem.W.findIn K (.ref (gaQ K x)) "__init__" = some (some (.ref fI)) ∧ PySem.W.typeIn K (.ref fI) = some (.type "function") ∧
    FnOk P w K mg base (fun _ _ _ _ _ _ => False) 1 fI fd ps sp ∧ Binds K fd ps [] ∧ KwX K fd ps fs ∧ SpX fs (gaQ K x) sp
  isx : ∀ n y b, O.isx n y = some b → ExcC K (gaQ K n) ∧ ∃ cv : Value, ((mg y = some cv ∧ ∃ a, cv = .ref a) ∨ (mg y = none ∧ ∃ T : String, bootBuiltins y = some (.type T) ∧ cv = .type T ∧ y ≠ Str.ofString "__name__")) ∧ PySem.W.kitOne K (.ref (gaQ K n)) cv = some b
  fx : ∀ n f, O.fx n f = true → XfC K (gaQ K n) ∧ PySem.W.findIn K (.ref (gaQ K n)) f = some none
theorem obkM_no {P : Program} {w : World} {K : PySem.W.Frag} {mg : Str → Option Value} {base : Heap} {T : StK S} {cls : Str → Option Addr} {k : Nat} {O : Obk S} (h : O = {}) : ObkM P w K mg base T cls k O := by
  subst h
  exact ⟨fun _ _ z => (by cases z), fun _ _ _ z => (by cases z), fun _ _ _ z => (by cases z), fun _ _ _ z => (by cases z), fun _ _ z => (by cases z), fun _ _ _ z => (by cases z), fun _ _ z => (by cases z), fun _ _ _ z => (by cases z), fun _ _ z => (by cases z)⟩
structure GkM (P : Program) (w : World) (K : PySem.W.Frag) (mg : Str → Option Value) (base : Heap) (T : StK S) (cls : Str → Option Addr) (k : Nat) (G : Gk S) : Prop where
  glo : ∀ x d, G.glo x = some d → ∃ v u, mg x = some u ∧ RelV v u ∧ (∀ H F, Rp K H F v d) ∧ ∀ ds, d ≠ .lst ds
  cal : ∀ x f, G.cal x = some f → CalM P w K mg base T cls k x f
  blt : ∀ x ∈ bltNames, mg (Str.ofString x) = none
  spc : ∀ C : Cn S, C.K = K → C.T = T → C.cls = cls → SpOk C G
  exn : ∀ x fl, G.exn x = some fl → ExM P w K mg base cls k x fl
  said : ∀ x, G.said x = none
  sys : SysOk K
  exn2 : ∀ x f1 f2, G.exn2 x = some (f1, f2) → ExM3 P w K mg base cls k x f1 f2
  obj : ObkM P w K mg base T cls k G.obj
theorem FnG.mono {P : Program} {w : World} {K : PySem.W.Frag} {mg : Str → Option Value} {base : Heap} {CX : CXT} {j k : Nat} {f : Addr} {fd : FuncData} {ps : List Str} {sp : Sp} (F : FnG P w K mg base CX j f fd ps sp) (h : j ≤ k) : FnG P w K mg base CX k f fd ps sp :=
  ⟨F.len, fun A outer s H args us vs Q E hr => F.run A outer s H args us vs Q E (hr.mono h)⟩
theorem CalM.mono {P : Program} {w : World} {K : PySem.W.Frag} {mg : Str → Option Value} {base : Heap} {T : StK S} {cls : Str → Option Addr} {j k : Nat} {x : Str} {f : Fn S} (c : CalM P w K mg base T cls j x f) (h : j ≤ k) : CalM P w K mg base T cls k x f :=
  let ⟨a, fd, ps, F, r⟩ := c; ⟨a, fd, ps, F.mono h, r⟩
theorem spS_imp {K : PySem.W.Frag} {T : StK S} {cls : Str → Option Addr} {n : Nat} {fr : Bool} {F F' : List D → S → Res S D} (h : ∀ ds s, F' ds s ≠ .stuck → F ds s = F' ds s) {vs : List V} {H : Hp} {Q : VK} {E : XK} (q : spS K T cls ⟨n, fr, F'⟩ vs H Q E) : spS K T cls ⟨n, fr, F⟩ vs H Q E := by
  obtain ⟨hn, ds, s, F0, r, st, na, k⟩ := q
  refine ⟨hn, ds, s, F0, r, st, na, ?_⟩
  dsimp only at k ⊢
  by_cases z : F' ds s = .stuck
  · rw [z] at k; exact k.elim
  · rw [h ds s z]; exact k
/-- .. where it says as much -/
theorem CalM.imp {P : Program} {w : World} {K : PySem.W.Frag} {mg : Str → Option Value} {base : Heap} {T : StK S} {cls : Str → Option Addr} {k : Nat} {x : Str} {n : Nat} {fr : Bool} {F F' : List D → S → Res S D} (c : CalM P w K mg base T cls k x ⟨n, fr, F⟩) (h : ∀ ds s, F' ds s ≠ .stuck → F ds s = F' ds s) : CalM P w K mg base T cls k x ⟨n, fr, F'⟩ :=
  let ⟨a, fd, ps, G, r⟩ := c; ⟨a, fd, ps, G.imp fun _ _ _ _ q => spS_imp h q, r⟩
theorem fnG_of {CX : CXT} {P : Program} {w : World} {K : PySem.W.Frag} {mg : Str → Option Value} {base : Heap} {k : Nat} {f : Addr} {nm qual : Str} {params : Arguments} {body : List Stmt} {sco : Scope} {dV kV doc pm cdv ct oc : Value} {an od : Option Addr} {osl : Array (Option Value)} {N ps : List Str} {sp : Sp}
    (lk : K.lookup f = some ⟨oc, od, .func (PySem.W.fnOf nm qual params body sco dV kV doc pm an cdv ct), osl⟩) (hcd : PySem.W.codeIn K cdv qual = true) (hS : FnScope N ps sco) (hlen : ∀ vs H Q E, sp vs H Q E → vs.length = ps.length)
    (hrun : ∀ (A : Around) (outer : List Env) (s : Shared) (H : Hp) (vs : List V) (Q : VK) (E : XK), Room k (A.deeper (envOfC qual sco s.heap.objs.size f cdv)) → A.guards = some [] → sp vs H Q E → ∃ t, PSs (cxOf CX P w K mg base N qual sco f cdv A outer s H E) body t ∧ t ⟨fun _ H' => Q .non H', Q, fun _ _ => False, fun _ _ => False⟩ (start N vs) H) :
    FnG P w K mg base CX (k + 1) f (PySem.W.fnOf nm qual params body sco dV kV doc pm an cdv ct) ps sp := by
  refine ⟨hlen, fun A outer s H args us vs Q E room gd env bi rel wish => ?_⟩
  have kin : K.In s.heap := env.mod.kin.keeps fun b o e => (env.bs b o e).1
  have nl : s.heap.NoLimit := env.mod.nolimit.keeps fun b o e => (env.bs b o e).1
  refine codeAny_call_function room.depth (kin _ _ lk) rfl hS.co hS.gen rfl (PySem.W.codeRec_of kin hcd) (bi _ _ _ _ ?_)
  refine wpAny_newFunctionEnv_cells hS.kind (fun y hy => (hS.par y.1 (List.of_mem_zip (show (y.1, y.2) ∈ ps.zip us from hy)).1).imp id fun q => ⟨q, PySem.W.cellsFrom_some _ _ _ (.inl q)⟩) fun en he s1 x => ?_
  subst he
  refine ⟨nl.keeps x.toInCall.keep, codeAny_func ?_⟩
  obtain ⟨t, ht, hq⟩ := hrun A outer s H vs Q E (room.deeper _) gd wish
  have I0 := inv_start (CX := CX) (E := E) hS room.hd env (hlen _ _ _ _ wish) rel x
  refine wpAny_mono (ht.run [] s1 (start N vs) H _ I0 hq) (fun fl s' z => ?_) fun _ _ z => z
  cases fl with
  | next =>
    obtain ⟨_, H', J, q⟩ := z
    exact ⟨V.non, H', J.os, J.bare, J.base, J.hok, rfl, q⟩
  | ret u =>
    obtain ⟨v, _, H', J, rv, q⟩ := z
    exact ⟨v, H', J.os, J.bare, J.base, J.hok, rv, q⟩
  | brk => exact z.elim fun _ z => z.elim fun _ z => z.2.elim
  | cont => exact z.elim fun _ z => z.elim fun _ z => z.2.elim
theorem rel_start {K : PySem.W.Frag} {T : StK S} {cls : Str → Option Addr} {H : Hp} {s : S} {F0 : Addr → Prop} {N : List Str} {vs : List V} {ds : List D} (r : RpL K H F0 vs ds) (st : T.R s H) (na : ∀ a, F0 a → ¬ T.A s a) : Rel (⟨K, T, H, s, F0, cls⟩ : Cn S) ⟨fun _ => 0, fun _ => False, rho0 N ds⟩ (start N vs) H s := by
  have nr : ∀ a, ¬ (⟨fun _ => 0, fun _ => False, rho0 N ds⟩ : Pt).root a := by
    rintro a ⟨i, sl, es, e1, e2, _⟩
    have e1' : (rho0 N ds)[i]? = some sl := e1
    unfold rho0 at e1'
    by_cases hi : i < (ds.map Sl.val).length
    · rw [List.getElem?_append_left hi, List.getElem?_map] at e1'
      cases q : ds[i]? with
      | none => rw [q] at e1'; cases e1'
      | some d => rw [q] at e1'; cases e1'; cases e2
    · rw [List.getElem?_append_right (by omega), List.getElem?_replicate] at e1'
      split at e1'
      · cases e1'; cases e2
      · cases e1'
  refine ⟨?_, st, fun _ _ e _ => e, fun _ h => h, fun _ h => .inl h, fun _ z => z.elim, fun i sl e => ?_⟩
  · show (start N vs).length = (rho0 N ds).length
    unfold L2.start rho0
    simp [r.length]
  · have e' : (rho0 N ds)[i]? = some sl := e
    unfold rho0 at e'
    by_cases hi : i < (ds.map Sl.val).length
    · rw [List.getElem?_append_left hi, List.getElem?_map] at e'
      cases q : ds[i]? with
      | none => rw [q] at e'; cases e'
      | some d =>
        rw [q] at e'
        cases e'
        obtain ⟨v, e1, rv⟩ := r.get q
        refine ⟨v, ?_, rv.wk fun a f _ => ⟨.inl f, nr a, fun z => z, na a f⟩⟩
        unfold L2.start
        rw [List.getElem?_append_left (by rw [List.length_map]; exact (List.getElem?_eq_some_iff.mp e1).1), List.getElem?_map, e1]
        rfl
    · rw [List.getElem?_append_right (by omega), List.getElem?_replicate] at e'
      split at e'
      · cases e'; trivial
      · cases e'
theorem gk_of {P : Program} {w : World} {K : PySem.W.Frag} {mg : Str → Option Value} {base : Heap} {T : StK S} {cls : Str → Option Addr} {k : Nat} {G : Gk S} (g : GkM P w K mg base T cls k G) {C : Cn S} {X : Cx} (e1 : C.K = K) (e2 : C.T = T) (e3 : C.cls = cls) (x1 : X.prog = P) (x2 : X.w = w) (x3 : X.K = K) (x4 : X.mg = mg) (x5 : X.base = base) (hr : Room k X.A) : GkOk C X G := by
  subst e1 e2 e3 x1 x2 x4 x5
  refine ⟨⟨fun x d h => ?_, fun x f h => ?_, g.blt, g.spc C rfl rfl rfl, fun x fl h => ?_, by rw [x3]; exact g.sys, fun x f1 f2 h => ?_, ?_⟩, fun x tb h => by rw [g.said] at h; cases h⟩
  · obtain ⟨v, u, h1, h2, h3, h4⟩ := g.glo x d h
    exact ⟨v, u, h1, h2, h3, h4⟩
  · obtain ⟨a, fd, ps, h1, h2, h3, h4⟩ := g.cal x f h
    rw [← x3] at h1 h3 h4
    refine ⟨a, fd, ps, k, ?_, hr, h2, h3, h4⟩
    rw [x3]
    rw [x3] at h1
    exact h1
  · obtain ⟨hk, c, fI, fd, ps, h1, h2, h3, h4, h5, h6, h7, h8⟩ := g.exn x fl h
    refine ⟨c, fI, fd, ps, 1, h1, h2, ?_, ?_, ?_, ?_, hr.mono hk, ?_, ?_⟩ <;> rw [x3] <;> assumption
  · obtain ⟨hk, c, fI, fd, ps, h1, h2, h3, h4, h5, h6, h7, h8⟩ := g.exn2 x f1 f2 h
    refine ⟨c, fI, fd, ps, 1, h1, h2, ?_, ?_, ?_, ?_, hr.mono hk, ?_, ?_⟩ <;> rw [x3] <;> assumption
  · have o := g.obj
    rw [← x3] at o
    refine ⟨o.fld, fun m c f h => ?_, fun m c f h => ?_, fun x c f h => ?_, fun c f h => ?_, fun x1 x2 cs h => ?_, fun x fs h => ?_, fun n y b h => ⟨o.isx n y b h⟩, fun n f h => ⟨o.fx n f h⟩⟩
    · obtain ⟨a, fd, ps, h1, h2, h3, h4⟩ := o.mth m c f h
      rw [x3] at h1
      exact ⟨a, fd, ps, k, by rw [x3]; exact h1, hr, h2, h3, h4⟩
    · obtain ⟨p, a, fd, ps, j, hj, h1, h2, h3, h4⟩ := o.prp m c f h
      rw [x3] at h1
      exact ⟨p, a, fd, ps, j, by rw [x3]; exact h1, hr.mono hj, h2, h3, h4⟩
    · obtain ⟨a, fd, ps, j, hj, h1, h2, h3, h4⟩ := o.new x c f h
      rw [x3] at h1
      exact ⟨a, fd, ps, j, by rw [x3]; exact h1, hr.mono hj, h2, h3, h4⟩
    · obtain ⟨a, fd, ps, j, hj, h1, h2, h3, h4⟩ := o.len c f h
      rw [x3] at h1
      exact ⟨a, fd, ps, j, by rw [x3]; exact h1, hr.mono hj, h2, h3, h4⟩
    · obtain ⟨c1, c2, h1, h2, h3⟩ := o.cat x1 x2 cs h
      exact ⟨c1, c2, h1, h2, h3⟩
    · obtain ⟨hk, fI, fd, ps, sp, h1, h2, h3, h4, h5, h6, h7, h8⟩ := o.exc x fs h
      exact ⟨fI, fd, ps, 1, sp, h1, h2, h3, h4, h5, hr.mono hk, h6, h7, h8⟩
/-- a def's promise, by the run of its body -/
theorem fn_runG {P : Program} {w : World} {K : PySem.W.Frag} {mg : Str → Option Value} {base : Heap} {T : StK S} {cls : Str → Option Addr} {k : Nat} {f : Addr} {fd : FuncData} {x qual : Str} {params : Arguments} {body : List Stmt} {sco : Scope} {dvs : List V} {kws : List (Str × V)} {N ps : List Str} (F : FunD K x qual params body sco dvs kws f fd) (hS : FnScope N ps sco) (fr : Bool) (Ks : List D → S → Dk S) (m : Nat)
    (hK : ∀ ds s, (Ks ds s).N = N ∧ (Ks ds s).sc = sco ∧ (∀ {C : Cn S} {X : Cx}, C.K = K → C.T = T → C.cls = cls → X.prog = P → X.w = w → X.K = K → X.mg = mg → X.base = base → X.env.qual = (envOfC qual sco 0 f fd.code).qual → X.env.code = fd.code → Room k X.A → GkOk C X (Ks ds s).G) ∧ ∀ {C : Cn S} {W : L2.WX} {X : Cx}, C.K = K → C.T = T → C.cls = cls → Xd C W X N sco → GkOk C X (Ks ds s).G → StOk C W X (Ks ds s)) : FnG P w K mg base (L2.CX P w) (k + 1) f fd ps (spS K T cls (runDef fr Ks m N ps.length body)) := by
  obtain ⟨oc, od, dV, kV, doc, pm, an, cdv, ct, osl, rfl, lk, hcd, _, _⟩ := F.ex
  refine fnG_of lk hcd hS (fun vs H Q E h => h.1) fun A outer s H vs Q E room gd wish => ?_
  obtain ⟨hn, ds, s0, F0, r, hst, na, hk⟩ := wish
  obtain ⟨h1, h2, h3, h4⟩ := hK ds s0
  let X := cxOf (L2.CX P w) P w K mg base N qual (sco) f cdv A outer s H E
  let C : Cn S := ⟨K, T, H, s0, F0, cls⟩
  let W : L2.WX := fun cl d _ H => E cl d H
  have xk : Xk C W X N (sco) := ⟨rfl, rfl, hS.nd, rfl, rfl, by have := room.un; show (A.deeper _).units + 200 < _; omega, gd, takes_of rfl rfl rfl rfl⟩
  have xs : Xs C X N (sco) := ⟨rfl, rfl, hS.nd, rfl, fun y hy => ⟨locB_ok hy, .inl rfl⟩⟩
  have xd : Xd C W X N (sco) := { xk with s := xs, own := passes_of rfl, stk := rfl, frm := rfl }
  have g : GkOk C X (Ks ds s0).G := h3 rfl rfl rfl rfl rfl rfl rfl rfl rfl rfl room
  have so := h4 rfl rfl rfl xd g
  rw [← h1, ← h2] at xd
  refine ⟨_, (ex_ok xd g so m).2 _, ⟨⟨fun _ => 0, fun _ => False, rho0 N ds⟩, s0, rel_start r hst na, ?_⟩⟩
  have hk' : spR K T cls fr s0 F0 H Q E (endR fr (exs (Ks ds s0) m (body) (rho0 N ds) s0)) := hk
  clear hk
  show RunS C W _ H s0 (exs (Ks ds s0) m (body) (rho0 N ds) s0) _
  revert hk'
  induction exs (Ks ds s0) m (body) (rho0 N ds) s0 with
  | new p g ih => exact fun hk' a ha => ih a (hk' a ha)
  | nxt ρ' s' =>
    intro hk'
    exact fun P' σ' H' _ R' _ => hk' .non H' R'.ent R'.st ⟨.non, fun _ _ e => by cases e⟩
  | ret b d s' =>
    intro hk'
    have q : endR fr (Out.ret b d s' : Out S) = if fr = true ∧ b = false ∧ isL d = true then .stuck else .ok d s' := rfl
    rw [q] at hk'
    by_cases z : fr = true ∧ b = false ∧ isL d = true
    · rw [if_pos z] at hk'; exact hk'.elim
    · rw [if_neg z] at hk'
      refine fun v H' x st' fp => hk' v H' x st' ⟨fp.1, fun hf es e => ?_⟩
      cases b with
      | true => exact fp.2 rfl es e
      | false => exact absurd ⟨hf, rfl, by rw [e]; rfl⟩ z
  | brk ρ' s' => exact fun hk' => hk'.elim
  | cnt ρ' s' => exact fun hk' => hk'.elim
  | err y ρ' s' =>
    intro hk'
    refine fun P' σ' c dd H' _ R' _ rx => hk' c dd H' R'.ent R'.st ?_
    obtain ⟨cc, g1, g2, g3, g4⟩ := rx
    refine ⟨cc, g1, g2, g3, fun n => ?_⟩
    obtain ⟨dx, ws, e1, e2, e3⟩ := g4 n
    exact ⟨dx, ws, e1, e2, e3.wk fun a fa _ => fc_ret fa⟩
  | stuck => exact fun hk' => hk'.elim
/-- a def's promise, by the run of its body -/
theorem fn_run {P : Program} {w : World} {K : PySem.W.Frag} {mg : Str → Option Value} {base : Heap} {T : StK S} {cls : Str → Option Addr} {k : Nat} {f : Addr} {fd : FuncData} {x qual : Str} {params : Arguments} {body : List Stmt} {sco : Scope} {dvs : List V} {kws : List (Str × V)} {N ps : List Str} (F : FunD K x qual params body sco dvs kws f fd) (hS : FnScope N ps sco) (fr : Bool) (Ks : List D → S → Dk S) (m : Nat)
    (hK : ∀ ds s, (Ks ds s).N = N ∧ (Ks ds s).sc = sco ∧ GkM P w K mg base T cls k (Ks ds s).G ∧ ∀ {C : Cn S} {W : L2.WX} {X : Cx}, C.K = K → C.T = T → C.cls = cls → Xd C W X N sco → GkOk C X (Ks ds s).G → StOk C W X (Ks ds s)) : FnG P w K mg base (L2.CX P w) (k + 1) f fd ps (spS K T cls (runDef fr Ks m N ps.length body)) :=
  fn_runG F hS fr Ks m fun ds s => let ⟨h1, h2, h3, h4⟩ := hK ds s; ⟨h1, h2, fun e1 e2 e3 x1 x2 x3 x4 x5 _ _ hr => gk_of h3 e1 e2 e3 x1 x2 x3 x4 x5 hr, h4⟩
end
end Q

set_option maxHeartbeats 2000000
/-! Lay21: the end of a law's row, for promises that ask that no repr is going on. -/
namespace Q
open PySem PySem.Spec PyProof.Rows L2
theorem callerG : callerA.guards = some [] := rfl
end Q

/-! Lay22: the state from which a law draws. -/
namespace Q
open PySem PySem.Spec PyProof.Rows L2
structure Dw where
  cells : List Int
  great : List Int
  spot : Int
/-- where it lies: its dict, its two lists -/
structure Ad where
  m : Addr
  c : Addr
  g : Addr
def dwK (a : Ad) (n : Int) : List (Key × V) := [(.inr "cells", .ref a.c), (.inr "great", .ref a.g), (.inr "spot", .int n)]
def TD (a : Ad) : StK Dw where
  R s H := H a.m = some (.dK (dwK a s.spot)) ∧ H a.c = some (.lst (s.cells.map V.int)) ∧ H a.g = some (.lst (s.great.map V.int)) ∧ a.c ≠ a.g
  A _ b := b = a.m ∨ b = a.c ∨ b = a.g
  tr := by
    rintro s H b ⟨h1, h2, h3, _⟩ (rfl | rfl | rfl)
    · rw [h1]; trivial
    · rw [h2]; trivial
    · rw [h3]; trivial
  mono := fun ⟨h1, h2, h3, n⟩ k => ⟨k _ _ (.inl (.inl rfl)) h1, k _ _ (.inl (.inr (.inl rfl))) h2, k _ _ (.inl (.inr (.inr rfl))) h3, n⟩
theorem kcs : ¬ ((.inr "cells" : Key) = .inr "spot") := by decide
theorem kgs : ¬ ((.inr "great" : Key) = .inr "spot") := by decide
theorem kcg : ¬ ((.inr "cells" : Key) = .inr "great") := by decide
theorem dw_spot {a : Ad} {n : Int} : valV (dwK a n) (.inr "spot") = some (.int n) := by
  unfold dwK
  rw [valV_neg kcs, valV_neg kgs, valV_pos rfl]
theorem dw_great {a : Ad} {n : Int} : valV (dwK a n) (.inr "great") = some (.ref a.g) := by
  unfold dwK
  rw [valV_neg kcg, valV_pos rfl]
theorem dw_cells {a : Ad} {n : Int} : valV (dwK a n) (.inr "cells") = some (.ref a.c) := by
  unfold dwK
  rw [valV_pos rfl]
theorem dw_put {a : Ad} {n z : Int} : putK (dwK a n) (.inr "spot") (.int z) = dwK a z := by
  unfold putK dwK
  have h1 : ¬ ((.inr "cells" : Key) = .inr "spot") := by decide
  have h2 : ¬ ((.inr "great" : Key) = .inr "spot") := by decide
  simp [h1, h2]
/-- m[key] -/
def mgetE (a : Ad) (i : Nat) (key : Str) : EvF Dw := fun ρ s => match ρ[i]? with
  | some (.val (.opq (.ref b))) => if b = a.m then (if key = "spot" then .ok (.int s.spot) s else if key = "great" then .ok (.opq (.ref a.g)) s else if key = "cells" then .ok (.opq (.ref a.c)) s else .stuck) else .stuck
  | _ => .stuck
def lotOf (a : Ad) (s : Dw) (b : Addr) : Option (List Int) := if b = a.g then some s.great else if b = a.c then some s.cells else none
def lenE (a : Ad) (i : Nat) : EvF Dw := fun ρ s => match ρ[i]? with
  | some (.val (.opq (.ref b))) => (match lotOf a s b with
    | some xs => .ok (.int xs.length) s
    | none => .stuck)
  | _ => .stuck
def lixE (a : Ad) (i : Nat) (f : EvF Dw) : EvF Dw := fun ρ s => match ρ[i]? with
  | some (.val (.opq (.ref b))) => (f ρ s).bind fun d s1 => match d with
    | .int z => (match lotOf a s1 b with
      | some xs => (match L2.atI xs z with
        | some y => .ok (.int y) s1
        | none => .stuck)
      | none => .stuck)
    | _ => .stuck
  | _ => .stuck
def greatT (a : Ad) (i : Nat) : EvT' Dw := fun ρ s => match ρ[i]? with
  | some (.val (.opq (.ref b))) => if b = a.m then (match deq (.lst (s.great.map .int)) (.lst []) with
    | some q => .ok (!q) s
    | none => .stuck) else .stuck
  | _ => .stuck
section
variable {C : Cn Dw} {W : L2.WX} {X : Cx} {a : Ad}
theorem slot_opq {P : Pt} {σ : L2.St} {H : Hp} {s : Dw} {i : Nat} {v : V} (R : Rel C P σ H s) (e : P.ρ[i]? = some (.val (.opq v))) : σ[i]? = some (some v) := by
  obtain ⟨w, e1, e2⟩ := R.slot i _ e
  cases e2
  exact e1
theorem st_at (hT : C.T = TD a) {P : Pt} {σ : L2.St} {H : Hp} {s : Dw} (R : Rel C P σ H s) : (TD a).R s H := by rw [← hT]; exact R.st
theorem lot_at (hT : C.T = TD a) {P : Pt} {σ : L2.St} {H : Hp} {s : Dw} (R : Rel C P σ H s) {b : Addr} {xs : List Int} (h : lotOf a s b = some xs) : H b = some (.lst (xs.map V.int)) := by
  obtain ⟨h1, h2, h3, n⟩ := st_at hT R
  unfold lotOf at h
  split at h
  · rename_i e; subst e; cases h; exact h3
  · split at h
    · rename_i e; subst e; cases h; exact h2
    · cases h
theorem sd_mget (hT : C.T = TD a) {N : List Str} {sc : Scope} (k : Xk C W X N sc) {x key : Str} {i j : Nat} {p p2 pos : Pos} (hi : okN N sc x = some i) : PE X (.Subscript (.Name x p) (.Constant (.str key) j p2) pos) (tF C W (mgetE a i key)) := by
  refine pe_mono (pe_dget (by have := k.hu; omega) (pe_okN k hi) pe_str (fun _ _ => rfl)) fun σ H Q ⟨P, s, R, q⟩ => ?_
  unfold mgetE at q
  split at q
  · rename_i b e
    split at q
    · rename_i eb
      subst eb
      obtain ⟨h1, h2, h3, n⟩ := st_at hT R
      refine ⟨_, slot_opq R e, a.m, ?_⟩
      split at q
      · rename_i ek
        subst ek
        exact ⟨_, rfl, by have := DGet.k (k := .inr "spot") h1; rw [dw_spot] at this; exact this, (q.now R) _ (Fr.plain (.int _) (fun _ e => nomatch e))⟩
      · split at q
        · rename_i ek
          subst ek
          exact ⟨_, rfl, by have := DGet.k (k := .inr "great") h1; rw [dw_great] at this; exact this, (q.now R) _ (Fr.plain (.opq _) (fun _ e => nomatch e))⟩
        · split at q
          · rename_i ek
            subst ek
            exact ⟨_, rfl, by have := DGet.k (k := .inr "cells") h1; rw [dw_cells] at this; exact this, (q.now R) _ (Fr.plain (.opq _) (fun _ e => nomatch e))⟩
          · exact q.elim
    · exact q.elim
  · exact q.elim
theorem sd_lotLen (hT : C.T = TD a) {N : List Str} {sc : Scope} (k : Xk C W X N sc) {x : Str} {i : Nat} {p p2 pos : Pos} (hi : okN N sc x = some i) (hg : glB sc "len" = true) (hm : X.mg "len" = none) : PE X (.Call (.Name "len" p) [.Name x p2] [] pos) (tF C W (lenE a i)) := by
  obtain ⟨g1, g2, g3⟩ := gl_of k hg
  refine pe_mono (pe_callB call_len_seq g1 hm bt_len (pa_cons (pe_okN k hi) pa_nil) g3 g2) fun σ H Q ⟨P, s, R, q⟩ => ?_
  unfold lenE at q
  split at q
  · rename_i b e
    split at q
    · rename_i xs ex
      have h := lot_at hT R ex
      exact ⟨_, slot_opq R e, b, _, rfl, .inl (.inl (.inl h)), by rw [List.length_map]; exact (q.now R) _ (Fr.plain (.int _) (fun _ e => nomatch e))⟩
    · exact q.elim
  · exact q.elim
theorem sd_lotIx (hT : C.T = TD a) {N : List Str} {sc : Scope} (k : Xk C W X N sc) {x : Str} {i : Nat} {e : Expr} {p pos : Pos} {f : EvF Dw} (hi : okN N sc x = some i) (he : PE X e (tK C W f)) (hs : isSlice e = false) : PE X (.Subscript (.Name x p) e pos) (tF C W (lixE a i f)) := by
  refine pe_mono (pe_ix ix_seq (pe_okN k hi) he (plainIx_of hs)) fun σ H Q ⟨P, s, R, q⟩ => ?_
  unfold lixE at q
  split at q
  · rename_i b eb
    refine ⟨_, slot_opq R eb, P, s, R, q.bind.mono fun d s1 H1 R1 x1 q1 v tv => ?_⟩
    cases d with
    | int z =>
      dsimp only at q1
      split at q1
      · rename_i xs ex
        split at q1
        · rename_i y ey
          have h := lot_at hT R1 ex
          have ey' : L2.atI (xs.map V.int) z = some (.int y) := by
            unfold L2.atI at ey ⊢
            rw [List.length_map]
            rw [Option.bind_eq_some_iff] at ey ⊢
            obtain ⟨n, en, ey⟩ := ey
            exact ⟨n, en, by rw [List.getElem?_map, ey]; rfl⟩
          exact .inl ⟨b, _, z, _, rfl, top_int tv.weak, .inl (.inl h), ey', (q1.now R1) _ (Fr.plain (.int _) (fun _ e => nomatch e))⟩
        · exact q1.elim
      · exact q1.elim
    | _ => exact q1.elim
  · exact q.elim
theorem st_great (hT : C.T = TD a) {N : List Str} {sc : Scope} (k : Xk C W X N sc) {x : Str} {i j : Nat} {p p2 p3 p4 pos : Pos} (hi : okN N sc x = some i) : PT X (.Compare (.Subscript (.Name x p) (.Constant (.str "great") j p2) p3) [.NotEq] [.List [] p4] pos) (tT C W (greatT a i)) := by
  refine pt_mono (pt_cmpR (op_neD (by have := k.hu; omega)) (pe_dget (by have := k.hu; omega) (pe_okN k hi) pe_str (fun _ _ => rfl)) (sd_lst (C := C) (W := W) sa_nil) rfl) fun σ H Q ⟨P, s, R, q⟩ => ?_
  unfold greatT at q
  split at q
  · rename_i b eb
    split at q
    · rename_i e
      subst e
      split at q
      · rename_i z ez
        obtain ⟨h1, h2, h3, n⟩ := st_at hT R
        refine ⟨_, slot_opq R eb, a.m, _, rfl, by have := DGet.k (k := .inr "great") h1; rw [dw_great] at this; exact this, P, s, R, ?_⟩
        rcases deq_some ez with ⟨d, d', e1, e2, z1, z2, rfl⟩ | ⟨_, _, _, _, _, _, no⟩
        rotate_left
        · have np : ∀ xs : List Int, ∃ ps, toPyL (xs.map D.int) = some ps := fun xs => by
            induction xs with
            | nil => exact ⟨[], by simp only [List.map_nil, toPyL]⟩
            | cons y ys ih => obtain ⟨ps, e⟩ := ih; exact ⟨.int y :: ps, by simp only [List.map_cons, toPyL, toPy, e, Option.bind_some, Option.map_some]⟩
          obtain ⟨ps, e⟩ := np s.great
          exact (no (.list ps) (.list []) (by simp only [toPy, e, Option.map_some]) (by simp only [toPy, toPyL, Option.map_some])).elim
        refine fun H1 R1 x1 v fr => ⟨d, d', ?_, ?_, z1, z2, _, rfl, q H1 R1 x1⟩
        · obtain ⟨_, _, h3', _⟩ := st_at hT R1
          have rl : ∀ xs : List Int, RpL X.K H1 (fun _ => True) (xs.map V.int) (xs.map D.int) := fun xs => by
            induction xs with
            | nil => exact .nil
            | cons y ys ih => exact .cons (.int y) ih
          exact dp_of (F := fun _ => True) (.lst trivial h3' (rl _)) e1
        · rw [← k.K]; exact dp_of fr.1 e2
      · exact q.elim
    · exact q.elim
  · exact q.elim
/-- m['spot'] = e -/
def mputS (a : Ad) (i : Nat) (f : EvF Dw) : ExF Dw := fun ρ s => match ρ[i]? with
  | some (.val (.opq (.ref b))) => if b = a.m then thenS ρ (f ρ s) fun d s1 => (match d with
    | .int z => .nxt ρ { s1 with spot := z }
    | _ => .stuck) else .stuck
  | _ => .stuck
theorem Rel.touch (hT : C.T = TD a) {P : Pt} {σ : L2.St} {H : Hp} {s s' : Dw} {b : Addr} {o : HO} (R : Rel C P σ H s) (hb : b = a.m ∨ b = a.c ∨ b = a.g) (st : (TD a).R s' (upd H b o)) : Rel C P σ (upd H b o) s' ∧ Stp C.T P s H P s' (upd H b o) := by
  have x : Xt C.T s s' H (upd H b o) := by
    rw [hT]
    refine ⟨fun c u e n => ?_, fun c n => ?_, fun c h => .inl h⟩
    · rw [upd_ne (fun z => n (by rw [z]; exact hb))]; exact e
    · by_cases z : c = b
      · subst z; rw [upd_same]; simp
      · rw [upd_ne z]; exact n
  exact ⟨R.xt x (by rw [hT]; exact st), x.stp⟩
theorem sx_mput (hT : C.T = TD a) {N : List Str} {sc : Scope} (k : Xd C W X N sc) {x : Str} {i j : Nat} {e : Expr} {p p2 tp pos : Pos} {f : EvF Dw} (hi : okN N sc x = some i) (hc : isComp e = false) (he : PE X e (tP C W f)) : PS X (.Assign [.Subscript (.Name x p) (.Constant (.str "spot") j p2) tp] e pos) (tS C W (mputS a i f)) := by
  refine ps_mono (ps_dput (by have := k.hu; omega) (pe_okN k.toXk hi) pe_str he (swaps_no hc)) fun D σ H ⟨P, s, R, q⟩ => ?_
  unfold mputS at q
  split at q
  · rename_i b eb
    split at q
    · rename_i e'
      subst e'
      refine ⟨P, s, R, q.run.mono fun d s1 H1 R1 x1 q1 v rv => ⟨_, slot_opq R1 eb, ?_⟩⟩
      cases d with
      | int z =>
        have := rp_int rv
        subst this
        obtain ⟨h1, h2, h3, n⟩ := st_at hT R1
        refine ⟨a.m, _, rfl, DPut.k (k := .inr "spot") h1 (by show 3 < sizeLine; decide), ?_⟩
        rw [dw_put]
        have nc : a.c ≠ a.m := fun z => by rw [z, h1] at h2; cases h2
        have ng : a.g ≠ a.m := fun z => by rw [z, h1] at h3; cases h3
        obtain ⟨r, st⟩ := Rel.touch (s' := { s1 with spot := z }) hT R1 (.inl rfl) ⟨upd_same, by rw [upd_ne nc]; exact h2, by rw [upd_ne ng]; exact h3, n⟩
        exact q1 P σ _ rfl r st
      | _ => exact q1.elim
    · exact q.elim
  · exact q.elim
/-- lot[j] = e, lot the great ones -/
def lputS (a : Ad) (i : Nat) (fe fj : EvF Dw) : ExF Dw := fun ρ s => match ρ[i]? with
  | some (.val (.opq (.ref b))) => if b = a.g then thenS ρ (fe ρ s) fun d s1 => thenS ρ (fj ρ s1) fun z s2 => (match d, z with
    | .int y, .int z => (match ixN s2.great.length z with
      | some n => .nxt ρ { s2 with great := s2.great.set n y }
      | none => .stuck)
    | _, _ => .stuck) else .stuck
  | _ => .stuck
theorem sx_lput (hT : C.T = TD a) {N : List Str} {sc : Scope} (k : Xd C W X N sc) {x : Str} {i : Nat} {j e : Expr} {p tp pos : Pos} {fe fj : EvF Dw} (hi : okN N sc x = some i) (hc : isComp e = false) (hj : isSlice j = false) (hw : swappedStores [.Subscript (.Name x p) j tp] e X.env = pure none) (he : PE X e (tP C W fe)) (hjj : PE X j (tK C W fj)) :
    PS X (.Assign [.Subscript (.Name x p) j tp] e pos) (tS C W (lputS a i fe fj)) := by
  refine ps_mono (ps_asg he (pg_sub (pe_okN k.toXk hi) hjj set_list (by intro v; cases j <;> first | rfl | (simp [isSlice] at hj; done))) (sole_no hc) hw rfl) fun D σ H ⟨P, s, R, q⟩ => ?_
  unfold lputS at q
  split at q
  · rename_i b eb
    split at q
    · rename_i e'
      subst e'
      refine ⟨P, s, R, q.run.mono fun d s1 H1 R1 x1 q1 v rv => ⟨_, slot_opq R1 eb, P, s1, R1, q1.run.mono fun z s2 H2 R2 x2 q2 w tw => ?_⟩⟩
      cases d with
      | int y =>
        cases z with
        | int z =>
          have := rp_int rv
          subst this
          dsimp only at q2
          split at q2
          · rename_i n hn
            obtain ⟨h1, h2, h3, nn⟩ := st_at hT R2
            have ng : a.m ≠ a.g := fun z => by rw [z, h3] at h1; cases h1
            refine ⟨a.g, _, z, n, rfl, top_int tw.weak, h3, by rw [List.length_map]; exact hn, ?_⟩
            rw [← List.map_set]
            obtain ⟨r, st⟩ := Rel.touch (s' := { s2 with great := s2.great.set n y }) hT R2 (.inr (.inr rfl)) ⟨by rw [upd_ne ng]; exact h1, by rw [upd_ne nn]; exact h2, upd_same, nn⟩
            exact q2 P σ _ rfl r st
          · exact q2.elim
        | _ => exact q2.elim
      | _ => exact q2.elim
    · exact q.elim
  · exact q.elim
end
end Q

/-! Lay22b: the drawing state beside tables of code objects. -/
namespace Q
open PySem L2 LamX
/-- L: the tables and the names that their code objects bear -/
def TDT (a : Ad) (L : List (Addr × Str)) : StK Dw where
  R s H := (TD a).R s H ∧ Tabs L H ∧ ∀ p ∈ L, p.1 ≠ a.m ∧ p.1 ≠ a.c ∧ p.1 ≠ a.g
  A s b := (TD a).A s b ∨ ∃ p ∈ L, p.1 = b
  tr := by
    rintro s H b ⟨h1, h2, _⟩ (q | ⟨p, hp, rfl⟩)
    · exact (TD a).tr h1 q
    · obtain ⟨ps, e, _⟩ := h2 p hp
      rw [e]; trivial
  mono := fun {s H H'} ⟨h1, h2, h3⟩ k => by
    refine ⟨(TD a).mono h1 fun b o q e => k b o (q.imp .inl id) e, fun p hp => ?_, h3⟩
    obtain ⟨ps, e1, e2, e3⟩ := h2 p hp
    refine ⟨ps, k _ _ (.inl (.inr ⟨p, hp, rfl⟩)) e1, e2, fun pos cv hc => ?_⟩
    obtain ⟨c, c1, c2⟩ := e3 pos cv hc
    exact ⟨c, c1, k _ _ (.inr fun z => by unfold CodeO at z; exact z) c2⟩
/-- a def that draws and makes no lambda, where there are tables -/
theorem sp_liftT {K : PySem.W.Frag} {a : Ad} {L : List (Addr × Str)} {cls : Str → Option Addr} {f : Fn Dw} {vs : List V} {H : Hp} {Q : VK} {E : XK} (h : spS K (TDT a L) cls f vs H Q E) : spS K (TD a) cls f vs H Q E := by
  obtain ⟨hn, ds, s, F0, r, ⟨st, tb, ap⟩, na, k⟩ := h
  refine ⟨hn, ds, s, F0, r, st, fun b f q => na b f (.inl q), ?_⟩
  have nt : ∀ {b : Addr} {o : HO}, H b = some o → (∀ vs, o ≠ .lst vs) → (∀ kv, o ≠ .dK kv) → ¬ (TD a).A s b := fun {b o} e n1 n2 q => by
    obtain ⟨h1, h2, h3, _⟩ := st
    rcases q with rfl | rfl | rfl
    · rw [h1] at e; exact n2 _ (Option.some.inj e).symm
    · rw [h2] at e; exact n1 _ (Option.some.inj e).symm
    · rw [h3] at e; exact n1 _ (Option.some.inj e).symm
  have back : ∀ {s' H'}, Xt (TD a) s s' H H' → Xt (TDT a L) s s' H H' := fun {s' H'} x => ⟨fun b o e n => x.keep b o e fun q => n (.inl q), x.live, fun b q => q.elim (fun q => (x.grow b q).imp .inl id) fun q => .inl (.inr q)⟩
  have stm : ∀ {s' H'}, Xt (TD a) s s' H H' → (TD a).R s' H' → (TDT a L).R s' H' := fun {s' H'} x st' => by
    refine ⟨st', fun p hp => ?_, ap⟩
    obtain ⟨ps, e1, e2, e3⟩ := tb p hp
    refine ⟨ps, x.keep _ _ e1 (nt e1 (fun _ z => by cases z) fun _ z => by cases z), e2, fun pos cv hc => ?_⟩
    obtain ⟨c, c1, c2⟩ := e3 pos cv hc
    exact ⟨c, c1, x.keep _ _ c2 (nt c2 (fun _ z => by unfold CodeO at z; cases z) fun _ z => by unfold CodeO at z; cases z)⟩
  have fm : ∀ {s' H'}, Xt (TD a) s s' H H' → ∀ {b : Addr}, RetF (TD a) F0 H s' b → RetF (TDT a L) F0 H s' b := fun {s' H'} x {b} f => ⟨f.1, fun q => q.elim f.2 fun ⟨p, hp, e⟩ => by
    obtain ⟨ps, e1, _⟩ := tb p hp
    rcases f.1 with z | z
    · exact na b z (.inr ⟨p, hp, e⟩)
    · rw [← e, e1] at z; cases z⟩
  revert k
  induction f.F ds s with
  | new p g ih => exact fun k a ha => ih a (k a ha)
  | ok d s' =>
    intro k
    exact fun v H' x st' fr => k v H' (back x) (stm x st') (FrP.mono fr fun b f _ => fm x f)
  | err y s' =>
    intro k
    intro c dd H' x st' rx
    refine k c dd H' (back x) (stm x st') ?_
    obtain ⟨cc, h1, h2, h3, h4⟩ := rx
    refine ⟨cc, h1, h2, h3, fun z => ?_⟩
    obtain ⟨dx, ws, g1, g2, g3⟩ := h4 z
    exact ⟨dx, ws, g1, g2, g3.wk fun b f _ => fm x f⟩
  | stuck => exact fun k => k
end Q

set_option maxHeartbeats 2000000
/-! Lay32: the end of a law's row where defs make lambdas: their tables are tracked from the start. -/
namespace Q
open PySem PySem.Spec PyProof.Rows L2 LamX
theorem lawT {P : Program} {w : World} {K : PySem.W.Frag} {mg mb : Str → Option Value} {k : Nat} {fa a : Addr} {fd : FuncData} {x : Str} {sp : Sp} {s1 : Shared} {H : Hp} {vs : List Value} {cs : List (Addr × Addr)}
    (kin : K.In s1.heap) (glo : s1.heap.Ns mainGlobals mg) (blt : s1.heap.Ns builtinsNs mb) (hmb : ∀ y : Str, y ≠ "__name__" → mb y = bootBuiltins y) (nl : s1.heap.NoLimit) (gens : s1.gens = #[])
    (at_ : s1.heap.get? a = some { cls := .type "list", data := .seq vs.toArray }) (room : Room k callerA) (T : TabsAt K s1.heap cs) (bmn : BmAt mg s1.heap)
    (F : ∀ base : Heap, K.In base → base.Ns mainGlobals mg → (∀ p ∈ cs, TabB base mg p.1 p.2) → FnG P w K mg base (L2.CX P w) k fa fd [x] sp) (bi : ∀ (s : Shared) (u : Value), BindsTo s fd ⟨[u], []⟩ [(x, u)])
    (hok : HOk P w H s1.heap) (dom : ∀ b u, H b = some u → (b = a ∧ K.lookup a = none ∧ ∃ o xs, u = .frz o (.lst xs)) ∨ ((∃ p ∈ cs, p.2 = b) ∧ u = .tbl #[])) (wish : sp [.ref a] H (fun v _ => v = .bl true) fun _ _ _ => False) :
    codeAny (model P w) callerA (.call (.ref fa) ⟨[.ref a], []⟩) (fun r s' => r = .ok (.ret (.bool true)) ∧ OldK s1.heap s'.heap ∧ s'.os = s1.os ∧ AllBare s'.gens) s1 := by
  -- what is neither a sequence nor an empty table is not tracked
  have free : ∀ (b : Addr) (o : Obj), s1.heap.get? b = some o → (∀ us n, o.data ≠ .seq us n) → o.data ≠ .fields #[] → H b = none := by
    intro b o e h1 h2
    cases q : H b with
    | none => rfl
    | some u =>
      rcases dom b u q with ⟨eb, _, _⟩ | ⟨⟨p, hp, eb⟩, _⟩
      · rw [eb, at_] at e
        cases e
        exact absurd rfl (h1 _ _)
      · rw [← eb, T.nil p hp] at e
        cases e
        exact absurd rfl h2
  have dictF : ∀ (b : Addr) (o : Obj) (es : Array DictEntry) (ep : Nat), s1.heap.get? b = some o → o.data = .dict es ep → H b = none := fun b o es ep e d =>
    free b o e (fun us n z => by rw [d] at z; cases z) fun z => by rw [d] at z; cases z
  have ns : ∀ {b : Addr} {m : Str → Option Value}, s1.heap.Ns b m → (hidT s1.heap H).Ns b m := by
    rintro b m ⟨o, es, ep, e, d, r⟩
    exact ⟨o, es, ep, hidT_get e (dictF b o es ep e d), d, r⟩
  have kin2 : K.In (hidT s1.heap H) := by
    intro b o e
    refine hidT_get (kin b o e) ?_
    cases q : H b with
    | none => rfl
    | some u =>
      rcases dom b u q with ⟨eb, z, _⟩ | ⟨⟨p, hp, eb⟩, _⟩
      · rw [eb, z] at e; cases e
      · rw [← eb, T.out p hp] at e; cases e
  have tb2 : ∀ p ∈ cs, TabB (hidT s1.heap H) mg p.1 p.2 := by
    intro p hp
    have tp := T.nil p hp
    refine ⟨?_, ?_, ?_⟩
    · obtain ⟨o, us, file, tf, flags, tg, inF, text, tt, e1, r1, r2, r3, r4, r5, r6, r7, r8, hne⟩ := T.hd p hp
      have hn : H p.1 = none := free _ _ e1 (fun us n z => by rw [r2] at z; cases z) fun z => by
        rw [r2] at z
        cases z
        simp at r3
      exact ⟨o, us, file, tf, flags, tg, inF, text, tt, hidT_get e1 hn, r1, r2, r3, r4, r5, r6, r7, r8, hne⟩
    · obtain ⟨bm, ob, b1, b2, b3, b4, b5, b6⟩ := bmn
      have hn : H bm = none := free _ _ b3 (fun us n z => by rw [b6] at z; cases z) fun z => by rw [b6] at z; cases z
      refine ⟨bm, ob, b1, b2, fun z => ?_, fun z => ?_, hidT_get b3 hn, b4, b5, b6⟩
      · obtain ⟨o, es, ep, e, d, _⟩ := glo
        rw [← z, b3] at e
        cases e
        rw [d] at b6
        cases b6
      · rw [z, tp] at b3
        cases b3
        cases b6
    · intro z
      obtain ⟨o, es, ep, e, d, _⟩ := glo
      rw [z, tp] at e
      cases e
      cases d
  obtain ⟨mc, n1, n2⟩ := nl
  have env : Env0 P w K mg (hidT s1.heap H) callerA [] s1 H := ⟨rfl, ⟨kin2, ns glo, ⟨mb, ns blt, hmb⟩, mc, ns n1, n2⟩, fun _ _ e => of_hidT e, (Nat.le_of_eq (hidT_size _ _)), trivial, fun b z => (nomatch z), hok, AllBare.of_eq gens⟩
  have go := (F _ kin2 (ns glo) tb2).run callerA [] s1 H ⟨[.ref a], []⟩ [.ref a] [.ref a] _ _ room callerG env (bi s1 (.ref a)) (.cons rfl .nil) wish
  refine codeAny_mono go fun res s2 z => ?_
  match res, z with
  | .error e, z =>
    obtain ⟨_, _, _, _, _, _, _, _, _, _, _, _, y⟩ := z
    exact y.elim
  | .ok (.ret u), z =>
    obtain ⟨v, H2, e1, e2, un, hok2, rv, (ev : v = .bl true)⟩ := z
    subst ev
    have eu : u = Value.bool true := rv
    have grown : ∀ p ∈ cs, H p.2 = some (.tbl #[]) → ∃ more : Array Value, s2.heap.get? p.2 = some { cls := .none, data := .fields more } := fun p hp ht => by
      obtain ⟨more, y⟩ := un.tbls p.2 #[] ht
      exact ⟨_, hok2 p.2 _ y⟩
    -- an old object: as it was, or a table that has grown
    have old : ∀ b o, s1.heap.get? b = some o → s2.heap.get? b = some o ∨ ∃ p ∈ cs, p.2 = b ∧ ∃ more : Array Value, s2.heap.get? b = some { cls := .none, data := .fields more } := by
      intro b o e
      cases q : H b with
      | none => exact .inl (un.keep b o e q (fun y => nomatch y) (fun y => nomatch y))
      | some uu =>
        rcases dom b uu q with ⟨eb, _, ob, xs, rfl⟩ | ⟨⟨p, hp, eb⟩, eu⟩
        · obtain ⟨y1, _⟩ := hok b _ q
          obtain ⟨y2, _⟩ := hok2 b _ (un.frzs b ob _ q)
          rw [e] at y1
          cases y1
          exact .inl y2
        · subst eb
          rw [eu] at q
          exact .inr ⟨p, hp, rfl, grown p hp q⟩
    refine ⟨by rw [eu], ⟨fun b o e => ?_, fun b o e => ?_⟩, e1, e2⟩
    · rcases old b o e with y | ⟨p, hp, rfl, more, y⟩
      · exact .inl y
      · rw [T.nil p hp] at e
        cases e
        refine .inr (.inl ⟨((T.hd p hp).tab (T.nil p hp)).isCodeTable, rfl, #[], more, rfl, ?_⟩)
        rw [Array.empty_append]
        exact y
    · rcases old b o e with y | ⟨p, hp, rfl, more, y⟩
      · exact ⟨o, y⟩
      · exact ⟨_, y⟩
theorem walkT {l : PySem.W.OpenLaw} {n k : Nat} {q : Program} {loose : List Str} {XP : (Str → Option Value) → Heap → Prop} {YP : World → Heap → Prop} {d : DefRec} {x : Str} (hn : l.most = some n) (hz : n ≤ sizeLine) (hdf : d.params.defaults = []) (room : Room k callerA)
    (F : ∀ (w : World) (mg : Str → Option Value) (fa : Addr) (h : Heap), YP w h → h.Ns mainGlobals mg → mg d.name = some (.ref fa) → ∃ (K : PySem.W.Frag) (fd : FuncData) (sp : Sp) (cs : List (Addr × Addr)), K.In h ∧ TabsAt K h cs ∧ (∀ (s : Shared) (u : Value), BindsTo s fd ⟨[u], []⟩ [(x, u)]) ∧
      (∀ (H : Hp) (a : Addr) (ns : List Int), ns.length ≤ n → (∀ p ∈ cs, H p.2 = some (.tbl #[])) → Frz K H a (ns.map V.int) → sp [.ref a] H (fun v _ => v = .bl true) fun _ _ _ => False) ∧
      ∀ base : Heap, K.In base → base.Ns mainGlobals mg → (∀ p ∈ cs, TabB base mg p.1 p.2) → FnG l.prog w K mg base (L2.CX l.prog w) k fa fd [x] sp) :
    PySem.W.WalkO q loose XP YP l.row.toRowW d [] (fun f vs => PySem.call f vs) := by
  refine Att.attach_call hn hdf fun w s0 s1 mg mb fa o pm cd doc a vs ns G Y _ _ _ hmg at_ isI hlen gens => ?_
  obtain ⟨K, fd, sp, cs, kin, T, bi, wish, pr⟩ := F w mg fa _ Y G.T.g hmg
  have hl : ns.length ≤ sizeLine := Nat.le_trans hlen hz
  have rv := vals_ints isI
  have na : ∀ p ∈ cs, p.2 ≠ a := fun p hp z => by
    have := T.nil p hp
    rw [z, at_] at this
    cases this
  cases hk : K.lookup a with
  | some u =>
    have e := kin a u hk
    rw [at_] at e
    cases e
    refine lawT (H := fun b => if ∃ p ∈ cs, p.2 = b then some (.tbl #[]) else none) kin G.T.g G.T.b G.T.builtins G.T.nolimit gens at_ room T G.T.bmain pr bi (fun b u z => ?_) (fun b u z => ?_) (wish _ a ns hlen (fun p hp => if_pos ⟨p, hp, rfl⟩) (.inr ⟨_, vs.toArray, _, hk, rfl, rfl, rfl, ?_, by simpa using rv⟩))
    · have z' : (if ∃ p ∈ cs, p.2 = b then some (HO.tbl #[]) else none) = some u := z
      split at z'
      · rename_i y
        obtain ⟨p, hp, rfl⟩ := y
        cases z'
        exact T.nil p hp
      · cases z'
    · have z' : (if ∃ p ∈ cs, p.2 = b then some (HO.tbl #[]) else none) = some u := z
      split at z'
      · rename_i y
        cases z'
        exact .inr ⟨y, rfl⟩
      · cases z'
    · rw [List.size_toArray, isI.length]
      exact hl
  | none =>
    refine lawT (H := fun b => if b = a then some (.frz { cls := .type "list", data := .seq vs.toArray } (.lst (ns.map V.int))) else if ∃ p ∈ cs, p.2 = b then some (.tbl #[]) else none) kin G.T.g G.T.b G.T.builtins G.T.nolimit gens at_ room T G.T.bmain pr bi (fun b u z => ?_) (fun b u z => ?_)
      (wish _ a ns hlen (fun p hp => (if_neg (na p hp)).trans (if_pos ⟨p, hp, rfl⟩)) (.inl ⟨_, if_pos rfl⟩))
    · have z' : (if b = a then some (HO.frz { cls := .type "list", data := .seq vs.toArray } (.lst (ns.map V.int))) else if ∃ p ∈ cs, p.2 = b then some (HO.tbl #[]) else none) = some u := z
      split at z'
      · rename_i hb
        subst hb
        cases z'
        exact ⟨at_, by rw [List.length_map]; exact hl, vs, _, rv, at_⟩
      · split at z'
        · rename_i y
          obtain ⟨p, hp, rfl⟩ := y
          cases z'
          exact T.nil p hp
        · cases z'
    · have z' : (if b = a then some (HO.frz { cls := .type "list", data := .seq vs.toArray } (.lst (ns.map V.int))) else if ∃ p ∈ cs, p.2 = b then some (HO.tbl #[]) else none) = some u := z
      split at z'
      · rename_i hb
        cases z'
        exact .inl ⟨hb, hk, _, _, rfl⟩
      · split at z'
        · rename_i y
          cases z'
          exact .inr ⟨y, rfl⟩
        · cases z'
end Q

set_option maxHeartbeats 2000000
/-! Lay33: own exceptions' classes, made. -/
namespace Q
open PySem PySem.Spec PyProof.Rows L2 LamX
/-- how such an __init__ is written -/
structure IniS (d : IniD) (a b : Str) : Prop where
  s : SupS a b d.scope
  ps : ∃ ar : Arg, (d.params.posonlyargs ++ d.params.args).head? = some ar ∧ ar.arg = a
  bd : ∃ (kk : Nat) (p0 p1 p2 p3 p4 p5 q1 q2 q3 q4 : Pos) (txt : Str), d.body = [.Expr (.Call (.Attribute (.Call (.Name "super" p0) [] [] p1) "__init__" p2) [.Constant (.str txt) kk p3] [] p4) p5, .Assign [.Attribute (.Name a q1) d.fld q2] (.Name b q3) q4] ∧
    ∃ pl : Env → Sem Bool, ∀ env, eval (.Call (.Attribute (.Call (.Name "super" p0) [] [] p1) "__init__" p2) [.Constant (.str txt) kk p3] [] p4) env = (do
      let ov ← attributeBase (.Call (.Name "super" p0) [] [] p1) "__init__" env (eval (.Call (.Name "super" p0) [] [] p1) env)
      standAt p2.atName
      let (f, first) ← holding [ov] (getMethod ov "__init__" (pl env))
      callWith p4 f first (backTo p4 (starEach [.Constant (.str txt) kk p3] env)) [])
  bi : ∀ (kV doc pm : Value) (an : Option Addr) (cdv ct : Value) (cc : Addr) (us : List Value), us.length = 2 → bindArgs (PySem.W.ksFn "__init__" d.qual d.params d.body d.scope .none kV doc pm an cdv ct cc) ⟨us, []⟩ = pure ([a, b].zip us)
  d1 : (a == ("__debug__" : Str)) = false
  d2 : (a == ("__classdict__" : Str)) = false
  d3 : (b == ("__debug__" : Str)) = false
  d4 : (b == ("__classdict__" : Str)) = false
end Q

set_option maxHeartbeats 2000000
/-! Hk2: the hook of the head: .. and properties of own classes. -/
namespace Q
open PySem PySem.Spec PyProof.Rows L2 LamX
def oexOB (K : PySem.W.Frag) (C : Addr) : Bool := (match K.lookup C with
  | some ⟨.type t, _, .cls cd, sl⟩ => (match cd.mro, sl.toList with
    | .ref C' :: bm, [_, _, _, _, some (.builtin n), _] => decide (t = "type") && (decide (C' = C) && (decide (n = "OverflowError.__new__") && (cd.hasDict && (!cd.hasDel && decide (bm = [.type "OverflowError", .type "ArithmeticError", .type "Exception", .type "BaseException", .type "object"])))))
    | _, _ => false)
  | _ => false) && (decide (PySem.W.findIn K (.ref C) "__setattr__" = some (some (.builtin "object.__setattr__"))) && (decide (PySem.W.subIn K (.ref C) (.type "BaseException") = some true) && (decide (PySem.W.typeIn K (.ref C) = some (.type "type")) && PySem.W.keepIn K (.ref C))))
/-- .. over OverflowError -/
def supOB (K : PySem.W.Frag) (file x fl : Str) : Bool := oexOB K (He.ga K x) && (decide (PySem.W.mroIn K (He.ga K x) (.ref (He.ga K x)) = some true) && (decide (PySem.W.subIn K (.ref (He.ga K x)) (.type "OverflowError") = some true) &&
  (decide (PySem.W.ks_superIn K (He.ga K x) (He.ga K x) "__init__" = some (some (.builtin "OverflowError.__init__"))) && (decide (PySem.W.findIn K (.ref (He.ga K x)) fl = some none) && (decide (PySem.W.nsIn K cStatics "thirdparty.any" = some none) &&
  (decide (PySem.W.findIn K (.ref (He.ga K x)) "__init__" = some (some (.ref (He.ma K (He.ga K x) "__init__")))) && (decide (PySem.W.typeIn K (.ref (He.ma K (He.ga K x) "__init__")) = some (.type "function")) && (match K.lookup (He.ma K (He.ga K x) "__init__") with
    | some ⟨_, _, .func fd, _⟩ => (match fd.defaults, fd.closure, fd.code with
      | .none, [(y, cc)], .ref cda => decide (y = ("__class__" : Str)) && (PySem.W.codeIn K (.ref cda) fd.qualname && ((match K.lookup cda with
        | some ⟨_, _, .fields vs, _⟩ => (match (vs[2]? : Option Value) with
          | some (Value.str f _) => decide (f = file)
          | _ => false)
        | _ => false) && (match K.lookup cc with
        | some ⟨_, _, .cell (some (.ref C)), _⟩ => decide (C = He.ga K x)
        | _ => false)))
      | _, _, _ => false)
    | _ => false))))))))
/-- a property: its class, its name; its getter -/
structure GetD where
  cls : Str
  prop : Str
  name : Str
  qual : Str
  params : Arguments
  body : List Stmt
  scope : Scope
def getP (K : PySem.W.Frag) (c p : Str) : Addr := He.ma K (He.ga K c) p
def getA (K : PySem.W.Frag) (c p : Str) : Addr := match PySem.W.recIn K (getP K c p) "property" with
  | some (.ref g :: _) => g
  | _ => 0
def getW (K : PySem.W.Frag) (a : Addr) : He.FnW := match K.lookup a with
  | some ⟨_, _, .func fd, _⟩ => some (fd.name, fd.qualname, fd.params, fd.body, fd.scope, fd.globals, fd.closure, fd.builtins)
  | _ => none
def GetD.obs (K : PySem.W.Frag) (d : GetD) : He.FnW := getW K (getA K d.cls d.prop)
def GetD.val (d : GetD) : He.FnW := some (d.name, d.qual, d.params, .stmts d.body, d.scope, mainGlobals, [], builtinsNs)
def GetD.ok (K : PySem.W.Frag) (d : GetD) : Bool := He.eqO (PySem.W.findIn K (.ref (He.ga K d.cls)) d.prop) (some (some (.ref (getP K d.cls d.prop)))) && (He.eqO (PySem.W.specialIn K (.ref (getP K d.cls d.prop)) "__get__") (some (some (.builtin "property.__get__"))) &&
  (decide (PySem.W.takesIn K (.ref (getP K d.cls d.prop)) = some true) && ((match PySem.W.recIn K (getP K d.cls d.prop) "property" with
    | some (.ref _ :: _) => true
    | _ => false) && (PySem.W.keepIn K (.ref (getA K d.cls d.prop)) && (match K.lookup (getA K d.cls d.prop) with
    | some ⟨_, _, .func fd, _⟩ => PySem.W.codeIn K fd.code d.qual && (He.dflB K fd.defaults [] && He.kwdB K fd.kwdefaults [])
    | _ => false)))))
theorem GetD.prp {K : PySem.W.Frag} {d : GetD} (c : d.ok K = true) : PropOf K (He.ga K d.cls) d.prop (getP K d.cls d.prop) (getA K d.cls d.prop) := by
  obtain ⟨h1, h⟩ := He.ba c
  obtain ⟨h2, h⟩ := He.ba h
  obtain ⟨h3, h⟩ := He.ba h
  obtain ⟨h4, _⟩ := He.ba h
  refine ⟨He.eqO_ok h1, He.eqO_ok h2, of_decide_eq_true h3, ?_⟩
  unfold getA
  split at h4
  · rename_i g r e
    rw [e]
    exact ⟨r, rfl⟩
  · cases h4
/-! ### the hook -/
structure SaysP (fa : List He.Fa) (fn : List He.DefD) (ini : List IniD) (gs : List GetD) (tf : List He.Defn) (ex : PySem.W.Frag → Bool) (h : Heap) (K : PySem.W.Frag) : Prop where
  q : SaysQ fa fn ini tf ex h K
  ok : ∀ d ∈ gs, d.ok K = true
  get : ∀ d ∈ gs, d.obs K = d.val
end Q

/-! Ex10: such an __init__ over OverflowError keeps its promise. -/
namespace Q
open PySem L2 PyProof.Rows PySem.Calls
structure SupO (K : PySem.W.Frag) (mg : Str → Option Value) (prog : Program) (C : Addr) (fl : Str) : Prop where
  ox : OexO K C
  mro : PySem.W.mroIn K C (.ref C) = some true
  sub : PySem.W.subIn K (.ref C) (.type "OverflowError") = some true
  ini : PySem.W.ks_superIn K C C "__init__" = some (some (.builtin "OverflowError.__init__"))
  fld : PySem.W.findIn K (.ref C) fl = some none
  opq : PySem.W.nsIn K cStatics "thirdparty.any" = some none
  sup : mg "super" = none
  top : (prog.main.scope.names.lookup ("super" : Str)).isSome = false
section
variable {P : Program} {w : World} {K : PySem.W.Frag} {mg : Str → Option Value} {base : Heap} {name qual a b fl : Str} {scope : Scope} {f cc C : Addr} {A : Around} {outer : List Env} {s : Shared} {H : Hp}
theorem sup_runO {CX : CXT} {k kk : Nat} {params : Arguments} {dV kV doc pm ct oc : Value} {an od : Option Addr} {osl : Array (Option Value)} {cda : Addr} {ccl cl : Value} {cdd cld : Option Addr} {ccs csl : Array (Option Value)} {vs0 : Array Value} {file : Str} {tf : Tok} {ar : Arg} {p0 p1 p2 p3 p4 p5 q1 q2 q3 q4 : Pos} {txt : Str}
    (S : SupS a b scope) (T : SupO K mg P C fl)
    (lk : K.lookup f = some ⟨oc, od, .func (PySem.W.ksFn name qual params [.Expr (.Call (.Attribute (.Call (.Name "super" p0) [] [] p1) "__init__" p2) [.Constant (.str txt) kk p3] [] p4) p5, .Assign [.Attribute (.Name a q1) fl q2] (.Name b q3) q4] scope dV kV doc pm an (.ref cda) ct cc), osl⟩)
    (hp : (params.posonlyargs ++ params.args).head? = some ar) (har : ar.arg = a)
    (hcd : PySem.W.codeIn K (.ref cda) qual = true) (hcode : K.lookup cda = some ⟨ccl, cdd, .fields vs0, ccs⟩) (hvs : vs0[2]? = some (.str file tf)) (hfile : ((P.main.file : Str) == file) = true)
    (hcell : K.lookup cc = some ⟨cl, cld, .cell (some (.ref C)), csl⟩)
    {pl : Env → Sem Bool} (hcall : ∀ env, eval (.Call (.Attribute (.Call (.Name "super" p0) [] [] p1) "__init__" p2) [.Constant (.str txt) kk p3] [] p4) env = (do
      let ov ← attributeBase (.Call (.Name "super" p0) [] [] p1) "__init__" env (eval (.Call (.Name "super" p0) [] [] p1) env)
      standAt p2.atName
      let (f, first) ← holding [ov] (getMethod ov "__init__" (pl env))
      callWith p4 f first (backTo p4 (starEach [.Constant (.str txt) kk p3] env)) []))
    (hdb : (a == ("__debug__" : Str)) = false) (hcdb : (a == ("__classdict__" : Str)) = false) (hdb2 : (b == ("__debug__" : Str)) = false) (hcdb2 : (b == ("__classdict__" : Str)) = false) :
    FnOk P w K mg base CX (k + 1) f (PySem.W.ksFn name qual params [.Expr (.Call (.Attribute (.Call (.Name "super" p0) [] [] p1) "__init__" p2) [.Constant (.str txt) kk p3] [] p4) p5, .Assign [.Attribute (.Name a q1) fl q2] (.Name b q3) q4] scope dV kV doc pm an (.ref cda) ct cc) [a, b] (spSup C fl) := by
  refine ⟨fun vs H Q E ⟨e, y, h, _⟩ => by rw [h]; rfl, fun A outer s H args us vs Q E hr e0 hb r hs => ?_⟩
  obtain ⟨e, y, rfl, he, hq⟩ := hs
  cases r with
  | cons ra r1 => cases r1 with
    | cons rb r2 =>
      cases r2
      rename_i ua ub
      have KX : K.In s.heap := e0.mod.kin.keeps fun b o e => (e0.bs b o e).1
      have lim : s.heap.NoLimit := e0.mod.nolimit.keeps fun b o e => (e0.bs b o e).1
      have hua : ua = Value.ref e := ra
      refine PySem.ks_codeAny_call_defAt (binds := [a, b].zip [ua, ub]) hr.depth (KX _ _ lk) rfl lim (PySem.W.codeRec_of KX hcd) rfl hb S.cell (fun x hx => ?_) (fun h₁ hns hk => ?_) S.co S.gen S.kind
      · simp at hx
        rcases hx with rfl | rfl
        · exact S.la
        · exact S.lb
      · have I := sup_start (tk := s.toks + 2) (D := C) (qual := qual) (f := f) (cd := .ref cda) S hr.hd e0 ra rb hcell hns hk
        have hcc := hk _ _ (KX _ _ hcell)
        obtain ⟨nm, qq, N, bs, sn, sub, ab, col, dd, k0, k1, k2, k3, k5, hC⟩ := T.ox.cls
        have hcl : PySem.W.clsIn K C = some { name := nm, bases := bs, mro := .ref C :: ovMro, ns := N, qualname := qq, hasDict := true, slotNames := sn, subclasses := sub, abstract := ab, collection := col, hasDel := false } := by unfold PySem.W.clsIn; rw [hC] <;> rfl
        have hv : ([a, b].zip [ua, ub]).reverse.lookup a = some ua := by
          have : (a == b) = false := by simpa using S.ab
          simp [List.lookup_cons, this]
        obtain ⟨mb, g1, g2⟩ := I.mod.blt
        refine PySem.ks_wpAt_execs_cons (PySem.ks_wpAt_Expr_any (PySem.ks_wpAt_MethodCall (PySem.ks_wpAt_super_base (env := PySem.W.ksEnv qual scope s.heap.objs.size f (.ref cda) cc) S.sup S.cls (by decide) rfl (hk _ _ (KX _ _ lk)) rfl hp rfl (hk _ _ (KX _ _ hcode)) rfl hvs hfile T.top ?_) (hcall _)) I.quiet rfl)
        refine PySem.W.ks_loadName_global S.kind S.sup (Calls.loadGlobal_builtin (env := PySem.W.ksEnv qual scope s.heap.objs.size f (.ref cda) cc) (I.mod.glob.keeps I.bk) T.sup (g1.keeps I.bk) ((g2 "super" (by decide)).trans (by first | boot_by_name | kernel_rfl)) ⟨rfl, ?_⟩)
        refine wpAny_loadName_free S.kind S.cls rfl ⟨_, hcc, rfl⟩ ?_
        rw [har]
        refine wpAny_loadName_local S.kind S.la hns hv ?_
        subst hua
        have hDo := hk _ _ (KX _ _ hC)
        refine PySem.ks_wpAny_isType_cls hDo rfl ⟨rfl, ?_⟩
        obtain ⟨t1, ho⟩ := exo_at I.hok he
        refine PySem.ks_wpAny_call_super hDo rfl ho rfl (fun c z => by cases z) (PySem.W.looks_mroIn (I.kIn) T.mro) (fun h2 e2 kp2 => ?_)
        have I2 : Inv (supCx P w K mg base [a, b] qual scope f (.ref cda) cc A outer s H) [] [some (V.ref e), some y] H { s with heap := h2, toks := s.toks + 2 } := I.kept kp2
        have ho2 := kp2 _ _ ho
        have inst : PySem.W.InstAt h2 e _ C none := ⟨ho2, rfl, rfl, trivial⟩
        have hin := T.ini
        unfold PySem.W.ks_superIn at hin
        rw [hcl] at hin
        refine PySem.W.kxs_getMethod PySem.W.kxs_OverflowError e2 (PySem.W.looks_opaque I2.kIn T.opq) (l₀ := .ref C :: ovMro) ((PySem.W.looks_clsIn I2.kIn hcl).andThen .now) rfl I2.kIn hin (inst.type.andThen (PySem.W.looks_subIn I2.kIn T.sub)) (PySem.W.ks_ne I2.kIn inst hcl) (by decide) ?_
        have I3 : Inv (supCx P w K mg base [a, b] qual scope f (.ref cda) cc A outer s H) [] [some (V.ref e), some y] H { s with heap := h2.push (PySem.W.kxs_mw "OverflowError.__init__" e), toks := s.toks + 2 + 1 } := (I2.kept (t' := s.toks + 2 + 1) fun b o q => Heap.get?_push_of_some _ q)
        have hu3 : (h2.push (PySem.W.kxs_mw "OverflowError.__init__" e)).get? h2.objs.size = some (PySem.W.kxs_mw "OverflowError.__init__" e) := Heap.get?_push_at rfl rfl
        refine PySem.W.kxs_callWith (i := "OverflowError.__init__") (x := e) rfl (evalArgs_plain (Calls.spliced_cons (Calls.Constant_str (x := txt) (k := kk) (pos := p3) (Calls.spliced_nil ⟨hu3, ?_⟩))))
        refine call_mwO T.ox (I3.tok _) he hu3 (by rw [sizeLine_eq]; simp) (fun s' J => ?_)
        refine PySem.wpAt_of_wpAny ?_
        have st : PSs (supCx P w K mg base [a, b] qual scope f (.ref cda) cc A outer s H) [.Assign [.Attribute (.Name a q1) fl q2] (.Name b q3) q4] _ := pss_one (ps_ostO (pe_var (i := 0) rfl (.inl S.la) hdb hcdb) (pe_var (i := 1) rfl (.inl S.lb) hdb2 hcdb2))
        refine wpAny_mono (st.run [] s' _ H { nx := fun _ H' => Q .non H', rt := fun _ _ => False } J ⟨y, rfl, .ref e, rfl, e, C, rfl, T.ox, T.fld, he, fun dx n ne => hq dx n ne⟩) (fun fl s2 hs2 => ?_) fun _ _ z => z.elim
        cases fl with
        | next =>
          obtain ⟨σ', H', J', q⟩ := hs2
          exact ⟨.non, H', J'.os, J'.bare, J'.base, J'.hok, rfl, q⟩
        | ret u => obtain ⟨_, _, _, _, _, z⟩ := hs2; exact z.elim
        | brk => obtain ⟨_, _, _, z⟩ := hs2; exact z.elim
        | cont => obtain ⟨_, _, _, z⟩ := hs2; exact z.elim
end
end Q

set_option maxHeartbeats 2000000
/-! Hk3: own exceptions over OverflowError: what the looked-at part says. -/
namespace Q
open PySem PySem.Spec PyProof.Rows L2 LamX
theorem oexOB_ok {K : PySem.W.Frag} {C : Addr} (h : oexOB K C = true) : OexO K C := by
  obtain ⟨h1, h⟩ := He.ba h
  obtain ⟨h2, h⟩ := He.ba h
  obtain ⟨h3, h⟩ := He.ba h
  obtain ⟨h4, h5⟩ := He.ba h
  refine ⟨?_, of_decide_eq_true h2, of_decide_eq_true h3, of_decide_eq_true h4, h5⟩
  split at h1
  · rename_i t dd cd sl lk
    split at h1
    · rename_i C' bm k0 k1 k2 k3 n k5 hm hs
      obtain ⟨a1, h1⟩ := He.ba h1
      obtain ⟨a2, h1⟩ := He.ba h1
      obtain ⟨a3, h1⟩ := He.ba h1
      obtain ⟨a4, h1⟩ := He.ba h1
      obtain ⟨a5, a6⟩ := He.ba h1
      have e1 := of_decide_eq_true a1
      have e2 := of_decide_eq_true a2
      have e3 := of_decide_eq_true a3
      subst e1 e2 e3
      obtain ⟨nm, bs, mro, ns, qn, hd, sn, sub, ab, col, del⟩ := cd
      dsimp only at hm a4 a5
      have e4 : del = false := by simpa using a5
      subst hm a4 e4
      obtain ⟨l⟩ := sl
      dsimp only at hs
      subst hs
      have e5 := of_decide_eq_true a6
      subst e5
      exact ⟨nm, qn, ns, bs, sn, sub, ab, col, dd, k0, k1, k2, k3, k5, lk⟩
    · cases h1
  · cases h1
theorem supOB_ok {K : PySem.W.Frag} {file : Str} {d : IniD} (e : iniOf K d.cls = d.val) (h : supOB K file d.cls d.fld = true) : (OexO K (He.ga K d.cls) ∧ PySem.W.mroIn K (He.ga K d.cls) (.ref (He.ga K d.cls)) = some true ∧ PySem.W.subIn K (.ref (He.ga K d.cls)) (.type "OverflowError") = some true ∧
    PySem.W.ks_superIn K (He.ga K d.cls) (He.ga K d.cls) "__init__" = some (some (.builtin "OverflowError.__init__")) ∧ PySem.W.findIn K (.ref (He.ga K d.cls)) d.fld = some none ∧ PySem.W.nsIn K cStatics "thirdparty.any" = some none ∧
    PySem.W.findIn K (.ref (He.ga K d.cls)) "__init__" = some (some (.ref (He.ma K (He.ga K d.cls) "__init__"))) ∧ PySem.W.typeIn K (.ref (He.ma K (He.ga K d.cls) "__init__")) = some (.type "function")) ∧
    ∃ (oc : Value) (od : Option Addr) (kV doc pm ct : Value) (an : Option Addr) (osl : Array (Option Value)) (cda cc : Addr) (ccl cl : Value) (cdd cld : Option Addr) (ccs csl : Array (Option Value)) (vs0 : Array Value) (tf : Tok),
      K.lookup (He.ma K (He.ga K d.cls) "__init__") = some ⟨oc, od, .func (PySem.W.ksFn "__init__" d.qual d.params d.body d.scope .none kV doc pm an (.ref cda) ct cc), osl⟩ ∧ PySem.W.codeIn K (.ref cda) d.qual = true ∧ K.lookup cda = some ⟨ccl, cdd, .fields vs0, ccs⟩ ∧ vs0[2]? = some (.str file tf) ∧
      K.lookup cc = some ⟨cl, cld, .cell (some (.ref (He.ga K d.cls))), csl⟩ := by
  obtain ⟨h1, h⟩ := He.ba h
  obtain ⟨h2, h⟩ := He.ba h
  obtain ⟨h3, h⟩ := He.ba h
  obtain ⟨h4, h⟩ := He.ba h
  obtain ⟨h5, h⟩ := He.ba h
  obtain ⟨h6, h⟩ := He.ba h
  obtain ⟨h7, h⟩ := He.ba h
  obtain ⟨h8, h⟩ := He.ba h
  refine ⟨⟨oexOB_ok h1, of_decide_eq_true h2, of_decide_eq_true h3, of_decide_eq_true h4, of_decide_eq_true h5, of_decide_eq_true h6, of_decide_eq_true h7, of_decide_eq_true h8⟩, ?_⟩
  unfold iniOf at e
  split at h
  · rename_i oc od fd osl lk
    rw [lk] at e
    dsimp only at e
    obtain ⟨n1, n2, n3, n4, n5, n6, n7, n8, n9, n10, n11, n12, n13, n14, n15⟩ := fd
    dsimp only at h e
    unfold IniD.val at e
    simp only [Option.some.injEq, Prod.mk.injEq] at e
    obtain ⟨e1, e2, e3, e4, e5, e6, e7⟩ := e
    subst e1 e2 e3 e4 e5 e6 e7
    split at h
    · rename_i y cc cda
      obtain ⟨b1, h⟩ := He.ba h
      obtain ⟨b2, h⟩ := He.ba h
      obtain ⟨b3, b4⟩ := He.ba h
      have ey := of_decide_eq_true b1
      subst ey
      split at b3
      · rename_i ccl cdd vs0 ccs lk2
        split at b3
        · rename_i f tf hv
          have ef := of_decide_eq_true b3
          subst ef
          split at b4
          · rename_i cl cld C csl lk3
            have ec := of_decide_eq_true b4
            subst ec
            exact ⟨oc, od, n9, n10, n11, n14, n12, osl, cda, cc, ccl, cl, cdd, cld, ccs, csl, vs0, tf, lk, b2, lk2, hv, lk3⟩
          · cases b4
        · cases b3
      · cases b3
    · cases h
  · cases h
end Q

/-! Lay23: the words of the drawing defs. -/
namespace Q
open PySem PySem.Spec PyProof.Rows L2
def drawSp (a : Ad) (N : List Str) (sc : Scope) (f : Expr → Sem3 Dw) : Expr → Option (Sem3 Dw)
  | .Subscript (.Name x _) i _ =>
    if x = "_law_m" then (match i, okN N sc x with
      | .Constant (.str key) _ _, some j => some (plain3 (mgetE a j key))
      | _, _ => none)
    else if x = "_law_lot" ∧ isSlice i = false then (match okN N sc x with
      | some j => some (plain3 (lixE a j (pk N sc f i)))
      | none => none)
    else none
  | .Call (.Name y _) [.Name x _] [] _ => if y = "len" ∧ x = "_law_lot" ∧ glB sc "len" = true then (match okN N sc x with
      | some j => some (plain3 (lenE a j))
      | none => none)
    else none
  | .Compare (.Subscript (.Name x _) (.Constant (.str key) _ _) _) [.NotEq] [.List [] _] _ => if x = "_law_m" ∧ key = "great" then (match okN N sc x with
      | some j => some ⟨false, stuckF, greatT a j⟩
      | none => none)
    else none
  | _ => none
theorem drawSp_ok {C : Cn Dw} {a : Ad} (hT : C.T = TD a) {G : Gk Dw} (hG : G.sp = drawSp a) : SpOk C G := by
  intro W X N sc f k hb ho h e r q
  rw [hG] at q
  unfold drawSp at q
  split at q
  · split at q
    · subst_vars
      split at q
      · rename_i hi
        cases q
        exact Snd.plain k.K (sd_mget hT k hi) rfl
      · cases q
    · split at q
      · rename_i hx
        obtain ⟨rfl, hs⟩ := hx
        split at q
        · rename_i j hi
          cases q
          exact Snd.plain k.K (sd_lotIx hT k hi (sd_pk k h _) hs) rfl
        · cases q
      · cases q
  · split at q
    · rename_i hx
      obtain ⟨rfl, rfl, hg⟩ := hx
      split at q
      · rename_i j hi
        cases q
        exact Snd.plain k.K (sd_lotLen hT k hi hg (hb "len" (by simp [bltNames]))) rfl
      · cases q
    · cases q
  · split at q
    · rename_i hx
      obtain ⟨rfl, rfl⟩ := hx
      split at q
      · rename_i j hi
        cases q
        exact ⟨PE.clean sd_stuckF, fun z => Bool.noConfusion z, st_great hT k hi⟩
      · cases q
    · cases q
  · cases q
def drawSt (a : Ad) (G : Gk Dw) (N : List Str) (sc : Scope) : Stmt → Option (ExF Dw)
  | .Assign [.Subscript (.Name x _) i _] e _ =>
    if x = "_law_m" ∧ isComp e = false then (match i, okN N sc x with
      | .Constant (.str key) _ _, some j => if key = "spot" then some (mputS a j (evB G N 40 sc e).v) else none
      | _, _ => none)
    else if x = "_law_lot" ∧ isComp e = false ∧ isSlice i = false then (match okN N sc x with
      | some j => some (lputS a j (evB G N 40 sc e).v (pk N sc (evB G N 40 sc) i))
      | none => none)
    else none
  | _ => none
theorem drawSt_ok {C : Cn Dw} {W : L2.WX} {X : Cx} {a : Ad} (hT : C.T = TD a) {K : Dk Dw} (hK : K.st = drawSt a K.G K.N K.sc) (k : Xd C W X K.N K.sc) (g : GkOk C X K.G) : StOk C W X K := by
  intro st f q
  have h : ∀ e, Snd C W X e (evB K.G K.N 40 K.sc e) := fun e => (ev_ok 40 k.toXk g e).toSnd
  rw [hK] at q
  unfold drawSt at q
  split at q
  · split at q
    · rename_i hx
      obtain ⟨rfl, hc⟩ := hx
      split at q
      · rename_i hi
        split at q
        · subst_vars
          cases q
          exact sx_mput hT k hi hc (h _).v
        · cases q
      · cases q
    · split at q
      · rename_i hx
        obtain ⟨rfl, hc, hs⟩ := hx
        split at q
        · rename_i j hi
          cases q
          exact sx_lput hT k hi hc hs (sws_ok k.scope (by rfl)) (h _).v (sd_pk k.toXk h _)
        · cases q
      · cases q
  · cases q
end Q

/-! Lay24: words that are read off a text: slots by number. -/
namespace Q
open PySem PySem.Spec PyProof.Rows L2
section
variable {S : Type}
/-- a slot's value; .. or own list; .. or locked list -/
def vC (i : Nat) : EvF S := fun ρ s => match ρ[i]? with
  | some (.val d) => .ok d s
  | _ => .stuck
def vK (i : Nat) : EvF S := fun ρ s => match ρ[i]? with
  | some (.val d) => .ok d s
  | some (.own ds) => .ok (.lst ds) s
  | some (.lck ds) => .ok (.lst ds) s
  | _ => .stuck
def vS (i : Nat) : EvF S := fun ρ s => match ρ[i]? with
  | some (.val d) => .ok d s
  | some (.lck ds) => .ok (.lst ds) s
  | _ => .stuck
def tN (i : Nat) (d : D) (ρ : List Sl) : Option (List Sl) := if decide (i < ρ.length) = true then some (ρ.set i (.val d)) else none
/-- return x -/
def rN (i : Nat) : ExF S := fun ρ s => match ρ[i]? with
  | some (.val d) => .ret false d s
  | some (.own ds) => .ret true (.lst ds) s
  | some (.lck ds) => .ret true (.lst ds) s
  | _ => .stuck
/-- a constant -/
def kD (d : D) : EvF S := fun _ s => .ok d s
end
end Q

/-! Lay25: how words run, one step at a time. -/
namespace Q
open PySem PySem.Spec PyProof.Rows L2
section
variable {S α β : Type}
@[simp] theorem bind_okS (x : α) (s : S) (k : α → S → Res S β) : (Res.ok x s).bind k = k x s := rfl
@[simp] theorem bind_err (x : Exn) (s : S) (k : α → S → Res S β) : (Res.err x s : Res S α).bind k = .err x s := rfl
@[simp] theorem bind_stuck (k : α → S → Res S β) : (Res.stuck : Res S α).bind k = .stuck := rfl
@[simp] theorem thenS_ok (ρ : List Sl) (x : α) (s : S) (k : α → S → Out S) : thenS ρ (.ok x s) k = k x s := rfl
@[simp] theorem thenS_err (ρ : List Sl) (x : Exn) (s : S) (k : α → S → Out S) : thenS ρ (.err x s) k = .err x ρ s := rfl
@[simp] theorem ofO_some (x : α) (s : S) : ofO (some x) s = .ok x s := rfl
@[simp] theorem noErr_okS (x : α) (s : S) : (Res.ok x s).noErr = .ok x s := rfl
@[simp] theorem next_nxt (ρ : List Sl) (s : S) (k : ExF S) : (Out.nxt ρ s).next k = k ρ s := rfl
@[simp] theorem next_ret (b : Bool) (d : D) (s : S) (k : ExF S) : (Out.ret b d s).next k = .ret b d s := rfl
@[simp] theorem next_brk (ρ : List Sl) (s : S) (k : ExF S) : (Out.brk ρ s).next k = .brk ρ s := rfl
@[simp] theorem next_cnt (ρ : List Sl) (s : S) (k : ExF S) : (Out.cnt ρ s).next k = .cnt ρ s := rfl
@[simp] theorem next_err (x : Exn) (ρ : List Sl) (s : S) (k : ExF S) : (Out.err x ρ s).next k = .err x ρ s := rfl
@[simp] theorem seqS_ap (f g : ExF S) (ρ : List Sl) (s : S) : seqS f g ρ s = (f ρ s).next g := rfl
@[simp] theorem bind_new (p : Addr → Bool) (g : Addr → Res S α) (k : α → S → Res S β) : (Res.new p g).bind k = .new p fun a => (g a).bind k := rfl
@[simp] theorem thenS_new (ρ : List Sl) (p : Addr → Bool) (g : Addr → Res S α) (k : α → S → Out S) : thenS ρ (.new p g) k = .new p fun a => thenS ρ (g a) k := rfl
@[simp] theorem next_new (p : Addr → Bool) (g : Addr → Out S) (k : ExF S) : (Out.new p g).next k = .new p fun a => (g a).next k := rfl
@[simp] theorem turn_new (p : Addr → Bool) (g : Addr → Out S) (k : ExF S) : (Out.new p g).turn k = .new p fun a => (g a).turn k := rfl
@[simp] theorem endR_new (fr : Bool) (p : Addr → Bool) (g : Addr → Out S) : endR fr (.new p g) = .new p fun a => endR fr (g a) := rfl
@[simp] theorem nextS_ap (ρ : List Sl) (s : S) : (nextS : ExF S) ρ s = .nxt ρ s := rfl
@[simp] theorem ifS_ap (c : EvT' S) (f g : ExF S) (ρ : List Sl) (s : S) : ifS c f g ρ s = thenS ρ (c ρ s) fun b s1 => if b = true then f ρ s1 else g ρ s1 := rfl
@[simp] theorem retV_ap (fr : Bool) (f : EvF S) (ρ : List Sl) (s : S) : retV fr f ρ s = thenS ρ (f ρ s) fun d s1 => .ret fr d s1 := rfl
@[simp] theorem dropS_ap (f : EvF S) (ρ : List Sl) (s : S) : dropS f ρ s = thenS ρ (f ρ s) fun _ s1 => .nxt ρ s1 := rfl
def stoO (o : Option (List Sl)) (s : S) : Out S := match o with
  | some ρ => .nxt ρ s
  | none => .stuck
@[simp] theorem stoO_some (ρ : List Sl) (s : S) : stoO (some ρ) s = .nxt ρ s := rfl
@[simp] theorem asgS_ap (f : EvF S) (g : D → List Sl → Option (List Sl)) (ρ : List Sl) (s : S) : asgS f g ρ s = thenS ρ (f ρ s) fun d s1 => stoO (g d ρ) s1 := by
  unfold asgS stoO
  rfl
def ownD : D → Sl
  | .lst ds => .own ds
  | d => .val d
@[simp] theorem ownD_lst (ds : List D) : ownD (.lst ds) = .own ds := rfl
@[simp] theorem ownS_ap (i : Nat) (f : EvF S) (ρ : List Sl) (s : S) : ownS i f ρ s = thenS ρ (f ρ s) fun d s1 => if i < ρ.length then .nxt (ρ.set i (ownD d)) s1 else .stuck := by
  unfold ownS
  congr 1
  funext d s1
  split
  · cases d <;> rfl
  · rfl
@[simp] theorem relS_val (d : D) : relS (.val d) = .val d := rfl
@[simp] theorem relS_own (ds : List D) : relS (.own ds) = .val (.lst ds) := rfl
@[simp] theorem relS_no : relS .no = .no := rfl
@[simp] theorem relS_ap (is : List Nat) (f : ExF S) (ρ : List Sl) (s : S) : relS' is f ρ s = f (relAll ρ is) s := rfl
@[simp] theorem relAll_nil (ρ : List Sl) : relAll ρ [] = ρ := rfl
@[simp] theorem relAll_cons (ρ : List Sl) (i : Nat) (is : List Nat) : relAll ρ (i :: is) = relAt (relAll ρ is) i := rfl
theorem relAt_def (ρ : List Sl) (i : Nat) : relAt ρ i = match ρ[i]? with
  | some sl => ρ.set i (relS sl)
  | none => ρ := rfl
def slC : Option Sl → S → Res S D
  | some (.val d), s => .ok d s
  | _, _ => .stuck
def slK : Option Sl → S → Res S D
  | some (.val d), s => .ok d s
  | some (.own ds), s => .ok (.lst ds) s
  | some (.lck ds), s => .ok (.lst ds) s
  | _, _ => .stuck
def slS : Option Sl → S → Res S D
  | some (.val d), s => .ok d s
  | some (.lck ds), s => .ok (.lst ds) s
  | _, _ => .stuck
@[simp] theorem slC_val (d : D) (s : S) : slC (some (.val d)) s = .ok d s := rfl
@[simp] theorem slK_val (d : D) (s : S) : slK (some (.val d)) s = .ok d s := rfl
@[simp] theorem slK_own (d : List D) (s : S) : slK (some (.own d)) s = .ok (.lst d) s := rfl
@[simp] theorem slK_lck (d : List D) (s : S) : slK (some (.lck d)) s = .ok (.lst d) s := rfl
@[simp] theorem slS_val (d : D) (s : S) : slS (some (.val d)) s = .ok d s := rfl
@[simp] theorem slS_lck (d : List D) (s : S) : slS (some (.lck d)) s = .ok (.lst d) s := rfl
@[simp] theorem vC_ap (i : Nat) (ρ : List Sl) (s : S) : vC i ρ s = slC ρ[i]? s := by
  unfold vC slC
  cases ρ[i]? with
  | none => rfl
  | some x => cases x <;> rfl
@[simp] theorem vK_ap (i : Nat) (ρ : List Sl) (s : S) : vK i ρ s = slK ρ[i]? s := by
  unfold vK slK
  cases ρ[i]? with
  | none => rfl
  | some x => cases x <;> rfl
@[simp] theorem vS_ap (i : Nat) (ρ : List Sl) (s : S) : vS i ρ s = slS ρ[i]? s := by
  unfold vS slS
  cases ρ[i]? with
  | none => rfl
  | some x => cases x <;> rfl
@[simp] theorem kD_ap (d : D) (ρ : List Sl) (s : S) : kD d ρ s = .ok d s := rfl
@[simp] theorem tN_ap (i : Nat) (d : D) (ρ : List Sl) : tN i d ρ = if i < ρ.length then some (ρ.set i (.val d)) else none := by
  unfold tN
  simp only [decide_eq_true_eq]
def slR : Option Sl → S → Out S
  | some (.val d), s => .ret false d s
  | some (.own ds), s => .ret true (.lst ds) s
  | some (.lck ds), s => .ret true (.lst ds) s
  | _, _ => .stuck
@[simp] theorem slR_val (d : D) (s : S) : slR (some (.val d)) s = .ret false d s := rfl
@[simp] theorem slR_own (d : List D) (s : S) : slR (some (.own d)) s = .ret true (.lst d) s := rfl
@[simp] theorem rN_ap (i : Nat) (ρ : List Sl) (s : S) : rN i ρ s = slR ρ[i]? s := by
  unfold rN slR
  cases ρ[i]? with
  | none => rfl
  | some x => cases x <;> rfl
@[simp] theorem bin_ap (op : D → D → Option D) (f g : EvF S) (ρ : List Sl) (s : S) : bin op f g ρ s = (f ρ s).bind fun x s1 => (g ρ s1).bind fun y s2 => ofO (op x y) s2 := rfl
def chK (op' : D → D → Option D) (fc : EvF S) (ρ : List Sl) (y : D) : D → S → Res S D
  | .bl true, s3 => (fc ρ s3).bind fun w s4 => ofO (op' y w) s4
  | .bl false, s3 => .ok (.bl false) s3
  | _, _ => .stuck
@[simp] theorem chK_bl (op' : D → D → Option D) (fc : EvF S) (ρ : List Sl) (y : D) (b : Bool) (s : S) : chK op' fc ρ y (.bl b) s = if b = true then (fc ρ s).bind fun w s4 => ofO (op' y w) s4 else .ok (.bl false) s := by cases b <;> rfl
@[simp] theorem chain_ap (op op' : D → D → Option D) (fa fb fc : EvF S) (ρ : List Sl) (s : S) : chain op op' fa fb fc ρ s = (fa ρ s).bind fun x s1 => (fb ρ s1).bind fun y s2 => (ofO (op x y) s2).bind (chK op' fc ρ y) := by
  unfold chain
  congr 1; funext x s1; congr 1; funext y s2; congr 1; funext z s3
  cases z with
  | bl b => cases b <;> rfl
  | _ => rfl
@[simp] theorem truth_ap (f : EvF S) (ρ : List Sl) (s : S) : truth f ρ s = (f ρ s).bind fun d s1 => ofO (dTru d) s1 := rfl
def tbK : D → S → Res S Bool
  | .bl b, s => .ok b s
  | _, _ => .stuck
@[simp] theorem tbK_bl (b : Bool) (s : S) : tbK (.bl b) s = .ok b s := rfl
@[simp] theorem testB_ap (f : EvF S) (ρ : List Sl) (s : S) : testB f ρ s = (f ρ s).bind tbK := by
  unfold testB
  congr 1; funext d s1
  cases d <;> rfl
@[simp] theorem notT_ap (f : EvT' S) (ρ : List Sl) (s : S) : notT f ρ s = (f ρ s).bind fun b s1 => .ok (!b) s1 := rfl
@[simp] theorem andT_ap (f g : EvT' S) (ρ : List Sl) (s : S) : andT f g ρ s = (f ρ s).bind fun b s1 => if b = true then g ρ s1 else .ok false s1 := rfl
@[simp] theorem orT_ap (f g : EvT' S) (ρ : List Sl) (s : S) : orT f g ρ s = (f ρ s).bind fun b s1 => if b = true then .ok true s1 else g ρ s1 := rfl
@[simp] theorem andV_ap (f g : EvF S) (ρ : List Sl) (s : S) : andV f g ρ s = (f ρ s).bind fun d s1 => (ofO (dTru d) s1).bind fun b s2 => if b = true then g ρ s2 else .ok d s2 := rfl
@[simp] theorem orV_ap (f g : EvF S) (ρ : List Sl) (s : S) : orV f g ρ s = (f ρ s).bind fun d s1 => (ofO (dTru d) s1).bind fun b s2 => if b = true then .ok d s2 else g ρ s2 := rfl
@[simp] theorem notV_ap (f : EvF S) (ρ : List Sl) (s : S) : notV f ρ s = (f ρ s).bind fun d s1 => (ofO (dTru d) s1).bind fun b s2 => .ok (.bl (!b)) s2 := rfl
@[simp] theorem dTru_bl (b : Bool) : dTru (.bl b) = some b := rfl
def ngK : D → S → Res S D
  | .int i, s => .ok (.int (-i)) s
  | _, _ => .stuck
@[simp] theorem ngK_int (i : Int) (s : S) : ngK (.int i) s = .ok (.int (-i)) s := rfl
@[simp] theorem negV_ap (f : EvF S) (ρ : List Sl) (s : S) : negV f ρ s = (f ρ s).bind ngK := by
  unfold negV
  congr 1; funext d s1
  cases d <;> rfl
@[simp] theorem ifE_ap (c : EvT' S) (f g : EvF S) (ρ : List Sl) (s : S) : ifE c f g ρ s = (c ρ s).bind fun b s1 => if b = true then f ρ s1 else g ρ s1 := rfl
@[simp] theorem nilA_ap (ρ : List Sl) (s : S) : (nilA : EvL' S) ρ s = .ok [] s := rfl
@[simp] theorem consA_ap (f : EvF S) (g : EvL' S) (ρ : List Sl) (s : S) : consA f g ρ s = (f ρ s).bind fun d s1 => (g ρ s1).bind fun ds s2 => .ok (d :: ds) s2 := rfl
@[simp] theorem tupE_ap (f : EvL' S) (ρ : List Sl) (s : S) : tupE f ρ s = (f ρ s).bind fun ds s1 => if ds.length ≤ sizeLine then .ok (.tup ds) s1 else .stuck := rfl
@[simp] theorem lstE_ap (f : EvL' S) (ρ : List Sl) (s : S) : lstE f ρ s = (f ρ s).bind fun ds s1 => if ds.length ≤ sizeLine then .ok (.lst ds) s1 else .stuck := rfl
@[simp] theorem noneO_ap (ρ : List Sl) (s : S) : (noneO : EvO' S) ρ s = .ok none s := rfl
def soK : D → S → Res S (Option Int)
  | .int i, s => .ok (some i) s
  | _, _ => .stuck
@[simp] theorem soK_int (i : Int) (s : S) : soK (.int i) s = .ok (some i) s := rfl
@[simp] theorem someO_ap (f : EvF S) (ρ : List Sl) (s : S) : someO f ρ s = (f ρ s).bind soK := by
  unfold someO
  congr 1; funext d s1
  cases d <;> rfl
@[simp] theorem slE_ap (f : EvF S) (g h : EvO' S) (ρ : List Sl) (s : S) : slE f g h ρ s = (f ρ s).bind fun x s1 => (g ρ s1).bind fun lo s2 => (h ρ s2).bind fun hi s3 => ofO (dSl x lo hi) s3 := rfl
@[simp] theorem revE_ap (f : EvF S) (ρ : List Sl) (s : S) : revE f ρ s = (f ρ s).bind fun d s1 => ofO (dRev d) s1 := rfl
@[simp] theorem isiE_ap (f : EvF S) (T : String) (ρ : List Sl) (s : S) : isiE f T ρ s = (f ρ s).bind fun d s1 => ofO ((dIsi d T).map .bl) s1 := rfl
@[simp] theorem biF_ap (f : List D → Option D) (g : EvL' S) (ρ : List Sl) (s : S) : biF f g ρ s = (g ρ s).bind fun ds s1 => ofO (f ds) s1 := rfl
@[simp] theorem callF_ap (n : Nat) (fr : Bool) (F : List D → S → Res S D) (g : EvL' S) (ρ : List Sl) (s : S) : callF ⟨n, fr, F⟩ g ρ s = (g ρ s).bind fun ds s1 => if ds.length = n then F ds s1 else .stuck := rfl
@[simp] theorem iSeq_ap (f : EvF S) (ρ : List Sl) (s : S) : iSeq f ρ s = (f ρ s).bind fun d s1 => ofO (itemsOf d) s1 := rfl
@[simp] theorem iEnum_ap (f : EvF S) (ρ : List Sl) (s : S) : iEnum f ρ s = (f ρ s).bind fun d s1 => ofO ((seqOf d).map (enumFrom 0)) s1 := rfl
@[simp] theorem iRange1_ap (f : EvF S) (ρ : List Sl) (s : S) : iRange1 f ρ s = (f ρ s).bind fun d s1 => ofO (range1 d) s1 := rfl
@[simp] theorem iRange2_ap (f g : EvF S) (ρ : List Sl) (s : S) : iRange2 f g ρ s = (f ρ s).bind fun d s1 => (g ρ s1).bind fun e s2 => ofO (range2 d e) s2 := rfl
@[simp] theorem iZip_ap (f g : EvF S) (ρ : List Sl) (s : S) : Q.iZip f g ρ s = (f ρ s).bind fun d s1 => (g ρ s1).bind fun e s2 => ofO (zip2 d e) s2 := rfl
@[simp] theorem itemsOf_tup (ds : List D) : itemsOf (.tup ds) = some ds := rfl
@[simp] theorem itemsOf_lst (ds : List D) : itemsOf (.lst ds) = some ds := rfl
@[simp] theorem seqOf_tup (ds : List D) : seqOf (.tup ds) = some ds := rfl
@[simp] theorem seqOf_lst (ds : List D) : seqOf (.lst ds) = some ds := rfl
@[simp] theorem seqOf_scr (ds : List D) : seqOf (.scr ds) = some ds := rfl
@[simp] theorem itemsOf_scr (ds : List D) : itemsOf (.scr ds) = some ds := rfl
@[simp] theorem lcE_ap (fi : EvL' S) (h : D → List Sl → Option (List Sl)) (ft : EvT' S) (fe : EvF S) (vs : List Nat) (ρ : List Sl) (s : S) : lcE fi h ft fe vs ρ s = (fi ρ s).bind fun ds s1 => if vs.any (ownAt ρ) then .stuck else (lcGo h ft fe (wipeR ρ vs) ds s1).bind fun ys s2 => if ys.length ≤ sizeLine then .ok (.lst ys) s2 else .stuck := rfl
@[simp] theorem wipeR_nil (ρ : List Sl) : wipeR ρ [] = ρ := rfl
@[simp] theorem wipeR_cons (ρ : List Sl) (v : Nat) (vs : List Nat) : wipeR ρ (v :: vs) = (wipeR ρ vs).set v .no := rfl
def oaK : Option Sl → Bool
  | some (.own _) => true
  | some (.lck _) => true
  | some (.obj _ _) => true
  | _ => false
@[simp] theorem oaK_val (d : D) : oaK (some (.val d)) = false := rfl
@[simp] theorem oaK_no : oaK (some .no) = false := rfl
@[simp] theorem ownAt_ap (ρ : List Sl) (i : Nat) : ownAt ρ i = oaK ρ[i]? := by
  unfold ownAt oaK
  cases ρ[i]? with
  | none => rfl
  | some sl => cases sl <;> rfl
@[simp] theorem yesT_ap (ρ : List Sl) (s : S) : (yesT : EvT' S) ρ s = .ok true s := rfl
theorem lcGo_cons {h : D → List Sl → Option (List Sl)} {ρ ρ2 : List Sl} {d : D} (e : h d ρ = some ρ2) (ft : EvT' S) (fe : EvF S) (ds : List D) (s : S) : lcGo h ft fe ρ (d :: ds) s = (ft ρ2 s).noErr.bind fun b s1 => if b = true then (fe ρ2 s1).noErr.bind fun y s2 => (lcGo h ft fe ρ ds s2).bind fun ys s3 => .ok (y :: ys) s3 else lcGo h ft fe ρ ds s1 := by
  rw [lcGo, e]
@[simp] theorem gTupD_ap (n : Nat) (g : List D → List Sl → Option (List Sl)) (ds : List D) (ρ : List Sl) : gTupD n g (.tup ds) ρ = if ds.length = n then g ds ρ else none := rfl
@[simp] theorem gsN_ap (ρ : List Sl) : gsN [] ρ = some ρ := rfl
@[simp] theorem gsC_ap (f : D → List Sl → Option (List Sl)) (g : List D → List Sl → Option (List Sl)) (d : D) (ds : List D) (ρ : List Sl) : gsC f g (d :: ds) ρ = (f d ρ).bind fun ρ1 => g ds ρ1 := rfl
@[simp] theorem forS_ap (it : EvL' S) (g : D → List Sl → Option (List Sl)) (body : ExF S) (ρ : List Sl) (s : S) : forS it g body ρ s = thenS ρ (it ρ s) fun ds s1 => forGo g body ds ρ s1 := rfl
@[simp] theorem forGo_nil (g : D → List Sl → Option (List Sl)) (body : ExF S) (ρ : List Sl) (s : S) : forGo g body [] ρ s = .nxt ρ s := rfl
@[simp] theorem turn_nxt (ρ : List Sl) (s : S) (k : ExF S) : (Out.nxt ρ s).turn k = k ρ s := rfl
@[simp] theorem turn_cnt (ρ : List Sl) (s : S) (k : ExF S) : (Out.cnt ρ s).turn k = k ρ s := rfl
@[simp] theorem turn_brk (ρ : List Sl) (s : S) (k : ExF S) : (Out.brk ρ s).turn k = .nxt ρ s := rfl
@[simp] theorem turn_ret (b : Bool) (d : D) (s : S) (k : ExF S) : (Out.ret b d s).turn k = .ret b d s := rfl
theorem forGo_cons {g : D → List Sl → Option (List Sl)} {ρ ρ1 : List Sl} {d : D} (e : g d ρ = some ρ1) (body : ExF S) (ds : List D) (s : S) : forGo g body (d :: ds) ρ s = (body ρ1 s).turn (forGo g body ds) := by
  rw [forGo]
  dsimp only
  rw [e]
@[simp] theorem lockS_nil (f : ExF S) : lockS [] f = f := rfl
@[simp] theorem lockS_cons (i : Nat) (is : List Nat) (f : ExF S) (ρ : List Sl) (s : S) : lockS (i :: is) f ρ s = lock1 i (lockS is f) ρ s := rfl
theorem lock1_val {i : Nat} {ρ : List Sl} {d : D} (h : ρ[i]? = some (.val d)) (f : ExF S) (s : S) : lock1 i f ρ s = f ρ s := by
  unfold lock1
  rw [h]
theorem appS_own {i : Nat} {ρ : List Sl} {ds : List D} (h : ρ[i]? = some (.own ds)) (f : EvF S) (s : S) : appS i f ρ s = thenS ρ (f ρ s) fun d s1 => if ds.length < sizeLine then .nxt (ρ.set i (.own (ds ++ [d]))) s1 else .stuck := by
  unfold appS
  rw [h]
@[simp] theorem endR_ret (d : D) (s : S) (f : Bool) : endR false (.ret f d s) = .ok d s := by
  unfold endR
  simp
@[simp] theorem endR_retT (d : D) (s : S) : endR true (.ret true d s) = .ok d s := by
  unfold endR
  simp
@[simp] theorem endR_nxt (fr : Bool) (ρ : List Sl) (s : S) : endR fr (.nxt ρ s) = .ok .non s := rfl
@[simp] theorem dLe_int (i j : Int) : dLe (.int i) (.int j) = some (.bl (decide (i ≤ j))) := rfl
@[simp] theorem dLt_int (i j : Int) : dLt (.int i) (.int j) = some (.bl (decide (i < j))) := rfl
@[simp] theorem dGt_int (i j : Int) : dGt (.int i) (.int j) = some (.bl (decide (j < i))) := rfl
@[simp] theorem dGe_int (i j : Int) : dGe (.int i) (.int j) = some (.bl (decide (j ≤ i))) := rfl
@[simp] theorem dAdd_int (i j : Int) : dAdd (.int i) (.int j) = some (.int (i + j)) := rfl
@[simp] theorem dSub_int (i j : Int) : dSub (.int i) (.int j) = some (.int (i - j)) := rfl
@[simp] theorem bLen_tup (ds : List D) : bLen [.tup ds] = some (.int ds.length) := rfl
@[simp] theorem bLen_lst (ds : List D) : bLen [.lst ds] = some (.int ds.length) := rfl
@[simp] theorem bLen_scr (ds : List D) : bLen [.scr ds] = some (.int ds.length) := rfl
@[simp] theorem bInt_int (i : Int) : bInt [.int i] = some (.int i) := rfl
@[simp] theorem bInt_bl (b : Bool) : bInt [.bl b] = some (.int (if b then 1 else 0)) := rfl
@[simp] theorem isi_tt (ds : List D) : dIsi (.tup ds) "tuple" = some true := by simp [dIsi, tyN, knownT, isiT]
@[simp] theorem isi_ii (i : Int) : dIsi (.int i) "int" = some true := by simp [dIsi, tyN, knownT, isiT]
@[simp] theorem isi_ib (i : Int) : dIsi (.int i) "bool" = some false := by simp [dIsi, tyN, knownT, isiT]
@[simp] theorem isi_ss (x : Str) : dIsi (.str x) "str" = some true := by simp [dIsi, tyN, knownT, isiT]
end
end Q

/-! Lay26: facts about data; loops by an invariant. -/
namespace Q
open PySem PySem.Spec PyProof.Rows L2
/-- whole numbers as data -/
def iD (l : List Int) : List D := l.map .int
@[simp] theorem iD_nil : iD [] = [] := rfl
@[simp] theorem iD_cons (x : Int) (l : List Int) : iD (x :: l) = .int x :: iD l := rfl
@[simp] theorem iD_len (l : List Int) : (iD l).length = l.length := by simp [iD]
@[simp] theorem intsOf_iD : ∀ l : List Int, intsOf (iD l) = some l
  | [] => rfl
  | x :: l => by simp [intsOf, intsOf_iD l]
@[simp] theorem toPyL_iD : ∀ l : List Int, toPyL (iD l) = some (l.map .int)
  | [] => rfl
  | x :: l => by simp [toPyL, toPy, toPyL_iD l]
theorem canLay_ints : ∀ l : List Int, PyData.canLayAll0 (l.map .int) = true
  | [] => rfl
  | x :: l => by simp [PyData.canLayAll0, PyData.canLay0, canLay_ints l]
theorem depth_iD : ∀ l : List Int, PyData.depthAll (l.map .int) ≤ 1
  | [] => by simp [PyData.depthAll]
  | x :: l => by
    have := depth_iD l
    simp only [List.map_cons, PyData.depthAll, PyData.depth]
    omega
@[simp] theorem shaped_int (x : Int) : SeqAt.shaped (.int x) = true := by simp [SeqAt.shaped, PyData.canLay0, PyData.depth]
@[simp] theorem shaped_ints (l : List Int) : SeqAt.shaped (.list (l.map .int)) = true := by
  have := depth_iD l
  have h : (PyData.list (l.map .int)).depth ≤ 64 := by
    simp only [PyData.depth]
    omega
  simp [SeqAt.shaped, PyData.canLay0, canLay_ints, h]
@[simp] theorem shaped_nil : SeqAt.shaped (.list []) = true := by simpa using shaped_ints []
theorem deq_nil (l : List Int) : deq (.lst (iD l)) (.lst []) = some (l.isEmpty) := by
  cases l <;> simp [deq, toPy, toPyL, PyData.eqv, PyData.eqvAll]
  rename_i x l
  have := shaped_ints (x :: l)
  simp at this
  simp [this]
@[simp] theorem bSum_lst (l : List Int) : bSum [.lst (iD l)] = some (.int l.sum) := by simp [bSum]
@[simp] theorem bSum_tup (l : List Int) : bSum [.tup (iD l)] = some (.int l.sum) := by simp [bSum]
@[simp] theorem bMax_lst (x : Int) (l : List Int) : bMax [.lst (iD (x :: l))] = some (.int (l.foldl max x)) := by
  show (intsOf (iD (x :: l))).bind maxI = _
  rw [intsOf_iD]
  rfl
@[simp] theorem bTuple_lst (ds : List D) : bTuple [.lst ds] = some (.tup ds) := rfl
@[simp] theorem bTuple_tup (ds : List D) : bTuple [.tup ds] = some (.tup ds) := rfl
@[simp] theorem dRev_lst (ds : List D) : dRev (.lst ds) = some (.lst ds.reverse) := rfl
@[simp] theorem dRev_tup (ds : List D) : dRev (.tup ds) = some (.tup ds.reverse) := rfl
theorem ix_at {ds : List D} {i : Nat} {d : D} (h : ds[i]? = some d) : L2.atI ds (i : Int) = some d := by
  have hi : i < ds.length := (List.getElem?_eq_some_iff.mp h).1
  unfold L2.atI ixN
  have h1 : (0 : Int) ≤ (i : Int) ∧ (i : Int) < (ds.length : Int) := by omega
  simp [h1, h]
theorem range1_nat (n : Nat) (h : n < 1000000) : range1 (.int n) = some (rangeD 0 n) := by
  have h1 : (-(2 ^ 62) : Int) ≤ (n : Int) ∧ (n : Int) < 2 ^ 62 := by omega
  simp only [range1]
  rw [if_pos h1, Int.toNat_natCast]
theorem range2_nat (m n : Nat) (h : n < 1000000) (hm : m < 1000000) : range2 (.int m) (.int n) = some (rangeD m (n - m)) := by
  have h1 : (-(2 ^ 62) : Int) ≤ (m : Int) ∧ (m : Int) < 2 ^ 62 ∧ (-(2 ^ 62) : Int) ≤ (n : Int) ∧ (n : Int) < 2 ^ 62 := by omega
  simp only [range2]
  rw [if_pos h1, show ((n : Int) - m).toNat = n - m by omega]
section
variable {S : Type}
theorem lcGo_map {g : D → List Sl → Option (List Sl)} {ft : EvT' S} {fe : EvF S} {ρ : List Sl} {h : D → D} {s : S} : ∀ {ds : List D}, (∀ d ∈ ds, ∃ ρ2, g d ρ = some ρ2 ∧ ft ρ2 s = .ok true s ∧ fe ρ2 s = .ok (h d) s) → lcGo g ft fe ρ ds s = .ok (ds.map h) s
  | [], _ => rfl
  | d :: ds, k => by
    obtain ⟨ρ2, e1, e2, e3⟩ := k d List.mem_cons_self
    rw [lcGo_cons e1, e2]
    simp only [noErr_okS, bind_okS, if_true, e3, lcGo_map fun x hx => k x (List.mem_cons_of_mem _ hx), List.map_cons]
end
end Q

/-! Lay27: the def that begins the drawing state. -/
namespace Q
open PySem PySem.Spec PyProof.Rows L2
def spBegun (K : PySem.W.Frag) : Sp := fun vs H Q _ => ∃ (a : Addr) (ns : List Int), vs = [.ref a] ∧ Frz K H a (ns.map V.int) ∧ ns.length ≤ 63 ∧
  ∀ (ad : Ad) (s : Dw) (H' : Hp), (TD ad).R s H' → s.cells.length = 64 → s.spot = 0 → (∀ b o, H b = some o → H' b = some o) → H ad.m = none → H ad.c = none → H ad.g = none → Q (.ref ad.m) H'
theorem RpL.ints {K : PySem.W.Frag} {H : Hp} {F : Addr → Prop} {vs : List V} {l : List Int} (h : RpL K H F vs (iD l)) : vs = l.map V.int := ints_of h (intsOf_iD l)
theorem rp_ints {K : PySem.W.Frag} {H : Hp} {F : Addr → Prop} : ∀ l : List Int, RpL K H F (l.map V.int) (iD l)
  | [] => .nil
  | x :: l => .cons (.int x) (rp_ints l)
/-- for some context -/
def tEx (K : PySem.W.Frag) (cls : Str → Option Addr) (W : L2.WX) (f : EvF Unit) : TE := fun σ H Q => ∃ C : Cn Unit, C.K = K ∧ C.T = TU ∧ C.cls = cls ∧ tF C W f σ H Q
theorem pe_ex {X : Cx} {K : PySem.W.Frag} {cls : Str → Option Addr} {W : L2.WX} {f : EvF Unit} {e : Expr} (h : ∀ C : Cn Unit, C.K = K → C.T = TU → C.cls = cls → PE X e (tF C W f)) : PE X e (tEx K cls W f) :=
  ⟨fun pins s σ H Q I ⟨C, h1, h2, h3, q⟩ => (h C h1 h2 h3).run pins s σ H Q I q⟩
theorem dw_merge (p c g : Addr) (n : Int) : mergeK [] [(.inr "cells", .ref c), (.inr "great", .ref g), (.inr "spot", .int n)] = dwK ⟨p, c, g⟩ n := by
  have h1 : ¬ ((.inr "cells" : Key) = .inr "great") := by decide
  have h2 : ¬ ((.inr "cells" : Key) = .inr "spot") := by decide
  have h3 : ¬ ((.inr "great" : Key) = .inr "spot") := by decide
  simp [mergeK, putK, dwK, h1, h2, h3]
theorem dw_putG {a : Ad} {n : Int} {g : Addr} : putK (dwK a n) (.inr "great") (.ref g) = dwK ⟨a.m, a.c, g⟩ n := by
  unfold putK dwK
  have h1 : ¬ ((.inr "cells" : Key) = .inr "great") := by decide
  have h2 : ¬ ((.inr "spot" : Key) = .inr "great") := by decide
  simp [h1, h2]
def bEc : List Stmt → Expr
  | [.Assign _ (.Dict _ [e, _, _] _) _, _, _] => e
  | _ => .List [] ⟨0, 0, 0, 0⟩
def bE1 : List Stmt → Expr
  | [_, .Assign _ e _, _] => e
  | _ => .List [] ⟨0, 0, 0, 0⟩
abbrev nBegun : List Str := ["_law_script", "_law_m", "_law_cell"]
theorem begun_ok {P : Program} {w : World} {K : PySem.W.Frag} {mg : Str → Option Value} {base : Heap} {cls : Str → Option Addr} {k : Nat} {f : Addr} {fd : FuncData} {x qual : Str} {params : Arguments} {body : List Stmt} {sco : Scope} {dvs : List V} {kws : List (Str × V)}
    (F : FunD K x qual params body sco dvs kws f fd) (hS : FnScope nBegun ["_law_script"] sco) (G : Gk Unit) (hG : GkM P w K mg base TU cls k G)
    (ec e1 : Expr)
    (hb : ∃ (p1 p2 p3 p4 p8 p9 p10 p11 q1 q2 q3 q4 r1 r2 : Pos) (k1 k2 k3 k4 k5 : Nat), body = [.Assign [.Name "_law_m" p1] (.Dict [some (.Constant (.str "cells") k1 p2), some (.Constant (.str "great") k2 p3), some (.Constant (.str "spot") k3 p4)] [ec, .List [] p8, .Constant (.int 0) k4 p9] p10) p11,
      .Assign [.Subscript (.Name "_law_m" q1) (.Constant (.str "great") k5 q2) q3] e1 q4, .Return (some (.Name "_law_m" r1)) r2])
    (hl : locB sco "_law_m" = true) (ho : okN nBegun sco "_law_m" = some 1)
    {Fo : List D → Unit → Res Unit D} (hec : evB G nBegun 40 sco ec = ⟨true, callF ⟨1, true, Fo⟩ (consA (vC 0) nilA), truth (callF ⟨1, true, Fo⟩ (consA (vC 0) nilA))⟩)
    (he1 : evB G nBegun 40 sco e1 = plain3 (lcE (iSeq (vK 0)) (tN 2) yesT (ifE (testB (bin dGe (vK 2) (bin dPow (kD (.int 10)) (kD (.int 18))))) (vC 2) (kD (.int 0))) [2]))
    (hFo : ∀ ns : List Int, ∃ cells : List Int, cells.length = 64 ∧ Fo [.scr (iD ns)] () = .ok (.lst (iD cells)) ()) :
    FnG P w K mg base (L2.CX P w) (k + 1) f fd ["_law_script"] (spBegun K) := by
  obtain ⟨p1, p2, p3, p4, p8, p9, p10, p11, q1, q2, q3, q4, r1, r2, k1, k2, k3, k4, k5, hb⟩ := hb
  have hsw : ∀ env : Env, swapsWith e1 (some (.Subscript (.Name "_law_m" q1) (.Constant (.str "great") k5 q2) q3)) q4.line env = pure false := fun env => by cases e1 <;> rfl
  obtain ⟨oc, od, dV, kV, doc, pm, an, cdv, ct, osl, rfl, lk, hcd, _, _⟩ := F.ex
  refine fnG_of lk hcd hS (fun vs H Q E h => by obtain ⟨a, ns, rfl, _⟩ := h; rfl) fun A outer s H vs Q E room gd wish => ?_
  let X := cxOf (L2.CX P w) P w K mg base nBegun qual sco f cdv A outer s H E
  let W : L2.WX := fun cl d _ H => E cl d H
  have xd : ∀ C : Cn Unit, C.K = K → Xd C W X nBegun sco := fun C hC => by
    have xk : Xk C W X nBegun sco := ⟨hC, rfl, hS.nd, rfl, rfl, by have := room.un; show (A.deeper _).units + 200 < _; omega, gd, takes_of rfl rfl rfl rfl⟩
    have xs : Xs C X nBegun sco := ⟨hC, rfl, hS.nd, rfl, fun y hy => ⟨locB_ok hy, .inl rfl⟩⟩
    exact { xk with s := xs, own := passes_of rfl, stk := rfl, frm := rfl }
  have g : ∀ C : Cn Unit, C.K = K → C.T = TU → C.cls = cls → GkOk C X G := fun C h1 h2 h3 => gk_of hG h1 h2 h3 rfl rfl rfl rfl rfl room
  have pc : PE X ec (tEx K cls W (callF ⟨1, true, Fo⟩ (consA (vC 0) nilA))) := pe_ex fun C h1 h2 h3 => by
    have h := (ev_ok 40 (xd C h1).toXk (g C h1 h2 h3) ec).toSnd
    rw [hec] at h
    exact h.f rfl
  have p1' : PE X e1 (tEx K cls W (lcE (iSeq (vK 0)) (tN 2) yesT (ifE (testB (bin dGe (vK 2) (bin dPow (kD (.int 10)) (kD (.int 18))))) (vC 2) (kD (.int 0))) [2])) := pe_ex fun C h1 h2 h3 => by
    have h := (ev_ok 40 (xd C h1).toXk (g C h1 h2 h3) e1).toSnd
    rw [he1] at h
    exact h.f rfl
  have pl : PE X (.List [] p8) (tEx K cls W (lstE nilA)) := pe_ex fun C h1 h2 h3 => sd_lst sa_nil
  have pm1 : ∀ pos, PE X (.Name "_law_m" pos) (tVar 1) := fun pos => pe_okN (C := ⟨K, TU, H, (), fun _ => False, cls⟩) (xd _ rfl).toXk ho
  have hu : X.A.units + 200 < cLine := (xd ⟨K, TU, H, (), fun _ => False, cls⟩ rfl).hu
  obtain ⟨hL, hF⟩ := (xd ⟨K, TU, H, (), fun _ => False, cls⟩ rfl).s.loc _ hl
  rw [hb]
  refine ⟨_, pss_cons (ps_set (i := 1) hS.nd rfl hL (pe_disp (pps_cons pe_str pc (pps_cons pe_str pl (pps_cons pe_str pe_int pps_nil))) rfl rfl (by simp) (by simp)) rfl hF)
    (pss_cons (ps_dput (show X.A.units + 1 < cLine by omega) (pm1 _) pe_str p1' (hsw _)) (pss_one (ps_ret (pm1 _)))), ?_⟩
  obtain ⟨a, ns, rfl, hz, hn, hQ⟩ := wish
  obtain ⟨cells, hc64, hcall⟩ := hFo ns
  intro p hp
  have Hp0 : ∀ b o, H b = some o → (upd H p (.dK [])) b = some o := fun b o e => by rw [upd_ne (ne_of_none e hp)]; exact e
  -- the cells
  have fz : ∀ {H' : Hp}, (∀ b o, H b = some o → H' b = some o) → Frz K H' a (ns.map V.int) := fun k => hz.imp (fun ⟨o, e⟩ => ⟨o, k _ _ e⟩) id
  refine ⟨⟨K, TU, upd H p (.dK []), (), fun _ => False, cls⟩, rfl, rfl, rfl, _, (), rel_start (N := nBegun) (vs := [.ref a]) (ds := [.scr (iD ns)]) (.cons (.scr (fz Hp0) (rp_ints ns)) .nil) trivial (fun _ z => z.elim), ?_⟩
  have ev : callF (⟨1, true, Fo⟩ : Fn Unit) (consA (vC 0) nilA) (rho0 nBegun [.scr (iD ns)]) () = .ok (.lst (iD cells)) () := by
    rw [show rho0 nBegun [.scr (iD ns)] = [.val (.scr (iD ns)), .no, .no] from rfl]
    simp [hcall]
  show Run _ _ _ _ _ _ (callF (⟨1, true, Fo⟩ : Fn Unit) (consA (vC 0) nilA) (rho0 nBegun [.scr (iD ns)]) ()) _
  rw [ev]
  intro H1 R1 x1 v1 fr1
  obtain ⟨c, vs1, rfl, hc0, hc1, rc⟩ := fr1.2 _ rfl
  have e1v := rc.ints
  subst e1v
  have k1' : ∀ b o, (upd H p (.dK [])) b = some o → H1 b = some o := fun b o e => x1.keep b o e (fun z => z)
  have hp1 : H1 p = some (.dK []) := k1' p _ upd_same
  have cp : c ≠ p := fun z => by rw [z, upd_same] at hc0; cases hc0
  have Hk1 : ∀ b o, H b = some o → H1 b = some o := fun b o e => k1' b o (Hp0 b o e)
  -- an empty list
  refine ⟨⟨K, TU, H1, (), fun _ => False, cls⟩, rfl, rfl, rfl, _, (), rel_start (N := nBegun) (vs := [.ref a]) (ds := [.scr (iD ns)]) (.cons (.scr (fz Hk1) (rp_ints ns)) .nil) trivial (fun _ z => z.elim), ?_⟩
  show Run _ _ _ _ _ _ (lstE nilA (rho0 nBegun [.scr (iD ns)]) ()) _
  have ev2 : lstE (nilA : EvL' Unit) (rho0 nBegun [.scr (iD ns)]) () = .ok (.lst []) () := by simp
  rw [ev2]
  intro H2 R2 x2 v2 fr2
  obtain ⟨g0, vs2, rfl, hg0, hg1, rg⟩ := fr2.2 _ rfl
  have k2' : ∀ b o, H1 b = some o → H2 b = some o := fun b o e => x2.keep b o e (fun z => z)
  refine ⟨k2' p _ hp1, [(.inr "cells", .ref c), (.inr "great", .ref g0), (.inr "spot", .int 0)], rfl, by simp, ?_⟩
  rw [dw_merge p c g0 0]
  have Hk3 : ∀ b o, H b = some o → (upd H2 p (.dK (dwK ⟨p, c, g0⟩ 0))) b = some o := fun b o e => by rw [upd_ne (ne_of_none e hp)]; exact k2' b o (Hk1 b o e)
  have hc3 : (upd H2 p (.dK (dwK ⟨p, c, g0⟩ 0))) c = some (.lst (cells.map V.int)) := by rw [upd_ne cp]; exact k2' c _ hc1
  have hp3 : (upd H2 p (.dK (dwK ⟨p, c, g0⟩ 0))) p = some (.dK (dwK ⟨p, c, g0⟩ 0)) := upd_same
  generalize hH3 : upd H2 p (.dK (dwK ⟨p, c, g0⟩ 0)) = H3 at Hk3 hc3 hp3 ⊢
  -- the great ones
  have hst : L2.St := []
  refine ⟨⟨K, TU, H3, (), fun _ => False, cls⟩, rfl, rfl, rfl, _, (), rel_start (N := nBegun) (vs := [.ref a, .ref p]) (ds := [.scr (iD ns), .opq (.ref p)]) (.cons (.scr (fz Hk3) (rp_ints ns)) (.cons (.opq _) .nil)) trivial (fun _ z => z.elim), ?_⟩
  have hpw : dPow (.int 10) (.int 18) = some (.int 1000000000000000000) := by kernel_rfl
  have key : ∀ l : List Int, ∃ r : List Int, r.length = l.length ∧ lcGo (S := Unit) (tN 2) yesT (ifE (testB (bin dGe (vK 2) (bin dPow (kD (.int 10)) (kD (.int 18))))) (vC 2) (kD (.int 0))) [.val (.scr (iD ns)), .val (.opq (.ref p)), .no] (iD l) () = .ok (iD r) () := by
    intro l
    induction l with
    | nil => exact ⟨[], rfl, rfl⟩
    | cons y l ih =>
      obtain ⟨r, h1, h2⟩ := ih
      refine ⟨(if 1000000000000000000 ≤ y then y else 0) :: r, by simp [h1], ?_⟩
      rw [iD_cons, lcGo_cons (ρ2 := [.val (.scr (iD ns)), .val (.opq (.ref p)), .val (.int y)]) (by simp)]
      by_cases hy : (1000000000000000000 : Int) ≤ y <;> simp [hpw, hy, h2]
  obtain ⟨great, hgl, hgo⟩ := key ns
  have ev3 : lcE (S := Unit) (iSeq (vK 0)) (tN 2) yesT (ifE (testB (bin dGe (vK 2) (bin dPow (kD (.int 10)) (kD (.int 18))))) (vC 2) (kD (.int 0))) [2] (rho0 nBegun [.scr (iD ns), .opq (.ref p)]) () = .ok (.lst (iD great)) () := by
    have hzl : great.length ≤ sizeLine := by rw [sizeLine_eq]; omega
    rw [show rho0 nBegun [.scr (iD ns), .opq (.ref p)] = [.val (.scr (iD ns)), .val (.opq (.ref p)), .no] from rfl]
    simp [hgo, hzl]
  show Run _ _ _ _ _ _ (lcE (S := Unit) (iSeq (vK 0)) (tN 2) yesT (ifE (testB (bin dGe (vK 2) (bin dPow (kD (.int 10)) (kD (.int 18))))) (vC 2) (kD (.int 0))) [2] (rho0 nBegun [.scr (iD ns), .opq (.ref p)]) ()) _
  rw [ev3]
  intro H4 R4 x4 v4 fr4
  obtain ⟨g1, vs4, rfl, hg40, hg41, rg4⟩ := fr4.2 _ rfl
  have e4v := rg4.ints
  subst e4v
  have k4' : ∀ b o, H3 b = some o → H4 b = some o := fun b o e => x4.keep b o e (fun z => z)
  have hp4 := k4' p _ hp3
  refine ⟨_, rfl, p, _, rfl, DPut.k (k := .inr "great") hp4 (by show 3 < sizeLine; decide), _, rfl, ?_⟩
  rw [dw_putG]
  have gp : g1 ≠ p := fun z => by rw [z, hp3] at hg40; cases hg40
  have cg : c ≠ g1 := fun z => by rw [← z, hc3] at hg40; cases hg40
  refine hQ ⟨p, c, g1⟩ ⟨cells, great, 0⟩ _ ⟨upd_same, ?_, ?_, cg⟩ hc64 rfl (fun b o e => ?_) hp ?_ ?_
  · show upd H4 p _ c = _
    rw [upd_ne cp]; exact k4' c _ hc3
  · show upd H4 p _ g1 = _
    rw [upd_ne gp]; exact hg41
  · rw [upd_ne (ne_of_none e hp)]; exact k4' b o (Hk3 b o e)
  · cases q : H c with
    | none => rfl
    | some o => rw [Hp0 c o q] at hc0; cases hc0
  · cases q : H g1 with
    | none => rfl
    | some o => rw [Hk3 g1 o q] at hg40; cases hg40
end Q

/-! Lay28: the law itself: it begins its state, then runs. -/
namespace Q
open PySem PySem.Spec PyProof.Rows L2
theorem pe_callG {X : Cx} {W : L2.WX} {k : Nat} {f : Addr} {fd : FuncData} {ps : List Str} {sp : Sp} {x : Str} {e : Expr} {es : List Expr} {p pos : Pos} {ta : TA} (F : FnG X.prog X.w X.K X.mg X.base (L2.CX X.prog X.w) k f fd ps sp) (hr : Room k X.A) (hgd : X.A.guards = some []) (tk : Takes X W)
    (h1 : Gl X x) (h2 : (x == ("__debug__" : Str)) = false) (hm : X.mg x = some (.ref f)) (hk : PySem.W.keepIn X.K (.ref f) = true) (hb : Binds X.K fd ps []) (ha : PA X (e :: es) ta) (hs : (e :: es).all (fun e => !isStar e) = true) :
    PE X (.Call (.Name x p) (e :: es) [] pos) (fun σ H Q => ta σ H fun vs H1 => sp vs H1 Q (WE W σ)) := by
  simp only [List.all_cons, Bool.and_eq_true, Bool.not_eq_true'] at hs
  refine ⟨fun pins s σ H Q I h => ?_⟩
  refine wpAny_Call_Name_kw (ld_glob I h1 hm ?_ h2)
  refine PySem.W.callWith_K (h₀ := X.base) I.ok.mod.kin hk (thn (ha.run pos pins s σ H _ I h) fun us s1 ⟨vs, H1, I1, r, q⟩ => ⟨I1.kIn, ?_⟩) (star_no hs.1) (star_back hs.2)
  exact run_fnG (E := WE W) F hr hgd hb (passAt tk σ) I1 r q
end Q

/-! Lay29: sets of whole numbers, in order. -/
namespace Q
open PySem PySem.Spec PyProof.Rows L2
/-! ### set(list of ints) -/
abbrev oS (w : World) : Obj := { cls := .type "set", dict := none, data := .set #[] 0 (.fresh 0 0 (!w.params.followText "set-order")) }
section
variable {P : Program} {w : World} {A : Around} {E : Value → Shared → Prop} {s : Shared}
set_option maxHeartbeats 3200000 in
theorem set_lstI {l : Addr} {its : Array Value} (ns : List Int) {R : Value → Shared → Prop} (ha : A.handled = none) (il : s.heap.IsList l its) (ii : IntsAre its.toList ns) (hs : ns.length + 1 < scanBound)
    (kk : ∀ (h' : Heap) (t c : Nat), SetR w h' s.heap.objs.size (fun j => decide (j ∈ ns)) c → c ≤ ns.length → (∀ b o, s.heap.get? b = some o → h'.get? b = some o) → R (.ref s.heap.objs.size) { s with heap := h', toks := t }) :
    wpAny (model P w) A (call (.type "set") [.ref l]) R E s := by
  have sz : its.size = ns.length := by simpa using IntsAre.length ii
  obtain ⟨c0, t0, m0⟩ := F.called_set.mro
  have m1 := F.called_set.made
  have m2 := F.called_set.sub
  refine wpAny_call (codeAny_of_tree (show wpAny _ _ (callAny (.type "set") _) _ _ _ from ?_))
  refine wpAny_pure ⟨Code.quiet_builtin _ (by decide +kernel), codeAny_builtin F.entry_type_call ?_⟩
  rw [Around.under_plain (weight_type_call_type "set" [.ref l] []) rfl]
  have m3 := F.called_set.notType
  have m4 := F.called_set.canCreate
  have m5 := F.typeCall_set_1 (.ref l)
  repeat (any_goals (first | assumption | wp_step))
  refine codeAny_mono (code_set_led1 (.ref l) (E := E) (Q₁ := fun o s1 => o = .ref s.heap.objs.size ∧ s1 = { s with heap := s.heap.push (oS w) }) ⟨rfl, rfl⟩) fun r s1 hr => ?_
  cases r with
  | error e => exact hr
  | ok fl =>
    cases fl with
    | ret o =>
      obtain ⟨rfl, rfl⟩ := hr
      have g0 : (s.heap.push (oS w)).get? s.heap.objs.size = some (oS w) := Heap.get?_push_size _ rfl
      have ty : Shared.TypeIs { s with heap := s.heap.push (oS w) } (.ref s.heap.objs.size) "set" := ⟨_, g0, rfl⟩
      have i1 := F.called_set.init.lookup
      have i2 := F.called_set.init.bind (.ref s.heap.objs.size)
      repeat (any_goals (first | assumption | wp_step))
      refine codeAny_mono (codeAny_call_builtin (R := wants (fun r s2 => r = .none ∧ ∃ h' t c, s2 = { s with heap := h', toks := t } ∧ SetR w h' s.heap.objs.size (fun j => decide (j ∈ ns)) c ∧ c ≤ ns.length ∧ ∀ b o, s.heap.get? b = some o → h'.get? b = some o) E) F.called_set.init.plain F.entry_set_init (check_set_init_1 ty ?_)) fun r2 s2 hr2 => ?_
      · obtain ⟨⟨oc, od, ot, os⟩, e0, e1, n0, e2⟩ := il
        simp only at e1 e2
        subst e1 e2
        have e3 : (s.heap.push (oS w)).get? l = some { cls := .type "list", dict := od, data := .seq its n0, slots := os } := Heap.get?_push_of_some _ e0
        have u1 := F.sub_list_set
        have u2 := F.sub_list_frozenset
        have u3 : (Value.type "list" == Value.type "dict") = false := by decide
        have il1 : (s.heap.push (oS w)).IsList l its := ⟨_, e3, rfl, n0, rfl⟩
        unfold Builtin.«set.__init__» noKeywords Builtin.Frozenset.updateFrom
        generalize hq : pyIter = qq
        wp_walk
        subst hq
        refine wpAny_pyIter_list il1 (wpAny_bind (wpAny_runValue ?_))
        have lt : l < s.heap.objs.size := Heap.lt_size e0
        have zz : (s.heap.push (oS w)).objs.size = s.heap.objs.size + 1 := Heap.size_push ..
        have na : A.in1.in1.in1.handled = none := by simp [ha]
        have n1 : l ≠ (s.heap.push (oS w)).objs.size := by rw [zz]; exact Nat.ne_of_lt (Nat.lt_succ_of_lt lt)
        have n2 : s.heap.objs.size ∉ [(s.heap.push (oS w)).objs.size, l] := by
          rw [zz]
          intro hm
          rcases List.mem_cons.mp hm with e | e
          · exact absurd e (Nat.ne_of_lt (Nat.lt_succ_self _))
          · exact absurd (List.mem_singleton.mp e) (Nat.ne_of_gt lt)
        have vv : ∀ (i : Nat) (v : Value), its[i]? = some v → ∃ k t, ns[i]? = some k ∧ v = .int k t := fun i v hv => by
          have hi : i < ns.length := by rw [← sz]; exact (Array.getElem?_eq_some_iff.mp hv).1
          obtain ⟨t, e⟩ := PyProof.Rows.IntsAre.int_at ii i v (by rw [Array.getElem?_toList]; exact hv)
          exact ⟨ns[i], t, List.getElem?_eq_getElem hi, by rw [e, List.getD_eq_getElem?_getD, List.getElem?_eq_getElem hi] <;> rfl⟩
        refine set_update_ints (Walks.list na _ l n1 its).toS s.heap.objs.size n2 ns sz hs vv (its.size - 0) 0 _ (by omega) (Nat.zero_le _) ⟨⟨_, Heap.get?_push_size _ rfl, rfl, rfl⟩, il1.push _⟩ ?a0 ?a1
        case a0 => exact ⟨0, Nat.le_refl 0, setR_new_at (Heap.get?_push_of_some _ g0)⟩
        case a1 =>
          rintro ⟨h', g', d', t', o'⟩ c' mv le sr
          have q1 : g' = s.gens := mv.gens
          have q2 : d' = s.drawn := mv.drawn
          have q3 : o' = s.os := mv.os
          subst q1 q2 q3
          refine wpAny_pure (show wpAny _ _ (ret Value.none) _ _ _ from ?_)
          rw [sz] at le
          refine wpAny_pure ⟨rfl, h', t', c', rfl, sr, le, fun b o e => ?_⟩
          have bl : b < s.heap.objs.size := Heap.lt_size e
          refine mv.heap b o (fun hm => ?_) (Heap.get?_push_of_some _ (Heap.get?_push_of_some _ e))
          rw [zz] at hm
          rcases List.mem_cons.mp hm with e | e
          · exact absurd e (Nat.ne_of_lt bl)
          · exact absurd (List.mem_singleton.mp e) (Nat.ne_of_lt (Nat.lt_succ_of_lt bl))
      · cases r2 with
        | error e => exact hr2
        | ok f2 =>
          cases f2 with
          | ret r =>
            obtain ⟨rfl, h', t, c', rfl, sr, le, k'⟩ := hr2
            repeat (any_goals (first | assumption | wp_step))
            exact kk _ _ _ sr le k'
          | _ => exact hr2.elim
    | _ => exact hr.elim
set_option maxHeartbeats 3200000 in
theorem set_tupI {l : Addr} {its : Array Value} (ns : List Int) {R : Value → Shared → Prop} (ha : A.handled = none) (il : s.heap.IsTuple l its) (ii : IntsAre its.toList ns) (hs : ns.length + 1 < scanBound)
    (kk : ∀ (h' : Heap) (t c : Nat), SetR w h' s.heap.objs.size (fun j => decide (j ∈ ns)) c → c ≤ ns.length → (∀ b o, s.heap.get? b = some o → h'.get? b = some o) → R (.ref s.heap.objs.size) { s with heap := h', toks := t }) :
    wpAny (model P w) A (call (.type "set") [.ref l]) R E s := by
  have sz : its.size = ns.length := by simpa using IntsAre.length ii
  obtain ⟨c0, t0, m0⟩ := F.called_set.mro
  have m1 := F.called_set.made
  have m2 := F.called_set.sub
  refine wpAny_call (codeAny_of_tree (show wpAny _ _ (callAny (.type "set") _) _ _ _ from ?_))
  refine wpAny_pure ⟨Code.quiet_builtin _ (by decide +kernel), codeAny_builtin F.entry_type_call ?_⟩
  rw [Around.under_plain (weight_type_call_type "set" [.ref l] []) rfl]
  have m3 := F.called_set.notType
  have m4 := F.called_set.canCreate
  have m5 := F.typeCall_set_1 (.ref l)
  repeat (any_goals (first | assumption | wp_step))
  refine codeAny_mono (code_set_led1 (.ref l) (E := E) (Q₁ := fun o s1 => o = .ref s.heap.objs.size ∧ s1 = { s with heap := s.heap.push (oS w) }) ⟨rfl, rfl⟩) fun r s1 hr => ?_
  cases r with
  | error e => exact hr
  | ok fl =>
    cases fl with
    | ret o =>
      obtain ⟨rfl, rfl⟩ := hr
      have g0 : (s.heap.push (oS w)).get? s.heap.objs.size = some (oS w) := Heap.get?_push_size _ rfl
      have ty : Shared.TypeIs { s with heap := s.heap.push (oS w) } (.ref s.heap.objs.size) "set" := ⟨_, g0, rfl⟩
      have i1 := F.called_set.init.lookup
      have i2 := F.called_set.init.bind (.ref s.heap.objs.size)
      repeat (any_goals (first | assumption | wp_step))
      refine codeAny_mono (codeAny_call_builtin (R := wants (fun r s2 => r = .none ∧ ∃ h' t c, s2 = { s with heap := h', toks := t } ∧ SetR w h' s.heap.objs.size (fun j => decide (j ∈ ns)) c ∧ c ≤ ns.length ∧ ∀ b o, s.heap.get? b = some o → h'.get? b = some o) E) F.called_set.init.plain F.entry_set_init (check_set_init_1 ty ?_)) fun r2 s2 hr2 => ?_
      · obtain ⟨⟨oc, od, ot, os⟩, e0, e1, n0, e2⟩ := il
        simp only at e1 e2
        subst e1 e2
        have e3 : (s.heap.push (oS w)).get? l = some { cls := .type "tuple", dict := od, data := .seq its n0, slots := os } := Heap.get?_push_of_some _ e0
        have u1 := F.sub_tuple_set
        have u2 := F.sub_tuple_frozenset
        have u3 : (Value.type "tuple" == Value.type "dict") = false := by decide
        have il1 : (s.heap.push (oS w)).IsTuple l its := ⟨_, e3, rfl, n0, rfl⟩
        unfold Builtin.«set.__init__» noKeywords Builtin.Frozenset.updateFrom
        generalize hq : pyIter = qq
        wp_walk
        subst hq
        refine wpAny_pyIter_tuple il1 (wpAny_bind (wpAny_runValue ?_))
        have lt : l < s.heap.objs.size := Heap.lt_size e0
        have zz : (s.heap.push (oS w)).objs.size = s.heap.objs.size + 1 := Heap.size_push ..
        have na : A.in1.in1.in1.handled = none := by simp [ha]
        have n1 : l ≠ (s.heap.push (oS w)).objs.size := by rw [zz]; exact Nat.ne_of_lt (Nat.lt_succ_of_lt lt)
        have n2 : s.heap.objs.size ∉ [(s.heap.push (oS w)).objs.size, l] := by
          rw [zz]
          intro hm
          rcases List.mem_cons.mp hm with e | e
          · exact absurd e (Nat.ne_of_lt (Nat.lt_succ_self _))
          · exact absurd (List.mem_singleton.mp e) (Nat.ne_of_gt lt)
        have vv : ∀ (i : Nat) (v : Value), its[i]? = some v → ∃ k t, ns[i]? = some k ∧ v = .int k t := fun i v hv => by
          have hi : i < ns.length := by rw [← sz]; exact (Array.getElem?_eq_some_iff.mp hv).1
          obtain ⟨t, e⟩ := PyProof.Rows.IntsAre.int_at ii i v (by rw [Array.getElem?_toList]; exact hv)
          exact ⟨ns[i], t, List.getElem?_eq_getElem hi, by rw [e, List.getD_eq_getElem?_getD, List.getElem?_eq_getElem hi] <;> rfl⟩
        refine set_update_ints (Walks.tuple na _ l n1 its).toS s.heap.objs.size n2 ns sz hs vv (its.size - 0) 0 _ (by omega) (Nat.zero_le _) ⟨⟨_, Heap.get?_push_size _ rfl, rfl, rfl⟩, il1.push _⟩ ?a0 ?a1
        case a0 => exact ⟨0, Nat.le_refl 0, setR_new_at (Heap.get?_push_of_some _ g0)⟩
        case a1 =>
          rintro ⟨h', g', d', t', o'⟩ c' mv le sr
          have q1 : g' = s.gens := mv.gens
          have q2 : d' = s.drawn := mv.drawn
          have q3 : o' = s.os := mv.os
          subst q1 q2 q3
          refine wpAny_pure (show wpAny _ _ (ret Value.none) _ _ _ from ?_)
          rw [sz] at le
          refine wpAny_pure ⟨rfl, h', t', c', rfl, sr, le, fun b o e => ?_⟩
          have bl : b < s.heap.objs.size := Heap.lt_size e
          refine mv.heap b o (fun hm => ?_) (Heap.get?_push_of_some _ (Heap.get?_push_of_some _ e))
          rw [zz] at hm
          rcases List.mem_cons.mp hm with e | e
          · exact absurd e (Nat.ne_of_lt bl)
          · exact absurd (List.mem_singleton.mp e) (Nat.ne_of_lt (Nat.lt_succ_of_lt bl))
      · cases r2 with
        | error e => exact hr2
        | ok f2 =>
          cases f2 with
          | ret r =>
            obtain ⟨rfl, h', t, c', rfl, sr, le, k'⟩ := hr2
            repeat (any_goals (first | assumption | wp_step))
            exact kk _ _ _ sr le k'
          | _ => exact hr2.elim
    | _ => exact hr.elim
end
/-! ### sorted(set(list)) -/
def rSetL (K : PySem.W.Frag) (w : World) : List V → Hp → VK → Prop := fun xs H Q => ∃ (l : Addr) (ns : List Int), xs = [.ref l] ∧ (SqL K H l (ns.map V.int) ∨ SqT K H l (ns.map V.int)) ∧ ns.length ≤ 1000 ∧ ∀ p n, H p = none → n ≤ ns.length → Q (.ref p) (upd H p (SetO w p (fun j => decide (j ∈ ns)) n))
theorem cr_setL {X : Cx} (hc : X.calm = true) : CallR X (.type "set") (rSetL X.K X.w) := by
  intro pins s σ H vs us Q I r h
  obtain ⟨l, ns, rfl, hs, hl, q⟩ := h
  rw [Vals.ref1 r]
  rcases hs with hs | hs
  · obtain ⟨its, rv, ⟨o, n, ho, hcl, hdn, hd⟩, hz⟩ := I.list hs
    refine set_lstI ns (I.ok.hd hc) (its := its.toArray) ⟨o, ho, hcl, n, hd⟩ (ints_of_vals rv) (by unfold scanBound; omega) fun h' t c R le k => ?_
    exact ⟨.ref _, upd H s.heap.objs.size (SetO X.w s.heap.objs.size (fun j => decide (j ∈ ns)) c), I.laid (t' := t) k (Nat.le_refl _) (setO_new R), rfl, q _ _ (I.hok.fresh (Nat.le_refl _)) le⟩
  · obtain ⟨its, rv, ht, _⟩ := I.tuple hs
    refine set_tupI ns (I.ok.hd hc) (its := its.toArray) ht (ints_of_vals rv) (by unfold scanBound; omega) fun h' t c R le k => ?_
    exact ⟨.ref _, upd H s.heap.objs.size (SetO X.w s.heap.objs.size (fun j => decide (j ∈ ns)) c), I.laid (t' := t) k (Nat.le_refl _) (setO_new R), rfl, q _ _ (I.hok.fresh (Nat.le_refl _)) le⟩
/-- ascending, each once -/
def insU (x : Int) : List Int → List Int
  | [] => [x]
  | y :: r => if x < y then x :: y :: r else if x = y then y :: r else y :: insU x r
def srtU (l : List Int) : List Int := l.foldr insU []
theorem mem_insU {x z : Int} : ∀ {l : List Int}, z ∈ insU x l ↔ z = x ∨ z ∈ l
  | [] => by simp [insU]
  | y :: r => by
    unfold insU
    split
    · simp
    · split
      · rename_i h; subst h; simp
      · simp only [List.mem_cons, mem_insU (l := r)]
        constructor
        · rintro (h | h | h) <;> simp [h]
        · rintro (h | h | h) <;> simp [h]
theorem mem_srtU {z : Int} : ∀ {l : List Int}, z ∈ srtU l ↔ z ∈ l
  | [] => by simp [srtU]
  | y :: r => by
    show z ∈ insU y (srtU r) ↔ _
    rw [mem_insU, mem_srtU (l := r), List.mem_cons]
theorem asc_insU {x : Int} : ∀ {l : List Int}, l.Pairwise (· < ·) → (insU x l).Pairwise (· < ·)
  | [], _ => by simp [insU]
  | y :: r, h => by
    obtain ⟨h1, h2⟩ := List.pairwise_cons.mp h
    unfold insU
    split
    · rename_i hx
      refine List.pairwise_cons.mpr ⟨fun z hz => ?_, h⟩
      rcases List.mem_cons.mp hz with rfl | hz
      · exact hx
      · have := h1 z hz; omega
    · split
      · exact h
      · refine List.pairwise_cons.mpr ⟨fun z hz => ?_, asc_insU h2⟩
        rcases mem_insU.mp hz with rfl | hz
        · omega
        · exact h1 z hz
theorem asc_srtU : ∀ l : List Int, (srtU l).Pairwise (· < ·)
  | [] => by simp [srtU]
  | _ :: r => asc_insU (asc_srtU r)
/-- two ascending lists with the same members are one -/
theorem asc_ext : ∀ {a b : List Int}, a.Pairwise (· < ·) → b.Pairwise (· < ·) → (∀ z, z ∈ a ↔ z ∈ b) → a = b
  | [], [], _, _, _ => rfl
  | [], y :: b, _, _, h => by have := (h y).mpr (by simp); simp at this
  | x :: a, [], _, _, h => by have := (h x).mp (by simp); simp at this
  | x :: a, y :: b, ha, hb, h => by
    obtain ⟨a1, a2⟩ := List.pairwise_cons.mp ha
    obtain ⟨b1, b2⟩ := List.pairwise_cons.mp hb
    have e : x = y := by
      have h1 := (h x).mp (by simp)
      have h2 := (h y).mpr (by simp)
      rcases List.mem_cons.mp h1 with z | z
      · exact z
      · rcases List.mem_cons.mp h2 with z' | z'
        · exact z'.symm
        · have := b1 x z; have := a1 y z'; omega
    subst e
    congr 1
    refine asc_ext a2 b2 fun z => ⟨fun hz => ?_, fun hz => ?_⟩
    · rcases List.mem_cons.mp ((h z).mp (List.mem_cons_of_mem _ hz)) with e | q
      · have := a1 z hz; omega
      · exact q
    · rcases List.mem_cons.mp ((h z).mpr (List.mem_cons_of_mem _ hz)) with e | q
      · have := b1 z hz; omega
      · exact q
def dSrtU : D → Option D
  | .lst ds => (intsOf ds).bind fun ns => if ns.length < 64 then some (.lst (iD (srtU ns))) else none
  | .tup ds => (intsOf ds).bind fun ns => if ns.length < 64 then some (.lst (iD (srtU ns))) else none
  | _ => none
section
variable {S : Type} {C : Cn S} {W : L2.WX} {X : Cx}
def ssE (f : EvF S) : EvF S := fun ρ s => (f ρ s).bind fun d s1 => ofO (dSrtU d) s1
theorem bt_set : bootBuiltins (Str.ofString "set") = some (.type "set") := by decide +kernel
theorem bt_sorted : bootBuiltins (Str.ofString "sorted") = some (.builtin "sorted") := by decide +kernel
theorem sd_srtU {N : List Str} {sc : Scope} (k : Xk C W X N sc) {e : Expr} {p p2 pos pos2 : Pos} {f : EvF S} (g1 : glB sc "sorted" = true) (g2 : glB sc "set" = true) (m1 : X.mg "sorted" = none) (m2 : X.mg "set" = none) (hs : isStar e = false) (he : PE X e (tK C W f)) :
    PE X (.Call (.Name "sorted" p) [.Call (.Name "set" p2) [e] [] pos2] [] pos) (tF C W (ssE f)) := by
  obtain ⟨a1, a2, a3⟩ := gl_of k g1
  obtain ⟨b1, b2, b3⟩ := gl_of k g2
  refine pe_mono (pe_callB (cr_sortedSet k.calm) a1 m1 bt_sorted (pa_cons (pe_callTy (cr_setL k.calm) b1 m2 bt_set (pa_cons he pa_nil (star_no hs)) b3 b2 (star_no hs) (star_back (by rfl))) pa_nil) a3 a2) fun σ H Q ⟨P, s, R, q⟩ => ⟨P, s, R, q.bind.mono fun d s1 H1 R1 x1 q1 v tv => ?_⟩
  obtain ⟨d', e1, kk⟩ := run_ofO q1
  cases d with
  | lst ds =>
    simp only [dSrtU, Option.bind_eq_some_iff] at e1
    obtain ⟨ns, e2, e3⟩ := e1
    split at e3
    · rename_i hl
      cases e3
      obtain ⟨a, vs, rfl, ha, rv⟩ := tv.lst
      have := ints_of rv e2
      subst this
      refine ⟨a, ns, rfl, .inl (.inl (.inl ha)), by omega, fun p n hp hn => ?_⟩
      refine ⟨p, _, n, rfl, upd_same, by omega, fun ms l asc mem len hl => ?_⟩
      have em : ms = srtU ns := asc_ext asc (asc_srtU ns) fun z => by rw [mem z, mem_srtU]; simp
      subst em
      have x2 : Xt C.T s1 s1 H1 (upd H1 p (SetO X.w p (fun j => decide (j ∈ ns)) n)) := Xt.new hp
      have R2 := R1.new (o := SetO X.w p (fun j => decide (j ∈ ns)) n) hp
      exact kk _ (R2.new hl) (x2.trans (Xt.new hl)) _ ((Fr.newL R2 hl (rp_ints (srtU ns))).back (x1.trans x2))
    · cases e3
  | tup ds =>
    simp only [dSrtU, Option.bind_eq_some_iff] at e1
    obtain ⟨ns, e2, e3⟩ := e1
    split at e3
    · rename_i hl
      cases e3
      obtain ⟨a, vs, rfl, ha, rv⟩ := tv.tup
      have := ints_of rv e2
      subst this
      refine ⟨a, ns, rfl, .inr (by rw [← k.K]; exact ha), by omega, fun p n hp hn => ?_⟩
      refine ⟨p, _, n, rfl, upd_same, by omega, fun ms l asc mem len hl => ?_⟩
      have em : ms = srtU ns := asc_ext asc (asc_srtU ns) fun z => by rw [mem z, mem_srtU]; simp
      subst em
      have x2 : Xt C.T s1 s1 H1 (upd H1 p (SetO X.w p (fun j => decide (j ∈ ns)) n)) := Xt.new hp
      have R2 := R1.new (o := SetO X.w p (fun j => decide (j ∈ ns)) n) hp
      exact kk _ (R2.new hl) (x2.trans (Xt.new hl)) _ ((Fr.newL R2 hl (rp_ints (srtU ns))).back (x1.trans x2))
    · cases e3
  | _ => simp [dSrtU] at e1
end
end Q

/-! Lay29b: stores into slices of own lists, augmented items of own lists. -/
namespace Q
open PySem PySem.Spec PyProof.Rows L2
section
variable {X : Cx}
theorem get_list : PGet X (rIxL X.K) := by
  intro pins s σ H o i ov iv Q I ro ri h
  obtain ⟨p, xs, k, z, rfl, rfl, hq, he, q⟩ := h
  cases ro
  obtain ⟨t, rfl⟩ := ri
  obtain ⟨its, r, pl, hz⟩ := I.list hq
  obtain ⟨j, h1, h2, h3, h4, h5⟩ := atI_get he
  obtain ⟨w, ew, rw'⟩ := r.get h2
  have hl := r.length
  have hn := line63
  have fin : EP X pins σ Q w s := ⟨z, H, I, rw', q⟩
  by_cases h0 : 0 ≤ k
  · have hj : k.toNat = j := by
      rw [seqIndex_of h0 h5] at h1
      exact Option.some.inj h1
    exact wpAny_getItem_list pl.isList h0 (by omega) (by rw [hj]; simpa using ew) fin
  · have hj : (k + (its.toArray.size : Int)).toNat = j := by
      rw [seqIndex_neg (by omega) h4] at h1
      rw [List.size_toArray, ← hl]
      exact Option.some.inj h1
    exact wpAny_getItem_list_neg pl.isList (by omega) (by rw [List.size_toArray] <;> omega) (by omega) (by rw [hj]; simpa using ew) fin
/-- o[a:c] = v -/
def gSlc (to tl th : TE) : TG := fun v σ H Q => to σ H fun o H1 => tl σ H1 fun a H2 => th σ H2 fun c H3 => ∃ p xs b ys ai ci, o = .ref p ∧ v = .ref b ∧ a = .int ai ∧ c = .int ci ∧ H3 p = some (.lst xs) ∧ H3 b = some (.lst ys) ∧ p ≠ b ∧ 0 ≤ ai ∧ ai ≤ ci ∧ ci ≤ (xs.length : Int) ∧ xs.length + ys.length ≤ sizeLine ∧ Q σ (upd H3 p (.lst (xs.take ai.toNat ++ ys ++ xs.drop ci.toNat)))
theorem pg_slc {o lo hi : Expr} {p2 pos : Pos} {to tl th : TE} (ho : PE X o to) (hl : PE X lo tl) (hh : PE X hi th) : PG X (.Subscript o (.Slice (some lo) (some hi) none p2) pos) (gSlc to tl th) := by
  refine ⟨fun pins s σ H v u Q I r h => ?_⟩
  show wpAny (model X.prog X.w) X.A (do
      let ov ← holding [u] (eval o X.env)
      let iv ← holding [u, ov] (eval (.Slice (some lo) (some hi) none p2) X.env)
      standAt pos
      holding [u, ov, iv] (setItem ov iv u)
      release [iv, u, ov] []) _ _ _
  refine wpAny_bind (wpAny_holding (thn (ho.run pins s σ H _ I h) fun ov s1 ⟨x, H1, I1, r1, q1⟩ => ?_))
  refine wpAny_bind (wpAny_holding ?_)
  refine wpAny_Slice ?_
  refine thn (hl.run pins s1 σ H1 _ I1 q1) fun vl s2 ⟨l, H2, I2, pl, q2⟩ => ?_
  refine thn (hh.run pins s2 σ H2 _ I2 q2) fun vu s3 ⟨c, H3, I3, pu, q3⟩ => ?_
  rw [evalPart_none]
  refine wpAny_pure ?_
  obtain ⟨p, xs, b, ys, ai, ci, rfl, rfl, rfl, rfl, h1, h2, hne, h0, hac, hc, hz, q⟩ := q3
  cases r1
  cases r
  have I4 : Inv X pins σ H3 { s3 with heap := s3.heap.push { cls := .type "slice", data := .fields #[vl, vu, .none] } } := I3.kept (t' := s3.toks) fun b ob q => Heap.get?_push_of_some _ q
  refine wpAny_bind (wpAny_standAt (wpAny_bind (wpAny_holding ?_)))
  exact set_slice I4 h1 h2 hne (Heap.IsSliceOf.new ..) pl pu h0 hac hc hz fun s' I5 => wpAny_release ⟨σ, _, I5, q⟩
end
section
variable {S : Type} {C : Cn S} {W : L2.WX} {X : Cx}
/-- x[a:c] = e, of an own list -/
def setSlS (i : Nat) (fe fa fc : EvF S) : ExF S := fun ρ s => match ρ[i]? with
  | some (.own ds) => thenS ρ (fe ρ s) fun d s1 => thenS ρ (fa ρ s1) fun a s2 => thenS ρ (fc ρ s2) fun c s3 => match d, a, c with
    | .lst es, .int a, .int c => if 0 ≤ a ∧ a ≤ c ∧ c ≤ (ds.length : Int) ∧ ds.length + es.length ≤ sizeLine then .nxt (ρ.set i (.own (ds.take a.toNat ++ es ++ ds.drop c.toNat))) s3 else .stuck
    | _, _, _ => .stuck
  | _ => .stuck
theorem sx_setSl {N : List Str} {sc : Scope} (k : Xd C W X N sc) {x : Str} {i : Nat} {a c e : Expr} {p p2 tp pos : Pos} {fe fa fc : EvF S} (hi : okN N sc x = some i) (hc : isComp e = false) (hw : swappedStores [.Subscript (.Name x p) (.Slice (some a) (some c) none p2) tp] e X.env = pure none) (he : PE X e (tP C W fe)) (ha : PE X a (tK C W fa)) (hcc : PE X c (tK C W fc)) :
    PS X (.Assign [.Subscript (.Name x p) (.Slice (some a) (some c) none p2) tp] e pos) (tS C W (setSlS i fe fa fc)) := by
  refine ps_mono (ps_asg he (pg_slc (pe_okN k.toXk hi) ha hcc) (sole_no hc) hw rfl) fun D σ H ⟨P, s, R, q⟩ => ?_
  unfold setSlS at q
  split at q
  · rename_i ds hd
    refine ⟨P, s, R, q.run.mono fun d s1 H1 R1 x1 q1 v rv => ?_⟩
    have o1 : OwnOk C P σ H1 s1 i (.lst, ds) := R1.slot i _ hd
    refine ⟨_, o1.at_, P, s1, R1, q1.run.mono fun z s2 H2 R2 x2 q2 w tw => ?_⟩
    refine ⟨P, s2, R2, q2.run.mono fun c s3 H3 R3 x3 q3 w3 tw3 => ?_⟩
    have o3 : OwnOk C P σ H3 s3 i (.lst, ds) := R3.slot i _ hd
    obtain ⟨ws, g1, g2⟩ := o3.isL
    split at q3
    · rename_i es ai ci
      split at q3
      · rename_i hq
        obtain ⟨b1, b2, b3, b4⟩ := hq
        have r3 := (rv.xt x2 R1.st).xt x3 R2.st
        cases r3 with
        | @lst b ys _ fb hb rb =>
        obtain ⟨w1, w2⟩ := R3.write hd (((g2.take ai.toNat).append rb).append (g2.drop ci.toNat))
        refine ⟨_, ws, b, ys, ai, ci, rfl, rfl, top_int tw.weak, top_int tw3.weak, g1, hb, fun e => fb.2.1 ⟨i, _, _, hd, rfl, e⟩, b1, b2, by rw [g2.length]; exact b3, by rw [g2.length, rb.length]; exact b4, q3 _ σ _ rfl w1 w2⟩
      · exact q3.elim
    · exact q3.elim
  · exact q.elim
/-- x[j] op= e, of an own list of ints -/
def augItS (i : Nat) (op : Operator) (fj fe : EvF S) : ExF S := fun ρ s => match ρ[i]? with
  | some (.own ds) => thenS ρ (fj ρ s) fun j s1 => match j with
    | .int z => (match ixN ds.length z with
      | some n => (match ds[n]? with
        | some (.int a) => thenS ρ (fe ρ s1) fun d s2 => (match d with
          | .int b => (match augI op a b with
            | some c => .nxt (ρ.set i (.own (ds.set n (.int c)))) s2
            | none => .stuck)
          | _ => .stuck)
        | _ => .stuck)
      | none => .stuck)
    | _ => .stuck
  | _ => .stuck
theorem sx_augIt {N : List Str} {sc : Scope} (k : Xd C W X N sc) {x : Str} {i : Nat} {op : Operator} {j e : Expr} {p tp pos : Pos} {fj fe : EvF S} (ho : op = .Add ∨ op = .Sub) (hi : okN N sc x = some i) (hj : isSlice j = false) (hjj : PE X j (tK C W fj)) (he : PE X e (tK C W fe)) :
    PS X (.AugAssign (.Subscript (.Name x p) j tp) op e pos) (tS C W (augItS i op fj fe)) := by
  have main : ∀ (g : Int → Int → Int), PIp X op (ipI g) → (∀ a b, augI op a b = some (g a b)) → PS X (.AugAssign (.Subscript (.Name x p) j tp) op e pos) (tS C W (augItS i op fj fe)) := by
    intro g hp hg
    refine ps_mono (ps_augS (pe_okN k.toXk hi) hjj get_list he hp set_list (by intro a b c; cases j <;> first | rfl | (simp [isSlice] at hj; done))) fun D σ H ⟨P, s, R, q⟩ => ?_
    unfold augItS at q
    split at q
    · rename_i ds hd
      have o : OwnOk C P σ H s i (.lst, ds) := R.slot i _ hd
      refine ⟨_, o.at_, P, s, R, q.run.mono fun z s1 H1 R1 x1 q1 w tw => ?_⟩
      have o1 : OwnOk C P σ H1 s1 i (.lst, ds) := R1.slot i _ hd
      obtain ⟨ws, g1, g2⟩ := o1.isL
      split at q1
      · rename_i z
        split at q1
        · rename_i n hn
          split at q1
          · rename_i a ha
            obtain ⟨v, hv1, hv2⟩ := g2.get ha
            have := rp_int hv2
            subst this
            refine ⟨_, ws, z, .int a, rfl, top_int tw.weak, .inl (.inl g1), by unfold atI; rw [g2.length, hn]; exact hv1, P, s1, R1, q1.run.mono fun d s2 H2 R2 x2 q2 w2 tw2 => ?_⟩
            have o2 : OwnOk C P σ H2 s2 i (.lst, ds) := R2.slot i _ hd
            obtain ⟨us, f1, f2⟩ := o2.isL
            cases d with
            | int b =>
              dsimp only at q2
              rw [hg] at q2
              dsimp only at q2
              obtain ⟨w1, w2⟩ := R2.write hd (f2.set (.int (g a b)) n)
              exact ⟨a, b, rfl, top_int tw2.weak, _, us, z, n, rfl, top_int tw.weak, f1, by rw [f2.length]; exact hn, q2 _ σ _ rfl w1 w2⟩
            | _ => exact q2.elim
          · exact q1.elim
        · exact q1.elim
      · exact q1.elim
    · exact q.elim
  rcases ho with rfl | rfl
  · exact main _ ip_add fun _ _ => rfl
  · exact main _ ip_sub fun _ _ => rfl
end
end Q

/-! Lay29c: list.count; try whose body raises nothing. -/
namespace Q
open PySem PySem.Spec PyProof.Rows L2
section
variable {X : Cx}
theorem countP_by_data {s : Shared} {vs : Array Value} {xs : List PyData} {as : List Addr} {d : PyData} (rs : ReadsAll s.heap vs.toList xs as) (hxs : PyData.canLayAll0 xs = true) :
    vs.toList.countP (fun y => PyData.eqv (SeqAt.readOf s.heap y) d) = xs.countP (fun y => PyData.eqv y d) := by
  rw [← SeqAt.readsAll_map xs _ _ hxs rs, List.countP_map]
  rfl
def rCnt (K : PySem.W.Frag) : V → List V → Hp → VK → Prop := fun x xs H Q => ∃ y d ds, xs = [y] ∧ Dp K H y d ∧ Dp K H x (.list ds) ∧ SeqAt.shaped d = true ∧ SeqAt.shaped (.list ds) = true ∧ Q (.int (ds.countP fun z => PyData.eqv z d : Nat)) H
theorem mt_count (hu : X.A.units + 65 < cLine) : MtR X "list.count" (rCnt X.K) := by
  intro pins s σ H x xs v us Q I rx rs h
  obtain ⟨y, d, ds, rfl, hd, he, sd, se, q⟩ := h
  cases rs with
  | cons ry rr =>
    cases rr
    obtain ⟨as, r1⟩ := Dp.reads I d y _ hd ry
    obtain ⟨bs, r2⟩ := Dp.reads I (.list ds) x v he rx
    have hxs := SeqAt.canLay_of_shaped se
    have hds := SeqAt.canLay_of_shaped sd
    cases r2 with
    | list h1 h2 h3 h4 =>
      rename_i a o items n cs
      obtain ⟨cls, dd, data, sl⟩ := o
      simp only at h2 h3
      subst h2 h3
      refine call_meets PySem.F.slot_list_count ⟨_, h1, rfl⟩ PySem.F.entry_list_count (PySem.F.args_list_count_2 _ _) (SeqAt.list_countAt _ _ _ dd sl _ (fun y => PyData.eqv (SeqAt.readOf s.heap y) d)) ⟨h1, SeqAt.items_eqAt h4 r1 hxs hds (room_in_shaped sd hu), ?_⟩
      rw [countP_by_data h4 hxs]
      exact ⟨.int _, H, I.tok _, ⟨_, rfl⟩, q⟩
end
section
variable {S : Type} {C : Cn S} {W : L2.WX} {X : Cx}
def dCnt (ds : List D) (y : D) : Option D := match toPy y, toPyL ds with
  | some p, some ps => if SeqAt.shaped p = true ∧ SeqAt.shaped (.list ps) = true then some (.int (ps.countP fun z => PyData.eqv z p : Nat)) else none
  | _, _ => none
def cntK (g : EvF S) (ρ : List Sl) : D → S → Res S D
  | .lst ds, s1 => (g ρ s1).bind fun y s2 => ofO (dCnt ds y) s2
  | _, _ => .stuck
/-- xs.count(y) -/
def cntE (f g : EvF S) : EvF S := fun ρ s => (f ρ s).bind (cntK g ρ)
theorem sd_cnt {N : List Str} {sc : Scope} (k : Xk C W X N sc) {x : Str} {e : Expr} {p ap cp : Pos} {f g : EvF S} (hs : isStar e = false) (hl : (ap.endLine == cp.line) = true) (hx : PE X (.Name x p) (tK C W f)) (he : PE X e (tK C W g)) :
    PE X (.Call (.Attribute (.Name x p) "count" ap) [e] [] cp) (tF C W (cntE f g)) := by
  have hb : (((backTo cp (starEach [e] X.env)).all fun x => !x.1) && (backToKw cp (keywordEach [] X.env)).all fun x => x.1.isSome) && decide (([e].length + ([] : List Keyword).length + if ([] : List Keyword).isEmpty = true then 0 else 1) < 30) = true := by
    rw [star_no hs]; rfl
  refine pe_mono (pe_bm PySem.F.plainAttrs_list PySem.F.slot_list_count PySem.F.type_list_count (mt_count (by have := k.hu; omega)) hx (pa_cons he pa_nil (star_no hs)) rfl hb hl (star_no hs) (star_back (by rfl))) fun σ H Q ⟨P, s, R, q⟩ => ?_
  refine ⟨P, s, R, q.bind.mono fun d s1 H1 R1 x1 q1 v tv => ?_⟩
  cases d with
  | lst ds =>
    obtain ⟨a, vs, rfl, ha, rv⟩ := tv.lst
    refine ⟨.inl ⟨rfl, vs, .inl (.inl ha)⟩, P, s1, R1, Run.bind q1 |>.mono fun y s2 H2 R2 x2 q2 w tw => ?_⟩
    obtain ⟨d', e1, kk⟩ := run_ofO q2
    unfold dCnt at e1
    split at e1
    · rename_i p1 ps e2 e3
      split at e1
      · rename_i z
        cases e1
        exact ⟨w, p1, ps, rfl, by rw [← k.K]; exact dp_top tw.weak e2, by rw [← k.K]; exact dp_topL (tv.xt x2 R1.st).weak e3, z.1, z.2, kk H2 R2 Xt.refl _ (Fr.plain (.int _) fun _ e => nomatch e)⟩
      · cases e1
    · cases e1
  | _ => exact q1.elim
/-- a body that raises nothing -/
def tryS (f : ExF S) : ExF S := fun ρ s => match f ρ s with
  | .err _ _ _ => .stuck
  | .new _ _ => .stuck
  | o => o
theorem sx_try {e : Expr} {h : ExceptHandler} {hs : List ExceptHandler} {p pos : Pos} {f : EvF S} (hc : isComp e = false) (he : PE X.nox e (tP C W0 f)) : PS X (.Try [.Expr e p] (h :: hs) [] [] pos) (tS C W (tryS (dropS f))) := by
  refine ps_mono (ps_try_thru0 (pss_one (sx_drop hc he))) fun D σ H ⟨P, s, R, q⟩ => ⟨P, s, R, ?_⟩
  unfold tryS at q
  cases e : dropS f P.ρ s with
  | err y ρ' s' => rw [e] at q; exact q.elim
  | nxt ρ' s' => rw [e] at q; exact q
  | brk ρ' s' => rw [e] at q; exact q
  | cnt ρ' s' => rw [e] at q; exact q
  | ret a b c => rw [e] at q; exact q
  | stuck => rw [e] at q; exact q.elim
  | new p g => rw [e] at q; exact q.elim
/-- try: e except x: return c -/
def tryRetS (x : Str) (g : EvF S) (f : ExF S) : ExF S := fun ρ s => match f ρ s with
  | .err y ρ' s' => if y.cls = x then retV false g ρ' s' else .stuck
  | .new _ _ => .stuck
  | o => o
theorem Xk.tr {N : List Str} {sc : Scope} (k : Xk C W X N sc) {W' : L2.WX} {pn : List (Addr × Obj)} {xe : Value → Shared → Prop} (tk : Takes (X.tr pn xe) W') : Xk C W' (X.tr pn xe) N sc := ⟨k.K, k.names, k.nd, k.scope, k.calm, k.hu, k.gd, tk⟩
theorem GkOk.tr {G : Gk S} (g : GkOk C X G) (pn : List (Addr × Obj)) (xe : Value → Shared → Prop) : GkOk C (X.tr pn xe) G.mute := GkB.muted ⟨g.glo, fun x f h => ⟨(g.cal x f h).ok⟩, g.blt, g.spc, fun x fl h => ⟨(g.exn x fl h).ok⟩, g.sys, fun x f1 f2 h => ⟨(g.exn2 x f1 f2 h).ok⟩, ⟨g.obj.fld, fun m c f h => ⟨(g.obj.mth m c f h).ok⟩, fun m c f h => ⟨(g.obj.prp m c f h).ok⟩, fun x c f h => ⟨(g.obj.new x c f h).ok⟩, fun c f h => ⟨(g.obj.len c f h).ok⟩, fun x1 x2 cs h => ⟨(g.obj.cat x1 x2 cs h).ok⟩, fun x fs h => ⟨(g.obj.exc x fs h).ok⟩, fun n y b h => ⟨(g.obj.isx n y b h).ok⟩, fun n f h => ⟨(g.obj.fx n f h).ok⟩⟩⟩
theorem sx_tryRet {N : List Str} {sc : Scope} (k : Xd C W X N sc) {x fl : Str} {e : Expr} {c : Const} {j : Nat} {np p p2 p3 p4 pos : Pos} {f : EvF S} (ok : ExOk C X x fl) (hg : glB sc x = true) (hc : isComp e = false)
    (he : ∀ (W' : L2.WX) (pn : List (Addr × Obj)) (xe : Value → Shared → Prop), Takes (X.tr pn xe) W' → PE (X.tr pn xe) e (tP C W' f)) :
    PS X (.Try [.Expr e p] [.ExceptHandler (some (.Name x np)) none [.Return (some (.Constant c j p2)) p3] p4] [] [] pos) (tS C W (tryRetS x (evC (cD c)) (dropS f))) := by
  obtain ⟨cx, fI, fd, ps, kk, e1, e2, T, iC, tI, F, hr, hb, hx⟩ := ok.ok
  obtain ⟨g1, g2, g3⟩ := gl_of k.toXk hg
  have h := ps_try_only (X := X) (pos := pos) (pos' := p4) (np := np) (body := [.Expr e p]) (b₀ := .Return (some (.Constant c j p2)) p3) (suite := []) (Wout := W0) (ts := fun _ _ _ => tS C W0 (retV false (evC (cD c)))) (tb := fun W' => tS C W' (dropS f)) k.stk k.frm ⟨g1, g2, .inl e2⟩ takes0
    (fun W' pn xe tk own => pss_one (sx_drop hc (he W' pn xe tk))) (fun a oe cls d pn hz hd => pss_one (sx_ret (PE.clean (sd_const c j p2))))
  refine ps_mono h fun D σ H ⟨P, s, R, q⟩ => ⟨P, s, R, ?_⟩
  unfold tryRetS at q
  cases ed : dropS f P.ρ s with
  | err y ρ' s' =>
    rw [ed] at q
    dsimp only at q
    split at q
    · rename_i hy
      intro P' σ' cls dd H' e' R' x' rx
      subst e'
      obtain ⟨c2, h1, h2, _⟩ := rx
      rw [hy, e1] at h1
      cases h1
      refine ⟨true, by rw [h2]; exact hx, fun _ a _ => ⟨P', s', R', ?_⟩, fun z => by cases z⟩
      have q' := q.step x'
      unfold retV at q' ⊢
      cases ev : evC (S := S) (cD c) P'.ρ s' with
      | ok d s2 => rw [ev] at q'; exact q'
      | err y2 s2 => unfold evC ofO at ev; split at ev <;> cases ev
      | new p g => unfold evC ofO at ev; split at ev <;> cases ev
      | stuck => rw [ev] at q'; exact q'.elim
    · exact q.elim
  | nxt ρ' s' => rw [ed] at q; exact q
  | brk ρ' s' => rw [ed] at q; exact q
  | cnt ρ' s' => rw [ed] at q; exact q
  | ret a b c => rw [ed] at q; exact q
  | stuck => rw [ed] at q; exact q.elim
  | new p g => rw [ed] at q; exact q.elim
theorem Xk.nox {N : List Str} {sc : Scope} (k : Xk C W X N sc) : Xk C W0 X.nox N sc := ⟨k.K, k.names, k.nd, k.scope, k.calm, k.hu, k.gd, takes0⟩
theorem GkOk.nox {G : Gk S} (g : GkOk C X G) : GkOk C X.nox G.mute := GkB.muted ⟨g.glo, fun x f h => ⟨(g.cal x f h).ok⟩, g.blt, g.spc, fun x fl h => ⟨(g.exn x fl h).ok⟩, g.sys, fun x f1 f2 h => ⟨(g.exn2 x f1 f2 h).ok⟩, ⟨g.obj.fld, fun m c f h => ⟨(g.obj.mth m c f h).ok⟩, fun m c f h => ⟨(g.obj.prp m c f h).ok⟩, fun x c f h => ⟨(g.obj.new x c f h).ok⟩, fun c f h => ⟨(g.obj.len c f h).ok⟩, fun x1 x2 cs h => ⟨(g.obj.cat x1 x2 cs h).ok⟩, fun x fs h => ⟨(g.obj.exc x fs h).ok⟩, fun n y b h => ⟨(g.obj.isx n y b h).ok⟩, fun n f h => ⟨(g.obj.fx n f h).ok⟩⟩⟩
end
end Q

/-! Lay29d: the least of a list whose items are compared by what the heap says. -/
namespace Q
open PySem PySem.Spec PyProof.Rows L2 PySem.Calls
section
variable {prog : Program} {w : World} {A : Around} {R : Result → Shared → Prop}
/-- what stands, from a heap on: all but the iterator and the box -/
def Stand (h0 h : Heap) (I B : Addr) : Prop := ∀ b o, b ≠ I → b ≠ B → h0.get? b = some o → h.get? b = some o
theorem Stand.trans {h0 h1 h2 : Heap} {I B : Addr} (a : Stand h0 h1 I B) (b : Stand h1 h2 I B) : Stand h0 h2 I B := fun x o n1 n2 e => b x o n1 n2 (a x o n1 n2 e)
/-- how two items compare wherever all stands -/
def LessIn (prog : Program) (w : World) (A : Around) (h0 : Heap) (I B : Addr) (items : Array Value) (lt : Value → Value → Bool) : Prop :=
  ∀ x y, x ∈ items → y ∈ items → ∀ (s : Shared) (Q : Value → Shared → Prop) (E : Value → Shared → Prop), Stand h0 s.heap I B → Q (.bool (lt x y)) s → wpAny (model prog w) A (richCompare .Lt x y) Q E s
/-- the least so far -/
def bestOf (lt : Value → Value → Bool) : Value → List Value → Value
  | b, [] => b
  | b, v :: r => bestOf lt (if lt v b = true then v else b) r
theorem bestOf_mem (lt : Value → Value → Bool) : ∀ (r : List Value) (b : Value), bestOf lt b r = b ∨ bestOf lt b r ∈ r
  | [], b => .inl rfl
  | v :: r, b => by
    unfold bestOf
    rcases bestOf_mem lt r (if lt v b = true then v else b) with h | h
    · rw [h]
      split
      · exact .inr List.mem_cons_self
      · exact .inl rfl
    · exact .inr (List.mem_cons_of_mem _ h)
theorem least_loop (hh : A.handled = none) {h0 : Heap} {I l B : Addr} (hli : l ≠ I) (hbi : B ≠ I) (hbl : B ≠ l) {items : Array Value} {lt : Value → Value → Bool} (hc : LessIn prog w A.in1 h0 I B items lt) (fin : ∀ (v : Value) (s : Shared), Prop)
    (hfin : ∀ v s, fin v s → R (.ok (.ret v)) s) :
    ∀ (m j : Nat) (s : Shared) (b : Value) (c : Nat), items.size = j + m → b ∈ items → s.heap.IsListIter I l j → s.heap.IsList l items → Stand h0 s.heap I B →
      s.heap.get? B = some { cls := .type "list", dict := none, data := .seq #[b, b] c, slots := #[] } →
      (∀ h' tk, Stand s.heap h' I B → fin (bestOf lt b (items.toList.drop j)) { s with heap := h', toks := tk }) →
      codeAny (model prog w) A (.builtin "min.loop" ⟨[.ref I, .none, .ref B], []⟩) R s
  | 0, j, s, b, c, hm, hb, it, il, st, bx, q => by
    have W := Walks.list (prog := prog) (w := w) (A := A.in1) hh I l hli items
    refine codeAny_builtin PySem.F.entry_min_loop ?_
    rw [Around.under_plainId PySem.F.plain_min_loop _]
    show wpAny _ A.in1 (seqItems? (.ref B) >>= _) _ _ s
    refine wpAny_bind (wpAny_seqItems bx rfl ?_)
    show wpAny _ A.in1 (tryCatch (pyNext (.ref I)) _ >>= _) _ _ s
    have hj : items.size = j := by omega
    refine wpAny_bind (wpAny_tryCatch (W.done s _ _ (hj ▸ ⟨it, il⟩) fun h' tk k => ?_))
    have bx' := k B _ (by simpa using hbi) bx
    show wpAny _ A.in1 (updateSeq B (fun _ => #[]) >>= _) _ _ _
    refine wpAny_bind (wpAny_updateSeq bx' rfl (wpAny_bind (wpAny_letGo (wpAny_pure (hfin _ _ ?_)))))
    have hd : items.toList.drop j = [] := List.drop_eq_nil_of_le (by simp; omega)
    have := q (h'.update B (Obj.mapSeq fun _ => #[])) tk fun x o n1 n2 e => (Heap.get?_update_other _ _ (Ne.symm n2)).trans (k x o (by simpa using n1) e)
    rw [hd] at this
    exact this
  | m + 1, j, s, b, c, hm, hb, it, il, st, bx, q => by
    have W := Walks.list (prog := prog) (w := w) (A := A.in1) hh I l hli items
    have hj : j < items.size := by omega
    refine codeAny_builtin PySem.F.entry_min_loop ?_
    rw [Around.under_plainId PySem.F.plain_min_loop _]
    show wpAny _ A.in1 (seqItems? (.ref B) >>= _) _ _ s
    refine wpAny_bind (wpAny_seqItems bx rfl ?_)
    show wpAny _ A.in1 (tryCatch (pyNext (.ref I)) _ >>= _) _ _ s
    refine wpAny_bind (wpAny_tryCatch (W.item j s _ _ hj ⟨it, il⟩ fun v h' tk hv st' k => ?_))
    have bx' := k B _ (by simpa using hbi) bx
    have hv' : items[j]? = some v := hv
    have hvm : v ∈ items := Array.mem_of_getElem? hv'
    have hd : items.toList.drop j = v :: items.toList.drop (j + 1) := by
      rw [List.drop_eq_getElem_cons (by simpa using hj)]
      congr 1
      have := hv'
      rw [Array.getElem?_eq_getElem hj] at this
      simpa using this
    have s1 : Stand s.heap h' I B := fun x o n1 n2 e => k x o (by simpa using n1) e
    show wpAny _ A.in1 (tryCatch (holding [v, v] (richCompare .Lt v b >>= _)) _ >>= _) _ _ _
    refine wpAny_bind (wpAny_tryCatch (wpAny_holding (wpAny_bind (hc v b hvm hb _ _ _ (st.trans s1) ?_))))
    refine wpAny_bind (wpAny_holding (wpAny_truthy_bool ?_))
    refine wpAny_bind (wpAny_letGo (wpAny_pure ?_))
    have hname : (toString "min" ++ toString ".loop" : String) = "min.loop" := by decide
    rw [hd] at q
    cases hlt : lt v b with
    | true =>
      simp only [if_true]
      have eb : bestOf lt b (v :: items.toList.drop (j + 1)) = bestOf lt v (items.toList.drop (j + 1)) := by simp [bestOf, hlt]
      rw [eb] at q
      refine wpAny_bind (wpAny_updateSeq bx' rfl (wpAny_bind (wpAny_letGo ?_)))
      rw [hname]
      have o1 : ∀ x o, x ≠ B → h'.get? x = some o → (h'.update B (Obj.mapSeq fun _ => #[v, v])).get? x = some o := fun x o n e => (Heap.get?_update_other _ _ (Ne.symm n)).trans e
      refine wpAny_pure ⟨plainId_quiet PySem.F.plain_min_loop _, least_loop hh hli hbi hbl hc fin hfin m (j + 1) _ v _ (by omega) hvm (st'.1.at fun o e => o1 I o (Ne.symm hbi) e) (st'.2.at fun o e => o1 l o (Ne.symm hbl) e) (fun x o n1 n2 e => o1 x o n2 (s1 x o n1 n2 (st x o n1 n2 e))) (Heap.get?_update_self _ bx' rfl) fun h'' tk'' k'' => ?_⟩
      exact q h'' tk'' fun x o n1 n2 e => k'' x o n1 n2 (o1 x o n2 (s1 x o n1 n2 e))
    | false =>
      simp only [Bool.false_eq_true, if_false]
      have eb : bestOf lt b (v :: items.toList.drop (j + 1)) = bestOf lt b (items.toList.drop (j + 1)) := by simp [bestOf, hlt]
      rw [eb] at q
      refine wpAny_bind (wpAny_letGo ?_)
      rw [hname]
      refine wpAny_pure ⟨plainId_quiet PySem.F.plain_min_loop _, least_loop hh hli hbi hbl hc fin hfin m (j + 1) _ b c (by omega) hb st'.1 st'.2 (st.trans s1) bx' fun h'' tk'' k'' => ?_⟩
      exact q h'' tk'' (s1.trans k'')
end
section
variable {prog : Program} {w : World} {A : Around} {E : Value → Shared → Prop} {s : Shared}
theorem least_first {R : Result → Shared → Prop} (hh : A.handled = none) {h0 : Heap} {I l B : Addr} (hli : l ≠ I) (hbi : B ≠ I) (hbl : B ≠ l) {items : Array Value} {lt : Value → Value → Bool} (hc : LessIn prog w A.in1 h0 I B items lt) {v0 : Value} {r : List Value} (hv : items.toList = v0 :: r) {c : Nat}
    (it : s.heap.IsListIter I l 0) (il : s.heap.IsList l items) (st : Stand h0 s.heap I B) (bx : s.heap.get? B = some { cls := .type "list", dict := none, data := .seq #[] c, slots := #[] })
    (q : ∀ h' tk, Stand s.heap h' I B → R (.ok (.ret (bestOf lt v0 r))) { s with heap := h', toks := tk }) : codeAny (model prog w) A (.builtin "min.loop" ⟨[.ref I, .none, .ref B], []⟩) R s := by
  have W := Walks.list (prog := prog) (w := w) (A := A.in1) hh I l hli items
  have hsz : items.size = r.length + 1 := by rw [← Array.length_toList, hv]; rfl
  have hname : (toString "min" ++ toString ".loop" : String) = "min.loop" := by decide
  refine codeAny_builtin PySem.F.entry_min_loop ?_
  rw [Around.under_plainId PySem.F.plain_min_loop _]
  show wpAny _ A.in1 (seqItems? (.ref B) >>= _) _ _ s
  refine wpAny_bind (wpAny_seqItems bx rfl ?_)
  show wpAny _ A.in1 (tryCatch (pyNext (.ref I)) _ >>= _) _ _ s
  refine wpAny_bind (wpAny_tryCatch (W.item 0 s _ _ (by omega) ⟨it, il⟩ fun v h' tk hv1 st' k => ?_))
  have bx' := k B _ (by simpa using hbi) bx
  have hv0 : v = v0 := by
    have h1 : items[0]? = some v := hv1
    rw [← Array.getElem?_toList, hv] at h1
    simpa using h1.symm
  subst hv0
  have hvm : v ∈ items := Array.mem_of_getElem? hv1
  have s1 : Stand s.heap h' I B := fun x o n1 n2 e => k x o (by simpa using n1) e
  have o1 : ∀ x o, x ≠ B → h'.get? x = some o → (h'.update B (Obj.mapSeq fun _ => #[v, v])).get? x = some o := fun x o n e => (Heap.get?_update_other _ _ (Ne.symm n)).trans e
  show wpAny _ A.in1 (updateSeq B (fun _ => #[v, v]) >>= _) _ _ _
  refine wpAny_bind (wpAny_updateSeq bx' rfl ?_)
  rw [hname]
  refine wpAny_pure ⟨plainId_quiet PySem.F.plain_min_loop _, least_loop hh hli hbi hbl hc (fun u s' => R (.ok (.ret u)) s') (fun _ _ h => h) r.length 1 _ v _ (by omega) hvm (st'.1.at fun o e => o1 I o (Ne.symm hbi) e) (st'.2.at fun o e => o1 l o (Ne.symm hbl) e) (fun x o n1 n2 e => o1 x o n2 (s1 x o n1 n2 (st x o n1 n2 e))) (Heap.get?_update_self _ bx' rfl) fun h'' tk'' k'' => ?_⟩
  rw [hv]
  exact q h'' tk'' fun x o n1 n2 e => k'' x o n1 n2 (o1 x o n2 (s1 x o n1 n2 e))
theorem min_list {Q : Value → Shared → Prop} (hh : A.handled = none) {l : Addr} {items : Array Value} {lt : Value → Value → Bool} {v0 : Value} {r : List Value} (hl : s.heap.IsList l items) (hv : items.toList = v0 :: r)
    (hc : ∀ x y, x ∈ items → y ∈ items → ∀ (s' : Shared) (Q : Value → Shared → Prop) (E : Value → Shared → Prop), (∀ b o, s.heap.get? b = some o → s'.heap.get? b = some o) → Q (.bool (lt x y)) s' → wpAny (model prog w) A.in1 (richCompare .Lt x y) Q E s')
    (q : ∀ h' tk, (∀ b o, s.heap.get? b = some o → h'.get? b = some o) → Q (bestOf lt v0 r) { s with heap := h', toks := tk }) :
    wpAny (model prog w) A (call (.builtin "min") [.ref l]) Q E s := by
  have hlt : l < s.heap.objs.size := by obtain ⟨_, e, _⟩ := hl; exact Heap.lt_size e
  have hname : (toString "min" ++ toString ".loop" : String) = "min.loop" := by decide
  refine call_function_tree PySem.F.kind_min PySem.F.plain_min PySem.F.entry_min (PySem.F.args_min1 _) ?_
  show wpAny _ A.in1 (Builtin.Builtins.bindParams "min" ["key", "default"] 0 ⟨[], []⟩ >>= _) _ _ s
  refine wpAny_bind (wpAny_of_eq (show Builtin.Builtins.bindParams "min" ["key", "default"] 0 ⟨[], []⟩ = pure [none, none] from rfl) ?_)
  refine wpAny_bind (wpAny_pure ?_)
  refine wpAny_bind (wpAny_pyIter_list hl ?_)
  refine wpAny_bind (wpAny_newObj_type ?_)
  rw [hname]
  have sz1 : (s.heap.push { cls := .type "list_iterator", data := .fields #[.ref l, .int 0 0] }).objs.size = s.heap.objs.size + 1 := Heap.size_push ..
  have old : ∀ b o, s.heap.get? b = some o → b ≠ s.heap.objs.size ∧ b ≠ (s.heap.push { cls := .type "list_iterator", data := .fields #[.ref l, .int 0 0] }).objs.size := fun b o e => by
    have := Heap.lt_size e
    rw [sz1]
    exact ⟨Nat.ne_of_lt this, Nat.ne_of_lt (Nat.lt_succ_of_lt this)⟩
  refine wpAny_pure ⟨plainId_quiet PySem.F.plain_min_loop _, least_first (h0 := s.heap) hh (I := s.heap.objs.size) (l := l) (Nat.ne_of_lt hlt) (by rw [sz1]; exact Nat.succ_ne_self _) (by rw [sz1]; exact Nat.ne_of_gt (Nat.lt_succ_of_lt hlt)) (lt := lt) ?_ hv ?_ ?_ ?_ (Heap.get?_push_size _ rfl) ?_⟩
  · intro x y hx hy s' Q' E' hst hq
    exact hc x y hx hy s' Q' E' (fun b o e => hst b o (old b o e).1 (old b o e).2 e) hq
  · exact ⟨_, Heap.get?_push_of_some _ (Heap.get?_push_size _ rfl), rfl, rfl⟩
  · exact (hl.push _).push _
  · exact fun b o _ _ e => Heap.get?_push_of_some _ (Heap.get?_push_of_some _ e)
  · intro h' tk k
    exact q h' tk fun b o e => k b o (old b o e).1 (old b o e).2 (Heap.get?_push_of_some _ (Heap.get?_push_of_some _ e))
end
end Q

/-! Lay29e: min of a list of pairs of ints. -/
namespace Q
open PySem PySem.Spec PyProof.Rows L2 PySem.Calls
def pairAt (h : Heap) (v : Value) (p : Int × Int) : Prop := ∃ b t u, v = .ref b ∧ h.IsTuple b #[.int p.1 t, .int p.2 u]
theorem pairAt.keep {h h' : Heap} {v : Value} {p : Int × Int} (k : ∀ b o, h.get? b = some o → h'.get? b = some o) (q : pairAt h v p) : pairAt h' v p := by
  obtain ⟨b, t, u, rfl, o, e, r⟩ := q
  exact ⟨b, t, u, rfl, o, k b o e, r⟩
theorem pairAt.inj {h : Heap} {v : Value} {p q : Int × Int} (a : pairAt h v p) (b : pairAt h v q) : p = q := by
  obtain ⟨x, t, u, rfl, o, e, _, n, d⟩ := a
  obtain ⟨x', t', u', e1, o', e', _, n', d'⟩ := b
  cases e1
  rw [e] at e'
  cases e'
  rw [d] at d'
  obtain ⟨p1, p2⟩ := p
  obtain ⟨q1, q2⟩ := q
  simp at d'
  simp [d'.1]
noncomputable def readP (h : Heap) (v : Value) : Int × Int := open Classical in if hx : ∃ p, pairAt h v p then hx.choose else (0, 0)
theorem readP_eq {h : Heap} {v : Value} {p : Int × Int} (a : pairAt h v p) : readP h v = p := by
  have hx : ∃ p, pairAt h v p := ⟨p, a⟩
  unfold readP
  rw [dif_pos hx]
  exact hx.choose_spec.inj a
def ltP (p q : Int × Int) : Bool := if (p.1 == q.1) = true then (if (p.2 == q.2) = true then false else decide (p.2 < q.2)) else decide (p.1 < q.1)
def bestP : Int × Int → List (Int × Int) → Int × Int
  | b, [] => b
  | b, v :: r => bestP (if ltP v b = true then v else b) r
section
variable {prog : Program} {w : World} {A : Around} {E : Value → Shared → Prop} {s : Shared}
theorem cmp_pair {x y : Value} {p q : Int × Int} {Q : Value → Shared → Prop} (hu : A.units < cLine) (hx : pairAt s.heap x p) (hy : pairAt s.heap y q) (h : Q (.bool (ltP p q)) s) : wpAny (model prog w) A (richCompare .Lt x y) Q E s := by
  obtain ⟨b, t, u, rfl, hb⟩ := hx
  obtain ⟨c, t', u', rfl, hc⟩ := hy
  have := Ob.RcOp.tuples_lt (A := A) (s := s) (e := fun j => if j = 0 then p.1 == q.1 else p.2 == q.2) (r := fun j => if j = 0 then decide (p.1 < q.1) else decide (p.2 < q.2)) hb hc hu (fun j h1 h2 => by
    match j, h1, h2 with
    | 0, _, _ => exact SeqAt.EqAt.int_int _ _ _ _
    | 1, _, _ => exact SeqAt.EqAt.int_int _ _ _ _) (fun j h1 h2 _ => by
    match j, h1, h2 with
    | 0, _, _ => exact Ob.RcOp.lt_int _ _ _ _
    | 1, _, _ => exact Ob.RcOp.lt_int _ _ _ _)
  exact this prog w E Q (by
    have e : Ob.lexAt (fun j => if j = 0 then p.1 == q.1 else p.2 == q.2) (fun j => if j = 0 then decide (p.1 < q.1) else decide (p.2 < q.2)) (decide ((2 : Nat) < 2)) 0 2 = ltP p q := by
      simp [Ob.lexAt, ltP]
    exact e ▸ h)
theorem best_pair {h : Heap} : ∀ (r : List Value) (b : Value) (ps : List (Int × Int)) (p : Int × Int), pairAt h b p → r.length = ps.length → (∀ (i : Nat) (v : Value) (q : Int × Int), r[i]? = some v → ps[i]? = some q → pairAt h v q) → pairAt h (bestOf (fun x y => ltP (readP h x) (readP h y)) b r) (bestP p ps)
  | [], b, [], p, hb, _, _ => hb
  | [], b, _ :: _, p, hb, hl, _ => by simp at hl
  | _ :: _, b, [], p, hb, hl, _ => by simp at hl
  | v :: r, b, q :: ps, p, hb, hl, hr => by
    have hv := hr 0 v q rfl rfl
    unfold bestOf bestP
    rw [readP_eq hv, readP_eq hb]
    refine best_pair r _ ps _ ?_ (by simpa using hl) fun i v' q' h1 h2 => hr (i + 1) v' q' (by simpa using h1) (by simpa using h2)
    split
    · exact hv
    · exact hb
end
section
variable {X : Cx}
def isP (K : PySem.W.Frag) (H : Hp) (x : V) (p : Int × Int) : Prop := ∃ b, x = .ref b ∧ SqT K H b [.int p.1, .int p.2]
def rMinP (K : PySem.W.Frag) : List V → Hp → VK → Prop := fun vs H Q => ∃ a xs p ps, vs = [.ref a] ∧ SqL K H a xs ∧ xs.length = (p :: ps).length ∧ (∀ (i : Nat) (x : V) (q : Int × Int), xs[i]? = some x → (p :: ps)[i]? = some q → isP K H x q) ∧ ∀ x, isP K H x (bestP p ps) → Q x H
theorem isP.at {pins : List (Addr × Obj)} {σ : L2.St} {H : Hp} {s : Shared} (I : Inv X pins σ H s) {x : V} {u : Value} {p : Int × Int} (h : isP X.K H x p) (r : RelV x u) : pairAt s.heap u p := by
  obtain ⟨b, rfl, hb⟩ := h
  cases r
  obtain ⟨its, rv, ht, _⟩ := I.tuple hb
  cases rv with
  | cons r1 rr =>
    cases rr with
    | cons r2 rr =>
      cases rr
      obtain ⟨t, rfl⟩ := r1
      obtain ⟨t', rfl⟩ := r2
      exact ⟨b, t, t', rfl, ht⟩
theorem cr_minP (hc : X.calm = true) (hu : X.A.units + 10 < cLine) : CallR X (.builtin "min") (rMinP X.K) := by
  intro pins s σ H vs us Q I r h
  obtain ⟨a, xs, p, ps, rfl, hs, hl, hp, q⟩ := h
  obtain ⟨its, rv, hL, hz⟩ := I.list hs
  rw [Vals.ref1 r]
  have hlen : its.length = ps.length + 1 := by rw [← rv.length]; simpa using hl
  match its, hlen, rv, hL with
  | v0 :: rest, hlen, rv, hL =>
  have hpa : ∀ (i : Nat) (v : Value) (q : Int × Int), (v0 :: rest)[i]? = some v → (p :: ps)[i]? = some q → pairAt s.heap v q := fun i v q h1 h2 => by
    have hi : i < xs.length := by rw [hl]; exact (List.getElem?_eq_some_iff.mp h2).1
    obtain ⟨u, e1, e2⟩ := rv.get (List.getElem?_eq_getElem hi)
    rw [h1] at e1
    cases e1
    exact (hp i _ q (List.getElem?_eq_getElem hi) h2).at I e2
  have hb := best_pair rest v0 ps p (hpa 0 v0 p rfl rfl) (by simpa using hlen) fun i v q h1 h2 => hpa (i + 1) v q (by simpa using h1) (by simpa using h2)
  have hmem : ∀ x, x ∈ (v0 :: rest).toArray → ∃ z, pairAt s.heap x z := fun x hx => by
    have hx' : x ∈ v0 :: rest := by simpa using hx
    obtain ⟨i, hi, e⟩ := List.mem_iff_getElem.mp hx'
    have h2 : i < (p :: ps).length := by rw [← hl, rv.length]; exact hi
    exact ⟨_, hpa i x _ (by rw [List.getElem?_eq_getElem hi, e]) (List.getElem?_eq_getElem h2)⟩
  refine min_list (lt := fun x y => ltP (readP s.heap x) (readP s.heap y)) (I.ok.hd hc) hL.isList (v0 := v0) (r := rest) rfl (fun x y hx hy s' Q' E' k hq => ?_) fun h' tk k => ?_
  · obtain ⟨z1, e1⟩ := hmem x hx
    obtain ⟨z2, e2⟩ := hmem y hy
    rw [readP_eq e1, readP_eq e2] at hq
    exact cmp_pair (by show X.A.units + 1 < cLine; omega) (e1.keep k) (e2.keep k) hq
  · -- which V
    have hbm : bestOf (fun x y => ltP (readP s.heap x) (readP s.heap y)) v0 rest ∈ v0 :: rest := by
      rcases bestOf_mem (fun x y => ltP (readP s.heap x) (readP s.heap y)) rest v0 with h | h
      · rw [h]; exact List.mem_cons_self
      · exact List.mem_cons_of_mem _ h
    obtain ⟨i, hi, e⟩ := List.mem_iff_getElem.mp hbm
    have hix : i < xs.length := by rw [rv.length]; exact hi
    have hip : i < (p :: ps).length := by rw [← hl]; exact hix
    obtain ⟨u, e1, e2⟩ := rv.get (List.getElem?_eq_getElem hix)
    rw [List.getElem?_eq_getElem hi, e] at e1
    cases e1
    have h3 := hp i _ _ (List.getElem?_eq_getElem hix) (List.getElem?_eq_getElem hip)
    have h4 : (p :: ps)[i] = bestP p ps := (h3.at I e2).inj hb
    rw [h4] at h3
    exact ⟨xs[i], H, I.kept k, e2, q _ h3⟩
end
def pairsD : List D → Option (List (Int × Int))
  | [] => some []
  | .tup [.int a, .int b] :: r => (pairsD r).map ((a, b) :: ·)
  | _ => none
def bMinP : List D → Option D
  | [.lst ds] => match pairsD ds with
    | some (p :: ps) => some (.tup [.int (bestP p ps).1, .int (bestP p ps).2])
    | _ => bMin [.lst ds]
  | l => bMin l
theorem pairs_len : ∀ {ds : List D} {ps : List (Int × Int)}, pairsD ds = some ps → ds.length = ps.length
  | [], ps, h => by cases h; rfl
  | d :: r, ps, h => by
    unfold pairsD at h
    split at h
    · rename_i he; cases he
    · rename_i a b r' he
      cases he
      rw [Option.map_eq_some_iff] at h
      obtain ⟨ps', h1, rfl⟩ := h
      simp [pairs_len h1]
    · cases h
theorem rp_pair {K : PySem.W.Frag} {H : Hp} {F : Addr → Prop} {v : V} {a b : Int} (h : Rp K H F v (.tup [.int a, .int b])) : isP K H v (a, b) := by
  cases h with
  | tup hT r =>
    cases r with
    | cons r1 r =>
      cases r with
      | cons r2 r =>
        cases r
        have e1 := rp_int r1
        have e2 := rp_int r2
        subst e1 e2
        exact ⟨_, rfl, hT⟩
theorem rp_pairs {K : PySem.W.Frag} {H : Hp} {F : Addr → Prop} : ∀ {ds : List D} {ps : List (Int × Int)} {vs : List V}, pairsD ds = some ps → RpL K H F vs ds → ∀ (i : Nat) (x : V) (q : Int × Int), vs[i]? = some x → ps[i]? = some q → isP K H x q
  | [], ps, vs, h, r, i, x, q, h1, h2 => by cases h; simp at h2
  | d :: ds, ps, vs, h, r, i, x, q, h1, h2 => by
    cases r with
    | cons r1 rr =>
      unfold pairsD at h
      split at h
      · rename_i he; cases he
      · rename_i a b r' he
        cases he
        rw [Option.map_eq_some_iff] at h
        obtain ⟨ps', h3, rfl⟩ := h
        cases i with
        | zero =>
          simp at h1 h2
          subst h1 h2
          exact rp_pair r1
        | succ i => exact rp_pairs h3 rr i x q (by simpa using h1) (by simpa using h2)
      · cases h
theorem cd_minP {X : Cx} (hc : X.calm = true) (hu : X.A.units + 200 < cLine) : CallD X (.builtin "min") bMinP := by
  intro S C hK pins s σ H vs us Q I rv ⟨P, st, σ', ds, d, R, tv, e, k⟩
  unfold bMinP at e
  split at e
  · rename_i ds
    split at e
    · rename_i p ps hp
      cases e
      cases tv with
      | cons t r =>
        cases r
        obtain ⟨a, ws, rfl, h, q⟩ := t.lst
        refine cr_minP hc (by omega) pins s σ H _ us Q I rv ⟨a, ws, p, ps, rfl, .inl (.inl h), by rw [q.length]; exact pairs_len hp, fun i x q' h1 h2 => by rw [← hK]; exact rp_pairs hp q i x q' h1 h2, fun x hx => ?_⟩
        obtain ⟨b, rfl, hT⟩ := hx
        exact k _ _ Xt.refl R.st (Fr.plain (.tup (by rw [hK]; exact hT) (.cons (.int _) (.cons (.int _) .nil))) fun _ e => nomatch e)
    · exact cd_min hc hu C hK pins s σ H vs us Q I rv ⟨P, st, σ', _, d, R, tv, e, k⟩
  · exact cd_min hc hu C hK pins s σ H vs us Q I rv ⟨P, st, σ', _, d, R, tv, e, k⟩
end Q

/-! Lay29f: sorted of a list of tuples of texts. -/
namespace Q
open PySem PySem.W PySem.SeqAt PyProof.Rows PySem.Calls
section
variable {prog : Program} {w : World} {A : Around} {E : Value → Shared → Prop} {s : Shared}
theorem oneLt_tup {xs ys : List PyData} {a b : Value} {as bs : List Addr} {Q : Bool → Shared → Prop} (ra : Reads s.heap a (.tuple xs) as) (rb : Reads s.heap b (.tuple ys) bs) (hal : alikeAll xs ys = true)
    (hu : A.units + min (PyData.tuple xs).depth (PyData.tuple ys).depth < cLine) (hq : Q (dataLt (.tuple xs) (.tuple ys)) s) : wpAny (model prog w) A (oneLt' true a b) Q E s := by
  cases ra with
  | @tuple l o vs n _ as₁ h1 h2 h3 h4 =>
    cases rb with
    | @tuple l' o' vs' n' _ bs₁ k1 k2 k3 k4 =>
      have n1 : vs.size = xs.length := by simpa using ReadsAll.length _ _ _ h4
      have n2 : vs'.size = ys.length := by simpa using ReadsAll.length _ _ _ k4
      rw [dataLt_tuple, ← firstLt_toks xs ys hal, ← n1, ← n2] at hq
      rw [oneLt'_eq]
      simp only [if_true]
      refine wpAny_bind (wpAny_cRoomFor (room_here hu) ?_)
      obtain ⟨cls, dd, data, sl⟩ := o
      obtain ⟨cls2, dd2, data2, sl2⟩ := o'
      simp only at h2 h3 k2 k3
      subst h2 h3 k2 k3
      refine wpAny_bind (wpAny_callSpecialIfBound?_slot (T := "tuple") ⟨_, h1, rfl⟩ F.slot_tuple_lt (call_meets F.slot_tuple_lt ⟨_, h1, rfl⟩ F.entry_tuple_lt (F.args_tuple_lt_2 _ _) (PySem.SeqAt.tuple_ltAt l l' vs vs' n n' dd dd2 sl sl2 (pairEq xs ys) (fun j => dataLt (xs.getD j .none) (ys.getD j .none))) ⟨h1, k1, fun j j1 j2 => ?_, fun j j1 j2 hj => ?_, ?_⟩))
      · have := eqAt_alikeAll xs ys A.in1 s vs.toList vs'.toList _ _ h4 k4 hal (room_in hu) j (by simpa using j1) (by simpa using j2)
        simpa using this
      · have := rcLt_alikeAll xs ys A.in1 s vs.toList vs'.toList _ _ h4 k4 hal (room_in hu) j (by simpa using j1) (by simpa using j2) hj
        simpa using this
      · exact wpAny_truthy_bool hq
end
/-- tuples, with their first items if they have any -/
inductive TupsO (h : Heap) : List Value → List (Option Value) → Prop
  | nil : TupsO h [] []
  | cons {a : Addr} {o : Obj} {xs : Array Value} {n : Nat} {vs : List Value} {fs : List (Option Value)} : h.get? a = some o → o.cls = .type "tuple" → o.data = .seq xs n → TupsO h vs fs → TupsO h (.ref a :: vs) (xs[0]? :: fs)
section
variable {M : Model} {A : Around} {E : Value → Shared → Prop} {s : Shared}
theorem firsts_o : ∀ {vs : List Value} {fs : List (Option Value)} {Q : List (Option Value) → Shared → Prop}, TupsO s.heap vs fs → Q fs s → wpAny M A (vs.mapM firstOfTuple') Q E s
  | _, _, Q, .nil, h => by rw [List.mapM_nil]; exact wpAny_pure h
  | _, _, Q, .cons (a := a) (o := o) (xs := xs) (n := n) (vs := vs) (fs := fs) ho hc hd t, h => by
    rw [List.mapM_cons]
    refine wpAny_bind ?_
    rw [kas_first_eq]
    refine wpAny_bind (Looks.here (show Looks M s.heap (typeOf (.ref a)) o.cls from (Looks.ld ho).andThen .now) ?_)
    rw [hc, if_neg (by first | decide | simp)]
    refine wpAny_bind (listItems_at ho hd (wpAny_pure ?_))
    exact wpAny_bind (firsts_o (Q := fun bs s' => wpAny M A (pure (xs[0]? :: bs)) Q E s') t (wpAny_pure h))
theorem tups_type {vs : List Value} {fs : List (Option Value)} (t : TupsO s.heap vs fs) : ∀ v ∈ vs, Looks M s.heap (typeOf v) (.type "tuple") := by
  induction t with
  | nil => intro v hv; cases hv
  | cons ho hc hd t ih =>
    intro v hv
    rcases List.mem_cons.mp hv with rfl | hv
    · rw [← hc]
      exact (Looks.ld ho).andThen .now
    · exact ih v hv
/-- some tuple is empty: by one type where the first is, else in general -/
theorem kind_mixed {vs : List Value} {fs : List (Option Value)} {Q : SortKind → Shared → Prop} (t : TupsO s.heap vs fs) (hm : (fs.all fun f => f.isSome) = false) (h1 : ∀ f r, fs = some f :: r → Q general' s) (h2 : ∀ r, fs = none :: r → Q oneType' s) : wpAny M A (keyKind' vs.toArray) Q E s := by
  rw [kat_kind_eq, List.mapM_toArray, map_eq_pure_bind]
  refine wpAny_bind (wpAny_bind (firsts_o t (wpAny_pure ?_)))
  have hall : ¬ ((fs.toArray.all fun x => x.isSome) = true) := by
    rw [List.all_toArray, hm]; decide
  rw [if_neg hall]
  match fs, vs, t, hm with
  | [], _, _, hm => simp at hm
  | some f :: r, _, t, _ =>
    have : (((some f :: r).toArray[0]?.bind id).isSome) = true := by simp
    simp only [this, if_true]
    exact wpAny_pure (h1 f r rfl)
  | none :: r, v :: vs, t, _ =>
    have : (((none :: r : List (Option Value)).toArray[0]?.bind id).isSome) = false := by simp
    simp only [this, Bool.false_eq_true, if_false]
    rw [oneTypeOnly'_eq, List.mapM_toArray, map_eq_pure_bind]
    refine wpAny_bind (wpAny_bind (wpAny_bind (kas_mapM (r := Value.type "tuple") _ (fun v hv Q' hq => (tups_type t v hv).here hq) (wpAny_pure ?_))))
    have hall2 : ((List.map (fun _ => Value.type "tuple") (v :: vs)).toArray.all fun x => x == Value.type "tuple") = true := by
      simp only [List.all_toArray, List.all_map, List.all_eq_true]
      intro _ _
      rfl
    have h0 : (List.map (fun _ => Value.type "tuple") (v :: vs)).toArray[0]? = some (Value.type "tuple") := by simp
    rw [h0]
    simp only [hall2, if_true]
    exact wpAny_pure (wpAny_pure (h2 r rfl))
end
/-! ### tuples of texts -/
def tupS (h : Heap) (v : Value) (xs : List Str) : Prop := ∃ b o items n, v = .ref b ∧ h.get? b = some o ∧ o.cls = .type "tuple" ∧ o.data = .seq items n ∧ ReadsAll h items.toList (xs.map PyData.str) []
theorem strs_any {h h' : Heap} : ∀ {vs : List Value} {xs : List Str} {as : List Addr}, ReadsAll h vs (xs.map PyData.str) as → ReadsAll h' vs (xs.map PyData.str) []
  | _, [], _, .nil => .nil
  | _, x :: xs, _, .cons (.str _ t) r => .cons (as := []) (bs := []) (.str x t) (strs_any r)
theorem tupS.reads {h : Heap} {v : Value} {xs : List Str} (t : tupS h v xs) : Reads h v (.tuple (xs.map .str)) [] := by
  obtain ⟨b, o, items, n, rfl, ho, hc, hd, r⟩ := t
  exact .tuple ho hc hd r
theorem tupS.keep {h h' : Heap} {v : Value} {xs : List Str} {a : Addr} (k : ∀ b o, b ≠ a → h.get? b = some o → h'.get? b = some o) (ha : ∀ o, h.get? a = some o → o.cls = .type "list") (t : tupS h v xs) : tupS h' v xs := by
  obtain ⟨b, o, items, n, rfl, ho, hc, hd, r⟩ := t
  refine ⟨b, o, items, n, rfl, k b o (fun e => ?_) ho, hc, hd, strs_any r⟩
  subst e
  have := ha o ho
  rw [hc] at this
  exact absurd (Value.type.inj this) (by decide)
theorem alike_strs : ∀ xs ys : List Str, alikeAll (xs.map PyData.str) (ys.map PyData.str) = true
  | [], _ => by simp [alikeAll]
  | _ :: _, [] => by simp [alikeAll]
  | x :: xs, y :: ys => by simp [alikeAll, alike, alike_strs xs ys]
theorem depth_strs : ∀ xs : List Str, PyData.depthAll (xs.map PyData.str) = 0
  | [] => by simp [PyData.depthAll]
  | x :: xs => by simp [PyData.depthAll, PyData.depth, depth_strs xs]
theorem depth_tstr (xs : List Str) : (PyData.tuple (xs.map .str)).depth = 1 := by simp [PyData.depth, depth_strs]
/-- one row of texts less than another -/
def ltS (xs ys : List Str) : Bool := dataLt (.tuple (xs.map .str)) (.tuple (ys.map .str))
open Classical in
noncomputable def readS (h : Heap) (v : Value) : List Str := if hx : ∃ xs, tupS h v xs then hx.choose else []
theorem map_str_inj : ∀ {xs ys : List Str}, xs.map PyData.str = ys.map PyData.str → xs = ys
  | [], [], _ => rfl
  | x :: xs, y :: ys, h => by
    simp only [List.map_cons, List.cons.injEq, PyData.str.injEq] at h
    rw [h.1, map_str_inj h.2]
theorem readS_eq {h : Heap} {v : Value} {xs : List Str} (t : tupS h v xs) : readS h v = xs := by
  have hx : ∃ xs, tupS h v xs := ⟨xs, t⟩
  unfold readS
  rw [dif_pos hx]
  have h1 := hx.choose_spec.reads
  have h2 := t.reads
  have e := alike_unique _ _ v _ _ (by simp [alike, alike_strs]) h1 h2
  simp only [PyData.tuple.injEq] at e
  exact map_str_inj e
theorem ltS_swo (h : Heap) : SrtO.Swo (fun x y => ltS (readS h x) (readS h y)) := by
  refine ⟨fun x y e => ?_, fun x y z e1 e2 => ?_⟩
  · cases q : ltS (readS h y) (readS h x) with
    | false => rfl
    | true =>
      have := lex_trans _ _ _ e q
      rw [lex_irrefl] at this
      cases this
  · cases q : ltS (readS h z) (readS h x) with
    | false => rfl
    | true =>
      rcases lex_negTrans _ (keyToks (.tuple ((readS h y).map .str))) _ q with h1 | h1
      · have e2' : ltS (readS h z) (readS h y) = false := e2
        unfold ltS dataLt at e2'
        rw [h1] at e2'; cases e2'
      · have e1' : ltS (readS h y) (readS h x) = false := e1
        unfold ltS dataLt at e1'
        rw [h1] at e1'; cases e1'
section
variable {prog : Program} {w : World} {A : Around} {E : Value → Shared → Prop} {s : Shared}
theorem first_str {h : Heap} {items : List Value} {xs : List Str} {as : List Addr} (r : ReadsAll h items (xs.map PyData.str) as) {f : Value} (e : items[0]? = some f) : ∃ x t, f = .str x t := by
  match xs, r with
  | [], .nil => simp at e
  | x :: xs, .cons (.str _ t) _ => simp at e; exact ⟨x, t, e.symm⟩
theorem firsts0 {h : Heap} : ∀ {vs : List Value}, (∀ v ∈ vs, ∃ xs, tupS h v xs) → ∃ fs, TupsO h vs fs ∧ fs.length = vs.length ∧ ((fs.all fun f => f.isSome) = true → ∃ gs, KatTups h vs gs ∧ gs.length = vs.length ∧ ∀ g ∈ gs, ∃ x t, g = Value.str x t)
  | [], _ => ⟨[], .nil, rfl, fun _ => ⟨[], KatTups.nil, rfl, by simp⟩⟩
  | v :: vs, hp => by
    obtain ⟨fs, T, hl, G⟩ := firsts0 (vs := vs) fun u hu => hp u (List.mem_cons_of_mem _ hu)
    obtain ⟨xs, b, o, items, n, rfl, ho, hc, hd, r⟩ := hp v List.mem_cons_self
    refine ⟨items[0]? :: fs, .cons ho hc hd T, by simp [hl], fun ha => ?_⟩
    simp only [List.all_cons, Bool.and_eq_true] at ha
    obtain ⟨gs, K, gl, gx⟩ := G ha.2
    obtain ⟨f, ef⟩ := Option.isSome_iff_exists.mp ha.1
    refine ⟨f :: gs, KatTups.cons ho hc hd ef K, by simp [gl], fun g hg => ?_⟩
    rcases List.mem_cons.mp hg with rfl | hg
    · exact first_str r (by rw [Array.getElem?_toList]; exact ef)
    · exact gx g hg
theorem cmp_rows {vs : List Value} {h0 : Heap} (hu : A.units + 1 < cLine) (hp : ∀ v ∈ vs, ∃ xs, tupS h0 v xs ∧ tupS s.heap v xs) (κ : SortKind) (hk : κ = general' ∨ κ = oneType' ∨ κ = tuples' true) : SrtO.Cmp prog w A s κ (fun p => p.1 ∈ vs) (SrtO.lt2 fun x y => ltS (readS h0 x) (readS h0 y)) := by
  intro p q hm hm'
  obtain ⟨xs, t0, t1⟩ := hp _ hm
  obtain ⟨ys, u0, u1⟩ := hp _ hm'
  show wpAny (model prog w) A (keyLt' κ p.1 q.1) (fun r s' => s' = s ∧ r = ltS (readS h0 p.1) (readS h0 q.1)) (fun _ _ => False) s
  rw [readS_eq t0, readS_eq u0]
  have hd : A.units + min (PyData.tuple (xs.map .str)).depth (PyData.tuple (ys.map .str)).depth < cLine := by rw [depth_tstr, depth_tstr]; omega
  rcases hk with rfl | rfl | rfl
  · exact oneLt_alike (f := false) (fun e => nomatch e) t1.reads u1.reads (by simp [alike, alike_strs]) (fun e => nomatch e) hd ⟨rfl, rfl⟩
  · rw [keyLt'_oneType]
    exact oneLt_tup t1.reads u1.reads (alike_strs _ _) hd ⟨rfl, rfl⟩
  · obtain ⟨b, o, items, n, e1, ho, hc, hd1, r⟩ := t1
    obtain ⟨b', o', items', n', e2, ho', hc', hd2, r'⟩ := u1
    rw [e1, e2]
    refine kat_lt ho hd1 ho' hd2 ?_
    have n1 : items.size = (xs.map PyData.str).length := by simpa using ReadsAll.length _ _ _ r
    have n2 : items'.size = (ys.map PyData.str).length := by simpa using ReadsAll.length _ _ _ r'
    refine katLex_alike (xs.map .str) (ys.map .str) 0 _ _ _ _ r r' (alike_strs _ _) (by rw [depth_strs, depth_strs]; omega) (fun _ _ x t' tt e => ?_) (by rw [n1, n2]) ⟨rfl, by unfold ltS; rw [dataLt_tuple]⟩
    cases xs with
    | nil => simp at e
    | cons z zs =>
      simp only [List.map_cons, List.cons.injEq] at e
      rw [← e.1]
      intro h; cases h
theorem rows_sortable {a : Addr} {vs : List Value} {h0 : Heap} (h2 : 2 ≤ vs.length) (hp : ∀ v ∈ vs, ∃ xs, tupS h0 v xs ∧ tupS s.heap v xs) (ha : ∀ o, s.heap.get? a = some o → o.cls = .type "list") (hu : A.units + 1 < cLine) : SrtO.SortableO prog w A s a vs (fun x y => ltS (readS h0 x) (readS h0 y)) := by
  intro h' keep
  have hp' : ∀ v ∈ vs, ∃ xs, tupS h0 v xs ∧ tupS h' v xs := fun v hv => by
    obtain ⟨xs, t0, t⟩ := hp v hv
    exact ⟨xs, t0, t.keep keep ha⟩
  obtain ⟨fs, T, hl, G⟩ := firsts0 (h := h') (vs := vs) fun v hv => by
    obtain ⟨xs, _, t⟩ := hp' v hv
    exact ⟨xs, t⟩
  cases hm : (fs.all fun f => f.isSome) with
  | true =>
    obtain ⟨gs, K, gl, gx⟩ := G hm
    refine ⟨tuples' true, fun Q E hq => ?_, cmp_rows (s := { s with heap := h' }) hu hp' _ (.inr (.inr rfl))⟩
    have e : (Value.type "str" != Value.type "tuple") = true := by first | decide +kernel | rfl | decide
    refine kat_kind (T := .type "str") K (by omega) (fun f hf => ?_) (by rfl) (by rw [e]; exact hq)
    obtain ⟨x, t, rfl⟩ := gx f hf
    exact Looks.now
  | false =>
    match fs, T, hl, hm with
    | [], _, hl, _ => simp at hl; omega
    | some f :: r, T, _, hm => exact ⟨general', fun Q E hq => kind_mixed (s := { s with heap := h' }) T hm (fun _ _ _ => hq) (fun _ e => nomatch e), cmp_rows (s := { s with heap := h' }) hu hp' _ (.inl rfl)⟩
    | none :: r, T, _, hm => exact ⟨oneType', fun Q E hq => kind_mixed (s := { s with heap := h' }) T hm (fun _ _ e => nomatch e) (fun _ _ => hq), cmp_rows (s := { s with heap := h' }) hu hp' _ (.inr (.inl rfl))⟩
end
end Q

/-! Lay29g: sorted of a list of tuples of texts, as a rule. -/
namespace Q
open PySem PySem.W PySem.SeqAt PyProof.Rows PySem.Calls
theorem toks_strs : ∀ {xs ys : List Str}, keyToksAll (xs.map PyData.str) = keyToksAll (ys.map PyData.str) → xs = ys
  | [], [], _ => rfl
  | [], y :: ys, h => by simp [keyToksAll] at h
  | x :: xs, [], h => by simp [keyToksAll] at h
  | x :: xs, y :: ys, h => by
    simp only [List.map_cons, keyToksAll, keyToks, List.cons.injEq, List.cons_append, List.nil_append, true_and, Sum.inr.injEq] at h
    rw [str_of_cps h.1, toks_strs h.2]
theorem ltS_anti {xs ys : List Str} (h1 : ltS xs ys = false) (h2 : ltS ys xs = false) : xs = ys := by
  have := lex_total _ _ h1 h2
  simp only [keyToks] at this
  exact toks_strs this
def insT (x : List Str) : List (List Str) → List (List Str)
  | [] => [x]
  | y :: r => if ltS y x = true then y :: insT x r else x :: y :: r
def srtT : List (List Str) → List (List Str)
  | [] => []
  | x :: r => insT x (srtT r)
theorem insT_perm (x : List Str) : ∀ l, (insT x l).Perm (x :: l)
  | [] => .refl _
  | y :: r => by
    unfold insT
    split
    · exact ((insT_perm x r).cons y).trans (.swap x y r)
    · exact .refl _
theorem srtT_perm : ∀ l, (srtT l).Perm l
  | [] => .refl _
  | x :: r => (insT_perm x (srtT r)).trans ((srtT_perm r).cons x)
def leS (a b : List Str) : Prop := ltS b a = false
theorem leS_trans {a b c : List Str} (h1 : leS a b) (h2 : leS b c) : leS a c := by
  unfold leS at *
  cases q : ltS c a with
  | false => rfl
  | true =>
    rcases lex_negTrans _ (keyToks (.tuple (b.map .str))) _ q with h | h
    · unfold ltS dataLt at h2; rw [h] at h2; cases h2
    · unfold ltS dataLt at h1; rw [h] at h1; cases h1
theorem leS_of_lt {a b : List Str} (h : ltS a b = true) : leS a b := by
  unfold leS
  cases q : ltS b a with
  | false => rfl
  | true =>
    have := lex_trans _ _ _ h q
    rw [lex_irrefl] at this
    cases this
theorem insT_sorted (x : List Str) : ∀ {l}, l.Pairwise leS → (insT x l).Pairwise leS
  | [], _ => List.pairwise_singleton _ _
  | y :: r, h => by
    have hp := List.pairwise_cons.mp h
    unfold insT
    split
    · rename_i hlt
      refine List.pairwise_cons.mpr ⟨fun z hz => ?_, insT_sorted x hp.2⟩
      rcases List.mem_cons.mp ((insT_perm x r).mem_iff.mp hz) with rfl | hz
      · exact leS_of_lt hlt
      · exact hp.1 z hz
    · rename_i hlt
      have hxy : leS x y := Bool.eq_false_iff.mpr hlt
      refine List.pairwise_cons.mpr ⟨fun z hz => ?_, h⟩
      rcases List.mem_cons.mp hz with rfl | hz
      · exact hxy
      · exact leS_trans hxy (hp.1 z hz)
theorem srtT_sorted : ∀ l, (srtT l).Pairwise leS
  | [] => .nil
  | x :: r => insT_sorted x (srtT_sorted r)
theorem sorted_uniq : ∀ {l m : List (List Str)}, l.Perm m → l.Pairwise leS → m.Pairwise leS → l = m
  | [], m, p, _, _ => (List.Perm.nil_eq p)
  | a :: l, [], p, _, _ => by have := p.length_eq; simp at this
  | a :: l, b :: m, p, hl, hm => by
    have h1 := List.pairwise_cons.mp hl
    have h2 := List.pairwise_cons.mp hm
    have e : a = b := by
      rcases List.mem_cons.mp (p.mem_iff.mp List.mem_cons_self) with h | h
      · exact h
      · rcases List.mem_cons.mp (p.mem_iff.mpr (List.mem_cons_self (a := b) (l := m))) with h' | h'
        · exact h'.symm
        · exact ltS_anti (h2.1 a h) (h1.1 b h')
    subst e
    rw [sorted_uniq ((List.perm_cons a).mp p) h1.2 h2.2]
section
open L2
variable {X : Cx}
def isS (K : PySem.W.Frag) (H : Hp) (x : V) (xs : List Str) : Prop := ∃ b, x = .ref b ∧ SqT K H b (xs.map V.str)
theorem vals_strs {h : Heap} : ∀ {xs : List Str} {us : List Value}, Vals (xs.map V.str) us → ReadsAll h us (xs.map PyData.str) []
  | [], _, .nil => .nil
  | x :: xs, _, .cons ⟨t, e⟩ r => by
    subst e
    exact .cons (as := []) (bs := []) (.str x t) (vals_strs r)
theorem isS.at {pins : List (Addr × Obj)} {σ : L2.St} {H : Hp} {s : Shared} (I : Inv X pins σ H s) {x : V} {u : Value} {xs : List Str} (h : isS X.K H x xs) (r : RelV x u) : tupS s.heap u xs := by
  obtain ⟨b, rfl, hb⟩ := h
  cases r
  obtain ⟨its, rv, ⟨o, ho, hc, n, hd⟩, _⟩ := I.tuple hb
  exact ⟨b, o, its.toArray, n, rfl, ho, hc, hd, by simpa using vals_strs rv⟩
def rSortT (K : PySem.W.Frag) : List V → Hp → VK → Prop := fun vs H Q => ∃ (a : Addr) (xs : List V) (rows : List (List Str)), vs = [.ref a] ∧ SqL K H a xs ∧ xs.length = rows.length ∧ (∀ (i : Nat) (x : V) (r : List Str), xs[i]? = some x → rows[i]? = some r → isS K H x r) ∧
  ∀ (ys : List V) (p : Addr), ys.length = rows.length → (∀ (i : Nat) (y : V) (r : List Str), ys[i]? = some y → (srtT rows)[i]? = some r → isS K H y r) → H p = none → Q (.ref p) (upd H p (.lst ys))
theorem cr_sortRows (hu : X.A.units + 10 < cLine) : CallR X (.builtin "sorted") (rSortT X.K) := by
  intro pins s σ H vs us Q I r h
  obtain ⟨a, xs, rows, rfl, hs, hl, hp, q⟩ := h
  obtain ⟨its, rv, hL, hz⟩ := I.list hs
  rw [Vals.ref1 r]
  have hlen : its.length = rows.length := by rw [← rv.length]; exact hl
  have hat : ∀ (i : Nat) (u : Value), its[i]? = some u → ∃ x r, xs[i]? = some x ∧ rows[i]? = some r ∧ isS X.K H x r ∧ RelV x u ∧ tupS s.heap u r := fun i u hi => by
    have h1 : i < its.length := (List.getElem?_eq_some_iff.mp hi).1
    have h2 : i < xs.length := by rw [rv.length]; exact h1
    have h3 : i < rows.length := by omega
    obtain ⟨u', e1, e2⟩ := rv.get (List.getElem?_eq_getElem h2)
    rw [hi] at e1
    cases e1
    have h4 := hp i _ _ (List.getElem?_eq_getElem h2) (List.getElem?_eq_getElem h3)
    exact ⟨_, _, List.getElem?_eq_getElem h2, List.getElem?_eq_getElem h3, h4, e2, h4.at I e2⟩
  have hmem : ∀ v ∈ its, ∃ zs, tupS s.heap v zs := fun v hv => by
    obtain ⟨i, hi, e⟩ := List.mem_iff_getElem.mp hv
    obtain ⟨_, r, _, _, _, _, t⟩ := hat i v (by rw [List.getElem?_eq_getElem hi, e])
    exact ⟨r, t⟩
  refine SrtO.sorted_ord (ltS_swo s.heap) hL.isList (by rw [← rv.length]; exact hz) (fun h2 h₁ a' ha' k => rows_sortable (s := { s with heap := h₁ }) h2 (fun v hv => ?_) (fun o e => ?_) (by show X.A.units + 1 + 1 + 1 < cLine; omega)) fun out h1 h2 => ?_
  · obtain ⟨zs, t⟩ := hmem v hv
    refine ⟨zs, t, ?_⟩
    obtain ⟨b, o, items, n, rfl, ho, hc, hd, rr⟩ := t
    exact ⟨b, o, items, n, rfl, (k b o ho).2, hc, hd, strs_any rr⟩
  · have e' : some o = some (PyProof.Rows.seqObj "list" its.toArray 0) := e.symm.trans ha'
    cases e'
    rfl
  · obtain ⟨ep, he'⟩ := PyProof.Rows.sortedAll_at s.heap its out.toArray
    have hpm := h2.perm
    have href : ∀ u ∈ out, ∃ b, u = Value.ref b := fun u hu => by
      obtain ⟨zs, b, _, _, _, e, _⟩ := hmem u (hpm.mem_iff.mp hu)
      exact ⟨b, e⟩
    have hr : its.map (readS s.heap) = rows := by
      apply List.ext_getElem?
      intro i
      rw [List.getElem?_map]
      cases e : its[i]? with
      | none =>
        have : rows.length ≤ i := by rw [← hlen]; exact List.getElem?_eq_none_iff.mp e
        rw [List.getElem?_eq_none this]
        rfl
      | some u =>
        obtain ⟨_, r, _, e2, _, _, t⟩ := hat i u e
        rw [e2, Option.map_some, readS_eq t]
    have ho : out.map (readS s.heap) = srtT rows := sorted_uniq ((hpm.map _).trans (by rw [hr]; exact (srtT_perm rows).symm)) (List.pairwise_map.mpr (h1.imp fun {x y} e => e)) (srtT_sorted rows)
    have hlen' : (out.map bkV).length ≤ sizeLine := by
      rw [List.length_map, hpm.length_eq, ← rv.length]
      exact hz
    refine ⟨.ref _, upd H (s.heap.objs.size + 1) (.lst (out.map bkV)), I.laid (t' := s.toks) (fun _ _ => PyProof.Rows.sortedAll_old) (Nat.le_succ _) ⟨hlen', out, ep, bkV_vals href, he'⟩, rfl, q _ _ (by rw [List.length_map, hpm.length_eq]; exact hlen) (fun i y r hy hr' => ?_) (I.hok.fresh (Nat.le_succ _))⟩
    rw [List.getElem?_map] at hy
    rw [← ho, List.getElem?_map] at hr'
    cases e : out[i]? with
    | none => rw [e] at hy; cases hy
    | some u =>
      rw [e] at hy hr'
      cases hy
      cases hr'
      have hu' : u ∈ its := hpm.mem_iff.mp (List.mem_of_getElem? e)
      obtain ⟨j, hj, ej⟩ := List.mem_iff_getElem.mp hu'
      obtain ⟨x, r', _, _, h5, h6, t⟩ := hat j u (by rw [List.getElem?_eq_getElem hj, ej])
      rw [readS_eq t]
      obtain ⟨b, rfl, hb⟩ := h5
      cases h6
      exact ⟨b, rfl, hb⟩
end
section
open L2
def rowD : List D → Option (List Str)
  | [] => some []
  | .str x :: r => (rowD r).map (x :: ·)
  | _ => none
def rowsD : List D → Option (List (List Str))
  | [] => some []
  | .tup ds :: r => (rowD ds).bind fun x => (rowsD r).map (x :: ·)
  | _ => none
def sD (r : List Str) : D := .tup (r.map .str)
def bSortT : List D → Option D
  | [.lst ds] => (rowsD ds).map fun rows => .lst ((srtT rows).map sD)
  | _ => none
theorem rowD_eq : ∀ {ds : List D} {xs : List Str}, rowD ds = some xs → ds = xs.map .str
  | [], xs, h => by cases h; rfl
  | d :: r, xs, h => by
    unfold rowD at h
    split at h
    · rename_i he; cases he
    · rename_i x r' he
      cases he
      rw [Option.map_eq_some_iff] at h
      obtain ⟨xs', h1, rfl⟩ := h
      rw [rowD_eq h1]
      rfl
    · cases h
theorem rowsD_eq : ∀ {ds : List D} {rows : List (List Str)}, rowsD ds = some rows → ds = rows.map sD
  | [], xs, h => by cases h; rfl
  | d :: r, xs, h => by
    unfold rowsD at h
    split at h
    · rename_i he; cases he
    · rename_i x r' he
      cases he
      rw [Option.bind_eq_some_iff] at h
      obtain ⟨y, h0, h⟩ := h
      rw [Option.map_eq_some_iff] at h
      obtain ⟨xs', h1, rfl⟩ := h
      rw [rowsD_eq h1, rowD_eq h0]
      rfl
    · cases h
theorem rp_strs {K : PySem.W.Frag} {H : Hp} {F : Addr → Prop} : ∀ {xs : List Str} {vs : List V}, RpL K H F vs (xs.map .str) → vs = xs.map V.str
  | [], _, .nil => rfl
  | x :: xs, _, .cons h r => by
    cases h
    rw [rp_strs r]
    rfl
theorem strs_rp {K : PySem.W.Frag} {H : Hp} {F : Addr → Prop} : ∀ xs : List Str, RpL K H F (xs.map V.str) (xs.map D.str)
  | [] => .nil
  | x :: xs => .cons (.str x) (strs_rp xs)
theorem rp_row {K : PySem.W.Frag} {H : Hp} {F : Addr → Prop} {v : V} {r : List Str} (h : Rp K H F v (sD r)) : isS K H v r := by
  cases h with
  | tup hT q =>
    rw [rp_strs q] at hT
    exact ⟨_, rfl, hT⟩
theorem row_rp {K : PySem.W.Frag} {H : Hp} {F : Addr → Prop} {v : V} {r : List Str} (h : isS K H v r) : Rp K H F v (sD r) := by
  obtain ⟨b, rfl, hT⟩ := h
  exact .tup hT (strs_rp r)
theorem rows_rp {K : PySem.W.Frag} {H : Hp} {F : Addr → Prop} : ∀ {rows : List (List Str)} {vs : List V}, RpL K H F vs (rows.map sD) → ∀ (i : Nat) (x : V) (r : List Str), vs[i]? = some x → rows[i]? = some r → isS K H x r
  | [], _, .nil, i, x, r, h, _ => by simp at h
  | r0 :: rows, _, .cons q qs, 0, x, r, h1, h2 => by
    simp at h1 h2
    subst h1 h2
    exact rp_row q
  | r0 :: rows, _, .cons q qs, i + 1, x, r, h1, h2 => rows_rp qs i x r (by simpa using h1) (by simpa using h2)
theorem rp_rows {K : PySem.W.Frag} {H : Hp} {F : Addr → Prop} : ∀ {rows : List (List Str)} {vs : List V}, vs.length = rows.length → (∀ (i : Nat) (x : V) (r : List Str), vs[i]? = some x → rows[i]? = some r → isS K H x r) → RpL K H F vs (rows.map sD)
  | [], [], _, _ => .nil
  | [], _ :: _, h, _ => by simp at h
  | _ :: _, [], h, _ => by simp at h
  | r :: rows, v :: vs, h, q => .cons (row_rp (q 0 v r rfl rfl)) (rp_rows (by simpa using h) fun i x r' h1 h2 => q (i + 1) x r' (by simpa using h1) (by simpa using h2))
theorem cd_sortT {X : Cx} (hu : X.A.units + 200 < cLine) : CallD X (.builtin "sorted") bSortT := by
  intro S C hK pins s σ H vs us Q I rv ⟨P, st, σ', ds, d, R, tv, e, k⟩
  unfold bSortT at e
  split at e
  · rename_i ds
    rw [Option.map_eq_some_iff] at e
    obtain ⟨rows, hr, rfl⟩ := e
    have hd := rowsD_eq hr
    subst hd
    cases tv with
    | cons t r =>
      cases r
      obtain ⟨a, ws, rfl, h, q⟩ := t.lst
      refine cr_sortRows (by omega) pins s σ H _ us Q I rv ⟨a, ws, rows, rfl, .inl (.inl h), by rw [q.length]; simp, fun i x r h1 h2 => by rw [← hK]; exact rows_rp q i x r h1 h2, fun ys p hl hy hp => ?_⟩
      exact k _ _ (Xt.new hp) (st_new R.st hp) (Fr.newL R hp (rp_rows (by rw [hl]; exact (srtT_perm rows).length_eq.symm) fun i x r h1 h2 => by rw [hK]; exact hy i x r h1 h2))
  · cases e
end
end Q

set_option maxHeartbeats 1000000
/-! ZipL: list(zip(a, b)). -/
namespace Q
open PySem PySem.Spec PyProof.Rows L2
theorem Inv.lays {X : Cx} {pins : List (Addr × Obj)} {σ : L2.St} {H H' : Hp} {s : Shared} {h' : Heap} {t' : Nat} (I : Inv X pins σ H s) (k : ∀ b u, s.heap.get? b = some u → h'.get? b = some u)
    (old : ∀ a o, H a = some o → H' a = some o) (fr : ∀ a, a < s.heap.objs.size → H a = none → H' a = none) (new : ∀ a o, H' a = some o → H a = none → ObjOk X.prog X.w H' h' a o) : Inv X pins σ H' { s with heap := h', toks := t' } := by
  refine I.un ⟨fun b o e _ _ _ => k b o e, fun b o e _ _ _ => ⟨o.slots, k b o e⟩, fun b o e n _ => fr b (Heap.lt_size e) n, fun b o e _ => ⟨o, k b o e⟩, fun b xs e => old b _ e, fun b o u e => old b _ e, fun b ps e => ⟨#[], by rw [old b _ e]; simp⟩⟩ fun a o e => ?_
  cases q : H a with
  | none => exact new a o e q
  | some u =>
    have := old a u q
    rw [e] at this
    cases this
    exact (I.hok a _ q).stay (fun c v _ q' => k c v q') (fun c q' => old c _ q') fun c xs q' => old c _ q'
section
variable {prog : Program} {w : World} {A : Around} {R : Result → Shared → Prop}
theorem ext_zip {b : Nat} {ls : List Zq} {n : Nat} {cols : Nat → List Value} (hh : A.handled = none) (hn : 0 < ls.length) (hn2 : ls.length ≤ sizeLine) (hsz : n ≤ 1000)
    (hc : ∀ j, j < n → (cols j).length = ls.length ∧ ∀ (m : Nat) (q : Zq), ls[m]? = some q → q.xs[j]? = (cols j)[m]?) (he : ∀ (m : Nat) (q : Zq), ls[m]? = some q → q.xs[n]? = none) (S : Nat) (hS0 : b + ls.length + 3 ≤ S) (res : Value) :
    ∀ (k j : Nat) (s : Shared) (acc : Array Value) (c : Nat) (f0 f1 : Value), n - j = k → j ≤ n → ZS s.heap b ls j f0 f1 → F0 f0 → ZL s.heap b ls → s.heap.get? S = some { cls := .type "list", dict := none, data := .seq acc c, slots := #[] } → acc.size = j →
    (∀ (i : Nat) (v : Value), acc[i]? = some v → ∃ a : Nat, v = .ref a ∧ S < a ∧ IsTup s.heap a (cols i).toArray) → (∀ (i j : Nat) (v : Value), acc[i]? = some v → acc[j]? = some v → i = j) →
    (∀ (h' : Heap) (acc' : Array Value) (c' : Nat), (∀ (x : Nat) (o : Obj), x ≠ S → ¬ (b ≤ x ∧ x < b + ls.length + 3) → s.heap.get? x = some o → h'.get? x = some o) → h'.get? S = some { cls := .type "list", dict := none, data := .seq acc' c', slots := #[] } → acc'.size = n →
      (∀ (i : Nat) (v : Value), acc'[i]? = some v → ∃ a : Nat, v = .ref a ∧ S < a ∧ IsTup h' a (cols i).toArray) → (∀ (i j : Nat) (v : Value), acc'[i]? = some v → acc'[j]? = some v → i = j) → R (.ok (.ret res)) { s with heap := h' }) →
    codeAny (model prog w) A (.builtin "list.extend.loop" ⟨[.ref S, .ref (b + ls.length + 2), res], []⟩) R s := by
  intro k
  induction k with
  | zero =>
    intro j s acc c f0 f1 hk hj z hf zl hS ha hacc inj hR
    have hin : j = n := by omega
    subst hin
    refine codeAny_builtin PySem.F.entry_extend_loop ?_
    rw [Around.under_plainId PySem.F.plain_extend_loop _]
    show wpAny _ A.in1 (pyNext (.ref (b + ls.length + 2)) >>= _) _ _ s
    refine wpAny_bind (pyNext_zipN_end (A := A.in1) hh z hf zl hn he fun h' hk' => ?_)
    refine wpAny_pure (hR h' acc c (fun x o _ hx e => hk' x o hx e) (hk' S _ (by omega) hS) ha (fun i v hv => ?_) inj)
    obtain ⟨a, e1, e2, e3⟩ := hacc i v hv
    exact ⟨a, e1, e2, hk' a _ (by omega) e3⟩
  | succ k ih =>
    intro j s acc c f0 f1 hk hj z hf zl hS ha hacc inj hR
    have hlt : j < n := by omega
    obtain ⟨c1, c2⟩ := hc j hlt
    refine codeAny_builtin PySem.F.entry_extend_loop ?_
    rw [Around.under_plainId PySem.F.plain_extend_loop _]
    show wpAny _ A.in1 (pyNext (.ref (b + ls.length + 2)) >>= _) _ _ s
    refine wpAny_bind (pyNext_zipN_item (A := A.in1) z hf zl hn hn2 c1 c2 fun h' g0 g1 a1 a2 a3 a4 a5 => ?_)
    have hS' := a5 S _ (by omega) hS
    have hSlt : S < s.heap.objs.size := Heap.lt_size hS
    show wpAny _ A.in1 (updateSeq S (·.push (.ref s.heap.objs.size)) >>= _) _ _ _
    refine wpAny_bind ?_
    have oth : ∀ (x : Nat) (o : Obj), x ≠ S → h'.get? x = some o → (h'.update S (Obj.mapSeq (·.push (.ref s.heap.objs.size)))).get? x = some o := fun x o hx e => (Heap.get?_update_other _ _ (fun q : S = x => hx q.symm)).trans e
    refine wpAny_updateSeq (s := { s with heap := h' }) hS' rfl (wpAny_pure ⟨plainId_quiet PySem.F.plain_extend_loop _, ih (j + 1) _ (acc.push (.ref s.heap.objs.size)) _ g0 g1 (by omega) hlt (a1.keep fun c hc o e => oth c o (by omega) e) a2 ?_ (Heap.get?_update_self _ hS' rfl) (by rw [Array.size_push, ha]) ?_ ?_ fun h'' acc' c' hk'' hS'' ha'' hacc' inj' => ?_⟩)
      (by rw [ha, sizeLine_eq]; omega) (by show (acc.push _).size ≤ sizeLine + 1; rw [Array.size_push, ha, sizeLine_eq]; omega)
    · intro m q e
      exact ⟨((zl.kp a5) m q e).1.at fun o u => oth _ o (by have := (zl m q e).2; omega) u, (zl m q e).2⟩
    · intro i v hv
      rw [Array.getElem?_push] at hv
      split at hv
      · rename_i ei
        cases hv
        refine ⟨s.heap.objs.size, rfl, hSlt, oth _ _ (by omega) ?_⟩
        rw [ei, ha]; exact a3
      · obtain ⟨a, e1, e2, e3⟩ := hacc i v hv
        exact ⟨a, e1, e2, oth a _ (by omega) (a5 a _ (by omega) e3)⟩
    · have old : ∀ (i : Nat), acc[i]? ≠ some (.ref s.heap.objs.size) := fun i e => by
        obtain ⟨a, e1, _, e4⟩ := hacc i _ e
        cases e1
        exact Nat.lt_irrefl _ (Heap.lt_size e4)
      intro i j v hi hj
      rw [Array.getElem?_push] at hi hj
      split at hi
      · cases hi
        split at hj
        · omega
        · exact (old _ hj).elim
      · split at hj
        · cases hj
          exact (old _ hi).elim
        · exact inj i j v hi hj
    · exact hR h'' acc' c' (fun x o hx hx2 e => hk'' x o hx hx2 (oth x o hx (a5 x o hx2 e))) hS'' ha'' hacc' inj'
theorem nolen_zip : typeLookup (.type "zip") "__len__" = pure none := by rw [typeLookup_type, builtinLookup_eq_fast]; kernel_rfl
theorem nohint_zip : typeLookup (.type "zip") "__length_hint__" = pure none := by rw [typeLookup_type, builtinLookup_eq_fast]; kernel_rfl
variable {E : Value → Shared → Prop} {s : Shared}
theorem ext_with_zip {b : Nat} {ls : List Zq} {n : Nat} {cols : Nat → List Value} {f0 f1 : Value} (hh : A.handled = none) (hn : 0 < ls.length) (hn2 : ls.length ≤ sizeLine) (hsz : n ≤ 1000)
    (hc : ∀ j, j < n → (cols j).length = ls.length ∧ ∀ (m : Nat) (q : Zq), ls[m]? = some q → q.xs[j]? = (cols j)[m]?) (he : ∀ (m : Nat) (q : Zq), ls[m]? = some q → q.xs[n]? = none)
    (z : ZS s.heap b ls 0 f0 f1) (hf : F0 f0) (zl : ZL s.heap b ls) (S : Nat) (hsl : b + ls.length + 3 ≤ S) (res : Value) (c₀ : Nat) (hS : s.heap.get? S = some { cls := .type "list", data := .seq #[] c₀ })
    (hR : ∀ (h' : Heap) (acc' : Array Value) (c' : Nat), (∀ (x : Nat) (o : Obj), x ≠ S → ¬ (b ≤ x ∧ x < b + ls.length + 3) → s.heap.get? x = some o → h'.get? x = some o) → h'.get? S = some { cls := .type "list", dict := none, data := .seq acc' c', slots := #[] } → acc'.size = n →
      (∀ (i : Nat) (v : Value), acc'[i]? = some v → ∃ a : Nat, v = .ref a ∧ S < a ∧ IsTup h' a (cols i).toArray) → (∀ (i j : Nat) (v : Value), acc'[i]? = some v → acc'[j]? = some v → i = j) → R (.ok (.ret res)) { s with heap := h' }) :
    wpAny (model prog w) A.in1 (Builtin.List.listExtendWith (.ref S) (.ref (b + ls.length + 2)) res)
      (fun fin s' => match fin with | .done f => R (.ok f) s' | .again c' => c'.quiet = true ∧ codeAny (model prog w) A c' R s') (fun e s' => R (.error e) s') s := by
  have hT : s.TypeIs (.ref (b + ls.length + 2)) "zip" := ⟨_, z.z, rfl⟩
  have hSr : ¬ (S = b + ls.length + 2) := by omega
  unfold Builtin.List.listExtendWith
  refine wpAny_bind (wpAny_typeOf hT ?_)
  have h1 : Builtin.List.listSameRef (.ref S) (.ref (b + ls.length + 2)) = false := by simp [Builtin.List.listSameRef, hSr]
  have h22 : (Value.type "zip" == Value.type "list") = false := by decide
  have h3 : (Value.type "zip" == Value.type "tuple") = false := by decide
  simp only [h1, h22, h3, Bool.or_false, Bool.false_eq_true, if_false]
  refine wpAny_bind (pyIter_zipN z.z ?_)
  refine wpAny_bind (wpAny_holding ?_)
  unfold Builtin.List.listLengthHint
  refine wpAny_bind (wpAny_specialOf hT nolen_zip ?_)
  show wpAny _ _ (specialOf (Value.ref (b + ls.length + 2)) (Str.ofString "__length_hint__") >>= _) _ _ _
  refine wpAny_bind (wpAny_specialOf hT nohint_zip ?_)
  refine wpAny_pure ?_
  show wpAny _ _ (rule "list.extend.makes-room" >>= fun _ => Builtin.List.listTouch (.ref S) >>= fun _ =>
    again (.builtin "list.extend.loop" ⟨[.ref S, .ref (b + ls.length + 2), res], []⟩)) _ _ _
  refine wpAny_bind (wpAny_rule ?_)
  refine wpAny_bind ?_
  show wpAny _ _ (updateSeq S (·.push .none) >>= fun _ => updateSeq S (·.pop)) _ _ _
  refine wpAny_bind (wpAny_updateSeq hS rfl ?_)
  have hS₂ := Heap.get?_update_self (Obj.mapSeq (·.push Value.none)) hS rfl
  refine wpAny_updateSeq (hz := by seq_fits) hS₂ rfl ?_
  have hS₃ := Heap.get?_update_self (Obj.mapSeq (·.pop)) hS₂ rfl
  have oth2 : ∀ (x : Nat) (o : Obj), x ≠ S → s.heap.get? x = some o → ((s.heap.update S (Obj.mapSeq (·.push Value.none))).update S (Obj.mapSeq (·.pop))).get? x = some o :=
    fun x o hb e => (Heap.get?_update_other _ _ (fun q : S = x => hb q.symm)).trans ((Heap.get?_update_other _ _ (fun q : S = x => hb q.symm)).trans e)
  refine wpAny_pure ⟨plainId_quiet PySem.F.plain_extend_loop _, ext_zip hh hn hn2 hsz hc he S hsl res n 0 _ #[] _ f0 f1 rfl (Nat.zero_le _) (z.keep fun c hc o e => oth2 c o (by omega) e) hf
    (fun m q e => ⟨(zl m q e).1.at fun o u => oth2 _ o (by have := (zl m q e).2; omega) u, (zl m q e).2⟩) hS₃ rfl (fun i v hv => by simp at hv) (fun i j v hv => by simp at hv) fun h' acc' c' hk hS' ha hacc inj => ?_⟩
  exact hR h' acc' c' (fun x o hx hx2 e => hk x o hx hx2 (oth2 x o hx e)) hS' ha hacc inj
theorem list_init_zip {b : Nat} {ls : List Zq} {n : Nat} {cols : Nat → List Value} {f0 f1 : Value} (hh : A.handled = none) (hn : 0 < ls.length) (hn2 : ls.length ≤ sizeLine) (hsz : n ≤ 1000)
    (hc : ∀ j, j < n → (cols j).length = ls.length ∧ ∀ (m : Nat) (q : Zq), ls[m]? = some q → q.xs[j]? = (cols j)[m]?) (he : ∀ (m : Nat) (q : Zq), ls[m]? = some q → q.xs[n]? = none)
    (z : ZS s.heap b ls 0 f0 f1) (hf : F0 f0) (zl : ZL s.heap b ls) (S : Nat) (hsl : b + ls.length + 3 ≤ S) (hS : s.heap.get? S = some { cls := .type "list", data := .seq #[] })
    (hR : ∀ (h' : Heap) (acc' : Array Value) (c' : Nat), (∀ (x : Nat) (o : Obj), x ≠ S → ¬ (b ≤ x ∧ x < b + ls.length + 3) → s.heap.get? x = some o → h'.get? x = some o) → h'.get? S = some { cls := .type "list", dict := none, data := .seq acc' c', slots := #[] } → acc'.size = n →
      (∀ (i : Nat) (v : Value), acc'[i]? = some v → ∃ a : Nat, v = .ref a ∧ S < a ∧ IsTup h' a (cols i).toArray) → (∀ (i j : Nat) (v : Value), acc'[i]? = some v → acc'[j]? = some v → i = j) → R (.ok (.ret .none)) { s with heap := h' }) :
    wpAny (model prog w) A.in1 (Builtin.«list.__init__» ⟨[.ref S, .ref (b + ls.length + 2)], []⟩)
      (fun fin s' => match fin with | .done f => R (.ok f) s' | .again c' => c'.quiet = true ∧ codeAny (model prog w) A c' R s') (fun e s' => R (.error e) s') s := by
  show wpAny _ _ (do let old ← Builtin.List.listItems (.ref S); Builtin.List.listUpdate (.ref S) (fun _ => #[]); letGo old.toList.reverse; Builtin.List.listExtendWith (.ref S) (.ref (b + ls.length + 2)) .none) _ _ s
  refine wpAny_bind ?_
  unfold Builtin.List.listItems
  refine wpAny_bind (wpAny_seqItems hS rfl (wpAny_pure ?_))
  show wpAny _ _ (updateSeq S (fun _ => #[]) >>= fun _ => letGo (#[] : Array Value).toList.reverse >>= fun _ => Builtin.List.listExtendWith (.ref S) (.ref (b + ls.length + 2)) .none) _ _ s
  refine wpAny_bind (wpAny_updateSeq hS rfl ?_)
  have hS₂ := Heap.get?_update_self (Obj.mapSeq (fun _ => (#[] : Array Value))) hS rfl
  have oth : ∀ (x : Nat) (o : Obj), x ≠ S → s.heap.get? x = some o → (s.heap.update S (Obj.mapSeq (fun _ => (#[] : Array Value)))).get? x = some o :=
    fun x o hb e => (Heap.get?_update_other _ _ (fun q : S = x => hb q.symm)).trans e
  refine wpAny_bind (wpAny_letGo ?_)
  refine ext_with_zip hh hn hn2 hsz hc he (z.keep fun c hc o e => oth c o (by omega) e) hf (fun m q e => ⟨(zl m q e).1.at fun o u => oth _ o (by have := (zl m q e).2; omega) u, (zl m q e).2⟩) S hsl .none _ hS₂ fun h' acc' c' hk hS' ha hacc inj => ?_
  exact hR h' acc' c' (fun x o hx hx2 e => hk x o hx hx2 (oth x o hx e)) hS' ha hacc inj
/-- list(z), z a new zip -/
theorem call_list_zip {b : Nat} {ls : List Zq} {n : Nat} {cols : Nat → List Value} {f0 f1 : Value} {Q : Value → Shared → Prop} (hh : A.handled = none) (hn : 0 < ls.length) (hn2 : ls.length ≤ sizeLine) (hsz : n ≤ 1000)
    (hc : ∀ j, j < n → (cols j).length = ls.length ∧ ∀ (m : Nat) (q : Zq), ls[m]? = some q → q.xs[j]? = (cols j)[m]?) (he : ∀ (m : Nat) (q : Zq), ls[m]? = some q → q.xs[n]? = none)
    (z : ZS s.heap b ls 0 f0 f1) (hf : F0 f0) (zl : ZL s.heap b ls) (hsl : b + ls.length + 3 ≤ s.heap.objs.size)
    (hQ : ∀ (h' : Heap) (acc' : Array Value) (c' : Nat), (∀ (x : Nat) (o : Obj), ¬ (b ≤ x ∧ x < b + ls.length + 3) → s.heap.get? x = some o → h'.get? x = some o) → h'.get? s.heap.objs.size = some { cls := .type "list", dict := none, data := .seq acc' c', slots := #[] } → acc'.size = n →
      (∀ (i : Nat) (v : Value), acc'[i]? = some v → ∃ a : Nat, v = .ref a ∧ s.heap.objs.size < a ∧ IsTup h' a (cols i).toArray) → (∀ (i j : Nat) (v : Value), acc'[i]? = some v → acc'[j]? = some v → i = j) → Q (.ref s.heap.objs.size) { s with heap := h' }) :
    wpAny (model prog w) A (call (.type "list") [.ref (b + ls.length + 2)]) Q E s := by
  refine callType_codes (Q₁ := fun obj s₁ => obj = .ref s.heap.objs.size ∧ s₁ = { s with heap := s.heap.push { cls := .type "list", data := .seq #[] } }) PySem.F.called_list (PySem.F.typeCall_list_1 _) PySem.F.entry_list_init
    (code_list_new _ ⟨rfl, rfl⟩) fun obj s₁ h₁ => ?_
  obtain ⟨rfl, rfl⟩ := h₁
  have hS : (s.heap.push { cls := .type "list", data := .seq #[] }).get? s.heap.objs.size = some { cls := .type "list", data := .seq #[] } := Heap.get?_push_size _ rfl
  have up : ∀ (x : Nat) (o : Obj), s.heap.get? x = some o → (s.heap.push { cls := .type "list", data := .seq #[] }).get? x = some o := fun x o e => Heap.get?_push_of_some _ e
  refine ⟨⟨_, hS, rfl⟩, PySem.F.args_list_init_2 _ _, list_init_zip (A := A.in1) (s := { s with heap := s.heap.push { cls := .type "list", data := .seq #[] } }) hh hn hn2 hsz hc he (z.keep fun c hc o e => up c o e) hf (fun m q e => ⟨(zl m q e).1.at fun o u => up _ o u, (zl m q e).2⟩) _ hsl hS fun h' acc' c' hk hS' ha hacc inj => ?_⟩
  refine ⟨rfl, hQ h' acc' c' (fun x o hx e => ?_) hS' ha hacc inj⟩
  exact hk x o (Nat.ne_of_lt (Heap.lt_size e)) hx (up x o e)
end
/-! ### the heap behind it -/
def layT (H : Hp) : List Addr → List V → List V → Hp
  | q :: ps, x :: xs, y :: ys => upd (layT H ps xs ys) q (.tup [x, y])
  | _, _, _ => H
theorem layT_ne {H : Hp} {a : Addr} : ∀ {ps : List Addr} {xs ys : List V}, a ∉ ps → layT H ps xs ys a = H a
  | [], _, _, _ => rfl
  | _ :: _, [], _, _ => rfl
  | _ :: _, _ :: _, [], _ => rfl
  | q :: ps, x :: xs, y :: ys, h => by
    rw [layT, upd_ne (fun e => h (by rw [e]; exact List.mem_cons_self)), layT_ne fun m => h (List.mem_cons_of_mem _ m)]
theorem layT_old {H : Hp} {a : Addr} {o : HO} {ps : List Addr} {xs ys : List V} (hn : ∀ q ∈ ps, H q = none) (e : H a = some o) : layT H ps xs ys a = some o := by
  rw [layT_ne fun m => by rw [hn a m] at e; cases e]; exact e
theorem layT_at {H : Hp} : ∀ {ps : List Addr} {xs ys : List V} {i : Nat} {q : Addr} {x y : V}, ps.Nodup → ps[i]? = some q → xs[i]? = some x → ys[i]? = some y → layT H ps xs ys q = some (.tup [x, y])
  | [], _, _, _, _, _, _, _, h, _, _ => by simp at h
  | _ :: _, [], _, _, _, _, _, _, _, h, _ => by simp at h
  | _ :: _, _ :: _, [], _, _, _, _, _, _, _, h => by simp at h
  | p :: ps, x0 :: xs, y0 :: ys, 0, q, x, y, nd, h1, h2, h3 => by
    simp at h1 h2 h3
    subst h1 h2 h3
    rw [layT, upd_same]
  | p :: ps, x0 :: xs, y0 :: ys, i + 1, q, x, y, nd, h1, h2, h3 => by
    simp only [List.getElem?_cons_succ] at h1 h2 h3
    have nd' := List.nodup_cons.mp nd
    have hq : q ≠ p := fun e => nd'.1 (by rw [← e]; exact List.mem_of_getElem? h1)
    rw [layT, upd_ne hq]
    exact layT_at nd'.2 h1 h2 h3
theorem layT_inv {H : Hp} {a : Addr} {o : HO} (hn : H a = none) : ∀ {ps : List Addr} {xs ys : List V}, layT H ps xs ys a = some o → ∃ (i : Nat) (x y : V), ps[i]? = some a ∧ xs[i]? = some x ∧ ys[i]? = some y ∧ o = .tup [x, y]
  | [], _, _, e => by have e' : H a = some o := e; rw [hn] at e'; cases e'
  | _ :: _, [], _, e => by have e' : H a = some o := e; rw [hn] at e'; cases e'
  | _ :: _, _ :: _, [], e => by have e' : H a = some o := e; rw [hn] at e'; cases e'
  | p :: ps, x0 :: xs, y0 :: ys, e => by
    rw [layT] at e
    by_cases h : a = p
    · subst h
      rw [upd_same] at e
      cases e
      exact ⟨0, x0, y0, rfl, rfl, rfl, rfl⟩
    · rw [upd_ne h] at e
      obtain ⟨i, x, y, h1, h2, h3, h4⟩ := layT_inv hn e
      exact ⟨i + 1, x, y, h1, h2, h3, h4⟩
structure LzNew (H1 H2 : Hp) (xs ys : List V) (p : Addr) (ps : List Addr) : Prop where
  old : ∀ a o, H1 a = some o → H2 a = some o
  pn : H1 p = none
  pl : H2 p = some (.lst (ps.map V.ref))
  len : ps.length = xs.length
  np : p ∉ ps
  each : ∀ (i : Nat) (q : Addr) (x y : V), ps[i]? = some q → xs[i]? = some x → ys[i]? = some y → H1 q = none ∧ H2 q = some (.tup [x, y])
def tLz (K : PySem.W.Frag) (ta : TA) : TE := fun σ H Q => ta σ H fun vs H1 => ∃ a b xs ys, vs = [.ref a, .ref b] ∧ SqT K H1 a xs ∧ SqT K H1 b ys ∧ xs.length = ys.length ∧ xs.length ≤ 1000 ∧ ∀ (p : Addr) (ps : List Addr) (H2 : Hp), LzNew H1 H2 xs ys p ps → Q (.ref p) H2
theorem vals_get : ∀ {xs : List V} {us : List Value} {i : Nat} {x : V} {u : Value}, Vals xs us → xs[i]? = some x → us[i]? = some u → RelV x u
  | _, _, _, _, _, .nil, h, _ => by simp at h
  | _, _, 0, _, _, .cons r _, h1, h2 => by simp at h1 h2; subst h1 h2; exact r
  | _, _, i + 1, _, _, .cons _ r, h1, h2 => vals_get (i := i) r (by simpa using h1) (by simpa using h2)
theorem refs_of : ∀ (us : List Value), (∀ u ∈ us, ∃ a : Addr, u = .ref a) → ∃ ps : List Addr, us = ps.map Value.ref
  | [], _ => ⟨[], rfl⟩
  | u :: us, h => by
    obtain ⟨a, rfl⟩ := h u List.mem_cons_self
    obtain ⟨ps, rfl⟩ := refs_of us fun v hv => h v (List.mem_cons_of_mem _ hv)
    exact ⟨a :: ps, rfl⟩
theorem vals_refsV : ∀ (ps : List Addr), Vals (ps.map V.ref) (ps.map Value.ref)
  | [] => .nil
  | p :: ps => .cons rfl (vals_refsV ps)
theorem pe_lz {X : Cx} {e e2 : Expr} {ta : TA} {p p2 pos pos2 : Pos} (hc : X.calm = true) (hg : Gl X "list") (hm : X.mg "list" = none) (hg2 : Gl X "zip") (hm2 : X.mg "zip" = none) (ha : PA X [e, e2] ta)
    (hs : starEach [e, e2] X.env = (false, eval e X.env) :: starEach [e2] X.env) (hpl : (backTo pos2 (starEach [e2] X.env)).any (·.1) = false)
    (na : starEach [Expr.Call (.Name "zip" p2) [e, e2] [] pos2] X.env = (false, eval (Expr.Call (.Name "zip" p2) [e, e2] [] pos2) X.env) :: starEach [] X.env := by rfl) :
    PE X (.Call (.Name "list" p) [.Call (.Name "zip" p2) [e, e2] [] pos2] [] pos) (tLz X.K ta) := by
  refine ⟨fun pins s σ H Q I h => ?_⟩
  refine Call_ (ld_blt I hg hm boot_list (PyProof.Rows.callWith_type1 (args_cons ?_ na) na))
  refine Call_ (ld_blt I hg2 hm2 PyProof.Rows.boot_zip (PyProof.Rows.callWith_type1 (thn (ha.run pos2 pins s σ H _ I h) fun us s1 ⟨vs, H1, I1, r1, q1⟩ => ?_) hs hpl))
  obtain ⟨a, b, xs, ys, ex, hx, hy, hl, h1000, q⟩ := q1
  subst ex
  cases r1 with
  | cons r rr =>
    cases rr with
    | cons r' rr =>
      cases rr
      cases r
      cases r'
      obtain ⟨its, rv, p1, _⟩ := I1.tuple hx
      obtain ⟨its2, rv2, p2, _⟩ := I1.tuple hy
      have l1 := rv.length
      have l2 := rv2.length
      have la : (a : Nat) < s1.heap.objs.size := by obtain ⟨o, ho, _⟩ := id p1; exact Heap.lt_size ho
      have lb : (b : Nat) < s1.heap.objs.size := by obtain ⟨o, ho, _⟩ := id p2; exact Heap.lt_size ho
      let ls : List Zq := [⟨true, a, its.toArray⟩, ⟨true, b, its2.toArray⟩]
      refine call_zipN ls (by simp [ls]) (fun q hq => by
        rcases List.mem_cons.mp hq with rfl | hq
        · exact p1
        · rw [List.mem_singleton.mp hq]; exact p2) fun h' z hsz hk => ?_
      refine args_nil ?_
      have e3 : ls.length = 2 := rfl
      refine call_list_zip (s := { s1 with heap := h' }) (b := s1.heap.objs.size) (ls := ls) (n := xs.length) (cols := fun j => [its.getD j .none, its2.getD j .none]) (I1.ok.hd hc) (by simp [ls]) (by rw [sizeLine_eq]; simp [ls]) h1000 (fun j hj => ⟨rfl, fun m q hq => ?_⟩) (fun m q hq => ?_) z (.inl rfl) (fun m q hq => ?_) (by show _ ≤ h'.objs.size; omega) fun h'' acc' c' hk2 hS ha2 hacc inj => ?_
      · match m, hq with
        | 0, hq => cases hq; simp [List.getD, List.getElem?_eq_getElem (show j < its.length by omega)]
        | 1, hq => cases hq; simp [List.getD, List.getElem?_eq_getElem (show j < its2.length by omega)]
        | m + 2, hq => simp [ls] at hq
      · match m, hq with
        | 0, hq => cases hq; simp; omega
        | 1, hq => cases hq; simp; omega
        | m + 2, hq => simp [ls] at hq
      · match m, hq with
        | 0, hq => cases hq; exact ⟨SqA.at (t := true) p1 fun o u => hk _ o u, la⟩
        | 1, hq => cases hq; exact ⟨SqA.at (t := true) p2 fun o u => hk _ o u, lb⟩
        | m + 2, hq => simp [ls] at hq
      · obtain ⟨ps, hps⟩ := refs_of acc'.toList fun u hu => by
          obtain ⟨i, hi⟩ := List.mem_iff_getElem?.mp hu
          obtain ⟨a', e1, _⟩ := hacc i u (by rw [← Array.getElem?_toList]; exact hi)
          exact ⟨a', e1⟩
        have hpl : ps.length = xs.length := by
          have := congrArg List.length hps
          simp at this
          omega
        have pat : ∀ (i : Nat) (q : Addr), ps[i]? = some q → acc'[i]? = some (.ref q) := fun i q hq => by
          rw [← Array.getElem?_toList, hps, List.getElem?_map, hq]; rfl
        have pgt : ∀ (i : Nat) (q : Addr), ps[i]? = some q → h'.objs.size < q ∧ IsTup h'' q #[its.getD i .none, its2.getD i .none] := fun i q hq => by
          obtain ⟨a', e1, e2, e3⟩ := hacc i _ (pat i q hq)
          cases e1
          exact ⟨e2, e3⟩
        have nd : ps.Nodup := by
          refine List.pairwise_iff_getElem.mpr fun i j hi hj hij e => ?_
          have hj2 : ps[j]? = some ps[j] := List.getElem?_eq_getElem hj
          have hi2 : ps[i]? = some ps[j] := by rw [List.getElem?_eq_getElem hi, e]
          have := inj i j _ (pat i _ hi2) (pat j _ hj2)
          omega
        have hfr : ∀ x : Nat, s1.heap.objs.size ≤ x → H1 x = none := fun x hx => I1.hok.fresh hx
        have hnp : ∀ q ∈ ps, H1 q = none := fun q hq => by
          obtain ⟨i, hi⟩ := List.mem_iff_getElem?.mp hq
          have := (pgt i q hi).1
          exact hfr q (by show s1.heap.objs.size ≤ (q : Nat); have : h'.objs.size < (q : Nat) := this; omega)
        have hp0 : H1 h'.objs.size = none := hfr _ (by omega)
        have hpp : h'.objs.size ∉ ps := fun m => by
          obtain ⟨i, hi⟩ := List.mem_iff_getElem?.mp m
          exact Nat.lt_irrefl _ (pgt i _ hi).1
        have keep : ∀ (x : Nat) (o : Obj), s1.heap.get? x = some o → h''.get? x = some o := fun x o e => hk2 x o (by have : x < s1.heap.objs.size := Heap.lt_size e; omega) (hk x o e)
        have I3 : Inv X pins σ (upd (layT H1 ps xs ys) h'.objs.size (.lst (ps.map V.ref))) { s1 with heap := h'' } := by
          refine Inv.lays (t' := s1.toks) I1 keep (fun x o e => ?_) (fun x hx e => ?_) fun x o e en => ?_
          · rw [upd_ne (fun q => by rw [q, hp0] at e; cases e)]
            exact layT_old hnp e
          · rw [upd_ne (fun q => by rw [q] at hx; have : h'.objs.size < s1.heap.objs.size := hx; omega), layT_ne fun m => ?_]
            · exact e
            · obtain ⟨i, hi⟩ := List.mem_iff_getElem?.mp m
              have h1 : h'.objs.size < (x : Nat) := (pgt i _ hi).1
              have h2 : (x : Nat) < s1.heap.objs.size := hx
              omega
          · by_cases hx : x = h'.objs.size
            · subst hx
              rw [upd_same] at e
              cases e
              refine ⟨by rw [List.length_map, hpl, sizeLine_eq]; omega, acc'.toList, c', by rw [hps]; exact vals_refsV ps, ?_⟩
              rw [Array.toArray_toList]; exact hS
            · rw [upd_ne hx] at e
              obtain ⟨i, v, v', i1, i2, i3, rfl⟩ := layT_inv en e
              have hi := (List.getElem?_eq_some_iff.mp i2).1
              refine ⟨by rw [sizeLine_eq]; simp, [its.getD i .none, its2.getD i .none], ?_, ⟨_, (pgt i _ i1).2, rfl, _, rfl⟩⟩
              have g1 : its[i]? = some (its.getD i .none) := by simp [List.getD, List.getElem?_eq_getElem (show i < its.length by omega)]
              have g2 : its2[i]? = some (its2.getD i .none) := by simp [List.getD, List.getElem?_eq_getElem (show i < its2.length by omega)]
              exact .cons (vals_get rv i2 g1) (.cons (vals_get rv2 i3 g2) .nil)
        refine ⟨.ref h'.objs.size, _, I3, rfl, q _ ps _ ⟨fun x o e => ?_, hp0, upd_same, hpl, hpp, fun i q' x y i1 i2 i3 => ⟨hnp q' (List.mem_of_getElem? i1), ?_⟩⟩⟩
        · rw [upd_ne (fun q => by rw [q, hp0] at e; cases e)]
          exact layT_old hnp e
        · rw [upd_ne (fun q => hpp (by rw [← q]; exact List.mem_of_getElem? i1))]
          exact layT_at nd i1 i2 i3
section
variable {S : Type} {C : Cn S} {W : L2.WX} {X : Cx}
def lzK (d e : D) (s : S) : Res S D := match d, e with
  | .tup ds, .tup es => if ds.length = es.length ∧ ds.length ≤ 1000 then .ok (.lst (zipD ds es)) s else .stuck
  | _, _ => .stuck
def lzE (f g : EvF S) : EvF S := fun ρ s => (f ρ s).bind fun d s1 => (g ρ s1).bind fun e s2 => lzK d e s2
theorem rpl_zip {K : PySem.W.Frag} {H1 H2 : Hp} {F F' : Addr → Prop} : ∀ {ps : List Addr} {xs ys : List V} {ds es : List D}, ps.length = xs.length → xs.length = ys.length → RpL K H2 F' xs ds → RpL K H2 F' ys es → (∀ (i : Nat) (q : Addr) (x y : V), ps[i]? = some q → xs[i]? = some x → ys[i]? = some y → H2 q = some (.tup [x, y])) → RpL K H2 F' (ps.map V.ref) (zipD ds es)
  | [], [], [], _, _, _, _, .nil, .nil, _ => .nil
  | p :: ps, x :: xs, y :: ys, _, _, hl, hl2, .cons r1 rr1, .cons r2 rr2, h => by
    have h0 := h 0 p x y rfl rfl rfl
    rw [zipD]
    exact .cons (.tup (.inl (.inl h0)) (.cons r1 (.cons r2 .nil))) (rpl_zip (F := F) (H1 := H1) (by simpa using hl) (by simpa using hl2) rr1 rr2 fun i q x y i1 i2 i3 => h (i + 1) q x y i1 i2 i3)
theorem sd_lz {N : List Str} {sc : Scope} {G : Gk S} (k : Xk C W X N sc) {e e2 : Expr} {p p2 pos pos2 : Pos} {f g : EvF S} (hg : glB sc "list" = true) (hg2 : glB sc "zip" = true) (m1 : X.mg "list" = none) (m2 : X.mg "zip" = none) (hs : isStar e = false) (hs2 : isStar e2 = false) (he : PE X e (tK C W f)) (he2 : PE X e2 (tK C W g)) :
    PE X (.Call (.Name "list" p) [.Call (.Name "zip" p2) [e, e2] [] pos2] [] pos) (tF C W (lzE f g)) := by
  refine pe_mono (pe_lz k.calm (gl_of k hg).1 m1 (gl_of k hg2).1 m2 (pa_cons he (pa_cons he2 pa_nil (star_no hs2)) (star_no hs)) (by rw [star_no hs]) (star_back (by simp [hs2]))) fun σ H Q ⟨P, s, R, q⟩ =>
    ⟨P, s, R, q.bind.mono fun d s1 H1 R1 x1 q1 v tv => ⟨P, s1, R1, q1.bind.mono fun d' s2 H2 R2 x2 q2 v' tv' => ?_⟩⟩
  have tv := tv.xt x2 R1.st
  cases d with
  | tup ds =>
    cases d' with
    | tup es =>
      unfold lzK at q2
      dsimp only at q2
      split at q2
      · rename_i hc
        obtain ⟨a, vs, rfl, ha, ra⟩ := tv.tup
        obtain ⟨b, ws, rfl, hb, rb⟩ := tv'.tup
        have la := ra.length
        have lb := rb.length
        refine ⟨a, b, vs, ws, rfl, by rw [← k.K]; exact ha, by rw [← k.K]; exact hb, by omega, by omega, fun p' ps H3 nw => ?_⟩
        have x3 : Xt C.T s2 s2 H2 H3 := ⟨fun x o e _ => nw.old x o e, fun x h => by
          cases e : H2 x with
          | none => exact absurd e h
          | some o => rw [nw.old x o e]; simp, fun _ h => .inl h⟩
        have st3 : C.T.R s2 H3 := C.T.mono R2.st fun x o _ e => nw.old x o e
        have R3 := R2.xt x3 st3
        have rl : ∀ F', (∀ x, Fc C P s2 x → H2 x ≠ none → F' x) → RpL C.K H3 F' (ps.map V.ref) (zipD ds es) := fun F' hF =>
          rpl_zip (F := F') (H1 := H2) nw.len (by omega) (ra.step (x3.stays R2.st fun _ f => f.2.2.2) hF) (rb.step (x3.stays R2.st fun _ f => f.2.2.2) hF) fun i q x y i1 i2 i3 => (nw.each i q x y i1 i2 i3).2
        have hr := q2 H3 R3 x3 (.ref p')
        refine hr ⟨.lst (R2.fresh nw.pn) nw.pl (rl _ fun x f n => x3.fc x f n), fun ds' e' => ?_⟩
        · cases e'
          exact ⟨p', _, rfl, (x1.trans x2).none_of nw.pn, nw.pl, rl _ fun x f n => ⟨x3.fc x f n, fun e => n (by rw [e]; exact nw.pn)⟩⟩
      · exact q2.elim
    | _ => exact q2.elim
  | _ => exact q2.elim
end
end Q

/-! Lay39: texts: a.join(b), a.split(b), str(n). -/
namespace Q
open PySem L2
section
variable {S : Type} {C : Cn S} {W : L2.WX} {X : Cx}
def strsOf : List D → Option (List Str)
  | [] => some []
  | .str x :: ds => (strsOf ds).map (x :: ·)
  | _ => none
theorem strsOf_some : ∀ {ds : List D} {ys : List Str}, strsOf ds = some ys → ds = ys.map .str
  | [], ys, e => by cases e; rfl
  | d :: ds, ys, e => by
    cases d <;> simp only [strsOf, Option.map_eq_some_iff, reduceCtorEq] at e
    obtain ⟨zs, e1, rfl⟩ := e
    rw [strsOf_some e1]; rfl
@[simp] theorem strsOf_map : ∀ ys : List Str, strsOf (ys.map D.str) = some ys
  | [] => rfl
  | y :: ys => by simp [strsOf, strsOf_map ys]
theorem rpl_of_strs {K : PySem.W.Frag} {H : Hp} {F : Addr → Prop} : ∀ ys : List Str, RpL K H F (ys.map V.str) (ys.map .str)
  | [] => .nil
  | y :: ys => .cons (.str y) (rpl_of_strs ys)
/-- sep.join(xs) -/
def dJoin : D → D → Option D
  | .str a, .lst ds => match strsOf ds with
    | some ys => if (ys.map (·.length)).sum + ys.length * a.length ≤ 16777216 then some (.str (Txt.join a ys)) else none
    | none => none
  | .str a, .tup ds => match strsOf ds with
    | some ys => if (ys.map (·.length)).sum + ys.length * a.length ≤ 16777216 then some (.str (Txt.join a ys)) else none
    | none => none
  | _, _ => none
/-- x.split(sep) -/
def dSplit : D → D → Option D
  | .str a, .str b => if (b.length == 0) = false ∧ a.length + 2 ≤ sizeLine then some (.lst ((Txt.split a b).map .str)) else none
  | _, _ => none
def txE (op : D → D → Option D) (f g : EvF S) : EvF S := fun ρ s => (f ρ s).bind fun d s1 => match d with
  | .str a => (g ρ s1).bind fun e s2 => ofO (op (.str a) e) s2
  | _ => .stuck
theorem sd_join {o e : Expr} {ap cp : Pos} {f g : EvF S} (hK : C.K = X.K) (hs : isStar e = false) (hb : attributeBase o "join" X.env (eval o X.env) = eval o X.env) (hl : (ap.endLine == cp.line) = true) (ho : PE X o (tK C W f)) (he : PE X e (tK C W g)) :
    PE X (.Call (.Attribute o "join" ap) [e] [] cp) (tF C W (txE dJoin f g)) := by
  refine pe_mono (pe_join ho he (star_no hs) hb hl) fun σ H Q ⟨P, s, R, q⟩ => ?_
  refine ⟨P, s, R, q.bind.mono fun d s1 H1 R1 x1 q1 v tv => ?_⟩
  cases d with
  | str a =>
    have := top_str tv.weak
    subst this
    refine ⟨⟨a, rfl⟩, P, s1, R1, Run.bind q1 |>.mono fun l s2 H2 R2 x2 q2 w tw => ?_⟩
    obtain ⟨d', e1, kk⟩ := run_ofO q2
    cases l with
    | lst ds =>
      obtain ⟨p, vs, rfl, hp, rv⟩ := tw.lst
      simp only [dJoin] at e1
      split at e1
      · rename_i ys hy
        have := strsOf_some hy
        subst this
        have := rp_strs rv
        subst this
        split at e1
        · rename_i hz
          cases e1
          exact ⟨a, p, ys, rfl, rfl, .inl (.inl (.inl hp)), hz, kk H2 R2 Xt.refl _ (Fr.plain (.str _) fun _ e => nomatch e)⟩
        · cases e1
      · cases e1
    | tup ds =>
      obtain ⟨p, vs, rfl, hp, rv⟩ := tw.tup
      simp only [dJoin] at e1
      split at e1
      · rename_i ys hy
        have := strsOf_some hy
        subst this
        have := rp_strs rv
        subst this
        split at e1
        · rename_i hz
          cases e1
          exact ⟨a, p, ys, rfl, rfl, .inr (by rw [← hK]; exact hp), hz, kk H2 R2 Xt.refl _ (Fr.plain (.str _) fun _ e => nomatch e)⟩
        · cases e1
      · cases e1
    | _ => simp [dJoin] at e1
  | _ => exact q1.elim
theorem sd_split {o e : Expr} {ap cp : Pos} {f g : EvF S} (hs : isStar e = false) (hb : attributeBase o "split" X.env (eval o X.env) = eval o X.env) (hl : (ap.endLine == cp.line) = true) (ho : PE X o (tK C W f)) (he : PE X e (tK C W g)) :
    PE X (.Call (.Attribute o "split" ap) [e] [] cp) (tF C W (txE dSplit f g)) := by
  refine pe_mono (pe_split ho he (star_no hs) hb hl) fun σ H Q ⟨P, s, R, q⟩ => ?_
  refine ⟨P, s, R, q.bind.mono fun d s1 H1 R1 x1 q1 v tv => ?_⟩
  cases d with
  | str a =>
    have := top_str tv.weak
    subst this
    refine ⟨⟨a, rfl⟩, P, s1, R1, Run.bind q1 |>.mono fun l s2 H2 R2 x2 q2 w tw => ?_⟩
    obtain ⟨d', e1, kk⟩ := run_ofO q2
    cases l with
    | str b =>
      have := top_str tw.weak
      subst this
      simp only [dSplit] at e1
      split at e1
      · rename_i hz
        cases e1
        refine ⟨a, b, rfl, rfl, hz.1, hz.2, fun p hp => ?_⟩
        exact kk _ (R2.new hp) (Xt.new hp) _ ((Fr.newL R2 hp (rpl_of_strs _)).back (x1.trans x2))
      · cases e1
    | _ => simp [dSplit] at e1
  | _ => exact q1.elim
/-- str(n) -/
def bStr : List D → Option D
  | [.int i] => if i.natAbs.log2 < 1920 then some (.str (toString i)) else none
  | _ => none
theorem cd_str : CallD X (.type "str") bStr := by
  intro S C hK pins s σ H vs us Q I rv ⟨P, st, σ', ds, d, R, tv, e, k⟩
  unfold bStr at e
  split at e
  · split at e
    · rename_i hz
      cases e
      cases tv with
      | cons t r =>
        cases r
        have := top_int t
        subst this
        exact call_str_int pins s σ H _ us Q I rv ⟨_, rfl, hz, k _ _ Xt.refl R.st (.str _)⟩
    · cases e
  · cases e
end
end Q

/-! Lay30: further expressions. -/
namespace Q
open PySem PySem.Spec PyProof.Rows L2
section
variable {S : Type}
/-- x.upper() -/
def upE (f : EvF S) : EvF S := fun ρ s => (f ρ s).bind fun d s1 => match d with
  | .str a => if a.length ≤ 5592405 then .ok (.str (Txt.upper a)) s1 else .stuck
  | _ => .stuck
theorem sd_up {C : Cn S} {W : L2.WX} {X : Cx} {N : List Str} {sc : Scope} (k : Xk C W X N sc) {x : Str} {p ap cp : Pos} {f : EvF S} (hl : (ap.endLine == cp.line) = true) (hx : PE X (.Name x p) (tK C W f)) : PE X (.Call (.Attribute (.Name x p) "upper" ap) [] [] cp) (tF C W (upE f)) := by
  refine pe_mono (pe_upper hx rfl hl) fun σ H Q ⟨P, s, R, q⟩ => ?_
  refine ⟨P, s, R, q.bind.mono fun d s1 H1 R1 x1 q1 v tv => ?_⟩
  cases d with
  | str a =>
    dsimp only at q1
    split at q1
    · rename_i ha
      have := top_str tv.weak
      subst this
      exact ⟨⟨a, rfl⟩, a, rfl, rfl, ha, (q1.now R1) _ (Fr.plain (.str _) fun _ e => nomatch e)⟩
    · exact q1.elim
  | _ => exact q1.elim
/-- what a method of a text may be asked of -/
def plainOb : Expr → Bool
  | .Name _ _ => true
  | .Constant _ _ _ => true
  | .Subscript _ _ _ => true
  | .Attribute _ _ _ => true
  | .Call (.Attribute _ _ _) _ _ _ => true
  | .Call (.Name _ _) (_ :: _) _ _ => true
  | _ => false
theorem ab_ok {o : Expr} {m : Str} {env : Env} (h : plainOb o = true) : attributeBase o m env (eval o env) = eval o env := by
  unfold plainOb at h
  split at h <;> first | rfl | cases h
def txtSp (N : List Str) (sc : Scope) (f : Expr → Sem3 S) (o e : Expr) (y : Str) (ap cp : Pos) : Option (Sem3 S) :=
  if y = "join" ∧ plainOb o = true ∧ isStar e = false ∧ (ap.endLine == cp.line) = true then some (plain3 (txE dJoin (pk N sc f o) (pk N sc f e)))
  else if y = "split" ∧ plainOb o = true ∧ isStar e = false ∧ (ap.endLine == cp.line) = true then some (plain3 (txE dSplit (pk N sc f o) (pk N sc f e)))
  else none
theorem txtSp_ok {C : Cn S} {W : L2.WX} {X : Cx} {N : List Str} {sc : Scope} {f : Expr → Sem3 S} (k : Xk C W X N sc) (h : ∀ e, Snd C W X e (f e)) {o e : Expr} {y : Str} {ap cp : Pos} {r : Sem3 S} (q : txtSp N sc f o e y ap cp = some r) : Snd C W X (.Call (.Attribute o y ap) [e] [] cp) r := by
  unfold txtSp at q
  split at q
  · rename_i hx
    obtain ⟨rfl, ho, hs, hl⟩ := hx
    cases q
    exact Snd.plain k.K (sd_join k.K hs (ab_ok ho) hl (sd_pk k h _) (sd_pk k h _)) rfl
  · split at q
    · rename_i hx
      obtain ⟨rfl, ho, hs, hl⟩ := hx
      cases q
      exact Snd.plain k.K (sd_split hs (ab_ok ho) hl (sd_pk k h _) (sd_pk k h _)) rfl
    · cases q
theorem bt_str : bootBuiltins (Str.ofString "str") = some (.type "str") := by decide +kernel
def moreSp (N : List Str) (sc : Scope) (f : Expr → Sem3 S) : Expr → Option (Sem3 S)
  | .Call (.Name y _) [.Call (.Name z _) [e] [] _] [] _ => if y = "sorted" ∧ z = "set" ∧ glB sc "sorted" = true ∧ glB sc "set" = true ∧ isStar e = false then some (plain3 (ssE (pk N sc f e))) else none
  | .Call (.Name y _) [.Call (.Name z _) [e, e2] [] _] [] _ => if y = "list" ∧ z = "zip" ∧ glB sc "list" = true ∧ glB sc "zip" = true ∧ isStar e = false ∧ isStar e2 = false then some (plain3 (lzE (pk N sc f e) (pk N sc f e2))) else none
  | .Call (.Name y _) [e] [] _ => if y = "min" ∧ glB sc "min" = true ∧ isStar e = false then some (plain3 (biF bMinP (consA (pk N sc f e) nilA))) else if y = "sorted" ∧ glB sc "sorted" = true ∧ isStar e = false then some (plain3 (biF bSortT (consA (pk N sc f e) nilA))) else if y = "str" ∧ glB sc "str" = true ∧ isStar e = false then some (plain3 (biF bStr (consA (pk N sc f e) nilA))) else none
  | .Call (.Attribute (.Name x p) y ap) [e] [] cp => if y = "count" ∧ isStar e = false ∧ (ap.endLine == cp.line) = true then some (plain3 (cntE (pk N sc f (.Name x p)) (pk N sc f e))) else txtSp N sc f (.Name x p) e y ap cp
  | .Call (.Attribute o y ap) [e] [] cp => txtSp N sc f o e y ap cp
  | .Call (.Attribute (.Name x p) y ap) [] [] cp => if y = "upper" ∧ (ap.endLine == cp.line) = true then some (plain3 (upE (pk N sc f (.Name x p)))) else none
  | _ => none
theorem moreSp_ok {C : Cn S} {G : Gk S} (hG : G.sp = moreSp) : SpOk C G := by
  intro W X N sc f k hb ho h e r q
  rw [hG] at q
  unfold moreSp at q
  split at q
  · split at q
    · rename_i hx
      obtain ⟨rfl, rfl, g1, g2, hs⟩ := hx
      cases q
      exact Snd.plain k.K (sd_srtU k g1 g2 (hb "sorted" (by simp [bltNames])) (hb "set" (by simp [bltNames])) hs (sd_pk k h _)) rfl
    · cases q
  · split at q
    · rename_i hx
      obtain ⟨rfl, rfl, g1, g2, hs, hs2⟩ := hx
      cases q
      exact Snd.plain k.K (sd_lz (G := G) k g1 g2 (hb "list" (by simp [bltNames])) (hb "zip" (by simp [bltNames])) hs hs2 (sd_pk k h _) (sd_pk k h _)) rfl
    · cases q
  · split at q
    · rename_i hx
      obtain ⟨rfl, g1, hs⟩ := hx
      cases q
      exact Snd.plain k.K (sd_bi k (cd_minP k.calm k.hu) g1 (hb "min" (by simp [bltNames])) bt_min (sak_cons (sd_pk k h _) sak_nil hs) (by simp [hs])) rfl
    · split at q
      · rename_i hx
        obtain ⟨rfl, g1, hs⟩ := hx
        cases q
        exact Snd.plain k.K (sd_bi k (cd_sortT k.hu) g1 (hb "sorted" (by simp [bltNames])) bt_sorted (sak_cons (sd_pk k h _) sak_nil hs) (by simp [hs])) rfl
      · split at q
        · rename_i hx
          obtain ⟨rfl, g1, hs⟩ := hx
          cases q
          exact Snd.plain k.K (sd_ty k cd_str g1 (hb "str" (by simp [bltNames])) bt_str (sak_cons (sd_pk k h _) sak_nil hs) (by simp [hs])) rfl
        · cases q
  · split at q
    · rename_i hx
      obtain ⟨rfl, hs, hl⟩ := hx
      cases q
      exact Snd.plain k.K (sd_cnt k hs hl (sd_pk k h _) (sd_pk k h _)) rfl
    · exact txtSp_ok k h q
  · exact txtSp_ok k h q
  · split at q
    · rename_i hx
      obtain ⟨rfl, hl⟩ := hx
      cases q
      exact Snd.plain k.K (sd_up k hl (sd_pk k h _)) rfl
    · cases q
  · cases q
/-! ### a, b, c, d = w, x, y, z -/
def tgtSlots (N : List Str) (sc : Scope) : List Expr → Option (List (Str × Nat))
  | [] => some []
  | .Name x _ :: r => match slotOf N x with
    | some i => if locB sc x = true then (tgtSlots N sc r).map ((x, i) :: ·) else none
    | none => none
  | _ => none
def gNames : List Nat → TGs
  | [] => gNil
  | i :: r => gCons (gName i) (gNames r)
theorem gNames_ok : ∀ {is : List Nat} {vs : List V} {σ : L2.St} {H : Hp} {Q : L2.St → Hp → Prop}, vs.length = is.length → Q (setAll is vs σ) H → gNames is vs σ H Q
  | [], [], _, _, _, _, q => ⟨rfl, q⟩
  | i :: is, v :: vs, σ, H, Q, hl, q => ⟨v, vs, rfl, gNames_ok (is := is) (by simpa using hl) q⟩
theorem sg_names {C : Cn S} {X : Cx} {N : List Str} {sc : Scope} (k : Xs C X N sc) : ∀ {ts : List Expr} {l : List (Str × Nat)}, tgtSlots N sc ts = some l → PGs X ts (gNames (l.map (·.2))) ∧ ts.all (fun e => !isStar e) = true ∧ l.length = ts.length
  | [], l, h => by cases h; exact ⟨pgs_nil, rfl, rfl⟩
  | e :: r, l, h => by
    unfold tgtSlots at h
    split at h
    · rename_i he; cases he
    · rename_i x p r' he
      cases he
      split at h
      · rename_i i hi
        split at h
        · rename_i hl
          rw [Option.map_eq_some_iff] at h
          obtain ⟨l', h1, rfl⟩ := h
          obtain ⟨q1, q2, q3⟩ := sg_names k h1
          obtain ⟨hL, hF⟩ := k.loc x hl
          exact ⟨pgs_cons (pg_name (i := i) (by rw [k.names]; exact k.nd) (by rw [k.names]; exact slotOf_some hi) hL hF) q1, by rw [List.all_cons, q2]; rfl, by simp [q3]⟩
        · cases h
      · cases h
    · cases h
theorem OwnR.new {C : Cn S} {P : Pt} {s : S} {H : Hp} {p : Addr} {o : HO} (st : C.T.R s H) (hp : H p = none) : ∀ {os : List Bool} {vs : List V} {ds : List D} {rs : List Addr}, OwnR C P s H os vs ds rs → OwnR C P s (upd H p o) os vs ds rs
  | _, _, _, _, .nil => .nil
  | _, _, _, _, .val n r t => .val n (r.xt (Xt.new hp) st) (OwnR.new st hp t)
  | _, _, _, _, .own h r t => .own (by rw [upd_ne (ne_of_none h hp)]; exact h) (r.xt (Xt.new hp) st) (OwnR.new st hp t)
theorem azs_len (f : Expr → Sem3 S) (ow : List Str) : ∀ l : List (Str × Expr), (azs f ow l).1.length = l.length
  | [] => rfl
  | _ :: r => by simp [azs, azs_len f ow r]
def parN (N : List Str) (sc : Scope) (f : Expr → Sem3 S) (ow : List Str) (ts vs : List Expr) (kt k2 : Nat) (pt pt2 : Pos) : Option (ExF S) := match tgtSlots N sc ts with
  | some l => if 2 ≤ ts.length ∧ ts.length ≤ 100 ∧ vs.length = ts.length ∧ vs.all (fun e => !isStar e) = true ∧ sws sc (.Tuple ts kt pt) (.Tuple vs k2 pt2) = some none then some (parS (List.zip (l.map (·.2)) (azs f ow (List.zip (l.map (·.1)) vs)).1) (azs f ow (List.zip (l.map (·.1)) vs)).2) else none
  | none => none
theorem zip_snd {α β : Type} : ∀ {a : List α} {b : List β}, a.length = b.length → (List.zip a b).map (·.2) = b
  | [], [], _ => rfl
  | _ :: _, _ :: _, h => by simp [zip_snd (by simpa using h)]
theorem zip_fst {α β : Type} : ∀ {a : List α} {b : List β}, a.length = b.length → (List.zip a b).map (·.1) = a
  | [], [], _ => rfl
  | _ :: _, _ :: _, h => by simp [zip_fst (by simpa using h)]
theorem sx_parN {C : Cn S} {W : L2.WX} {X : Cx} {N : List Str} {sc : Scope} {f : Expr → Sem3 S} (k : Xd C W X N sc) (h : ∀ e, Snd C W X e (f e)) (ow : List Str) (ts vs : List Expr) (kt k2 : Nat) (pt pt2 pos : Pos) (g : ExF S) (hg : parN N sc f ow ts vs kt k2 pt pt2 = some g) :
    PS X (.Assign [.Tuple ts kt pt] (.Tuple vs k2 pt2) pos) (tS C W g) := by
  unfold parN at hg
  split at hg
  · rename_i l hl
    split at hg
    · rename_i c
      obtain ⟨c1, c2, c3, c4, c5⟩ := c
      have e := Option.some.inj hg
      subst e
      obtain ⟨g1, g2, g3⟩ := sg_names k.s hl
      have hz : (l.map (·.1)).length = vs.length := by rw [List.length_map, g3, c3]
      have pa := sa_azs h ow (List.zip (l.map (·.1)) vs) (by rw [zip_snd hz]; exact c4)
      rw [zip_snd hz] at pa
      have hlen : (azs f ow (List.zip (l.map (·.1)) vs)).1.length = l.length := by rw [azs_len, List.length_zip, hz]; simp only [Nat.min_self]; omega
      refine ps_mono (ps_asg (pe_tup pa) (pg_tup k.calm g1 (each_len ts) (each_star ts g2)) rfl (sws_ok k.scope c5) rfl) fun D σ H hq => ?_
      obtain ⟨P, s, R, q⟩ := hq
      refine ⟨P, s, R, ?_⟩
      unfold parS at q
      revert q
      induction (azs f ow (List.zip (l.map (·.1)) vs)).2 P.ρ s with
      | stuck => exact fun q => q
      | new p g ih => exact fun q a ha => ih a (q a ha)
      | err y s1 => exact fun q c dd H1 R1 x1 rx => q P σ c dd H1 rfl R1 x1.stp rx
      | ok ds s1 =>
        intro q
        intro H1 R1 x1 us rs hn nd RZ ow'
        have hul : us.length = l.length := by rw [ow'.len, hlen]
        refine ⟨by rw [hul, g3, sizeLine_eq]; omega, fun p hp => ?_⟩
        simp only [thenS] at q
        split at q
        · rename_i ρ' e'
          have hf : (List.zip (l.map (·.2)) (azs f ow (List.zip (l.map (·.1)) vs)).1).map (·.2) = (azs f ow (List.zip (l.map (·.1)) vs)).1 := zip_snd (by rw [List.length_map, hlen])
          have hf1 : (List.zip (l.map (·.2)) (azs f ow (List.zip (l.map (·.1)) vs)).1).map (·.1) = l.map (·.2) := zip_fst (by rw [List.length_map, hlen])
          have ow2 := OwnR.new (o := .tup us) RZ.st hp ow'
          rw [← hf] at ow2
          have x2 : Xt C.T s s1 H (upd H1 p (.tup us)) := x1.trans (Xt.new hp)
          obtain ⟨P', h1, h2, h3, h4, h5, h6⟩ := Rel.asgL (RZ.new (o := .tup us) hp) ow2 e' nd (fun a ha z => (R.za a z).2.1 (hn a ha))
          rw [hf1] at h2
          refine ⟨p, us, rfl, .inl (.inl upd_same), by rw [hul, g3], gNames_ok (by rw [List.length_map]; exact hul) ?_⟩
          exact q P' _ _ h1 h2 ⟨fun a o ea na _ => x2.keep a o ea na, x2.live, x2.grow, fun b hb => (h4 b hb).elim .inl fun z => .inr (hn b z), fun b hb => (h5 b hb).elim .inl fun z => .inr (hn b z), h3, h6⟩
        · exact q.elim
    · cases hg
  · cases hg
def moreSt (G : Gk S) (N : List Str) (sc : Scope) (ow : List Str) : Stmt → Option (ExF S)
  | .Assign [.Tuple ts kt pt] (.Tuple vs k2 pt2) _ => (parN N sc (evB G N 40 sc) ow ts vs kt k2 pt pt2).map (relS' (slots N (escE (fun x => (G.cal x).isSome) 80 (.Tuple vs k2 pt2))))
  | .Assign [.Subscript (.Name x _) (.Slice (some a) (some c) none _) _] e _ => if isComp e = true then none else (match okN N sc x with
    | some i => some (relS' (slots N (escE (fun x => (G.cal x).isSome) 80 e) ++ (slots N (escP (fun x => (G.cal x).isSome) 80 a) ++ slots N (escP (fun x => (G.cal x).isSome) 80 c))) (setSlS i (evB G N 40 sc e).v (pk N sc (evB G N 40 sc) a) (pk N sc (evB G N 40 sc) c)))
    | none => none)
  | .Try [.Expr e _] [.ExceptHandler (some (.Name x _)) none [.Return (some (.Constant c _ _)) _] _] [] [] _ => if isComp e = true then none else (match G.exn x with
    | some _ => if glB sc x = true then some (relS' (slots N (escE (fun x => (G.cal x).isSome) 80 e)) (tryRetS x (evC (cD c)) (dropS (evB G.mute N 40 sc e).v))) else none
    | none => none)
  | .Try [.Expr e _] (_ :: _) [] [] _ => if isComp e = true then none else some (relS' (slots N (escE (fun x => (G.cal x).isSome) 80 e)) (tryS (dropS (evB G.mute N 40 sc e).v)))
  | .AugAssign (.Subscript (.Name x _) j _) op e _ => if isSlice j = true then none else if op = .Add ∨ op = .Sub then (match okN N sc x with
    | some i => some (relS' (slots N (escP (fun x => (G.cal x).isSome) 80 j) ++ slots N (escP (fun x => (G.cal x).isSome) 80 e)) (augItS i op (pk N sc (evB G N 40 sc) j) (pk N sc (evB G N 40 sc) e)))
    | none => none) else none
  | _ => none
theorem moreSt_ok {C : Cn S} {W : L2.WX} {X : Cx} {K : Dk S} (hK : K.st = moreSt K.G K.N K.sc K.ow) (k : Xd C W X K.N K.sc) (g : GkOk C X K.G) : StOk C W X K := by
  intro st f q
  have h : ∀ e, Snd C W X e (evB K.G K.N 40 K.sc e) := fun e => (ev_ok 40 k.toXk g e).toSnd
  rw [hK] at q
  unfold moreSt at q
  split at q
  · rw [Option.map_eq_some_iff] at q
    obtain ⟨g', q, rfl⟩ := q
    exact sx_rel _ (sx_parN k h _ _ _ _ _ _ _ _ _ q)
  · split at q
    · cases q
    · rename_i hc
      split at q
      · rename_i i hi
        cases q
        exact sx_rel _ (sx_setSl k hi (Bool.eq_false_iff.mpr hc) rfl (h _).v (sd_pk k.toXk h _) (sd_pk k.toXk h _))
      · cases q
  · split at q
    · cases q
    · rename_i hc
      split at q
      · rename_i fl hx
        split at q
        · rename_i hg
          cases q
          exact sx_rel _ (sx_tryRet k (g.exn _ _ hx) hg (Bool.eq_false_iff.mpr hc) fun W' pn xe tk => ((ev_ok 40 (k.toXk.tr tk) (g.tr pn xe) _).toSnd).v)
        · cases q
      · cases q
  · split at q
    · cases q
    · rename_i hc
      cases q
      exact sx_rel _ (sx_try (Bool.eq_false_iff.mpr hc) ((ev_ok 40 k.toXk.nox g.nox _).toSnd).v)
  · split at q
    · cases q
    · rename_i hj
      split at q
      · rename_i ho
        split at q
        · rename_i i hi
          cases q
          exact sx_rel _ (sx_augIt k ho hi (Bool.eq_false_iff.mpr hj) (sd_pk k.toXk h _) (sd_pk k.toXk h _))
        · cases q
      · cases q
  · cases q
end
@[simp] theorem ssE_ap {S : Type} (f : EvF S) (ρ : List Sl) (s : S) : ssE f ρ s = (f ρ s).bind fun d s1 => ofO (dSrtU d) s1 := rfl
end Q

/-! Lay31: extend, pop of own lists; x[j], y = e. -/
namespace Q
open PySem PySem.Spec PyProof.Rows L2
section
variable {S : Type} {C : Cn S} {W : L2.WX} {X : Cx}
/-- x.extend(e), e a list -/
def extS (i : Nat) (f : EvF S) : ExF S := fun ρ s => match ρ[i]? with
  | some (.own ds) => thenS ρ (f ρ s) fun d s1 => match d with
    | .lst es => if ds.length + es.length ≤ sizeLine then .nxt (ρ.set i (.own (ds ++ es))) s1 else .stuck
    | _ => .stuck
  | _ => .stuck
theorem sx_ext {N : List Str} {sc : Scope} (k : Xd C W X N sc) {x : Str} {i : Nat} {e : Expr} {p ap cp pos : Pos} {f : EvF S} (hi : okN N sc x = some i) (hs : isStar e = false) (hl : (ap.endLine == cp.line) = true) (he : PE X e (tP C W f)) :
    PS X (.Expr (.Call (.Attribute (.Name x p) "extend" ap) [e] [] cp) pos) (tS C W (extS i f)) := by
  have hb : (((backTo cp (starEach [e] X.env)).all fun x => !x.1) && (backToKw cp (keywordEach [] X.env)).all fun x => x.1.isSome) && decide (([e].length + ([] : List Keyword).length + if ([] : List Keyword).isEmpty = true then 0 else 1) < 30) = true := by
    rw [star_no hs]; rfl
  refine ps_mono (ps_expr (pe_bm PySem.F.plainAttrs_list PySem.F.slot_list_extend PySem.F.type_list_extend mt_extend (pe_okN k.toXk hi) (pa_cons he pa_nil (star_no hs)) rfl hb hl (star_no hs) (star_back (by rfl))) rfl) fun D σ H ⟨P, s, R, q⟩ => ?_
  unfold extS at q
  split at q
  · rename_i ds hd
    have o : OwnOk C P σ H s i (.lst, ds) := R.slot i _ hd
    obtain ⟨vs, h1, h2⟩ := o.isL
    refine ⟨_, o.at_, .inl ⟨rfl, vs, .inl (.inl h1)⟩, P, s, R, q.run.mono fun d s1 H1 R1 x1 q1 v rv => ?_⟩
    have o1 : OwnOk C P σ H1 s1 i (.lst, ds) := R1.slot i _ hd
    obtain ⟨ws, g1, g2⟩ := o1.isL
    cases d with
    | lst es =>
      dsimp only at q1
      cases rv with
      | @lst b ys _ fb hb2 rb =>
        split at q1
        · rename_i hz
          obtain ⟨w1, w2⟩ := R1.write hd (g2.append rb)
          exact ⟨_, b, ws, ys, rfl, rfl, g1, hb2, by rw [g2.length, rb.length]; exact hz, q1 _ σ _ rfl w1 w2⟩
        · exact q1.elim
    | _ => exact q1.elim
  · exact q.elim
/-- y = x.pop() -/
def popS (i t : Nat) : ExF S := fun ρ s => match ρ[i]? with
  | some (.own ds) => (match ds.getLast? with
    | some d => if t < ρ.length ∧ t ≠ i then .nxt ((ρ.set i (.own ds.dropLast)).set t (.val d)) s else .stuck
    | none => .stuck)
  | _ => .stuck
theorem RpL.dropLast {K : PySem.W.Frag} {H : Hp} {F : Addr → Prop} {vs : List V} {ds : List D} (r : RpL K H F vs ds) : RpL K H F vs.dropLast ds.dropLast := by
  rw [List.dropLast_eq_take, List.dropLast_eq_take, r.length]
  exact r.take _
theorem sx_pop {N : List Str} {sc : Scope} (k : Xd C W X N sc) {x y : Str} {i t : Nat} {p ap cp tp pos : Pos} (hi : okN N sc x = some i) (ht : slotOf N y = some t) (hL : locB sc y = true) (hl : (ap.endLine == cp.line) = true)
    (hw : swappedStores [.Name y tp] (.Call (.Attribute (.Name x p) "pop" ap) [] [] cp) X.env = pure none) :
    PS X (.Assign [.Name y tp] (.Call (.Attribute (.Name x p) "pop" ap) [] [] cp) pos) (tS C W (popS i t)) := by
  obtain ⟨g1, g2⟩ := k.s.loc y hL
  refine ps_mono (ps_asg (pe_bm0 PySem.F.plainAttrs_list PySem.F.slot_list_pop PySem.F.type_list_pop mt_pop (pe_okN k.toXk hi) rfl hl) (pg_name (i := t) (by rw [k.names]; exact k.nd) (by rw [k.names]; exact slotOf_some ht) g1 g2) rfl hw rfl) fun D σ H ⟨P, s, R, q⟩ => ?_
  unfold popS at q
  split at q
  · rename_i ds hd
    have o : OwnOk C P σ H s i (.lst, ds) := R.slot i _ hd
    obtain ⟨vs, h1, h2⟩ := o.isL
    split at q
    · rename_i d hlast
      split at q
      · rename_i hc
        have hlen := h2.length
        rw [List.getLast?_eq_getElem?] at hlast
        obtain ⟨v, hv, rv⟩ := h2.get hlast
        refine ⟨_, o.at_, .inl ⟨rfl, vs, .inl (.inl h1)⟩, _, vs, v, rfl, rfl, h1, by rw [hlen]; exact hv, ?_⟩
        obtain ⟨w1, w2⟩ := R.write hd h2.dropLast
        have rv' : Rp C.K (upd H (P.r i) (.lst vs.dropLast)) (Fc C { P with ρ := P.ρ.set i (.own ds.dropLast) } s) v d := by
          refine rv.step (w2.stays R fun a f => ⟨f.2.2.2, fun m => f.2.1 (Pt.root_of m)⟩) fun a f n => w2.fc a f n
        have hlt : t < (P.ρ.set i (.own ds.dropLast)).length := by rw [List.length_set]; exact hc.1
        exact q _ _ _ rfl (w1.setVal rv' hlt) (w2.trans stp_setVal)
      · exact q.elim
    · exact q.elim
  · exact q.elim
/-- x[j], y = e -/
def setTwoS (i t : Nat) (fe fj : EvF S) : ExF S := fun ρ s => match ρ[i]? with
  | some (.own ds) => thenS ρ (fe ρ s) fun d s1 => match d with
    | .tup [da, db] => thenS ρ (fj ρ s1) fun j s2 => match j with
      | .int z => (match ixN ds.length z with
        | some n => if t < ρ.length ∧ t ≠ i then .nxt ((ρ.set i (.own (ds.set n da))).set t (.val db)) s2 else .stuck
        | none => .stuck)
      | _ => .stuck
    | _ => .stuck
  | _ => .stuck
theorem sx_setTwo {N : List Str} {sc : Scope} (k : Xd C W X N sc) {x y : Str} {i t kk : Nat} {j e : Expr} {p tp tp2 yp pos : Pos} {fe fj : EvF S} (hi : okN N sc x = some i) (ht : slotOf N y = some t) (hL : locB sc y = true) (hc : isComp e = false) (hj : isSlice j = false)
    (hw : swappedStores [.Tuple [.Subscript (.Name x p) j tp, .Name y yp] kk tp2] e X.env = pure none) (he : PE X e (tP C W fe)) (hjj : PE X j (tK C W fj)) :
    PS X (.Assign [.Tuple [.Subscript (.Name x p) j tp, .Name y yp] kk tp2] e pos) (tS C W (setTwoS i t fe fj)) := by
  obtain ⟨g1, g2⟩ := k.s.loc y hL
  refine ps_mono (ps_asg he (pg_tup k.calm (pgs_cons (pg_sub (pe_okN k.toXk hi) hjj set_list (by intro v; cases j <;> first | rfl | (simp [isSlice] at hj; done))) (pgs_cons (pg_name (i := t) (by rw [k.names]; exact k.nd) (by rw [k.names]; exact slotOf_some ht) g1 g2) pgs_nil)) (n := 2) rfl rfl) (sole_no hc) hw rfl) fun D σ H ⟨P, s, R, q⟩ => ?_
  unfold setTwoS at q
  split at q
  · rename_i ds hd
    refine ⟨P, s, R, q.run.mono fun d s1 H1 R1 x1 q1 v rv => ?_⟩
    split at q1
    · rename_i da db
      cases rv with
      | @tup a vs _ hq rr =>
        cases rr with
        | @cons va vr _ _ ra rr =>
          cases rr with
          | @cons vb vr2 _ _ rb rr =>
            cases rr
            have o1 : OwnOk C P σ H1 s1 i (.lst, ds) := R1.slot i _ hd
            refine ⟨a, [va, vb], rfl, by rw [← k.K]; exact hq, rfl, va, [vb], rfl, ?_⟩
            refine ⟨_, o1.at_, P, s1, R1, q1.run.mono fun z s2 H2 R2 x2 q2 w tw => ?_⟩
            have o2 : OwnOk C P σ H2 s2 i (.lst, ds) := R2.slot i _ hd
            obtain ⟨ws, h1, h2⟩ := o2.isL
            cases z with
            | int z =>
              dsimp only at q2
              split at q2
              · rename_i n hn
                split at q2
                · rename_i hc
                  obtain ⟨w1, w2⟩ := R2.write hd (h2.set (ra.xt x2 R1.st) n)
                  refine ⟨_, ws, z, n, rfl, top_int tw.weak, h1, by rw [h2.length]; exact hn, vb, [], rfl, rfl, ?_⟩
                  have rb' : Rp C.K (upd H2 (P.r i) (.lst (ws.set n va))) (Fc C { P with ρ := P.ρ.set i (.own (ds.set n da)) } s2) vb db :=
                    (rb.xt x2 R1.st).step (w2.stays R2 fun a f => ⟨f.2.2.2, fun m => f.2.1 (Pt.root_of m)⟩) fun a f n => w2.fc a f n
                  have hlt : t < (P.ρ.set i (.own (ds.set n da))).length := by rw [List.length_set]; exact hc.1
                  exact q2 _ _ _ rfl (w1.setVal rb' hlt) (w2.trans stp_setVal)
                · exact q2.elim
              · exact q2.elim
            | _ => exact q2.elim
    · exact q1.elim
  · exact q.elim
/-! ### y = f(.., x, ..), x an own list that stays own -/
mutual
def lfree : D → Bool
  | .lst _ => false
  | .scr ds => lfreeL ds
  | .emp => false
  | .box _ _ => false
  | .tup ds => lfreeL ds
  | _ => true
def lfreeL : List D → Bool
  | [] => true
  | d :: ds => lfree d && lfreeL ds
end
mutual
theorem Rp.free {K : PySem.W.Frag} {H : Hp} {F F' : Addr → Prop} : ∀ {v : V} {d : D}, lfree d = true → Rp K H F v d → Rp K H F' v d
  | _, _, _, .non => .non
  | _, _, _, .bl b => .bl b
  | _, _, _, .int i => .int i
  | _, _, _, .str x => .str x
  | _, _, _, .opq v => .opq v
  | _, _, h, .tup a r => .tup a (RpL.free (by rw [lfree] at h; exact h) r)
  | _, _, h, .lst _ _ _ => by rw [lfree] at h; cases h
  | _, _, h, .scr a r => .scr a (RpL.free (by rw [lfree] at h; exact h) r)
  | _, _, h, .emp _ _ => by rw [lfree] at h; cases h
  | _, _, h, .box _ _ _ => by rw [lfree] at h; cases h
theorem RpL.free {K : PySem.W.Frag} {H : Hp} {F F' : Addr → Prop} : ∀ {v : List V} {d : List D}, lfreeL d = true → RpL K H F v d → RpL K H F' v d
  | _, _, _, .nil => .nil
  | _, _, h, .cons a r => by
    rw [lfreeL, Bool.and_eq_true] at h
    exact .cons (Rp.free h.1 a) (RpL.free h.2 r)
end
def lendS (is : List Nat) (fe : EvF S) (t : Nat) : ExF S := fun ρ s => match fe (relAll ρ is) s with
  | .ok d s1 => if lfree d = true ∧ t < ρ.length then .nxt (ρ.set t (.val d)) s1 else .stuck
  | _ => .stuck
theorem sx_lend {N : List Str} {sc : Scope} (k : Xd C W X N sc) {y : Str} {t : Nat} {e : Expr} {tp pos : Pos} {fe : EvF S} (is : List Nat) (ht : slotOf N y = some t) (hL : locB sc y = true) (hc : isComp e = false)
    (hw : swappedStores [.Name y tp] e X.env = pure none) (he : PE X e (tP C W fe)) : PS X (.Assign [.Name y tp] e pos) (tS C W (lendS is fe t)) := by
  obtain ⟨g1, g2⟩ := k.s.loc y hL
  refine ps_mono (ps_asg he (pg_name (i := t) (by rw [k.names]; exact k.nd) (by rw [k.names]; exact slotOf_some ht) g1 g2) (sole_no hc) hw rfl) fun D σ H ⟨P, s, R, q⟩ => ?_
  obtain ⟨h1, h2⟩ := R.releases is
  refine ⟨_, s, h1, ?_⟩
  unfold lendS at q
  show Run C W _ σ H s (fe (relAll P.ρ is) s) _
  cases e' : fe (relAll P.ρ is) s with
  | ok d s1 =>
    rw [e'] at q
    intro H1 R1 x1 v rv
    dsimp only at q
    split at q
    · rename_i hc
      have R2 : Rel C P σ H1 s1 := R.xt x1 R1.st
      exact q _ _ _ rfl (R2.setVal (rv.free hc.1) hc.2) (x1.stp.trans stp_setVal)
    · exact q.elim
  | err y s1 => rw [e'] at q; exact q.elim
  | stuck => rw [e'] at q; exact q.elim
  | new p g => rw [e'] at q; exact q.elim
def lends (ow : List Str) (as : List Expr) : Bool := as.any fun
  | .Name x _ => ow.contains x
  | _ => false
def moreSt2 (G : Gk S) (N : List Str) (sc : Scope) (ow : List Str) (st : Stmt) : Option (ExF S) := match st with
  | .Expr (.Call (.Attribute (.Name x _) m ap) [e] [] cp) _ => if m = "extend" ∧ isStar e = false ∧ (ap.endLine == cp.line) = true then (match okN N sc x with
    | some i => some (relS' (slots N (escE (fun x => (G.cal x).isSome) 80 e)) (extS i (evB G N 40 sc e).v))
    | none => none) else none
  | .Assign [.Name y tp] (.Call (.Attribute (.Name x p) m ap) [] [] cp) _ => if m = "pop" ∧ (ap.endLine == cp.line) = true ∧ locB sc y = true ∧ sws sc (.Name y tp) (.Call (.Attribute (.Name x p) m ap) [] [] cp) = some none then (match okN N sc x, slotOf N y with
    | some i, some t => some (popS i t)
    | _, _ => none) else none
  | .Assign [.Tuple [.Subscript (.Name x p) j tp, .Name y yp] kk tp2] e _ => if isComp e = false ∧ isSlice j = false ∧ locB sc y = true ∧ sws sc (.Tuple [.Subscript (.Name x p) j tp, .Name y yp] kk tp2) e = some none then (match okN N sc x, slotOf N y with
    | some i, some t => some (relS' (slots N (escE (fun x => (G.cal x).isSome) 80 e) ++ slots N (escP (fun x => (G.cal x).isSome) 80 j)) (setTwoS i t (evB G N 40 sc e).v (pk N sc (evB G N 40 sc) j)))
    | _, _ => none) else none
  | .Assign [.Name y tp] (.Call (.Name f fp) as [] cp) p => if lends ow as = true ∧ ow.contains y = false ∧ (G.cal f).isSome = true ∧ locB sc y = true ∧ sws sc (.Name y tp) (.Call (.Name f fp) as [] cp) = some none then (match slotOf N y with
    | some t => some (lendS (slots N (escE (fun x => (G.cal x).isSome) 80 (.Call (.Name f fp) as [] cp))) (evB G N 40 sc (.Call (.Name f fp) as [] cp)).v t)
    | none => none) else moreSt G N sc ow (.Assign [.Name y tp] (.Call (.Name f fp) as [] cp) p)
  | st => moreSt G N sc ow st
theorem moreSt2_ok {C : Cn S} {W : L2.WX} {X : Cx} {K : Dk S} (hK : K.st = moreSt2 K.G K.N K.sc K.ow) (k : Xd C W X K.N K.sc) (g : GkOk C X K.G) : StOk C W X K := by
  intro st f q
  have h : ∀ e, Snd C W X e (evB K.G K.N 40 K.sc e) := fun e => (ev_ok 40 k.toXk g e).toSnd
  rw [hK] at q
  unfold moreSt2 at q
  split at q
  · split at q
    · rename_i c
      obtain ⟨rfl, c2, c3⟩ := c
      split at q
      · rename_i i hi
        cases q
        exact sx_rel _ (sx_ext k hi c2 c3 (h _).v)
      · cases q
    · cases q
  · split at q
    · rename_i c
      obtain ⟨rfl, c2, c3, c4⟩ := c
      split at q
      · rename_i i t hi ht
        cases q
        exact sx_pop k hi ht c3 c2 (sws_ok k.scope c4)
      · cases q
    · cases q
  · split at q
    · rename_i c
      obtain ⟨c1, c2, c3, c4⟩ := c
      split at q
      · rename_i i t hi ht
        cases q
        exact sx_rel _ (sx_setTwo k hi ht c3 c1 c2 (sws_ok k.scope c4) (h _).v (sd_pk k.toXk h _))
      · cases q
    · cases q
  · split at q
    · rename_i c
      obtain ⟨c1, c2, c3, c4, c5⟩ := c
      split at q
      · rename_i t ht
        cases q
        exact sx_lend k _ ht c4 rfl (sws_ok k.scope c5) (h _).v
      · cases q
    · exact moreSt_ok (K := { K with st := moreSt K.G K.N K.sc K.ow }) rfl k g _ f q
  · exact moreSt_ok (K := { K with st := moreSt K.G K.N K.sc K.ow }) rfl k g st f q
end
end Q

/-! Lay50: exceptions and dicts by texts as data: made, asked, looked into. -/
namespace Q
open PySem PySem.Spec PyProof.Rows L2
section
variable {S : Type} {C : Cn S} {W : L2.WX} {X : Cx}
/-- C(e, ..); C(k=e, ..), the last one first -/
def mkxE (x : Str) (fs : List Str) (rv : Bool) (g : EvL' S) : EvF S := fun ρ s => (g ρ s).bind fun ds s1 => if ds.length = fs.length then .ok (.box (.exc x fs.reverse) (if rv = true then ds.reverse else ds)) s1 else .stuck
theorem mkx_end {P : Pt} {σ : L2.St} {H : Hp} {s : S} {x : Str} {ns : List Str} {ws : List V} {es : List D} {Q : VK} (R : Rel C P σ H s) (rv : RpL C.K H (Fc C P s) ws es) (hl : ns.length = ws.length) (q : ∀ H', Rel C P σ H' s → Xt C.T s s H H' → ∀ v, Rp C.K H' (Fc C P s) v (.box (.exc x ns) es) → Q v H') {dx : Addr} (n : H dx = none) {a : Addr} (na : upd H dx (.xd (ns.zip ws)) a = none) :
    Q (.ref a) (upd (upd H dx (.xd (ns.zip ws))) a (ExK (.ref (gaQ C.K x)) (some dx) a)) := by
  have R2 : Rel C P σ (upd H dx (.xd (ns.zip ws))) s := R.new n
  have R3 : Rel C P σ (upd (upd H dx (.xd (ns.zip ws))) a (ExK (.ref (gaQ C.K x)) (some dx) a)) s := R2.new na
  have x3 : Xt C.T s s H (upd (upd H dx (.xd (ns.zip ws))) a (ExK (.ref (gaQ C.K x)) (some dx) a)) := (Xt.new n).trans (Xt.new na)
  have ne : dx ≠ a := fun z => by rw [← z, upd_same] at na; cases na
  exact q _ R3 x3 _ (.box (R2.fresh na) ⟨hl, dx, upd_same, by rw [upd_ne ne, upd_same]⟩ (rv.xt x3 R.st))
theorem exo_gone {H1 : Hp} {a dx c : Addr} {fs : List (Str × V)} (ha : H1 a = none) : upd (del (upd (upd (upd H1 a (exo a c none)) dx (exd dx fs)) a (exo a c (some dx))) a) dx (.xd fs) = upd H1 dx (.xd fs) := by
  funext b
  by_cases hb : b = dx
  · subst hb; rw [upd_same, upd_same]
  · rw [upd_ne hb, upd_ne hb]
    by_cases hba : b = a
    · subst hba; rw [del_same, ha]
    · rw [del_ne hba, upd_ne hba, upd_ne hb, upd_ne hba]
/-- what an __init__ of such a class does -/
theorem spX_go {fs : List Str} {c a : Addr} {sp : Sp} {vs : List V} {H1 : Hp} {Qk : L2.XK} (hs : SpX fs c sp) (hl : vs.length = fs.length) (ha : H1 a = none) (k : ∀ dx, H1 dx = none → Qk (.ref c) (some dx) (upd H1 dx (.xd (fs.reverse.zip vs.reverse)))) :
    sp (.ref a :: vs) (upd H1 a (exo a c none)) (fun v' H2 => v' = .non ∧ ∃ (d : Addr) (gs : List (Str × V)), H2 a = some (exo a c (some d)) ∧ H2 d = some (exd d gs) ∧ H1 d = none ∧ Qk (.ref c) (some d) (upd (del H2 a) d (.xd gs))) (fun _ _ _ => False) := by
  match fs, vs, hs, hl with
  | [f], [v], hs, _ =>
    subst hs
    refine ⟨a, v, rfl, upd_same, fun dx n ne => ⟨rfl, dx, [(f, v)], upd_same, ?_, ?_, ?_⟩⟩
    · rw [upd_ne ne, upd_same]
    · rw [upd_ne ne] at n; exact n
    · rw [upd_ne ne] at n
      rw [exo_gone ha]
      exact k dx n
  | [f, f2], [v, v2], hs, _ =>
    subst hs
    refine ⟨a, v, v2, rfl, upd_same, fun dx n ne => ⟨rfl, dx, [(f2, v2), (f, v)], upd_same, ?_, ?_, ?_⟩⟩
    · rw [upd_ne ne, upd_same]
    · rw [upd_ne ne] at n; exact n
    · rw [upd_ne ne] at n
      rw [exo_gone ha]
      exact k dx n
theorem spX_len {fs : List Str} {c : Addr} {sp : Sp} (hs : SpX fs c sp) : fs.length ≤ 2 := by
  match fs, hs with
  | [f], _ => simp
  | [f, f2], _ => simp
theorem sd_mkx {N : List Str} {sc : Scope} (k : Xk C W X N sc) {x : Str} {fs : List Str} {e : Expr} {es : List Expr} {p pos : Pos} {g : EvL' S} (ok : XmkOk C X x fs) (hg : glB sc x = true) (ha : PA X (e :: es) (tA C W g)) (hs : (e :: es).all (fun e => !isStar e) = true) :
    PE X (.Call (.Name x p) (e :: es) [] pos) (tP C W (mkxE x fs true g)) := by
  obtain ⟨fI, fd, ps, kk, sp, hm, T, iC, tI, F, hr, hb, _, hS⟩ := ok.ok
  obtain ⟨g1, g2, g3⟩ := gl_of k hg
  simp only [List.all_cons, Bool.and_eq_true, Bool.not_eq_true'] at hs
  have mk := T.elim (fun T => pmk_oex (p := p) (pos := pos) T iC tI F hr hb .nil (fun _ _ _ _ _ _ _ z => z.elim) g1 hm ha g2 (star_no hs.1) (star_back hs.2)) fun T => pmk_oexO (p := p) (pos := pos) T iC tI F hr hb .nil (fun _ _ _ _ _ _ _ z => z.elim) g1 hm ha g2 (star_no hs.1) (star_back hs.2)
  refine pe_mono (pe_mkx mk) fun σ H Q ⟨P, s, R, q⟩ => ⟨P, s, R, Run.mono q.bind fun ds s1 H1 R1 x1 q1 vs rv => ?_⟩
  split at q1
  · rename_i hl
    rw [if_pos rfl] at q1
    have hv : vs.length = fs.length := by rw [rv.length, hl]
    refine ⟨by have := spX_len hS; omega, fun a ha => ?_⟩
    rw [List.append_nil]
    refine spX_go (Qk := fun cls d H' => ∀ a', H' a' = none → Q (.ref a') (upd H' a' (ExK cls d a'))) hS hv ha fun dx n a' na => ?_
    rw [← k.K]
    exact mkx_end (ns := fs.reverse) (ws := vs.reverse) R1 rv.reverse (by simp [hv]) (fun H' R' x' v r => q1 H' R' x' v r) n na
  · exact q1.elim
theorem pk_mono {kws : List Keyword} {t t' : TA} (h : PK X kws t) (i : ∀ σ H Q, t' σ H Q → t σ H Q) : PK X kws t' := ⟨fun pos pins s σ H Q I q => h.run pos pins s σ H Q I (i σ H Q q)⟩
theorem sk_nil : PK X [] (tA C W nilA) := pk_mono pk_nil fun σ H Q ⟨P, s, R, q⟩ => (q.now R) _ .nil
theorem sk_cons {kws : List Keyword} {n : Option Str} {e : Expr} {kp : Pos} {f : EvF S} {g : EvL' S} (he : PE X e (tP C W f)) (hr : PK X kws (tA C W g)) : PK X (⟨n, e, kp⟩ :: kws) (tA C W (consA f g)) :=
  pk_mono (pk_cons he hr) fun σ H Q ⟨P, s, R, q⟩ => ⟨P, s, R, q.bind.mono fun d s1 H1 R1 x1 q1 v rv => ⟨P, s1, R1, q1.bind.mono fun ds s2 H2 R2 x2 q2 vs rvs => (q2.now R2) _ (.cons (rv.xt x2 R1.st) rvs)⟩⟩
theorem sd_mkk {N : List Str} {sc : Scope} (k : Xk C W X N sc) {x : Str} {fs : List Str} {kws : List Keyword} {p pos : Pos} {g : EvL' S} (ok : XmkOk C X x fs) (hg : glB sc x = true) (ha : PK X kws (tA C W g))
    (hall : ((backToKw pos (keywordEach kws X.env)).all fun y => y.1.isSome) = true) (hks : ((backToKw pos (keywordEach kws X.env)).filterMap fun y => y.1) = fs.reverse) (hst : (((backTo pos (starEach [] X.env)).any fun y => y.1) || ((backToKw pos (keywordEach kws X.env)).any fun y => y.1.isNone)) = false) :
    PE X (.Call (.Name x p) [] kws pos) (tP C W (mkxE x fs false g)) := by
  obtain ⟨fI, fd, ps, kk, sp, hm, T, iC, tI, F, hr, _, hb, hS⟩ := ok.ok
  obtain ⟨g1, g2, g3⟩ := gl_of k hg
  have TA : OexA X.K (gaQ X.K x) := T.elim .ofC .ofO
  have mk := pmk_kw (p := p) (pos := pos) TA iC tI F hr hb (fun _ _ _ _ _ _ _ z => z.elim) g1 hm ha hall hks g2 hst
  refine pe_mono (pe_mkx mk) fun σ H Q ⟨P, s, R, q⟩ => ⟨P, s, R, Run.mono q.bind fun ds s1 H1 R1 x1 q1 vs rv => ?_⟩
  split at q1
  · rename_i hl
    rw [if_neg Bool.false_ne_true] at q1
    have hv : vs.length = fs.length := by rw [rv.length, hl]
    refine ⟨by rw [List.length_reverse]; exact hv, fun a ha => ?_⟩
    show sp (.ref a :: vs.reverse) _ _ _
    refine spX_go (Qk := fun cls d H' => ∀ a', H' a' = none → Q (.ref a') (upd H' a' (ExK cls d a'))) hS (by rw [List.length_reverse]; exact hv) ha fun dx n a' na => ?_
    rw [List.reverse_reverse] at na ⊢
    rw [← k.K]
    exact mkx_end (ns := fs.reverse) (ws := vs) R1 rv (by simp [hv]) (fun H' R' x' v r => q1 H' R' x' v r) n na
  · exact q1.elim
/-! ### fields -/
def fldxE (fx : Str → Str → Bool) (f : Str) (g : EvF S) : EvF S := fun ρ s => (g ρ s).bind fun d s1 => match d with
  | .box (.exc n ns) ds => if fx n f = true then ofO ((ns.zip ds).lookup f) s1 else .stuck
  | _ => .stuck
theorem zip_look {K : PySem.W.Frag} {H : Hp} {F : Addr → Prop} {f : Str} {d : D} : ∀ {ns : List Str} {vs : List V} {ds : List D}, RpL K H F vs ds → (ns.zip ds).lookup f = some d → ∃ v, (ns.zip vs).lookup f = some v ∧ Rp K H F v d
  | [], _, _, _, e => by simp at e
  | _ :: _, _, _, .nil, e => by simp at e
  | n :: ns, _, _, .cons r rs, e => by
    simp only [List.zip_cons_cons, List.lookup_cons] at e ⊢
    split at e
    · cases e
      exact ⟨_, rfl, r⟩
    · exact zip_look rs e
theorem sd_fldx {N : List Str} {sc : Scope} (k : Xk C W X N sc) {fx : Str → Str → Bool} (ok : ∀ n f, fx n f = true → FxOk C X n f) {e : Expr} {f : Str} {g : EvF S} {pos : Pos} (he : PE X e (tP C W g)) (hb : attributeBase e f X.env (eval e X.env) = eval e X.env) : PE X (.Attribute e f pos) (tP C W (fldxE fx f g)) := by
  refine pe_mono (pe_xk he hb) fun σ H Q ⟨P, s, R, q⟩ => ⟨P, s, R, Run.mono q.bind fun d s1 H1 R1 x1 q1 v rv => ?_⟩
  split at q1
  · rename_i n ns ds
    split at q1
    · rename_i hf
      obtain ⟨o1, o2⟩ := (ok n f hf).ok
      cases rv with
      | box ff h r =>
        obtain ⟨hl, dx, h1, h2⟩ := h
        obtain ⟨d', e1, kk⟩ := run_ofO q1
        obtain ⟨v', e2, r2⟩ := zip_look r e1
        refine ⟨_, gaQ X.K n, dx, _, v', rfl, ?_, o1, o2, h2, e2, kk H1 R1 Xt.refl _ r2⟩
        rw [← k.K]
        exact h1
    · exact q1.elim
  · exact q1.elim
/-! ### isinstance -/
def rIsX (K : PySem.W.Frag) : List V → Hp → VK → Prop := fun xs H Q => ∃ (a D dd : Addr) (c : V) (cv : Value) (fs : List (Str × V)) (b : Bool), xs = [.ref a, c] ∧ (∀ u, RelV c u → u = cv) ∧ H a = some (ExK (.ref D) (some dd) a) ∧ H dd = some (.xd fs) ∧ ExcC K D ∧ PySem.W.kitOne K (.ref D) cv = some b ∧ Q (.bl b) H
theorem call_isX {X : Cx} : CallR X (.builtin "isinstance") (rIsX X.K) := by
  intro pins s σ H xs us Q I r h
  obtain ⟨a, D, dd, c, cv, fs, b, rfl, hc, ha, hx, C, e, q⟩ := h
  cases r with
  | cons rx rr =>
    cases rr with
    | cons rt rr =>
      cases rr
      cases rx
      have := hc _ rt
      subst this
      obtain ⟨⟨oe, vs, he, hz, hd⟩, _, _⟩ := I.hok a _ ha
      obtain ⟨mA, hns, _⟩ := (show ObjOk X.prog X.w H s.heap dd (.xd fs) from I.hok dd _ hx)
      obtain ⟨od, ho, _⟩ := lookIn_ns hns
      have J : PySem.W.InstAt s.heap a oe D (some od) := ⟨he, hz.1, by unfold PySem.W.notCls; rw [hd] <;> rfl, by rw [hz.2]; exact ho⟩
      exact PySem.W.kia_one (kitx_of C) I.kIn J e (fun z => nomatch z) fun tk => ⟨.bl b, H, I.kept (t' := tk) fun _ _ z => z, rfl, q⟩
def isxE (is : Str → Option Bool) (f : EvF S) : EvF S := fun ρ s => (f ρ s).bind fun d s1 => match d with
  | .box (.exc n _) _ => ofO ((is n).map .bl) s1
  | _ => .stuck
theorem bt_isx : bootBuiltins (Str.ofString "isinstance") = some (.builtin "isinstance") := by decide +kernel
theorem sd_isx {N : List Str} {sc : Scope} (k : Xk C W X N sc) {is : Str → Str → Option Bool} (ok : ∀ n y b, is n y = some b → IsxOk C X n y b) {pr y : Str} {b0 : Bool} (h0 : is pr y = some b0) {e : Expr} {p p2 pos : Pos} {f : EvF S} (he : PE X e (tP C W f)) (hs : isStar e = false) (hg : glB sc "isinstance" = true) (hm : X.mg "isinstance" = none) (hg2 : glB sc y = true) :
    PE X (.Call (.Name "isinstance" p) [e, .Name y p2] [] pos) (tF C W (isxE (fun n => is n y) f)) := by
  obtain ⟨h1, h2, h3⟩ := gl_of k hg
  obtain ⟨y1, y2, y3⟩ := gl_of k hg2
  obtain ⟨_, cv, hcv, _⟩ := (ok _ _ _ h0).ok
  obtain ⟨c, pc, hc⟩ : ∃ c : V, PE X (.Name y p2) (tC c) ∧ ∀ u, RelV c u → u = cv := by
    rcases hcv with ⟨e1, a, rfl⟩ | ⟨e1, T, e2, rfl, e3⟩
    · exact ⟨.ref a, pe_glob y1 e1 rfl y2, fun u z => z⟩
    · exact ⟨.ty T, pe_bltn y1 e1 e2 rfl e3 y2, fun u z => z⟩
  refine pe_mono (pe_callB call_isX h1 hm bt_isx (pa_cons he (pa_cons pc pa_nil (by rfl)) (star_no hs)) h3 h2 (star_no hs) (star_back (by rfl))) fun σ H Q ⟨P, s, R, q⟩ => ⟨P, s, R, q.bind.mono fun d s1 H1 R1 x1 q1 v tv => ?_⟩
  split at q1
  · rename_i n ns ds
    obtain ⟨d', e1, kk⟩ := run_ofO q1
    rw [Option.map_eq_some_iff] at e1
    obtain ⟨b, e2, rfl⟩ := e1
    obtain ⟨o1, cv', hcv', o2⟩ := (ok n y b e2).ok
    have ec : cv' = cv := by
      rcases hcv with ⟨z1, a, rfl⟩ | ⟨z1, T, z2, rfl, z3⟩ <;> rcases hcv' with ⟨w1, a', rfl⟩ | ⟨w1, T', w2, rfl, w3⟩
      · rw [z1] at w1; cases w1; rfl
      · rw [z1] at w1; cases w1
      · rw [z1] at w1; cases w1
      · rw [z2] at w2; cases w2; rfl
    subst ec
    cases tv with
    | box ff h r =>
      obtain ⟨hl, dx, g1, g2⟩ := h
      refine ⟨_, gaQ X.K n, dx, c, cv', _, b, rfl, hc, ?_, g2, o1, o2, kk H1 R1 Xt.refl _ (Fr.plain (.bl _) (fun _ e => nomatch e))⟩
      rw [← k.K]
      exact g1
  · exact q1.elim
/-! ### a dict of one key -/
theorem run_bindZ {S : Type} {C : Cn S} {W : L2.WX} {P : Pt} {σ : L2.St} {H : Hp} {s : S} {α β : Type} {m : Res S α} {g : α → S → Res S β} {k : β → S → Hp → Prop} (h : Run C W P σ H s (m.bind g) k) :
    Run C W P σ H s m fun a s1 _ => Run C W P σ H s (g a s1) k := by
  induction m with
  | ok a s1 => exact fun _ _ _ => h
  | err y s1 => exact h
  | stuck => exact h
  | new p g' ih => exact fun a ha => ih a (h a ha)
def dic1E (fk f : EvF S) : EvF S := fun ρ s => (fk ρ s).bind fun k s1 => (f ρ s1).bind fun d s2 => match k with
  | .str k => if lfree d = true then .ok (.box (.dS [k]) [d]) s2 else .stuck
  | _ => .stuck
theorem mergeK1 {k : Str} {v : V} : mergeK [] [(Sum.inr k, v)] = [((Sum.inr k : Key), v)] := by
  unfold mergeK
  simp only [List.foldl_cons, List.foldl_nil]
  unfold putK
  simp
theorem sd_dic1 {e1 e2 : Expr} {pos : Pos} {fk f : EvF S} (h1 : PE X e1 (tP C W fk)) (h2 : PE X e2 (tP C W f)) :
    PE X (.Dict [some e1] [e2] pos) (tP C W (dic1E fk f)) := by
  refine pe_mono (pe_disp (pps_cons h1 h2 pps_nil) rfl rfl (by simp) (by simp)) fun σ H Q ⟨P, s, R, q⟩ p hp => ?_
  have R0 : Rel C P σ (upd H p (.dK [])) s := R.new hp
  refine ⟨P, s, R0, Run.mono (Run.behind (run_bindZ q) (Xt.new hp)) fun k s1 H1 R1 x1 q1 v1 r1 => ?_⟩
  refine ⟨P, s1, R1, Run.mono (Run.behind (run_bindZ q1) ((Xt.new hp).trans x1)) fun d s2 H2 R2 x2 q2 v2 r2 => ?_⟩
  split at q2
  · rename_i k
    split at q2
    · rename_i f1
      have xt : Xt C.T s s2 (upd H p (.dK [])) H2 := x1.trans x2
      have na : ¬ C.T.A s p := nN R.st hp
      have na2 : ¬ C.T.A s2 p := fun z => (xt.grow p z).elim na fun z => by rw [upd_same] at z; cases z
      have e2 : H2 p = some (.dK []) := xt.keep p _ upd_same na
      have r1' : v1 = .str k := by cases r1; rfl
      subst r1'
      refine ⟨e2, [(.inr k, v2)], rfl, by simp, ?_⟩
      rw [mergeK1]
      have x5 : Xt C.T s s2 H (upd H2 p (.dK [(.inr k, v2)])) := by
        have xh : Xt C.T s s2 H H2 := (Xt.new hp).trans xt
        exact ⟨fun b o e n => by rw [upd_ne (ne_of_none e hp)]; exact xh.keep b o e n, fun b hb => by
          by_cases z : b = p
          · rw [z, upd_same]; simp
          · rw [upd_ne z]; exact xh.live b hb, xh.grow⟩
      have st5 : C.T.R s2 (upd H2 p (.dK [(.inr k, v2)])) := C.T.mono R2.st fun b o hb e => by
        rw [upd_ne (fun z => hb.elim (fun hb => na2 (by rw [← z]; exact hb)) fun hb => by rw [z, e2] at e; cases e; exact hb trivial)]
        exact e
      have r0 : Rp C.K H2 (fun _ => False) v2 d := r2.free f1
      have st : Stays (fun _ => False) H2 (upd H2 p (.dK [(.inr k, v2)])) := ⟨fun b xs e => by rw [upd_ne (fun z => by rw [z, e2] at e; cases e)]; exact e, fun b o u e => by rw [upd_ne (fun z => by rw [z, e2] at e; cases e)]; exact e, fun b xs z => z.elim, fun b z => z.elim, fun b o z => z.elim, fun b fs e => by rw [upd_ne (fun z => by rw [z, e2] at e; cases e)]; exact e⟩
      have rr : Rp C.K (upd H2 p (.dK [(.inr k, v2)])) (Fc C P s2) v2 d := r0.step st fun b z => z.elim
      have f0 := R.fresh hp
      exact q2 _ (R.xt x5 st5) x5 _ (.box ⟨f0.1, f0.2.1, f0.2.2.1, na2⟩ ⟨rfl, upd_same⟩ (.cons rr .nil))
    · exact q2.elim
  · exact q2.elim
end
end Q

/-! Lay42: things that the state holds: lists, dicts, objects; new ones whatever their addresses are. -/
namespace Q
open PySem L2
abbrev Sto := List (Addr × Pay)
section
variable {S0 : Type} {T0 : StK S0}
end
/-- one end, whatever the addresses are -/
inductive Coll {S : Type} {α : Type} : Res S α → Res S α → Prop
  | same (r : Res S α) : Coll r r
  | new {p : Addr → Bool} {g : Addr → Res S α} {r : Res S α} : (∀ a, p a = true → Coll (g a) r) → Coll (.new p g) r
section
variable {S : Type}
end
/-! ### looking at lists that the state holds -/
section
variable {S0 : Type} {T0 : StK S0} {C : Cn (S0 × Sto)} {W : L2.WX} {X : Cx}
def stoL (s : S0 × Sto) (a : Addr) : Option (List D) := match s.2.lookup a with
  | some (.lst, ds) => some ds
  | _ => none
/-- a list that the state holds, told by its place -/
def res (s : S0 × Sto) : D → D
  | .opq (.ref a) => (match stoL s a with
    | some ds => .lst ds
    | none => .opq (.ref a))
  | d => d
end
end Q

/-! Lay43: lists that the state holds: new ones, append; the reader's hooks for them. -/
namespace Q
open PySem L2
section
variable {S0 : Type} {T0 : StK S0} {C : Cn (S0 × Sto)} {W : L2.WX} {X : Cx}
/-! ### hooks -/
end
end Q

/-! Lay44: objects that the state holds: fields, methods, properties, new ones. -/
namespace Q
open PySem PySem.Spec PyProof.Rows L2
section
variable {S0 : Type} {T0 : StK S0} {C : Cn (S0 × Sto)} {W : L2.WX} {X : Cx}
/-! ### calls -/
/-! ### new objects -/
end
end Q

/-! Lay45: the length of objects; dicts by texts that the state holds. -/
namespace Q
open PySem PySem.Spec PyProof.Rows L2
/-! ### len -/
section
variable {S0 : Type} {T0 : StK S0} {C : Cn (S0 × Sto)} {W : L2.WX} {X : Cx}
/-! ### dicts by texts -/
end
end Q

set_option maxHeartbeats 2000000
/-! Ex11: try: .. except (A, B): .., without a name. -/
namespace Q
open PySem L2 PySem.Spec PyProof.Rows
section
variable {X : Cx} {x1 x2 : Str} {kk : Nat} {c1 c2 : Value} {body suite : List Stmt} {b₀ : Stmt} {p1 p2 tpos pos' pos : Pos} {tb : WX → TS} {ts : TS}
end
end Q

/-! Lay46: the reader's hooks for objects. -/
namespace Q
open PySem PySem.Spec PyProof.Rows L2
section
variable {S0 : Type} {T0 : StK S0} {C : Cn (S0 × Sto)} {W : L2.WX} {X : Cx}
def plainB : Expr → Bool
  | .Name _ _ => true
  | .Attribute _ _ _ => true
  | .Subscript _ _ _ => true
  | .Call (.Name _ _) (_ :: _) [] _ => true
  | _ => false
theorem ab_plain {o : Expr} {m : Str} {env : Env} (h : plainB o = true) : attributeBase o m env (eval o env) = eval o env := by
  unfold plainB at h
  split at h <;> first | rfl | cases h
def isTxt : Expr → Bool
  | .Constant (.str _) _ _ => true
  | _ => false
end
end Q

/-! Lay51: the reader's hook for exceptions and dicts as data. -/
namespace Q
open PySem PySem.Spec PyProof.Rows L2
section
variable {S : Type} {C : Cn S} {W : L2.WX} {X : Cx}
def excSp (pr : Str) (O : Obk S) (N : List Str) (sc : Scope) (f : Expr → Sem3 S) (e : Expr) : Option (Sem3 S) := match e with
  | .Attribute o m _ => if plainB o = true then some (val3 (fldxE O.fx m (f o).v)) else none
  | .Dict [some e1] [e2] _ => if isTxt e1 = true then some (val3 (dic1E (f e1).v (f e2).v)) else none
  | .Call (.Name x p) (a :: es) [] pos => (match O.exc x with
    | some fs => if glB sc x = true ∧ ((a :: es).all fun e => !isStar e) = true then some (val3 (mkxE x fs true (argsC N sc f (a :: es)))) else none
    | none => (match es with
      | [.Name y _] => if x = "isinstance" ∧ (O.isx pr y).isSome = true then (if glB sc "isinstance" = true ∧ glB sc y = true ∧ isStar a = false then some (plain3 (isxE (fun n => O.isx n y) (f a).v)) else none) else moreSp N sc f (.Call (.Name x p) (a :: es) [] pos)
      | _ => moreSp N sc f (.Call (.Name x p) (a :: es) [] pos)))
  | .Call (.Name x _) [] [⟨some k1, e1, _⟩] _ => (match O.exc x with
    | some fs => if glB sc x = true ∧ fs = [k1] then some (val3 (mkxE x fs false (consA (f e1).v nilA))) else none
    | none => none)
  | .Call (.Name x _) [] [⟨some k1, e1, _⟩, ⟨some k2, e2, _⟩] _ => (match O.exc x with
    | some fs => if glB sc x = true ∧ fs = [k2, k1] then some (val3 (mkxE x fs false (consA (f e1).v (consA (f e2).v nilA)))) else none
    | none => none)
  | e => moreSp N sc f e
theorem excSp_ok {pr : Str} {G : Gk S} (hG : G.sp = excSp pr G.obj) : SpOk C G := by
  intro W X N sc f k hb ho h e r q
  have more : ∀ e r, moreSp N sc f e = some r → Snd C W X e r := fun e r q => moreSp_ok (G := { G with sp := moreSp }) rfl k hb ho h e r q
  rw [hG] at q
  unfold excSp at q
  split at q
  · split at q
    · rename_i hp
      cases q
      exact Snd.val k.K (sd_fldx k ho.fx (h _).v (ab_plain hp)) rfl
    · cases q
  · split at q
    · cases q
      exact Snd.val k.K (sd_dic1 (h _).v (h _).v) rfl
    · cases q
  · split at q
    · rename_i fs hc
      split at q
      · rename_i z
        cases q
        exact Snd.val k.K (sd_mkx k (ho.exc _ _ hc) z.1 (sa_args k h _) z.2) rfl
      · cases q
    · split at q
      · split at q
        · rename_i z
          obtain ⟨rfl, z⟩ := z
          split at q
          · rename_i w
            obtain ⟨b0, hb0⟩ := Option.isSome_iff_exists.mp z
            cases q
            exact Snd.plain k.K (sd_isx k ho.isx hb0 (h _).v w.2.2 w.1 (hb "isinstance" (by simp [bltNames])) w.2.1) rfl
          · cases q
        · exact more _ _ q
      · exact more _ _ q
  · split at q
    · rename_i fs hc
      split at q
      · rename_i z
        obtain ⟨z1, rfl⟩ := z
        cases q
        exact Snd.val k.K (sd_mkk k (ho.exc _ _ hc) z1 (sk_cons (h _).v sk_nil) rfl rfl rfl) rfl
      · cases q
    · cases q
  · split at q
    · rename_i fs hc
      split at q
      · rename_i z
        obtain ⟨z1, rfl⟩ := z
        cases q
        exact Snd.val k.K (sd_mkk k (ho.exc _ _ hc) z1 (sk_cons (h _).v (sk_cons (h _).v sk_nil)) rfl rfl rfl) rfl
      · cases q
    · cases q
  · exact more _ _ q
end
end Q

/-! Bx80: the errors of the package that are data: how they are made, asked, looked into. -/
namespace Wd
open PySem PySem.Spec PyProof.Rows L2 Q
def excA : Str → Option (List Str) := fun x => if x = "BadMenu" then some ["number"] else if x = "BadLog" then some ["place"] else if x = "BadText" then some ["line", "word"] else if x = "TooGreat" then some ["most"] else none
def xown : List Str := ["BadMenu", "BadLog", "BadText"]
def xasked : List Str := ["BadSorter", "BadWants", "BadLengths", "BadSystem", "BadNumber", "BadPaper", "BadMenu", "BadLog", "BadText", "PileError", "ValueError", "TooGreat"]
def isxA : Str → Str → Option Bool := fun n y => if xasked.contains y = true then (if xown.contains n = true then some (decide (y = n) || decide (y = "PileError") || decide (y = "ValueError")) else if n = "TooGreat" then some (decide (y = "TooGreat")) else none) else none
def xfields : List (Str × Str) := [("BadMenu", "number"), ("BadLog", "place"), ("BadText", "line"), ("BadText", "word"), ("TooGreat", "most")]
def fxA : Str → Str → Bool := fun n f => xfields.any fun p => decide (p.1 = n) && decide (p.2 = f)
def obA {S : Type} : Obk S := { exc := excA, isx := isxA, fx := fxA }
end Wd

set_option maxHeartbeats 0
/-! the head of k80 -/
namespace H80
open PySem PySem.Spec PyProof.Rows L2
def top (i : Nat) : Stmt := PySem.Challenge.pw_pilerules_k80_errors_of_the_third_part.main.body.getD i (.Pass ⟨0, 0, 0, 0⟩)
def dd (x : Str) (i : Nat) : He.DefD := ⟨(x, none), x, x, defArgs (top i), defBody (top i), defScope (top i), [], []⟩
def fn0 : List He.DefD := [dd "_law_mixed" 13, dd "_law_folded" 14, dd "_law_draw" 15, dd "_law_begun" 16, dd "_law_like" 17, dd "_law_classes" 18, dd "law" 19]
def fn : List He.DefD := fn0
def fa0 : List He.Fa := [.glo "_law_mixed", .glo "_law_folded", .glo "_law_draw", .glo "_law_begun", .glo "_law_like", .glo "_law_classes", .glo "law", .free "len", .free "int", .free "abs", .free "tuple", .free "list", .free "sum", .free "max", .free "min", .free "all", .free "any", .free "repr", .free "isinstance", .free "range", .free "enumerate", .free "zip", .free "bool", .free "str", .free "dict", .free "sorted", .free "set", .free "ValueError", .free "super", .glo "BadSorter"]
def fa1 : List He.Fa := [.glo "BadWants", .glo "BadLengths", .glo "BadSystem", .glo "BadNumber", .glo "BadPaper", .glo "BadMenu", .glo "BadLog", .glo "BadText", .glo "TooGreat", .glo "PileError", .noat "BadSorter" "path", .noat "BadWants" "path", .noat "BadLengths" "place", .noat "BadSystem" "place", .noat "BadNumber" "value", .noat "BadPaper" "word", .noat "BadMenu" "number", .noat "BadLog" "place", .noat "BadText" "line", .noat "BadText" "word", .noat "TooGreat" "most"]
def fa : List He.Fa := fa0 ++ fa1
def ini (x fl q : Str) (i : Nat) : Q.IniD := ⟨x, fl, q, defArgs (inClass (top i) 0), defBody (inClass (top i) 0), defScope (inClass (top i) 0)⟩
def inis : List Q.IniD := [ini "BadMenu" "number" "BadMenu.__init__" 8, ini "BadLog" "place" "BadLog.__init__" 9, ini "TooGreat" "most" "TooGreat.__init__" 11, ini "BadText" "line" "BadText.__init__" 10]
def tf : List He.Defn := []
def exNames : List (Str × Str) := [("BadMenu", "number"), ("BadLog", "place"), ("BadText", "line"), ("BadText", "word")]
def exNamesO : List (Str × Str) := [("TooGreat", "most")]
def clNames : List Str := ["BadSorter", "BadWants", "BadLengths", "BadSystem", "BadNumber", "BadPaper", "BadMenu", "BadLog", "BadText", "TooGreat"]
def file : Str := PySem.Challenge.pw_pilerules_k80_errors_of_the_third_part.main.file
def hsNames : List Str := []
def exB0 (K : PySem.W.Frag) : Bool := ((exNames.all fun p => Q.supB K file p.1 p.2) && ((clNames.all fun x => L2.xfB K (He.ga K x)) && clNames.all fun x => clNames.all fun y => decide (PySem.W.exmOne K (.ref (He.ga K x)) (.ref (He.ga K y)) = some (decide (x = y)))) && decide ((tf.map fun p => (He.cT K p).2).Nodup)) && (Q.sysB K && Q.heardB hsNames K)
def yv (K : PySem.W.Frag) (y : Str) : Value := if y = "ValueError" then .type "ValueError" else .ref (He.ga K y)
def exB (K : PySem.W.Frag) : Bool := exB0 K && ((exNamesO.all fun p => Q.supOB K file p.1 p.2) && ((Wd.xown ++ (["TooGreat"] : List Str)).all fun n => Q.excB K (He.ga K n) && Wd.xasked.all fun y => decide (PySem.W.kitOne K (.ref (He.ga K n)) (yv K y) = Wd.isxA n y)))
def names0 : List PySem.Str := ["_law_mixed", "_law_folded", "_law_draw", "_law_begun", "_law_like", "_law_classes", "PileError", "BadSorter", "BadWants", "BadLengths", "BadSystem", "BadNumber", "BadPaper", "BadMenu", "BadLog", "BadText", "TooGreat"]
def names : List PySem.Str := names0
abbrev R : PySem.W.OpenRow := PySem.W.OpenLaw.row PySem.Challenge.rw_pilerules_k80_errors_of_the_third_part
abbrev hk : PySem.W.Hook := Q.hookQ 5 fa fn inis tf exB
def ob (s : PySem.W.SharedT) : Q.AlQ := Q.obsQ 5 fa fn inis tf exB (HandSHeadRun.getT s)
theorem ob_eq (s : PySem.W.SharedT) : ob s = hk.obs s.abs := Q.obsQ_eq (HandSHeadRun.getT_eq s)
noncomputable abbrev bootX (w : World) (os : OsState) : Option PySem.W.SharedT := HandSHeadRun.endF (HandSHeadRun.stepQ (HandSHeadRun.denQ HandSHeadRun.tabQ) R.prog w) 6000 R.prog w os
theorem runA (w : World) (os : OsState) : (bootX w os).map (fun s => HandSHeadRun.looksF R.prog (PySem.W.boot_heap w.params) s.abs) = some true := by kernel_rfl
theorem runB (w : World) (os : OsState) : (bootX w os).map (fun s => HandSHeadRun.seenQ (PySem.W.view R.prog [19]) names (importedModules R.prog.main.body) (fun s => PySem.W.xlAt (PySem.W.view R.prog [19]) [] s && PySem.W.recOk R.toRowW.records s) s.abs) = some (PySem.W.openGood (PySem.W.view R.prog [19]) names) := by kernel_rfl
theorem runC (w : World) (os : OsState) : (bootX w os).map (fun s => (ob s).1) = some (hk.val w).1 := by kernel_rfl
theorem runD (w : World) (os : OsState) : (bootX w os).map (fun s => (ob s).2) = some (hk.val w).2 := by kernel_rfl
theorem joinR {A B C D1 E1 : Type _} {x : Option A} {f : A -> B} {g : A -> C} {p : A -> D1 × E1} {a : B} {b : C} {c : D1 × E1} (h1 : x.map f = some a) (h2 : x.map g = some b) (h3 : x.map (fun s => (p s).1) = some c.1) (h4 : x.map (fun s => (p s).2) = some c.2) : x.map (fun s => (f s, g s, p s)) = some (a, b, c) := by
  cases x with
  | none => cases h1
  | some s =>
    simp only [Option.map_some, Option.some.injEq] at h1 h2 h3 h4 ⊢
    rw [h1, h2, Prod.ext h3 h4]
theorem run (w : World) : HandSHeadRun.RunEq R (PySem.W.view R.prog [19]) hk ob 6000 names w := fun os => joinR (runA w os) (runB w os) (runC w os) (runD w os)
end H80

set_option maxHeartbeats 2000000
/-! Lay34: makers of lambdas among the defs; the law itself as one. -/
namespace Q
open PySem PySem.Spec PyProof.Rows L2 LamX
section
variable {S : Type} {P : Program} {w : World} {K : PySem.W.Frag} {mg : Str → Option Value} {base : Heap} {cls : Str → Option Addr}
/-- the def x tells what came, in a maker of the qualified name q and the code object at c -/
structure SaidM (P : Program) (w : World) (K : PySem.W.Frag) (mg : Str → Option Value) (base : Heap) (T : StK S) (cls : Str → Option Addr) (kk : Nat) (x q : Str) (cd : Value) (zs : List Cz) : Prop where
  go : ∀ {C : Cn S} {X : Cx}, C.K = K → C.T = T → C.cls = cls → X.prog = P → X.w = w → X.K = K → X.mg = mg → X.base = base → X.env.qual = q → X.env.code = cd → Room (kk + 2) X.A → SaidF C X x zs kk
end
/-- what the written part says of a clause's class -/
structure CzM (K : PySem.W.Frag) (mg : Str → Option Value) (sg : Scope) (z : Cz) : Prop where
  gl : sg.names.lookup z.x = some .globalImplicit
  db : (z.x == ("__debug__" : Str)) = false
  mg : mg z.x = some (.ref z.c)
  xf : XfC K z.c
  no : ∀ f ∈ z.fls, PySem.W.findIn K (.ref z.c) f = some none
/-! ### the law -/
def spLawT (K : PySem.W.Frag) (L : List (Addr × Str)) : Sp := fun vs H Q _ => ∃ (a : Addr) (ns : List Int), vs = [.ref a] ∧ Frz K H a (ns.map V.int) ∧ ns.length ≤ 63 ∧ (∀ p ∈ L, H p.1 = some (.tbl #[])) ∧ ∀ H', Q (.bl true) H'
theorem law_okT {P : Program} {w : World} {K : PySem.W.Frag} {mg : Str → Option Value} {base : Heap} {cls : Str → Option Addr} {L : List (Addr × Str)} {k m : Nat} {f : Addr} {fd : FuncData} {x qual : Str} {params : Arguments} {body rest : List Stmt} {sco : Scope} {dvs : List V} {kws : List (Str × V)} {N' : List Str}
    (F : FunD K x qual params body sco dvs kws f fd) (hS : FnScope ("_law_script" :: "_law_m" :: N') ["_law_script"] sco)
    (hb : ∃ p1 p2 p3 p4 p5 : Pos, body = .Assign [.Name "_law_m" p1] (.Call (.Name "_law_begun" p2) [.Name "_law_script" p3] [] p4) p5 :: rest)
    (hl : locB sco "_law_m" = true) (ho : okN ("_law_script" :: "_law_m" :: N') sco "_law_script" = some 0) (hgl : glB sco "_law_begun" = true)
    {fb : Addr} {fdb : FuncData} (B : FnG P w K mg base (L2.CX P w) k fb fdb ["_law_script"] (spBegun K)) (hm : mg "_law_begun" = some (.ref fb)) (hk : PySem.W.keepIn K (.ref fb) = true) (hbi : Binds K fdb ["_law_script"] [])
    (Ks : Ad → Dk Dw) (hK : ∀ ad : Ad, (Ks ad).N = (("_law_script" : Str) :: ("_law_m" : Str) :: N') ∧ (Ks ad).sc = sco ∧ (∀ {C : Cn Dw} {X : Cx}, C.K = K → C.T = TDT ad L → C.cls = cls → X.prog = P → X.w = w → X.K = K → X.mg = mg → X.base = base → X.env.qual = (envOfC qual sco 0 f fd.code).qual → X.env.code = fd.code → Room k X.A → GkOk C X (Ks ad).G) ∧
      ∀ {C : Cn Dw} {W : L2.WX} {X : Cx}, C.K = K → C.T = TDT ad L → C.cls = cls → Xd C W X ("_law_script" :: "_law_m" :: N') sco → GkOk C X (Ks ad).G → StOk C W X (Ks ad))
    (run : ∀ (ad : Ad) (ns : List Int) (s : Dw), ad.c ≠ ad.g → ns.length ≤ 63 → s.cells.length = 64 → s.spot = 0 → ∃ (b : Bool) (s' : Dw), exs (Ks ad) m rest (rho0 ("_law_script" :: "_law_m" :: N') [.scr (iD ns), .opq (.ref ad.m)]) s = .ret b (.bl true) s') :
    FnG P w K mg base (L2.CX P w) (k + 1) f fd ["_law_script"] (spLawT K L) := by
  obtain ⟨p1, p2, p3, p4, p5, hb⟩ := hb
  obtain ⟨oc, od, dV, kV, doc, pm, an, cdv, ct, osl, rfl, lk, hcd, _, _⟩ := F.ex
  refine fnG_of lk hcd hS (fun vs H Q E h => by obtain ⟨a, ns, rfl, _⟩ := h; rfl) fun A outer s H vs Q E room gd wish => ?_
  let N : List Str := "_law_script" :: "_law_m" :: N'
  let X := cxOf (L2.CX P w) P w K mg base N qual sco f cdv A outer s H E
  let W : L2.WX := fun cl d _ H => E cl d H
  have xd : ∀ {S : Type} (C : Cn S), C.K = K → Xd C W X N sco := fun C hC => by
    have xk : Xk C W X N sco := ⟨hC, rfl, hS.nd, rfl, rfl, by have := room.un; show (A.deeper _).units + 200 < _; omega, gd, takes_of rfl rfl rfl rfl⟩
    have xs : Xs C X N sco := ⟨hC, rfl, hS.nd, rfl, fun y hy => ⟨locB_ok hy, .inl rfl⟩⟩
    exact { xk with s := xs, own := passes_of rfl, stk := rfl, frm := rfl }
  have x0 := xd (⟨K, TU, H, (), fun _ => False, cls⟩ : Cn Unit) rfl
  obtain ⟨hL, hF⟩ := x0.s.loc _ hl
  obtain ⟨g1, g2, g3⟩ := gl_of x0.toXk hgl
  have pr : PSs X rest (fun D σ H => ∃ (ad : Ad) (C : Cn Dw), C.K = K ∧ C.T = TDT ad L ∧ C.cls = cls ∧ tS C W (exs (Ks ad) m rest) D σ H) := ⟨fun pins s σ H D I ⟨ad, C, h1, h2, h3, q⟩ => by
    obtain ⟨a1, a2, a3, a4⟩ := hK ad
    have gk : GkOk C X (Ks ad).G := a3 h1 h2 h3 rfl rfl rfl rfl rfl rfl rfl room
    have so := a4 h1 h2 h3 (xd C h1) gk
    have xd' := xd C h1
    rw [show N = (Ks ad).N from a1.symm, ← a2] at xd'
    exact ((ex_ok xd' gk so m).2 rest).run pins s σ H D I q⟩
  rw [hb]
  refine ⟨_, pss_cons (ps_set (i := 1) hS.nd rfl hL (pe_callG (W := W) B room gd (takes_of rfl rfl rfl rfl) g1 g2 hm hk hbi (pa_cons (pe_okN x0.toXk ho) pa_nil) rfl) rfl hF) pr, ?_⟩
  obtain ⟨a, ns, rfl, hz, hn, htb, hQ⟩ := wish
  refine ⟨_, rfl, a, ns, rfl, hz, hn, fun ad st H' R h64 h0 keep n1 n2 n3 => ?_⟩
  have RT : (TDT ad L).R st H' := by
    refine ⟨R, fun p hp => TabS.nil (keep _ _ (htb p hp)), fun p hp => ⟨fun z => ?_, fun z => ?_, fun z => ?_⟩⟩
    · rw [← z, htb p hp] at n1; cases n1
    · rw [← z, htb p hp] at n2; cases n2
    · rw [← z, htb p hp] at n3; cases n3
  refine ⟨ad, ⟨K, TDT ad L, H', st, fun _ => False, cls⟩, rfl, rfl, rfl, ⟨fun _ => 0, fun _ => False, rho0 N [.scr (iD ns), .opq (.ref ad.m)]⟩, st, ?_, ?_⟩
  · exact rel_start (N := N) (vs := [.ref a, .ref ad.m]) (ds := [.scr (iD ns), .opq (.ref ad.m)]) (.cons (.scr (hz.imp (fun ⟨o, e⟩ => ⟨o, keep _ _ e⟩) id) (rp_ints ns)) (.cons (.opq _) .nil)) RT (fun _ z => z.elim)
  · obtain ⟨b, s', e⟩ := run ad ns st R.2.2.2 hn h64 h0
    show RunS _ _ _ _ _ (exs (Ks ad) m rest (rho0 N [.scr (iD ns), .opq (.ref ad.m)]) st) _
    rw [e]
    intro v H2 _ _ fp
    have := rp_bl fp.1
    subst this
    exact hQ H2
/-! ### promises -/
theorem CalM.liftT {P : Program} {w : World} {K : PySem.W.Frag} {mg : Str → Option Value} {base : Heap} {cls : Str → Option Addr} {k : Nat} {x : Str} {ad : Ad} {L : List (Addr × Str)} {f : Fn Dw} (c : CalM P w K mg base (TD ad) cls k x f) : CalM P w K mg base (TDT ad L) cls k x f :=
  let ⟨a, fd, ps, F, r⟩ := c; ⟨a, fd, ps, F.imp fun _ _ _ _ h => sp_liftT h, r⟩
end Q

/-! Lay35: how words of exceptions run. -/
namespace Wd
/-- what the defs that hear calls tell of errors -/
abbrev tbSaid : List (PySem.Str × PySem.Str × List PySem.Str) := [("BadSorter", "sorter", ["path"]), ("BadWants", "wants", ["path"]), ("BadLengths", "lengths", ["place"]), ("BadNumber", "number", ["value"]), ("BadMenu", "menu", ["number"]),
  ("BadLog", "log", ["place"]), ("BadPaper", "paper", ["word"]), ("BadText", "text", ["line", "word"]), ("TooGreat", "great", ["most"])]
end Wd
namespace Q
open PySem PySem.Spec PyProof.Rows L2
section
variable {S : Type}
/-- what comes of a call's end -/
abbrev saidR (tb : List (Str × Str × List Str)) : Res S D → Res S D := saidO tb
@[simp] theorem saidE_ap (tb : List (Str × Str × List Str)) (f : EvF S) (ρ : List Sl) (s : S) : saidE tb f ρ s = saidR tb (f ρ s) := rfl
@[simp] theorem empE_ap (ρ : List Sl) (s : S) : (empE : EvF S) ρ s = .ok .emp s := rfl
@[simp] theorem saidR_ok (tb : List (Str × Str × List Str)) (d : D) (s : S) : saidR tb (.ok d s) = .ok (.lst [d]) s := rfl
@[simp] theorem said_sorter (d : D) (s : S) : saidR Wd.tbSaid (.err ⟨"BadSorter", [("path", d)]⟩ s) = .ok (.tup [.str "sorter", d]) s := rfl
@[simp] theorem said_wants (d : D) (s : S) : saidR Wd.tbSaid (.err ⟨"BadWants", [("path", d)]⟩ s) = .ok (.tup [.str "wants", d]) s := rfl
@[simp] theorem said_lengths (d : D) (s : S) : saidR Wd.tbSaid (.err ⟨"BadLengths", [("place", d)]⟩ s) = .ok (.tup [.str "lengths", d]) s := rfl
@[simp] theorem said_number (d : D) (s : S) : saidR Wd.tbSaid (.err ⟨"BadNumber", [("value", d)]⟩ s) = .ok (.tup [.str "number", d]) s := rfl
@[simp] theorem said_menu (d : D) (s : S) : saidR Wd.tbSaid (.err ⟨"BadMenu", [("number", d)]⟩ s) = .ok (.tup [.str "menu", d]) s := rfl
@[simp] theorem said_log (d : D) (s : S) : saidR Wd.tbSaid (.err ⟨"BadLog", [("place", d)]⟩ s) = .ok (.tup [.str "log", d]) s := rfl
@[simp] theorem said_paper (d : D) (s : S) : saidR Wd.tbSaid (.err ⟨"BadPaper", [("word", d)]⟩ s) = .ok (.tup [.str "paper", d]) s := rfl
@[simp] theorem raiseS_ap (x fl : Str) (f : EvF S) (ρ : List Sl) (s : S) : raiseS x fl f ρ s = thenS ρ (f ρ s) fun d s1 => .err ⟨x, [(fl, d)]⟩ ρ s1 := rfl
def tryK (x : Str) (g : EvF S) : Out S → Out S
  | .err y ρ' s' => if y.cls = x then retV false g ρ' s' else .stuck
  | .new _ _ => .stuck
  | o => o
@[simp] theorem tryRetS_ap (x : Str) (g : EvF S) (f : ExF S) (ρ : List Sl) (s : S) : tryRetS x g f ρ s = tryK x g (f ρ s) := by
  unfold tryRetS tryK
  cases f ρ s <;> rfl
@[simp] theorem tryK_nxt (x : Str) (g : EvF S) (ρ : List Sl) (s : S) : tryK x g (.nxt ρ s) = .nxt ρ s := rfl
@[simp] theorem tryK_ret (x : Str) (g : EvF S) (b : Bool) (d : D) (s : S) : tryK x g (.ret b d s) = .ret b d s := rfl
@[simp] theorem tryK_err (x : Str) (g : EvF S) (y : Exn) (ρ : List Sl) (s : S) : tryK x g (.err y ρ s) = if y.cls = x then retV false g ρ s else .stuck := rfl
@[simp] theorem endR_err (fr : Bool) (x : Exn) (ρ : List Sl) (s : S) : endR fr (.err x ρ s) = .err x s := rfl
end
end Q

set_option maxHeartbeats 2000000
/-! Lay36: small things for the end of laws with lambdas. -/
namespace Q
open PySem PySem.Spec PyProof.Rows L2 LamX
theorem free_by {l : List (Str × NameKind)} (h : (l.all fun p => !decide (p.2 = .free) || decide (p.1 = ("__class__" : Str))) = true) : ∀ y, l.lookup y = some .free → y = "__class__" := fun y hy => by
  have z := List.all_eq_true.mp h _ (PySem.mem_of_lookup hy)
  simpa using z
def clsQ (l : List Str) (K : PySem.W.Frag) : Str → Option Addr := fun x => if l.contains x = true then some (He.ga K x) else none
/-- the makers' tables and the names in them -/
def tabL (tf : List He.Defn) (K : PySem.W.Frag) : List (Addr × Str) := tf.map fun p => ((He.cT K p).2, (p.1 ++ ".<locals>.") ++ "<lambda>")
end Q
namespace Q
open PySem PySem.Spec PyProof.Rows L2
/-- super().__init__('..') on one line -/
theorem hcallQ {p0 p1 p2 p3 p4 : Pos} (txt : Str) (kk : Nat) (hl : (p2.endLine == p4.line) = true) (env : Env) : eval (.Call (.Attribute (.Call (.Name "super" p0) [] [] p1) "__init__" p2) [.Constant (.str txt) kk p3] [] p4) env = (do
      let ov ← attributeBase (.Call (.Name "super" p0) [] [] p1) "__init__" env (eval (.Call (.Name "super" p0) [] [] p1) env)
      standAt p2.atName
      let (f, first) ← holding [ov] (getMethod ov "__init__" (plainOf (.Call (.Name "super" p0) [] [] p1) env))
      callWith p4 f first (backTo p4 (starEach [.Constant (.str txt) kk p3] env)) []) := by
  rw [arm_eval_Call]
  have e : ∀ ov, methodCall (.Call (.Name "super" p0) [] [] p1) "__init__" p2 p4 env ov ([Expr.Constant (.str txt) kk p3].length + ([] : List Keyword).length) (backTo p4 (starEach [.Constant (.str txt) kk p3] env)) (backToKw p4 (keywordEach [] env)) = _ := fun ov => mcall_line rfl hl
  simp only [e]
  rfl
end Q

set_option maxHeartbeats 2000000
/-! Lay37: a def that keeps what it caught and asks it behind (_law_heard). -/
namespace Q
open PySem PySem.Spec PyProof.Rows L2 LamX
section
variable {S : Type}
/-- isinstance of a kept exception in the slot i; its field -/
def cisE (a : Addr) (is : Addr → Option Bool) (i : Nat) (g : EvF S) : EvF S := fun ρ s => match ρ[i]? with
  | some (.val (.opq (.ref b))) => if b = a then (g ρ s).bind fun d s1 => (match d with
    | .opq (.ref c) => ofO ((is c).map D.bl) s1
    | _ => .stuck) else .stuck
  | _ => .stuck
def cfdE (a : Addr) (fd : Str → Option V) (i : Nat) (f : Str) : EvF S := fun ρ s => match ρ[i]? with
  | some (.val (.opq (.ref b))) => if b = a then ofO ((fd f).map D.opq) s else .stuck
  | _ => .stuck
end
section
variable {C : Cn Unit} {W : L2.WX} {X : Cx} {a D dd : Addr} {fs : List (Str × V)}
end
/-! ### the words behind its try -/
abbrev hN : List Str := ["_law_call", "_law_found", "_law_caught", "_law_heard_here", "error"]
/-- the classes that _law_heard knows -/
def zsH (K : PySem.W.Frag) : List Cz := [⟨"TooGreat", He.ga K "TooGreat", "great", ["most"]⟩, ⟨"BadSorter", He.ga K "BadSorter", "sorter", ["path"]⟩, ⟨"BadWants", He.ga K "BadWants", "wants", ["path"]⟩, ⟨"BadLengths", He.ga K "BadLengths", "lengths", ["place"]⟩, ⟨"BadSystem", He.ga K "BadSystem", "system", ["place"]⟩,
  ⟨"BadNumber", He.ga K "BadNumber", "number", ["value"]⟩, ⟨"BadPaper", He.ga K "BadPaper", "paper", ["word"]⟩]
@[simp] theorem cisE_ap {a : Addr} {is : Addr → Option Bool} {c : Addr} {s0 s1 s3 s4 : Sl} {s : Unit} : cisE a is 2 (kD (.opq (.ref c))) [s0, s1, .val (.opq (.ref a)), s3, s4] s = ofO ((is c).map D.bl) s := by
  simp [cisE, kD, Res.bind]
@[simp] theorem cfdE_ap {a : Addr} {fd : Str → Option V} {f : Str} {s0 s1 s3 s4 : Sl} {s : Unit} : cfdE a fd 2 f [s0, s1, .val (.opq (.ref a)), s3, s4] s = ofO ((fd f).map D.opq) s := by
  simp [cfdE]
end Q

set_option maxHeartbeats 2000000
/-! Lay38: what _law_heard makes of a call. -/
namespace Q
open PySem PySem.Spec PyProof.Rows L2 LamX
/-- what the head must say of the classes that _law_heard knows -/
structure HeardK (K : PySem.W.Frag) : Prop where
  exc : ∀ z ∈ zsH K, ExcC K z.c
  xf : ∀ z ∈ zsH K, XfC K z.c
  no : ∀ z ∈ zsH K, ∀ f ∈ z.fls, PySem.W.findIn K (.ref z.c) f = some none
  kit : ∀ z ∈ zsH K, ∀ y ∈ zsH K, PySem.W.kitOne K (.ref z.c) (.ref y.c) = some (decide (z.x = y.x))
  any : ∀ z ∈ zsH K, PySem.W.exmAny K (.ref z.c) [.ref (He.ga K "PileError"), .ref (He.ga K "TooGreat")] = some true
/-- the names of such a def -/
structure HdScope (sg : Scope) : Prop where
  nd : hN.Nodup
  loc : ∀ x ∈ hN, sg.names.lookup x = some .local
  e1 : sg.names.lookup ("PileError" : Str) = some .globalImplicit
  e2 : sg.names.lookup ("TooGreat" : Str) = some .globalImplicit
theorem sysOk_of {K : PySem.W.Frag} (h : sysB K = true) : SysOk K := by
  unfold sysB at h
  split at h
  · rename_i o e
    exact ⟨o, e, fun z => by rw [z] at h; simp at h⟩
  · cases h
end Q
namespace Wd
/-- what the defs that keep what they caught tell of errors -/
abbrev tbHeard : List (PySem.Str × PySem.Str × List PySem.Str) := [("TooGreat", "great", ["most"]), ("BadSorter", "sorter", ["path"]), ("BadWants", "wants", ["path"]), ("BadLengths", "lengths", ["place"]), ("BadSystem", "system", ["place"]), ("BadNumber", "number", ["value"]), ("BadPaper", "paper", ["word"])]
end Wd
namespace Q
open PySem PySem.Spec PyProof.Rows L2
section
variable {S : Type}
@[simp] theorem heard_sorter (d : D) (s : S) : saidR Wd.tbHeard (.err ⟨"BadSorter", [("path", d)]⟩ s) = .ok (.tup [.str "sorter", d]) s := rfl
@[simp] theorem heard_wants (d : D) (s : S) : saidR Wd.tbHeard (.err ⟨"BadWants", [("path", d)]⟩ s) = .ok (.tup [.str "wants", d]) s := rfl
@[simp] theorem heard_lengths (d : D) (s : S) : saidR Wd.tbHeard (.err ⟨"BadLengths", [("place", d)]⟩ s) = .ok (.tup [.str "lengths", d]) s := rfl
@[simp] theorem heard_system (d : D) (s : S) : saidR Wd.tbHeard (.err ⟨"BadSystem", [("place", d)]⟩ s) = .ok (.tup [.str "system", d]) s := rfl
@[simp] theorem heard_number (d : D) (s : S) : saidR Wd.tbHeard (.err ⟨"BadNumber", [("value", d)]⟩ s) = .ok (.tup [.str "number", d]) s := rfl
@[simp] theorem heard_paper (d : D) (s : S) : saidR Wd.tbHeard (.err ⟨"BadPaper", [("word", d)]⟩ s) = .ok (.tup [.str "paper", d]) s := rfl
end
end Q

/-! words of defs -/
namespace Wd
open PySem PySem.Spec PyProof.Rows L2 Q
def c_law_mixed {S : Type} : ExF S := (seqS (asgS (bin dAdd (bin dAdd (bin dMod (biF bInt (consA (bin dMul (bin dMul (vK 0) (bin dAdd (kD (.int 1)) (bin dMul (kD (.int 2)) (vK 1)))) (kD (.int 48271))) nilA)) (kD (.int 2147483647))) (bin dMul (bin dMul (kD (.int 7919)) (vK 1)) (vK 1))) (bin dMul (kD (.int 104729)) (vK 1))) (tN 2)) (seqS (retV true (bin dDiv (bin dMod (biF bInt (consA (bin dMul (vK 2) (kD (.int 69621))) nilA)) (kD (.int 2147483629))) (kD (.int 7)))) nextS))
def n_law_mixed : List Str := ["_law_cell", "_law_n", "_law_blend"]
def c_law_folded {S : Type} : ExF S := (seqS (ownS 1 (lcE (iRange1 (kD (.int 64))) (tN 2) yesT (bin dAdd (kD (.int 17)) (vK 2)) [2])) (seqS (lockS [0] (forS (iEnum (vS 0)) (gTupD 2 (gsC (tN 2) (gsC (tN 3) gsN))) (seqS (setItemS 1 (bin dMod (biF bInt (consA (bin dAdd (bin dMul (bin dIx (vK 1) (bin dMod (biF bInt (consA (vK 2) nilA)) (kD (.int 64)))) (kD (.int 48271))) (vK 3)) nilA)) (kD (.int 2147483647))) (bin dMod (biF bInt (consA (vK 2) nilA)) (kD (.int 64)))) nextS))) (seqS (forS (iRange2 (kD (.int 1)) (kD (.int 64))) (tN 2) (seqS (setItemS 1 (bin dMod (biF bInt (consA (bin dAdd (bin dIx (vK 1) (vK 2)) (bin dMul (bin dIx (vK 1) (bin dSub (vK 2) (kD (.int 1)))) (kD (.int 16807)))) nilA)) (kD (.int 2147483647))) (vK 2)) nextS)) (seqS (rN 1) nextS))))
def n_law_folded : List Str := ["_law_script", "_law_found", "_law_n", "_law_cell"]
def c_law_draw (a : Ad) (F_law_mixed : List D → Dw → Res Dw D) : ExF Dw := (seqS (asgS (mgetE a 0 "spot") (tN 2)) (seqS (mputS a 0 (bin dAdd (vK 2) (kD (.int 1)))) (seqS (ifS (greatT a 0) (seqS (asgS (mgetE a 0 "great") (tN 3)) (seqS (asgS (bin dMod (biF bInt (consA (vK 2) nilA)) (lenE a 3)) (tN 4)) (seqS (asgS (lixE a 3 (vK 4)) (tN 5)) (seqS (ifS (testB (bin dGt (vK 5) (kD (.int 0)))) (seqS (lputS a 3 (bin dDiv (vK 5) (vK 1)) (vK 4)) (seqS (retV true (bin dMod (biF bInt (consA (vK 5) nilA)) (vK 1))) nextS)) nextS) nextS)))) nextS) (seqS (asgS (mgetE a 0 "cells") (tN 3)) (seqS (relS' [2] (retV true (bin dMod (biF bInt (consA (callF (⟨2, false, F_law_mixed⟩ : Fn Dw) (consA (callF (⟨2, false, F_law_mixed⟩ : Fn Dw) (consA (bin dAdd (lixE a 3 (bin dMod (biF bInt (consA (vK 2) nilA)) (kD (.int 64)))) (bin dMul (kD (.int 31)) (bin dDiv (vK 2) (kD (.int 64))))) (consA (vC 2) nilA))) (consA (bin dAdd (vK 2) (kD (.int 7))) nilA))) nilA)) (vK 1)))) nextS)))))
def n_law_draw : List Str := ["_law_m", "_law_limit", "_law_n", "_law_lot", "_law_here", "_law_cell"]
def c_law_like {S : Type} : ExF S := (seqS (retV true (bin dEq (biF bRepr (consA (vK 0) nilA)) (biF bRepr (consA (vK 1) nilA)))) nextS)
def n_law_like : List Str := ["_law_answer", "_law_due"]
def c_law_classes {S : Type} : ExF S := (seqS (asgS (lstE (consA (tupE (consA (kD (.str "sorter")) (consA (isxE (fun n => isxA n "BadSorter") (vC 0)) nilA))) (consA (tupE (consA (kD (.str "wants")) (consA (isxE (fun n => isxA n "BadWants") (vC 0)) nilA))) nilA))) (tN 1)) (seqS (asgS (bin dAdd (vK 1) (lstE (consA (tupE (consA (kD (.str "lengths")) (consA (isxE (fun n => isxA n "BadLengths") (vC 0)) nilA))) nilA))) (tN 1)) (seqS (asgS (bin dAdd (vK 1) (lstE (consA (tupE (consA (kD (.str "system")) (consA (isxE (fun n => isxA n "BadSystem") (vC 0)) nilA))) nilA))) (tN 1)) (seqS (asgS (bin dAdd (vK 1) (lstE (consA (tupE (consA (kD (.str "number")) (consA (isxE (fun n => isxA n "BadNumber") (vC 0)) nilA))) (consA (tupE (consA (kD (.str "paper")) (consA (isxE (fun n => isxA n "BadPaper") (vC 0)) nilA))) nilA)))) (tN 1)) (seqS (asgS (bin dAdd (vK 1) (lstE (consA (tupE (consA (kD (.str "menu")) (consA (isxE (fun n => isxA n "BadMenu") (vC 0)) nilA))) (consA (tupE (consA (kD (.str "log")) (consA (isxE (fun n => isxA n "BadLog") (vC 0)) nilA))) nilA)))) (tN 1)) (seqS (asgS (bin dAdd (vK 1) (lstE (consA (tupE (consA (kD (.str "text")) (consA (isxE (fun n => isxA n "BadText") (vC 0)) nilA))) (consA (tupE (consA (kD (.str "own")) (consA (isxE (fun n => isxA n "PileError") (vC 0)) nilA))) nilA)))) (tN 1)) (seqS (asgS (bin dAdd (vK 1) (lstE (consA (tupE (consA (kD (.str "sort")) (consA (isxE (fun n => isxA n "ValueError") (vC 0)) nilA))) (consA (tupE (consA (kD (.str "great")) (consA (isxE (fun n => isxA n "TooGreat") (vC 0)) nilA))) nilA)))) (tN 1)) (seqS (relS' [2] (retV true (lcE (iSeq (vK 1)) (gTupD 2 (gsC (tN 2) (gsC (tN 3) gsN))) (truth (vK 3)) (vC 2) [2, 3]))) nextS))))))))
def n_law_classes : List Str := ["_law_error", "_law_rows", "_law_label", "_law_is_so"]
abbrev FF (S : Type) := List D → S → Res S D
def F_law_mixed {S : Type} : FF S := fun ds s => endR false (c_law_mixed (rho0 n_law_mixed ds) s)
def F_law_folded {S : Type} : FF S := fun ds s => endR true (c_law_folded (rho0 n_law_folded ds) s)
def F_law_draw (a : Ad) : FF Dw := fun ds s => endR false (c_law_draw a F_law_mixed (rho0 n_law_draw ds) s)
def F_law_like {S : Type} : FF S := fun ds s => endR false (c_law_like (rho0 n_law_like ds) s)
def F_law_classes {S : Type} : FF S := fun ds s => endR false (c_law_classes (rho0 n_law_classes ds) s)
end Wd

set_option maxHeartbeats 0
/-! what the reader gives: k80 -/
namespace D80
open PySem PySem.Spec PyProof.Rows L2 Q Wd
abbrev top := H80.top
def glo : Str → Option D := fun x => none
def g_law_mixed {S : Type} : Gk S := { glo := glo, cal := fun x => none, sp := moreSp }
def k_law_mixed {S : Type} : Dk S := { G := g_law_mixed (S := S), N := n_law_mixed, sc := defScope (top 13), ow := [], wf := 0, st := moreSt2 (g_law_mixed (S := S)) n_law_mixed (defScope (top 13)) [] }
theorem e_law_mixed {S : Type} : exs (k_law_mixed (S := S)) 60 (defBody (top 13)) = c_law_mixed (S := S) := by kernel_rfl
def g_law_folded {S : Type} : Gk S := { glo := glo, cal := fun x => none, sp := moreSp }
def k_law_folded {S : Type} : Dk S := { G := g_law_folded (S := S), N := n_law_folded, sc := defScope (top 14), ow := ["_law_found"], wf := 0, st := moreSt2 (g_law_folded (S := S)) n_law_folded (defScope (top 14)) ["_law_found"] }
theorem e_law_folded {S : Type} : exs (k_law_folded (S := S)) 60 (defBody (top 14)) = c_law_folded (S := S) := by kernel_rfl
def g_law_draw (a : Ad) (F_law_mixed : FF Dw) : Gk Dw := { glo := glo, cal := fun x => if x = "_law_mixed" then some ⟨2, false, F_law_mixed⟩ else none, sp := drawSp a }
def k_law_draw (a : Ad) (F_law_mixed : FF Dw) : Dk Dw := { G := g_law_draw a F_law_mixed, N := n_law_draw, sc := defScope (top 15), ow := [], wf := 0, st := drawSt a (g_law_draw a F_law_mixed) n_law_draw (defScope (top 15)) }
theorem e_law_draw (a : Ad) (F_law_mixed : FF Dw) : exs (k_law_draw a F_law_mixed) 60 (defBody (top 15)) = c_law_draw a F_law_mixed := by kernel_rfl
def g_law_like {S : Type} : Gk S := { glo := glo, cal := fun x => none, sp := moreSp }
def k_law_like {S : Type} : Dk S := { G := g_law_like (S := S), N := n_law_like, sc := defScope (top 17), ow := [], wf := 0, st := moreSt2 (g_law_like (S := S)) n_law_like (defScope (top 17)) [] }
theorem e_law_like {S : Type} : exs (k_law_like (S := S)) 60 (defBody (top 17)) = c_law_like (S := S) := by kernel_rfl
def g_law_classes {S : Type} : Gk S := { glo := glo, cal := fun x => none, sp := excSp "BadMenu" obA, obj := obA }
def k_law_classes {S : Type} : Dk S := { G := g_law_classes (S := S), N := n_law_classes, sc := defScope (top 18), ow := [], wf := 0, st := moreSt2 (g_law_classes (S := S)) n_law_classes (defScope (top 18)) [] }
theorem e_law_classes {S : Type} : exs (k_law_classes (S := S)) 60 (defBody (top 18)) = c_law_classes (S := S) := by kernel_rfl
def claw (F_law_draw : FF Dw) (F_law_like : FF Dw) (F_law_classes : FF Dw) : ExF Dw := (seqS (forS (iRange1 (bin dAdd (kD (.int 3)) (biF bMin (consA (kD (.int 6)) (consA (biF bLen (consA (vK 0) nilA)) nilA))))) (tN 2) (seqS (relS' [1] (ownS 3 (lstE (consA (kD .non) (consA (kD (.int 0)) (consA (kD (.bl true)) (consA (callF (⟨2, false, F_law_draw⟩ : Fn Dw) (consA (vC 1) (consA (bin dPow (kD (.int 10)) (kD (.int 6))) nilA))) (consA (kD (.str "")) (consA (kD (.str "pile")) (consA (tupE nilA) (consA (tupE (consA (kD (.int 1)) (consA (kD (.str "a")) nilA))) (consA (lstE (consA (kD (.int 1)) (consA (lstE (consA (kD (.int 2)) nilA)) nilA))) (consA empE nilA))))))))))))) (seqS (appS 3 (dic1E (kD (.str "a")) (kD (.int 1)))) (seqS (relS' [1] (parS [(4, false), (5, false)] (consA (bin dIx (vK 3) (callF (⟨2, false, F_law_draw⟩ : Fn Dw) (consA (vC 1) (consA (kD (.int 11)) nilA)))) (consA (bin dIx (vK 3) (callF (⟨2, false, F_law_draw⟩ : Fn Dw) (consA (vC 1) (consA (kD (.int 11)) nilA)))) nilA)))) (seqS (asgS (lstE (consA (mkxE "BadMenu" ["number"] true (consA (vC 4) nilA)) (consA (mkxE "BadLog" ["place"] true (consA (vC 4) nilA)) (consA (mkxE "BadText" ["line", "word"] true (consA (vC 4) (consA (vC 5) nilA))) nilA)))) (tN 6)) (seqS (asgS (lstE (consA (mkxE "BadMenu" ["number"] false (consA (vC 4) nilA)) (consA (mkxE "BadLog" ["place"] false (consA (vC 4) nilA)) (consA (mkxE "BadText" ["line", "word"] false (consA (vC 5) (consA (vC 4) nilA))) nilA)))) (tN 7)) (seqS (relS' [6, 7] (forS (iSeq (tupE (consA (vC 6) (consA (vC 7) nilA)))) (tN 8) (seqS (forS (iRange1 (kD (.int 3))) (tN 9) (seqS (ifS (testB (bin dNe (callF (⟨1, false, F_law_classes⟩ : Fn Dw) (consA (bin dIx (vK 8) (vK 9)) nilA)) (lstE (consA (bin dIx (lstE (consA (kD (.str "menu")) (consA (kD (.str "log")) (consA (kD (.str "text")) nilA)))) (vK 9)) (consA (kD (.str "own")) (consA (kD (.str "sort")) nilA)))))) (seqS (retV true (kD (.bl false))) nextS) nextS) nextS)) (seqS (asgS (lstE (consA (fldxE fxA "number" (bin dIx (vK 8) (kD (.int 0)))) (consA (fldxE fxA "place" (bin dIx (vK 8) (kD (.int 1)))) (consA (fldxE fxA "line" (bin dIx (vK 8) (kD (.int 2)))) (consA (fldxE fxA "word" (bin dIx (vK 8) (kD (.int 2)))) nilA))))) (tN 10)) (seqS (relS' [10, 4, 5] (ifS (notT (truth (callF (⟨2, false, F_law_like⟩ : Fn Dw) (consA (vC 10) (consA (bin dAdd (bin dMul (lstE (consA (vC 4) nilA)) (kD (.int 3))) (lstE (consA (vC 5) nilA))) nilA))))) (seqS (retV true (kD (.bl false))) nextS) nextS)) nextS))))) (seqS (relS' [4] (ifS (orT (testB (bin dNe (callF (⟨1, false, F_law_classes⟩ : Fn Dw) (consA (mkxE "TooGreat" ["most"] true (consA (vC 4) nilA)) nilA)) (lstE (consA (kD (.str "great")) nilA)))) (notT (truth (callF (⟨2, false, F_law_like⟩ : Fn Dw) (consA (fldxE fxA "most" (mkxE "TooGreat" ["most"] true (consA (vC 4) nilA))) (consA (vC 4) nilA)))))) (seqS (retV true (kD (.bl false))) nextS) nextS)) nextS)))))))) (seqS (retV true (kD (.bl true))) nextS))
def nlaw : List Str := ["_law_script", "_law_m", "_law_turn", "_law_things", "_law_q", "_law_z", "_law_by_place", "_law_by_names", "_law_some", "_law_k", "_law_told_so"]
def glaw (F_law_draw : FF Dw) (F_law_like : FF Dw) (F_law_classes : FF Dw) : Gk Dw := { glo := glo, cal := fun x => if x = "_law_draw" then some ⟨2, false, F_law_draw⟩ else if x = "_law_like" then some ⟨2, false, F_law_like⟩ else if x = "_law_classes" then some ⟨1, false, F_law_classes⟩ else none, sp := excSp "BadMenu" obA, obj := obA }
def klaw (F_law_draw : FF Dw) (F_law_like : FF Dw) (F_law_classes : FF Dw) : Dk Dw := { G := glaw F_law_draw F_law_like F_law_classes, N := nlaw, sc := defScope (top 19), ow := ["_law_things"], wf := 0, st := moreSt2 (glaw F_law_draw F_law_like F_law_classes) nlaw (defScope (top 19)) ["_law_things"] }
theorem elaw (F_law_draw : FF Dw) (F_law_like : FF Dw) (F_law_classes : FF Dw) : exs (klaw F_law_draw F_law_like F_law_classes) 60 ((defBody (top 19)).drop 1) = claw F_law_draw F_law_like F_law_classes := by kernel_rfl
end D80

set_option maxHeartbeats 0
/-! S1: sorters, wants, rows, piles as data; the program lets them by. -/
namespace Wd
open PySem PySem.Spec PyProof.Rows L2 Q
theorem sz {n : Nat} (h : n ≤ 100000) : n ≤ sizeLine := by rw [sizeLine_eq]; omega
def word (b : Bool) : Str := if b = true then "below" else "atmost"
def dword (b : Bool) : Str := if b = true then "top" else "under"
structure Tst where
  l : List Int
  b : Bool
  r : List Int
def Tst.d (t : Tst) : D := .tup [.tup (iD t.l), .str (word t.b), .tup (iD t.r)]
structure SideOk (l : List Int) : Prop where
  l1 : 1 ≤ l.length
  l3 : l.length ≤ 3
  rng : ∀ x ∈ l, 0 ≤ x ∧ x ≤ 3
  asc : l.Pairwise (· < ·)
structure Tst.Ok (t : Tst) : Prop where
  l : SideOk t.l
  r : SideOk t.r
  dis : ∀ x ∈ t.l, x ∉ t.r
structure Cl where
  ts : List Tst
  top : Bool
def Cl.d (c : Cl) : D := .tup [.tup (c.ts.map Tst.d), .str (dword c.top)]
structure Cl.Ok (c : Cl) : Prop where
  n : c.ts.length ≤ 3
  ok : ∀ t ∈ c.ts, t.Ok
structure So where
  rule : List Cl
  fin : List Cl
def csD (cs : List Cl) : D := .tup (cs.map Cl.d)
def So.d (s : So) : D := .tup [csD s.rule, csD s.fin]
structure So.Ok (s : So) : Prop where
  r1 : 1 ≤ s.rule.length
  r6 : s.rule.length ≤ 6
  f2 : s.fin.length ≤ 2
  ro : ∀ c ∈ s.rule, c.Ok
  fo : ∀ c ∈ s.fin, c.Ok
structure WsOk (ws : List Tst) : Prop where
  n1 : 1 ≤ ws.length
  n3 : ws.length ≤ 3
  ok : ∀ t ∈ ws, t.Ok
def mB (p : Int → Bool) : D → D
  | .int x => .bl (p x)
  | d => d
def upI (h : Int → Int) : D → D
  | .int x => .int (h x)
  | d => d
section
variable {S : Type}
@[simp] theorem isi2E_ap (f : EvF S) (T U : String) (ρ : List Sl) (s : S) : isi2E f T U ρ s = (f ρ s).bind fun d s1 => ofO ((dIsi d T).bind fun b => (dIsi d U).map fun c => .bl (b || c)) s1 := rfl
end
end Wd

set_option maxHeartbeats 0
/-! S2: piles: tests, deeds, falls. -/
namespace Wd
open PySem PySem.Spec PyProof.Rows L2 Q
/-- the greatest number of a test -/
def reach (t : Tst) : Int := (t.l ++ t.r).foldl max 0
/-- q: the entries from the top, from the spot on -/
def sumAt (q l : List Int) : Int := (l.map fun x => q.getD x.toNat 0).sum
def hold (q : List Int) (t : Tst) : Bool := if t.b = true then decide (sumAt q t.l < sumAt q t.r) else decide (sumAt q t.l ≤ sumAt q t.r)
def applies (q : List Int) (c : Cl) : Bool := decide ((if c.top = true then 2 else 3) ≤ q.length) && c.ts.all fun t => decide (reach t < q.length) && hold q t
def first (q : List Int) (cs : List Cl) : Option Bool := (cs.find? (applies q)).map (·.top)
def mrg : Bool → List Int → List Int
  | true, x :: y :: r => (y + x) :: r
  | false, x :: y :: z :: r => x :: (z + y) :: r
  | _, q => q
def amt : Bool → List Int → Int
  | true, x :: y :: _ => y + x
  | false, _ :: y :: z :: _ => z + y
  | _, _ => 0
def fallN (cs : List Cl) : Nat → List Int → List Bool × List Int × Int
  | 0, q => ([], q, 0)
  | n + 1, q => match first q cs with
    | none => ([], q, 0)
    | some b => (b :: (fallN cs n (mrg b q)).1, (fallN cs n (mrg b q)).2.1, amt b q + (fallN cs n (mrg b q)).2.2)
def fall (cs : List Cl) (q : List Int) : List Bool × List Int × Int := fallN cs q.length q
def dsD (ds : List Bool) : List D := ds.map fun b => .str (dword b)
theorem ix_int {f : List Int} {i : Int} (h0 : 0 ≤ i) (h1 : i < f.length) : L2.atI (iD f) i = some (.int (f.getD i.toNat 0)) := by
  have hi : i.toNat < f.length := by omega
  have e := ix_at (ds := iD f) (i := i.toNat) (d := .int (f.getD i.toNat 0)) (by simp [iD, List.getD, List.getElem?_eq_getElem hi])
  rwa [show ((i.toNat : Nat) : Int) = i by omega] at e
section
variable {S : Type}
end
end Wd

set_option maxHeartbeats 0
/-! S3: deeds on piles, falls. -/
namespace Wd
open PySem PySem.Spec PyProof.Rows L2 Q
section
variable {S : Type}
end
end Wd

set_option maxHeartbeats 0
/-! S4: rows gone along; wants on piles. -/
namespace Wd
open PySem PySem.Spec PyProof.Rows L2 Q
/-! ### a fall leaves no more entries -/
/-- behind each length: deeds, pile, cost -/
def along (cs : List Cl) : List Int → List Int → List (List Bool × List Int × Int)
  | [], _ => []
  | x :: l, q => fall cs (x :: q) :: along cs l (fall cs (x :: q)).2.1
def eD (r : List Bool × List Int × Int) : D := .tup (dsD r.1)
def costs (l : List (List Bool × List Int × Int)) : Int := (l.map fun r => r.2.2).sum
section
variable {S : Type}
def stK (g : EvL' S) (ρ : List Sl) : D → S → Res S (List D)
  | .tup xs, s1 => (g ρ s1).bind fun ds s2 => .ok (xs ++ ds) s2
  | .lst xs, s1 => (g ρ s1).bind fun ds s2 => .ok (xs ++ ds) s2
  | _, _ => .stuck
@[simp] theorem starA_ap (f : EvF S) (g : EvL' S) (ρ : List Sl) (s : S) : starA f g ρ s = (f ρ s).bind (stK g ρ) := by
  unfold starA
  congr 1
  funext d s1
  cases d <;> rfl
@[simp] theorem stK_tup (g : EvL' S) (ρ : List Sl) (xs : List D) (s : S) : stK g ρ (.tup xs) s = (g ρ s).bind fun ds s2 => .ok (xs ++ ds) s2 := rfl
end
/-! ### where wants fail -/
def failK (f : Nat → Tst → Bool) (sp : Nat) : Nat → List Tst → List (Nat × Nat)
  | _, [] => []
  | k, t :: r => (if f sp t = true then [(sp, k)] else []) ++ failK f sp (k + 1) r
def failF (q : List Int) (sp : Nat) (t : Tst) : Bool := decide (reach t + sp < q.length) && !hold (q.drop sp) t
def failing (q : List Int) (ws : List Tst) (lo : Nat) : List (Nat × Nat) := (List.range' lo (q.length - lo)).flatMap fun sp => failK (failF q) sp 0 ws
section
variable {S : Type}
theorem iR1 {f : EvF S} {ρ : List Sl} {s s1 : S} {hi : Nat} (h1 : f ρ s = .ok (.int hi) s1) (b : hi < 1000000) : iRange1 f ρ s = .ok (rangeD (0 : Nat) hi) s1 := by
  rw [iRange1_ap, h1, bind_okS, range1_nat hi b, ofO_some]
  rfl
end
end Wd

set_option maxHeartbeats 0
/-! S5: wants on piles, the program's calls. -/
namespace Wd
open PySem PySem.Spec PyProof.Rows L2 Q
def loose (o : So) (ws : List Tst) (q : List Int) : Bool := if 1 ≤ q.length ∧ q.length ≤ 5 ∧ first q o.rule = none then (failing q ws 2).isEmpty && !(failing q ws 0).isEmpty else false
section
variable {S : Type}
end
end Wd

set_option maxHeartbeats 0
/-! L1: the laws' own going along (first family). -/
namespace Wd
open PySem PySem.Spec PyProof.Rows L2 Q
section
variable {S : Type}
/-! ### the deed -/
end
end Wd

set_option maxHeartbeats 0
/-! L2f: the laws' own falls, where wants fail (first family). -/
namespace Wd
open PySem PySem.Spec PyProof.Rows L2 Q
section
variable {S : Type}
/-! ### where wants fail -/
end
end Wd

set_option maxHeartbeats 0
/-! Dr1: numbers that are drawn. -/
namespace Wd
open PySem PySem.Spec PyProof.Rows L2 Q
theorem mul_r {i j : Int} (h1 : -(2 ^ 60) < j) (h2 : j < 2 ^ 60) : dMul (.int i) (.int j) = some (.int (i * j)) := by
  have h : CMul i j ∨ CMulW i j := .inl (.inr ⟨by omega, by omega⟩)
  simp only [dMul]
  rw [if_pos h]
theorem mul_l {i j : Int} (h1 : -(2 ^ 60) < i) (h2 : i < 2 ^ 60) : dMul (.int i) (.int j) = some (.int (i * j)) := by
  have h : CMul i j ∨ CMulW i j := .inl (.inl ⟨by omega, by omega⟩)
  simp only [dMul]
  rw [if_pos h]
theorem mod_p {i j : Int} (h : 0 < j) : dMod (.int i) (.int j) = some (.int (i % j)) := by
  simp only [dMod]
  rw [if_pos h]
def big : Int := 2 ^ 200
theorem log2_le {j : Int} (h0 : 0 < j) (h1 : j < big) : j.natAbs.log2 < 9000 := by
  have e : big = ((2 ^ 200 : Nat) : Int) := by decide +kernel
  have : j.natAbs < 2 ^ 200 := by rw [e] at h1; omega
  have h := (Nat.log2_lt (by omega)).mpr this
  omega
theorem div_p {i j : Int} (h0 : 0 < j) (h1 : j < big) : dDiv (.int i) (.int j) = some (.int (i / j)) := by
  have h : CDivW i j := ⟨h0, log2_le h0 h1⟩
  simp only [dDiv]
  rw [if_pos h]
theorem big_lt {j : Int} (h : j ≤ 1000000000000000000000000000000) : j < big := by
  have : (1000000000000000000000000000000 : Int) < big := by decide +kernel
  omega
def mixI (c n : Int) : Int := ((c * (1 + 2 * n) * 48271) % 2147483647 + 7919 * n * n + 104729 * n) * 69621 % 2147483629 / 7
theorem mixed_spec {S : Type} (c n : Int) (h0 : 0 ≤ n) (h1 : n < 2 ^ 50) (s : S) : F_law_mixed [.int c, .int n] s = .ok (.int (mixI c n)) s := by
  show endR false (c_law_mixed [Sl.val (.int c), Sl.val (.int n), .no] s) = _
  have m1 : dMul (.int 2) (.int n) = some (.int (2 * n)) := mul_l (by omega) (by omega)
  have m2 : dMul (.int c) (.int (1 + 2 * n)) = some (.int (c * (1 + 2 * n))) := mul_r (by omega) (by omega)
  have m3 : ∀ i : Int, dMul (.int i) (.int 48271) = some (.int (i * 48271)) := fun i => mul_r (by omega) (by omega)
  have m4 : dMul (.int 7919) (.int n) = some (.int (7919 * n)) := mul_l (by omega) (by omega)
  have m5 : ∀ i : Int, dMul (.int i) (.int n) = some (.int (i * n)) := fun i => mul_r (by omega) (by omega)
  have m6 : dMul (.int 104729) (.int n) = some (.int (104729 * n)) := mul_l (by omega) (by omega)
  have m7 : ∀ i : Int, dMul (.int i) (.int 69621) = some (.int (i * 69621)) := fun i => mul_r (by omega) (by omega)
  have m8 : ∀ i : Int, dMod (.int i) (.int 2147483647) = some (.int (i % 2147483647)) := fun i => mod_p (by omega)
  have m9 : ∀ i : Int, dMod (.int i) (.int 2147483629) = some (.int (i % 2147483629)) := fun i => mod_p (by omega)
  have m10 : ∀ i : Int, dDiv (.int i) (.int 7) = some (.int (i / 7)) := fun i => div_p (by omega) (big_lt (by omega))
  simp [c_law_mixed, m1, m2, m3, m4, m5, m6, m7, m8, m9, m10, mixI]
theorem s_gs : ¬ ((Str.ofString "great") = Str.ofString "spot") := by decide
theorem s_cs : ¬ ((Str.ofString "cells") = Str.ofString "spot") := by decide
theorem s_cg : ¬ ((Str.ofString "cells") = Str.ofString "great") := by decide
theorem at_int {l : List Int} {i : Int} (h0 : 0 ≤ i) (h1 : i < l.length) : L2.atI l i = some (l.getD i.toNat 0) := by
  have hi : i.toNat < l.length := by omega
  unfold L2.atI ixN
  simp [h0, h1, List.getD, List.getElem?_eq_getElem hi]
theorem ixN_nat {n : Nat} {i : Int} (h0 : 0 ≤ i) (h1 : i < n) : ixN n i = some i.toNat := by
  unfold ixN
  simp [h0, h1]
theorem great_eq (l : List Int) : deq (.lst (l.map .int)) (.lst []) = some l.isEmpty := deq_nil l
def dTail (a : Ad) (Fm : FF Dw) : ExF Dw := (seqS (asgS (mgetE a 0 "cells") (tN 3)) (seqS (relS' [2] (retV true (bin dMod (biF bInt (consA (callF (⟨2, false, Fm⟩ : Fn Dw) (consA (callF (⟨2, false, Fm⟩ : Fn Dw) (consA (bin dAdd (lixE a 3 (bin dMod (biF bInt (consA (vK 2) nilA)) (kD (.int 64)))) (bin dMul (kD (.int 31)) (bin dDiv (vK 2) (kD (.int 64))))) (consA (vC 2) nilA))) (consA (bin dAdd (vK 2) (kD (.int 7))) nilA))) nilA)) (vK 1)))) nextS))
theorem tail_c {Fm : FF Dw} (hm : ∀ c n s, 0 ≤ n → n < 2 ^ 50 → Fm [.int c, .int n] s = .ok (.int (mixI c n)) s) {a : Ad} (hac : a.c ≠ a.g) {s : Dw} {lim n : Int} (hc : s.cells.length = 64) (h0 : 0 ≤ n) (h1 : n < 2 ^ 49) (l1 : 1 ≤ lim) (x3 x4 x5 : Sl) :
    ∃ r, dTail a Fm [Sl.val (.opq (.ref a.m)), Sl.val (.int lim), Sl.val (.int n), x3, x4, x5] s = .ret true (.int r) s ∧ 0 ≤ r ∧ r < lim := by
  have m1 : dMod (.int n) (.int 64) = some (.int (n % 64)) := mod_p (by omega)
  have m2 : dDiv (.int n) (.int 64) = some (.int (n / 64)) := div_p (by omega) (big_lt (by omega))
  have m3 : ∀ i : Int, dMul (.int 31) (.int i) = some (.int (31 * i)) := fun i => mul_l (by omega) (by omega)
  have m4 : ∀ i : Int, dMod (.int i) (.int lim) = some (.int (i % lim)) := fun i => mod_p (by omega)
  have m5 := at_int (l := s.cells) (i := n % 64) (by omega) (by omega)
  have q1 := fun c s' => hm c n s' h0 (by omega)
  have q2 := fun c s' => hm c (n + 7) s' (by omega) (by omega)
  refine ⟨mixI (mixI (s.cells.getD (n % 64).toNat 0 + 31 * (n / 64)) n) (n + 7) % lim, ?_, Int.emod_nonneg _ (by omega), Int.emod_lt_of_pos _ (by omega)⟩
  simp [dTail, mgetE, lixE, lotOf, s_cs, s_cg, hac, relAt_def, m1, m2, m3, m4, m5, q1, q2]
theorem draw_c {Fm : FF Dw} (hm : ∀ c n s, 0 ≤ n → n < 2 ^ 50 → Fm [.int c, .int n] s = .ok (.int (mixI c n)) s) {a : Ad} (hac : a.c ≠ a.g) {s : Dw} {lim : Int} (hc : s.cells.length = 64) (h0 : 0 ≤ s.spot) (h1 : s.spot < 2 ^ 49) (l1 : 1 ≤ lim) (l2 : lim < big) :
    ∃ r s', endR false (c_law_draw a Fm [Sl.val (.opq (.ref a.m)), Sl.val (.int lim), .no, .no, .no, .no] s) = .ok (.int r) s' ∧ 0 ≤ r ∧ r < lim ∧ s'.cells = s.cells ∧ s'.spot = s.spot + 1 := by
  have step : c_law_draw a Fm [Sl.val (.opq (.ref a.m)), Sl.val (.int lim), .no, .no, .no, .no] s = ((ifS (greatT a 0) (seqS (asgS (mgetE a 0 "great") (tN 3)) (seqS (asgS (bin dMod (biF bInt (consA (vK 2) nilA)) (lenE a 3)) (tN 4)) (seqS (asgS (lixE a 3 (vK 4)) (tN 5)) (seqS (ifS (testB (bin dGt (vK 5) (kD (.int 0)))) (seqS (lputS a 3 (bin dDiv (vK 5) (vK 1)) (vK 4)) (seqS (retV true (bin dMod (biF bInt (consA (vK 5) nilA)) (vK 1))) nextS)) nextS) nextS)))) nextS : ExF Dw) [Sl.val (.opq (.ref a.m)), Sl.val (.int lim), Sl.val (.int s.spot), .no, .no, .no] { s with spot := s.spot + 1 }).next (dTail a Fm) := by
    simp [c_law_draw, mgetE, mputS]
    rfl
  rw [step]
  by_cases hg : s.great = []
  · obtain ⟨r, e, r0, r1⟩ := tail_c hm hac (s := { s with spot := s.spot + 1 }) (n := s.spot) hc h0 h1 l1 .no .no .no
    refine ⟨r, { s with spot := s.spot + 1 }, ?_, r0, r1, rfl, rfl⟩
    have hT : (greatT a 0 [Sl.val (.opq (.ref a.m)), Sl.val (.int lim), Sl.val (.int s.spot), .no, .no, .no] { s with spot := s.spot + 1 }) = .ok false { s with spot := s.spot + 1 } := by
      have z := great_eq s.great
      simp only [greatT, List.getElem?_cons_zero, if_true, z]
      rw [hg]
      rfl
    rw [ifS_ap, hT, thenS_ok, if_neg Bool.false_ne_true, nextS_ap, next_nxt, e, endR_ret]
  · have hgl : 0 < s.great.length := by cases q : s.great with
      | nil => exact absurd q hg
      | cons _ _ => simp
    have hge : s.great.isEmpty = false := by cases q : s.great with
      | nil => exact absurd q hg
      | cons _ _ => rfl
    have m1 : dMod (.int s.spot) (.int (s.great.length : Int)) = some (.int (s.spot % s.great.length)) := mod_p (by omega)
    have hi0 : 0 ≤ s.spot % (s.great.length : Int) := Int.emod_nonneg _ (by omega)
    have hi1 : s.spot % (s.great.length : Int) < s.great.length := Int.emod_lt_of_pos _ (by omega)
    have m2 := at_int (l := s.great) hi0 hi1
    have m3 : ∀ i : Int, dDiv (.int i) (.int lim) = some (.int (i / lim)) := fun i => div_p (by omega) l2
    have m4 : ∀ i : Int, dMod (.int i) (.int lim) = some (.int (i % lim)) := fun i => mod_p (by omega)
    have m5 := ixN_nat hi0 hi1
    generalize hcell : s.great.getD (s.spot % (s.great.length : Int)).toNat 0 = cell at m2
    by_cases hp : 0 < cell
    · refine ⟨cell % lim, { s with spot := s.spot + 1, great := s.great.set (s.spot % (s.great.length : Int)).toNat (cell / lim) }, ?_, Int.emod_nonneg _ (by omega), Int.emod_lt_of_pos _ (by omega), rfl, rfl⟩
      simp [greatT, great_eq, hge, mgetE, lenE, lixE, lotOf, s_gs, m1, m2, hp, lputS, m3, m4, m5]
    · obtain ⟨r, e, r0, r1⟩ := tail_c hm hac (s := { s with spot := s.spot + 1 }) (n := s.spot) hc h0 h1 l1 (Sl.val (.opq (.ref a.g))) (Sl.val (.int (s.spot % s.great.length))) (Sl.val (.int cell))
      refine ⟨r, { s with spot := s.spot + 1 }, ?_, r0, r1, rfl, rfl⟩
      simp [greatT, great_eq, hge, mgetE, lenE, lixE, lotOf, s_gs, m1, m2, hp, e]
/-- the state, drawn from at most B times -/
structure Sk (B : Int) (s : Dw) : Prop where
  cells : s.cells.length = 64
  pos : 0 ≤ s.spot
  le : s.spot ≤ B
theorem Sk.mono {B B' : Int} {s : Dw} (h : Sk B s) (l : B ≤ B') : Sk B' s := ⟨h.cells, h.pos, Int.le_trans h.le l⟩
/-- F draws from m -/
def Draws (F : FF Dw) (m : D) : Prop := ∀ (s : Dw) (B lim : Int), Sk B s → B < 2 ^ 40 → 1 ≤ lim → lim < big → ∃ r s', F [m, .int lim] s = .ok (.int r) s' ∧ 0 ≤ r ∧ r < lim ∧ Sk (B + 1) s'
theorem draws {a : Ad} (hac : a.c ≠ a.g) : Draws (F_law_draw a) (.opq (.ref a.m)) := fun s B lim k hB l1 l2 => by
  obtain ⟨r, s', e, r0, r1, h1, h2⟩ := draw_c (Fm := F_law_mixed) (fun c n s h0 h1 => mixed_spec c n h0 h1 s) hac (s := s) (lim := lim) k.cells k.pos (by have := k.le; omega) l1 l2
  exact ⟨r, s', e, r0, r1, by rw [h1]; exact k.cells, by have := k.pos; omega, by have := k.le; omega⟩
/-! ### sides (first family) -/
end Wd

set_option maxHeartbeats 0
/-! Dr2: drawn tests, clauses, sorters, wants, rows, piles (first family). -/
namespace Wd
open PySem PySem.Spec PyProof.Rows L2 Q
def isI (p : Int → Bool) : D → Bool
  | .int x => p x
  | _ => false
/-! ### rows -/
def Rows (Fr : FF Dw) (m : D) : Prop := ∀ (most : Int) (many : Nat) (s : Dw) (B : Int), 1 ≤ most → most ≤ 1000000000000000000000000000000 → many ≤ 400 → Sk B s → B < 2 ^ 38 → ∃ (l : List Int) (s' : Dw), Fr [m, .int most, .int many] s = .ok (.tup (iD l)) s' ∧ l.length ≤ many ∧ (∀ x ∈ l, 1 ≤ x ∧ x ≤ 1000000000000000000000000000000) ∧ Sk (B + 1000) s'
end Wd

set_option maxHeartbeats 0
/-! Dr3: drawn clauses, sorters, wants, piles (first family). -/
namespace Wd
open PySem PySem.Spec PyProof.Rows L2 Q
def tP (t : Tst) : PyData := .tuple [.tuple (t.l.map .int), .str (word t.b), .tuple (t.r.map .int)]
end Wd

set_option maxHeartbeats 0
/-! Dr4: drawn wants, piles (first family). -/
namespace Wd
open PySem PySem.Spec PyProof.Rows L2 Q
/-! ### piles -/
end Wd

set_option maxHeartbeats 0
/-! Rp1: what repr may show. -/
namespace Wd
open PySem PySem.Spec PyProof.Rows L2 Q
theorem app_len (a b : Str) : (a ++ b).length = a.length + b.length := by
  show (a.cps ++ b.cps).size = _
  rw [Array.size_append]
  rfl
theorem textFrom_le : ∀ (ts : List Str) (k : Nat) (acc : Str), (textFrom k acc ts).length ≤ acc.length + piled ts
  | [], k, acc => by simp [textFrom, piled]
  | t :: r, k, acc => by
    have ih := textFrom_le r (k + 1) (acc ++ (if k > 0 then ", " else "" : String) ++ t)
    have hs : ((if k > 0 then ", " else "" : String) : Str).length ≤ 2 := by split <;> decide
    rw [app_len, app_len] at ih
    rw [textFrom, piled_cons]
    omega
theorem listText_le (ts : List Str) : (listText ts).length ≤ piled ts + 2 := by
  have h := textFrom_le ts 0 "["
  have h1 : ("[" : Str).length = 1 := by decide
  have h2 : ("]" : Str).length = 1 := by decide
  unfold listText
  rw [app_len, h2]
  omega
structure Shw (p : PyData) (k n : Nat) : Prop where
  sh : p.showable = true
  dp : p.depth ≤ k
  len : p.shown.length ≤ n
structure ShwL (ps : List PyData) (k n : Nat) : Prop where
  sh : PyData.showableAll ps = true
  dp : PyData.depthAll ps ≤ k
  len : piled (PyData.shownAll ps) ≤ n
theorem log2_of {x : Int} {k : Nat} (h : x.natAbs < 2 ^ k) (hk : 0 < k) : x.natAbs.log2 < k := by
  by_cases hz : x.natAbs = 0
  · rw [hz]; simpa using hk
  · exact (Nat.log2_lt hz).mpr h
theorem shw_int {x : Int} {d : Nat} (hd : 1 ≤ d) (h0 : 0 ≤ x) (h1 : x < 10 ^ d) (h2 : x.natAbs < 2 ^ 1920) : Shw (.int x) 0 d :=
  ⟨by simp only [PyData.showable]; simpa using log2_of h2 (by omega), by simp [PyData.depth], toString_length_le h0 hd h1⟩
theorem pow31 : (10 : Nat) ^ 40 < 2 ^ 1920 := by decide +kernel
/-- whole numbers of at most forty figures -/
theorem shw_i {x : Int} (h0 : 0 ≤ x) (h1 : x < 10 ^ 40) : Shw (.int x) 0 40 := shw_int (by omega) h0 h1 (by
  have : (x.natAbs : Int) < ((10 ^ 40 : Nat) : Int) := by
    rw [Int.natCast_pow]
    have e : ((x.natAbs : Nat) : Int) = x := by omega
    rw [e]
    exact h1
  exact Nat.lt_trans (Int.ofNat_lt.mp this) pow31)
theorem shw_bl (b : Bool) : Shw (.bool b) 0 5 := ⟨by simp [PyData.showable], by simp [PyData.depth], by cases b <;> decide +kernel⟩
theorem shw_non : Shw .none 0 4 := ⟨by simp [PyData.showable], by simp [PyData.depth], by decide +kernel⟩
theorem shwL_nil {k : Nat} : ShwL [] k 0 := ⟨by simp [PyData.showableAll], by simp [PyData.depthAll], by simp [PyData.shownAll, piled]⟩
theorem Shw.up {p : PyData} {k n k' n' : Nat} (h : Shw p k n) (hk : k ≤ k') (hn : n ≤ n') : Shw p k' n' := ⟨h.sh, Nat.le_trans h.dp hk, Nat.le_trans h.len hn⟩
theorem ShwL.up {p : List PyData} {k n k' n' : Nat} (h : ShwL p k n) (hk : k ≤ k') (hn : n ≤ n') : ShwL p k' n' := ⟨h.sh, Nat.le_trans h.dp hk, Nat.le_trans h.len hn⟩
theorem shwL_cons {p : PyData} {ps : List PyData} {k n j k' : Nat} (h : Shw p k' n) (r : ShwL ps k j) : ShwL (p :: ps) (max k k') (n + 2 + j) :=
  ⟨by simp [PyData.showableAll, h.sh, r.sh], by have := h.dp; have := r.dp; simp only [PyData.depthAll]; omega, by
    have := h.len; have := r.len
    rw [PyData.shownAll, piled_cons]; omega⟩
theorem shw_lst {ps : List PyData} {k n : Nat} (h : ShwL ps k n) : Shw (.list ps) (k + 1) (n + 2) :=
  ⟨by simpa only [PyData.showable] using h.sh, by have := h.dp; simp only [PyData.depth]; omega, by
    have := h.len
    have e : (PyData.list ps).shown = listText (PyData.shownAll ps) := by simp only [PyData.shown]
    rw [e]
    have := listText_le (PyData.shownAll ps); omega⟩
def ReprOk (d : D) : Prop := ∃ x, bRepr [d] = some (.str x)
/-- the data d is shown as p, deep at most k, long at most n -/
structure Rw (d : D) (k n : Nat) : Prop where
  ex : ∃ p, toPyE d = some p ∧ Shw p k n
structure RwL (ds : List D) (k n : Nat) : Prop where
  ex : ∃ ps, toPyEL ds = some ps ∧ ShwL ps k n
theorem rw_int {x : Int} (h0 : 0 ≤ x) (h1 : x < 10 ^ 40) : Rw (.int x) 0 40 := ⟨_, by simp [toPyE], shw_i h0 h1⟩
theorem rw_bl (b : Bool) : Rw (.bl b) 0 40 := ⟨_, by simp [toPyE], (shw_bl b).up (Nat.le_refl _) (by omega)⟩
theorem rw_non : Rw .non 0 40 := ⟨_, by simp [toPyE], shw_non.up (Nat.le_refl _) (by omega)⟩
theorem rwl_nil {k : Nat} : RwL [] k 0 := ⟨_, rfl, shwL_nil⟩
theorem rwl_cons {d : D} {ds : List D} {k k' n j : Nat} (h : Rw d k' n) (r : RwL ds k j) : RwL (d :: ds) (max k k') (n + 2 + j) := by
  obtain ⟨p, e1, s1⟩ := h.ex
  obtain ⟨ps, e2, s2⟩ := r.ex
  exact ⟨p :: ps, by simp [toPyEL, e1, e2], shwL_cons s1 s2⟩
theorem rw_lst {ds : List D} {k n : Nat} (h : RwL ds k n) : Rw (.lst ds) (k + 1) (n + 3) := by
  obtain ⟨ps, e, s⟩ := h.ex
  exact ⟨_, by simp [toPyE, e], (shw_lst s).up (Nat.le_refl _) (by omega)⟩
theorem Rw.up {d : D} {k n k' n' : Nat} (h : Rw d k n) (hk : k ≤ k') (hn : n ≤ n') : Rw d k' n' := let ⟨p, e, s⟩ := h.ex; ⟨p, e, s.up hk hn⟩
theorem RwL.up {d : List D} {k n k' n' : Nat} (h : RwL d k n) (hk : k ≤ k') (hn : n ≤ n') : RwL d k' n' := let ⟨p, e, s⟩ := h.ex; ⟨p, e, s.up hk hn⟩
theorem repr_of {d : D} {k n : Nat} (h : Rw d k n) (hk : k ≤ 64) (hn : n ≤ 16000000) (hd : (∃ ds, d = .tup ds) ∨ ∃ ds, d = .lst ds) : ReprOk d := by
  obtain ⟨p, e, s⟩ := h.ex
  have hl : p.shown.length ≤ sizeLine := by have := s.len; rw [sizeLine_eq]; omega
  have hdp : p.depth ≤ 64 := Nat.le_trans s.dp hk
  refine ⟨p.shown, ?_⟩
  rcases hd with ⟨ds, rfl⟩ | ⟨ds, rfl⟩
  · have : bRepr [.tup ds] = (toPyE (.tup ds)).bind fun p => if p.showable = true ∧ p.depth ≤ 64 ∧ p.shown.length ≤ sizeLine then some (.str p.shown) else none := rfl
    rw [this, e, Option.bind_some, if_pos ⟨s.sh, hdp, hl⟩]
  · have : bRepr [.lst ds] = (toPyE (.lst ds)).bind fun p => if p.showable = true ∧ p.depth ≤ 64 ∧ p.shown.length ≤ sizeLine then some (.str p.shown) else none := rfl
    rw [this, e, Option.bind_some, if_pos ⟨s.sh, hdp, hl⟩]
/-! ### sorters, wants, rows -/
theorem dEq_same (x : Str) : dEq (.str x) (.str x) = some (.bl true) := by simp [dEq]
end Wd

set_option maxHeartbeats 0
/-! Fo1: the cells that numbers are drawn from. -/
namespace Wd
open PySem PySem.Spec PyProof.Rows L2 Q
section
variable {S : Type}
theorem fold1 (sc : D) (s : S) : ∀ (ns : List Int) (k : Nat) (l : List Int) (x2 x3 : Sl), l.length = 64 → ∃ l' z2 z3, l'.length = 64 ∧
    forGo (gTupD 2 (gsC (tN 2) (gsC (tN 3) gsN))) (seqS (setItemS 1 (bin dMod (biF bInt (consA (bin dAdd (bin dMul (bin dIx (vK 1) (bin dMod (biF bInt (consA (vK 2) nilA)) (kD (.int 64)))) (kD (.int 48271))) (vK 3)) nilA)) (kD (.int 2147483647))) (bin dMod (biF bInt (consA (vK 2) nilA)) (kD (.int 64)))) nextS) (enumFrom k (iD ns)) [Sl.val sc, Sl.own (iD l), x2, x3] s = .nxt [Sl.val sc, Sl.own (iD l'), z2, z3] s
  | [], k, l, x2, x3, hl => ⟨l, x2, x3, hl, rfl⟩
  | x :: ns, k, l, x2, x3, hl => by
    have m1 : dMod (.int k) (.int 64) = some (.int ((k : Int) % 64)) := mod_p (by omega)
    have m2 := ix_int (f := l) (i := (k : Int) % 64) (by omega) (by omega)
    have m3 : ∀ i : Int, dMul (.int i) (.int 48271) = some (.int (i * 48271)) := fun i => mul_r (by omega) (by omega)
    have m4 : ∀ i : Int, dMod (.int i) (.int 2147483647) = some (.int (i % 2147483647)) := fun i => mod_p (by omega)
    have m5 : ixN 64 ((k : Int) % 64) = some ((k : Int) % 64).toNat := ixN_nat (by omega) (by omega)
    obtain ⟨l', z2, z3, h1, e⟩ := fold1 sc s ns (k + 1) (l.set ((k : Int) % 64).toNat ((l.getD ((k : Int) % 64).toNat 0 * 48271 + x) % 2147483647)) (Sl.val (.int k)) (Sl.val (.int x)) (by simp [hl])
    refine ⟨l', z2, z3, h1, ?_⟩
    rw [iD_cons, enumFrom, forGo_cons (ρ1 := [Sl.val sc, Sl.own (iD l), Sl.val (.int k), Sl.val (.int x)]) (by simp)]
    simp [setItemS, m1, m2, m3, m4, m5, dIx, hl]
    have e' := e
    simp [iD, List.map_set] at e' ⊢
    exact e'
theorem fold2 (sc : D) (s : S) : ∀ (m k : Nat) (l : List Int) (x2 x3 : Sl), 1 ≤ k → k + m ≤ 64 → l.length = 64 → ∃ l' z2 z3, l'.length = 64 ∧
    forGo (tN 2) (seqS (setItemS 1 (bin dMod (biF bInt (consA (bin dAdd (bin dIx (vK 1) (vK 2)) (bin dMul (bin dIx (vK 1) (bin dSub (vK 2) (kD (.int 1)))) (kD (.int 16807)))) nilA)) (kD (.int 2147483647))) (vK 2)) nextS) (rangeD k m) [Sl.val sc, Sl.own (iD l), x2, x3] s = .nxt [Sl.val sc, Sl.own (iD l'), z2, z3] s
  | 0, k, l, x2, x3, _, _, hl => ⟨l, x2, x3, hl, rfl⟩
  | m + 1, k, l, x2, x3, hk, hm, hl => by
    have m1 := ix_int (f := l) (i := (k : Int)) (by omega) (by omega)
    have m2 := ix_int (f := l) (i := (k : Int) - 1) (by omega) (by omega)
    have m3 : ∀ i : Int, dMul (.int i) (.int 16807) = some (.int (i * 16807)) := fun i => mul_r (by omega) (by omega)
    have m4 : ∀ i : Int, dMod (.int i) (.int 2147483647) = some (.int (i % 2147483647)) := fun i => mod_p (by omega)
    have m5 : ixN 64 (k : Int) = some (k : Int).toNat := ixN_nat (by omega) (by omega)
    obtain ⟨l', z2, z3, h1, e⟩ := fold2 sc s m (k + 1) (l.set (k : Int).toNat ((l.getD (k : Int).toNat 0 + l.getD ((k : Int) - 1).toNat 0 * 16807) % 2147483647)) (Sl.val (.int k)) x3 (by omega) (by omega) (by simp [hl])
    refine ⟨l', z2, z3, h1, ?_⟩
    rw [rangeD, forGo_cons (ρ1 := [Sl.val sc, Sl.own (iD l), Sl.val (.int k), x3]) (by simp)]
    simp at m1
    simp [setItemS, m1, m2, m3, m4, m5, dIx, hl]
    have e' := e
    simp [iD, List.map_set] at e' ⊢
    exact e'
theorem folded_spec (ns : List Int) (s : S) : ∃ cells, cells.length = 64 ∧ F_law_folded [.scr (iD ns)] s = .ok (.lst (iD cells)) s := by
  have hr : range1 (.int 64) = some (rangeD 0 64) := range1_nat 64 (by omega)
  have hr2 : range2 (.int 1) (.int 64) = some (rangeD 1 63) := range2_nat 1 64 (by omega) (by omega)
  have hm : ∀ (n : Nat) (lo : Int), lcGo (S := S) (tN 2) yesT (bin dAdd (kD (.int 17)) (vK 2)) [Sl.val (.scr (iD ns)), Sl.no, Sl.no, Sl.no] (rangeD lo n) s = .ok ((rangeD lo n).map (upI (17 + ·))) s := fun n lo => by
    refine lcGo_map fun d hd => ?_
    obtain ⟨x, rfl⟩ : ∃ x, d = .int x := by
      clear hr hr2
      induction n generalizing lo with
      | zero => simp [rangeD] at hd
      | succ n ih =>
        rw [rangeD, List.mem_cons] at hd
        rcases hd with rfl | hd
        · exact ⟨_, rfl⟩
        · exact ih _ hd
    exact ⟨[Sl.val (.scr (iD ns)), Sl.no, Sl.val (.int x), Sl.no], by simp, rfl, by simp [upI]⟩
  have hD : ∀ (n : Nat) (lo : Int), ∃ l : List Int, l.length = n ∧ (rangeD lo n).map (upI (17 + ·)) = iD l := fun n => by
    induction n with
    | zero => exact fun lo => ⟨[], rfl, rfl⟩
    | succ n ih =>
      intro lo
      obtain ⟨l, h1, h2⟩ := ih (lo + 1)
      exact ⟨(17 + lo) :: l, by simp [h1], by rw [rangeD, List.map_cons, h2]; rfl⟩
  obtain ⟨l0, h0, e0⟩ := hD 64 0
  obtain ⟨l1, y2, y3, h1, e1⟩ := fold1 (.scr (iD ns)) s ns 0 l0 .no .no h0
  obtain ⟨l2, z2, z3, h2, e2⟩ := fold2 (.scr (iD ns)) s 63 1 l1 y2 y3 (by omega) (by omega) h1
  refine ⟨l2, h2, ?_⟩
  have hm' := hm 64 0
  rw [e0] at hm'
  show endR true (c_law_folded [Sl.val (.scr (iD ns)), .no, .no, .no] s) = _
  unfold c_law_folded
  have hz : l0.length ≤ sizeLine := by rw [sizeLine_eq]; omega
  have ha : ownS (S := S) 1 (lcE (iRange1 (kD (.int 64))) (tN 2) yesT (bin dAdd (kD (.int 17)) (vK 2)) [2]) [Sl.val (.scr (iD ns)), .no, .no, .no] s = .nxt [Sl.val (.scr (iD ns)), .own (iD l0), .no, .no] s := by
    simp [hr, hm', hz]
  rw [seqS_ap, ha, next_nxt, seqS_ap, lockS_cons, lockS_nil, lock1_val (d := .scr (iD ns)) rfl, forS_ap, iEnum_ap, vS_ap]
  have q : slS (S := S) ([Sl.val (.scr (iD ns)), .own (iD l0), .no, .no] : List Sl)[0]? s = .ok (.scr (iD ns)) s := rfl
  rw [q, bind_okS, seqOf_scr, Option.map_some, ofO_some, thenS_ok, e1, next_nxt, seqS_ap, forS_ap, iRange2_ap, kD_ap, bind_okS, kD_ap, bind_okS, hr2, ofO_some, thenS_ok]
  rw [Int.natCast_one] at e2
  rw [e2, next_nxt, seqS_ap, rN_ap]
  rfl
end
end Wd

set_option maxHeartbeats 0
/-! S6: ends of piles, runs. -/
namespace Wd
open PySem PySem.Spec PyProof.Rows L2 Q
def nextB (cs : List Cl) (q : List Int) : Bool := (first q cs).getD true
def endN (cs : List Cl) : Nat → List Int → List Bool × Int
  | 0, _ => ([], 0)
  | n + 1, q => if q.length ≤ 1 then ([], 0) else (nextB cs q :: (endN cs n (mrg (nextB cs q) q)).1, amt (nextB cs q) q + (endN cs n (mrg (nextB cs q) q)).2)
def ends (cs : List Cl) (q : List Int) : List Bool × Int := endN cs q.length q
section
variable {S : Type}
/-! ### the law's own end -/
/-! ### pushes, ends, runs -/
def topOf (rs : List (List Bool × List Int × Int)) : List Int := (rs.getLast?.map fun r => r.2.1).getD []
def runD (o : So) (l : List Int) : D := .tup [.tup ((along o.rule l []).map eD), .tup (dsD (ends o.fin (topOf (along o.rule l []))).1), .int (costs (along o.rule l []) + (ends o.fin (topOf (along o.rule l []))).2)]
/-! equality with the empty list -/
theorem toPyL_iD : ∀ l : List Int, toPyL (iD l) = some (l.map .int)
  | [] => rfl
  | x :: l => by
    have := toPyL_iD l
    simp [toPyL, toPy, this]
theorem canLay_ints : ∀ l : List Int, PyData.canLayAll0 (l.map .int) = true
  | [] => rfl
  | x :: l => by
    have := canLay_ints l
    simp [PyData.canLayAll0, PyData.canLay0, this]
theorem depth_ints : ∀ l : List Int, PyData.depthAll (l.map .int) ≤ 1
  | [] => by simp [PyData.depthAll]
  | x :: l => by
    have := depth_ints l
    simp only [List.map_cons, PyData.depthAll, PyData.depth]
    omega
end
end Wd

set_option maxHeartbeats 0
/-! Nd1: what the program's need_* make of any plain data. -/
namespace Wd
open PySem PySem.Spec PyProof.Rows L2 Q
/-! ### isinstance -/
section
@[simp] theorem isi_non (T : String) (h : knownT.contains T = true) : dIsi .non T = some (isiT "NoneType" T) := by simp only [dIsi, tyN, h, if_true]
end
/-! ### integers -/
section
variable {S : Type}
/-! ### sides -/
/-! ### words -/
end
end Wd

set_option maxHeartbeats 0
/-! Nd2: tests, clauses, sorters, wants, rows, piles: what need_* make of any plain data. -/
namespace Wd
open PySem PySem.Spec PyProof.Rows L2 Q
/-! ### tests -/
section
variable {S : Type}
/-! ### the first that is wrong -/
end
end Wd

set_option maxHeartbeats 0
/-! Nd3: clauses, sorters, wants, rows, piles, numbers. -/
namespace Wd
open PySem PySem.Spec PyProof.Rows L2 Q
section
variable {S : Type}
end
end Wd

set_option maxHeartbeats 0
/-! Nd4: sorters, wants, rows, piles, numbers. -/
namespace Wd
open PySem PySem.Spec PyProof.Rows L2 Q
section
variable {S : Type}
/-! ### need_sorter, need_wants -/
def resOr (d : D) (x f : Str) (o : Option D) (s : S) : Res S D := match o with
  | none => .ok d s
  | some p => .err ⟨x, [(f, p)]⟩ s
@[simp] theorem resOr_none (d : D) (x f : Str) (s : S) : resOr d x f none s = .ok d s := rfl
@[simp] theorem resOr_some (d : D) (x f : Str) (p : D) (s : S) : resOr d x f (some p) s = .err ⟨x, [(f, p)]⟩ s := rfl
end
end Wd

set_option maxHeartbeats 0
/-! Nd5: rows, piles, numbers, steep wants. -/
namespace Wd
open PySem PySem.Spec PyProof.Rows L2 Q
section
variable {S : Type}
/-! ### numbers -/
/-! ### steep wants -/
end
end Wd

set_option maxHeartbeats 0
/-! Tc: how often each length became one with others. -/
namespace Wd
open PySem PySem.Spec PyProof.Rows L2 Q
def nlD (l : List Nat) : List D := l.map fun (n : Nat) => D.int (n : Int)
def lD (t : List (List Nat)) : List D := t.map fun l => .lst (nlD l)
def cD (n : Nat) (f : Nat → Int) : List D := (List.range n).map fun i => .int (f i)
@[simp] theorem nlD_len (l : List Nat) : (nlD l).length = l.length := by simp [nlD]
@[simp] theorem lD_len (l : List (List Nat)) : (lD l).length = l.length := by simp [lD]
@[simp] theorem cD_len (n : Nat) (f : Nat → Int) : (cD n f).length = n := by simp [cD]
structure TS where
  t : List (List Nat)
  f : Nat → Int
/-! ### what stays -/
structure Inv' (k n : Nat) (t : List (List Nat)) : Prop where
  fl : t.flatten.length ≤ k
  nd : t.flatten.Nodup
  lt : ∀ i ∈ t.flatten, i < k
  ln : ∀ i ∈ t.flatten, i < n
theorem Inv'.up {k k' n : Nat} {t : List (List Nat)} (h : Inv' k n t) (hk : k ≤ k') : Inv' k' n t := ⟨Nat.le_trans h.fl hk, h.nd, fun i hi => Nat.lt_of_lt_of_le (h.lt i hi) hk, h.ln⟩
theorem Inv'.push {k n : Nat} {t : List (List Nat)} (h : Inv' k n t) (hk : k < n) : Inv' (k + 1) n ([k] :: t) := by
  refine ⟨by have := h.fl; simp; simpa using this, ?_, fun i hi => ?_, fun i hi => ?_⟩
  · simp only [List.flatten_cons, List.singleton_append, List.nodup_cons]
    exact ⟨fun hm => Nat.lt_irrefl _ (h.lt k hm), h.nd⟩
  · simp only [List.flatten_cons, List.singleton_append, List.mem_cons] at hi
    rcases hi with rfl | hi
    · omega
    · have := h.lt i hi; omega
  · simp only [List.flatten_cons, List.singleton_append, List.mem_cons] at hi
    rcases hi with rfl | hi
    · exact hk
    · exact h.ln i hi
/-! ### the words -/
section
variable {S : Type}
/-! ### all lengths -/
end
end Wd

set_option maxHeartbeats 0
/-! Tc2: the law's own count. -/
namespace Wd
open PySem PySem.Spec PyProof.Rows L2 Q
section
variable {S : Type}
end
end Wd

set_option maxHeartbeats 0
/-! Tc3: runs, costs, depths, counts: what the program and the law tell. -/
namespace Wd
open PySem PySem.Spec PyProof.Rows L2 Q
section
variable {S : Type}
def lens (rs : List (List Bool × List Int × Int)) : List Int := rs.map fun r => (r.2.1.length : Int)
end
end Wd

set_option maxHeartbeats 0
/-! Hp1: small steps, one expression at a time. -/
namespace Wd
open PySem PySem.Spec PyProof.Rows L2 Q
section
variable {S : Type} {ρ : List Sl} {s s1 s2 s3 : S}
theorem cA {f : EvF S} {g : EvL' S} {d : D} {ds : List D} (h1 : f ρ s = .ok d s1) (h2 : g ρ s1 = .ok ds s2) : consA f g ρ s = .ok (d :: ds) s2 := by rw [consA_ap, h1, bind_okS, h2, bind_okS]
theorem nA : (nilA : EvL' S) ρ s = .ok [] s := rfl
theorem c1 {f : EvF S} {d : D} (h1 : f ρ s = .ok d s1) : consA f nilA ρ s = .ok [d] s1 := cA h1 nA
theorem c2 {f g : EvF S} {d e : D} (h1 : f ρ s = .ok d s1) (h2 : g ρ s1 = .ok e s2) : consA f (consA g nilA) ρ s = .ok [d, e] s2 := cA h1 (c1 h2)
theorem c3 {f g h : EvF S} {d e x : D} (h1 : f ρ s = .ok d s1) (h2 : g ρ s1 = .ok e s2) (h3 : h ρ s2 = .ok x s3) : consA f (consA g (consA h nilA)) ρ s = .ok [d, e, x] s3 := cA h1 (c2 h2 h3)
theorem tE {f : EvL' S} {ds : List D} (h : f ρ s = .ok ds s1) (hl : ds.length ≤ 100000) : tupE f ρ s = .ok (.tup ds) s1 := by rw [tupE_ap, h, bind_okS, if_pos (sz hl)]
theorem lE {f : EvL' S} {ds : List D} (h : f ρ s = .ok ds s1) (hl : ds.length ≤ 100000) : lstE f ρ s = .ok (.lst ds) s1 := by rw [lstE_ap, h, bind_okS, if_pos (sz hl)]
theorem iT {f : EvF S} {ds : List D} (h : f ρ s = .ok (.tup ds) s1) : iSeq f ρ s = .ok ds s1 := by rw [iSeq_ap, h, bind_okS]; rfl
theorem kOk {d : D} : kD d ρ s = .ok d s := rfl
theorem vOk {i : Nat} {d : D} (h : ρ[i]? = some (.val d)) : vC i ρ s = .ok d s := by rw [vC_ap, h]; rfl
theorem vKk {i : Nat} {d : D} (h : ρ[i]? = some (.val d)) : vK i ρ s = .ok d s := by rw [vK_ap, h]; rfl
theorem vKo {i : Nat} {ds : List D} (h : ρ[i]? = some (.own ds)) : vK i ρ s = .ok (.lst ds) s := by rw [vK_ap, h]; rfl
theorem bE {op : D → D → Option D} {f g : EvF S} {x y z : D} (h1 : f ρ s = .ok x s1) (h2 : g ρ s1 = .ok y s2) (h3 : op x y = some z) : bin op f g ρ s = .ok z s2 := by rw [bin_ap, h1, bind_okS, h2, bind_okS, h3]; rfl
theorem caE {n : Nat} {F : FF S} {g : EvL' S} {ds : List D} {d : D} (h1 : g ρ s = .ok ds s1) (hn : ds.length = n) (h2 : F ds s1 = .ok d s2) : callF (⟨n, false, F⟩ : Fn S) g ρ s = .ok d s2 := by rw [callF_ap, h1, bind_okS, if_pos hn, h2]
theorem aE {f : EvF S} {i : Nat} {d : D} (h1 : f ρ s = .ok d s1) (hi : i < ρ.length) : asgS f (tN i) ρ s = .nxt (ρ.set i (.val d)) s1 := by rw [asgS_ap, h1, thenS_ok, tN_ap, if_pos hi]; rfl
theorem oE {f : EvF S} {i : Nat} {d : D} (h1 : f ρ s = .ok d s1) (hi : i < ρ.length) : ownS i f ρ s = .nxt (ρ.set i (ownD d)) s1 := by rw [ownS_ap, h1, thenS_ok, if_pos hi]
theorem rE {is : List Nat} {g : ExF S} (h : relAll ρ is = ρ) : relS' is g ρ s = g ρ s := by rw [relS_ap, h]
theorem sE {f g : ExF S} {ρ1 : List Sl} (h : f ρ s = .nxt ρ1 s1) : seqS f g ρ s = g ρ1 s1 := by rw [seqS_ap, h, next_nxt]
/-- if not like(x, y): return False -/
theorem likeIf {is : List Nat} {Fl : FF S} {fx fy : EvF S} {x : D} (hr : relAll ρ is = ρ) (hx : fx ρ s = .ok x s) (hy : fy ρ s = .ok x s) (hl : Fl [x, x] s = .ok (.bl true) s) :
    relS' is (ifS (notT (truth (callF (⟨2, false, Fl⟩ : Fn S) (consA fx (consA fy nilA))))) (seqS (retV true (kD (.bl false))) nextS) nextS) ρ s = .nxt ρ s := by
  rw [rE hr, ifS_ap, notT_ap, truth_ap, caE (n := 2) (c2 hx hy) rfl hl]
  rfl
end
end Wd

set_option maxHeartbeats 0
/-! R80: k80's run. -/
namespace D80
open PySem PySem.Spec PyProof.Rows L2 Q Wd
abbrev w0 (Fd : FF Dw) : ExF Dw := (relS' [1] (ownS 3 (lstE (consA (kD .non) (consA (kD (.int 0)) (consA (kD (.bl true)) (consA (callF (⟨2, false, Fd⟩ : Fn Dw) (consA (vC 1) (consA (bin dPow (kD (.int 10)) (kD (.int 6))) nilA))) (consA (kD (.str "")) (consA (kD (.str "pile")) (consA (tupE nilA) (consA (tupE (consA (kD (.int 1)) (consA (kD (.str "a")) nilA))) (consA (lstE (consA (kD (.int 1)) (consA (lstE (consA (kD (.int 2)) nilA)) nilA))) (consA empE nilA)))))))))))))
abbrev w1 : ExF Dw := (appS 3 (dic1E (kD (.str "a")) (kD (.int 1))))
abbrev w2 (Fd : FF Dw) : ExF Dw := (relS' [1] (parS [(4, false), (5, false)] (consA (bin dIx (vK 3) (callF (⟨2, false, Fd⟩ : Fn Dw) (consA (vC 1) (consA (kD (.int 11)) nilA)))) (consA (bin dIx (vK 3) (callF (⟨2, false, Fd⟩ : Fn Dw) (consA (vC 1) (consA (kD (.int 11)) nilA)))) nilA))))
abbrev w3 : ExF Dw := (asgS (lstE (consA (mkxE "BadMenu" ["number"] true (consA (vC 4) nilA)) (consA (mkxE "BadLog" ["place"] true (consA (vC 4) nilA)) (consA (mkxE "BadText" ["line", "word"] true (consA (vC 4) (consA (vC 5) nilA))) nilA)))) (tN 6))
abbrev w4 : ExF Dw := (asgS (lstE (consA (mkxE "BadMenu" ["number"] false (consA (vC 4) nilA)) (consA (mkxE "BadLog" ["place"] false (consA (vC 4) nilA)) (consA (mkxE "BadText" ["line", "word"] false (consA (vC 5) (consA (vC 4) nilA))) nilA)))) (tN 7))
abbrev w6 (Fl Fc : FF Dw) : ExF Dw := (relS' [4] (ifS (orT (testB (bin dNe (callF (⟨1, false, Fc⟩ : Fn Dw) (consA (mkxE "TooGreat" ["most"] true (consA (vC 4) nilA)) nilA)) (lstE (consA (kD (.str "great")) nilA)))) (notT (truth (callF (⟨2, false, Fl⟩ : Fn Dw) (consA (fldxE fxA "most" (mkxE "TooGreat" ["most"] true (consA (vC 4) nilA))) (consA (vC 4) nilA)))))) (seqS (retV true (kD (.bl false))) nextS) nextS))
abbrev v00 (Fc : FF Dw) : ExF Dw := (ifS (testB (bin dNe (callF (⟨1, false, Fc⟩ : Fn Dw) (consA (bin dIx (vK 8) (vK 9)) nilA)) (lstE (consA (bin dIx (lstE (consA (kD (.str "menu")) (consA (kD (.str "log")) (consA (kD (.str "text")) nilA)))) (vK 9)) (consA (kD (.str "own")) (consA (kD (.str "sort")) nilA)))))) (seqS (retV true (kD (.bl false))) nextS) nextS)
abbrev v0 (Fc : FF Dw) : ExF Dw := forS (iRange1 (kD (.int 3))) (tN 9) (seqS (v00 Fc) nextS)
abbrev v1 : ExF Dw := (asgS (lstE (consA (fldxE fxA "number" (bin dIx (vK 8) (kD (.int 0)))) (consA (fldxE fxA "place" (bin dIx (vK 8) (kD (.int 1)))) (consA (fldxE fxA "line" (bin dIx (vK 8) (kD (.int 2)))) (consA (fldxE fxA "word" (bin dIx (vK 8) (kD (.int 2)))) nilA))))) (tN 10))
abbrev v2 (Fl : FF Dw) : ExF Dw := (relS' [10, 4, 5] (ifS (notT (truth (callF (⟨2, false, Fl⟩ : Fn Dw) (consA (vC 10) (consA (bin dAdd (bin dMul (lstE (consA (vC 4) nilA)) (kD (.int 3))) (lstE (consA (vC 5) nilA))) nilA))))) (seqS (retV true (kD (.bl false))) nextS) nextS))
abbrev w5B (Fl Fc : FF Dw) : ExF Dw := seqS (v0 Fc) (seqS v1 (seqS (v2 Fl) nextS))
abbrev w5 (Fl Fc : FF Dw) : ExF Dw := relS' [6, 7] (forS (iSeq (tupE (consA (vC 6) (consA (vC 7) nilA)))) (tN 8) (w5B Fl Fc))
abbrev wB (Fd Fl Fc : FF Dw) : ExF Dw := seqS (w0 Fd) (seqS w1 (seqS (w2 Fd) (seqS w3 (seqS w4 (seqS (w5 Fl Fc) (seqS (w6 Fl Fc) nextS))))))
theorem claw_cut (Fd Fl Fc : FF Dw) : claw Fd Fl Fc = seqS (forS (iRange1 (bin dAdd (kD (.int 3)) (biF bMin (consA (kD (.int 6)) (consA (biF bLen (consA (vK 0) nilA)) nilA))))) (tN 2) (wB Fd Fl Fc)) (seqS (retV true (kD (.bl true))) nextS) := rfl
def things (x : Int) : List D := [.non, .int 0, .bl true, .int x, .str "", .str "pile", .tup [], .tup [.int 1, .str "a"], .lst [.int 1, .lst [.int 2]], .emp, .box (.dS ["a"]) [.int 1]]
abbrev bM (q : D) : D := .box (.exc "BadMenu" ["number"]) [q]
abbrev bL (q : D) : D := .box (.exc "BadLog" ["place"]) [q]
abbrev bT (q z : D) : D := .box (.exc "BadText" ["word", "line"]) [z, q]
abbrev bG (q : D) : D := .box (.exc "TooGreat" ["most"]) [q]
abbrev L3 (q z : D) : D := .lst [bM q, bL q, bT q z]
section
variable {s : Dw} {q z : D}
theorem cls_M : (F_law_classes [bM q] s : Res Dw D) = .ok (.lst [.str "menu", .str "own", .str "sort"]) s := by kernel_rfl
theorem cls_L : (F_law_classes [bL q] s : Res Dw D) = .ok (.lst [.str "log", .str "own", .str "sort"]) s := by kernel_rfl
theorem cls_T : (F_law_classes [bT q z] s : Res Dw D) = .ok (.lst [.str "text", .str "own", .str "sort"]) s := by kernel_rfl
theorem cls_G : (F_law_classes [bG q] s : Res Dw D) = .ok (.lst [.str "great"]) s := by kernel_rfl
theorem like80 {d : D} (h : ReprOk d) (s : Dw) : F_law_like [d, d] s = .ok (.bl true) s := by
  obtain ⟨x, e⟩ := h
  show endR false (c_law_like [Sl.val d, Sl.val d] s) = _
  simp [c_law_like, e, dEq_same]
/-- what is known of a thing -/
structure Th (d : D) : Prop where
  rw : Rw d 3 40
  rp : ReprOk d
theorem th_of {x : Int} (h0 : 0 ≤ x) (h1 : x < 1000000) : ∀ d ∈ things x, Th d := by
  intro d hd
  have hlog : x.natAbs.log2 < 1920 := by
    by_cases hx : x.natAbs = 0
    · rw [hx]; decide
    · exact (Nat.log2_lt hx).mpr (Nat.lt_trans (show x.natAbs < 1000000 by omega) (by decide +kernel))
  simp only [things, List.mem_cons, List.not_mem_nil, or_false] at hd
  rcases hd with rfl | rfl | rfl | rfl | rfl | rfl | rfl | rfl | rfl | rfl | rfl
  · exact ⟨rw_non.up (by omega) (by omega), "None", rfl⟩
  · exact ⟨(rw_int (by omega) (by omega)).up (by omega) (by omega), toString (0 : Int), by kernel_rfl⟩
  · exact ⟨(rw_bl _).up (by omega) (by omega), "True", by kernel_rfl⟩
  · exact ⟨(rw_int h0 (by omega)).up (by omega) (by omega), toString x, by
      show (if x.natAbs.log2 < 1920 then _ else none) = _
      rw [if_pos hlog]⟩
  · exact ⟨⟨.str "", by simp [toPyE], ⟨by decide +kernel, by decide +kernel, by decide +kernel⟩⟩, reprText "", by kernel_rfl⟩
  · exact ⟨⟨.str "pile", by simp [toPyE], ⟨by decide +kernel, by decide +kernel, by decide +kernel⟩⟩, reprText "pile", by kernel_rfl⟩
  · exact ⟨⟨.tuple [], by kernel_rfl, ⟨by decide +kernel, by decide +kernel, by decide +kernel⟩⟩, PyData.shown (.tuple []), by kernel_rfl⟩
  · exact ⟨⟨.tuple [.int 1, .str "a"], by kernel_rfl, ⟨by decide +kernel, by decide +kernel, by decide +kernel⟩⟩, PyData.shown (.tuple [.int 1, .str "a"]), by kernel_rfl⟩
  · exact ⟨⟨.list [.int 1, .list [.int 2]], by kernel_rfl, ⟨by decide +kernel, by decide +kernel, by decide +kernel⟩⟩, PyData.shown (.list [.int 1, .list [.int 2]]), by kernel_rfl⟩
  · exact ⟨⟨.dict [], by kernel_rfl, ⟨by decide +kernel, by decide +kernel, by decide +kernel⟩⟩, PyData.shown (.dict []), by kernel_rfl⟩
  · exact ⟨⟨.dict [(.str "a", .int 1)], by kernel_rfl, ⟨by decide +kernel, by decide +kernel, by decide +kernel⟩⟩, PyData.shown (.dict [(.str "a", .int 1)]), by kernel_rfl⟩
theorem repr4 (hq : Th q) (hz : Th z) : ReprOk (.lst [q, q, q, z]) := repr_of (rw_lst (rwl_cons hq.rw (rwl_cons hq.rw (rwl_cons hq.rw (rwl_cons hz.rw (rwl_nil (k := 0))))))) (by omega) (by omega) (.inr ⟨_, rfl⟩)
theorem things_at {x : Int} {r : Int} (h0 : 0 ≤ r) (h1 : r < 11) : ∃ d ∈ things x, dIx (.lst (things x)) (.int r) = some d := by
  obtain ⟨k, rfl⟩ : ∃ k : Nat, r = k := ⟨r.toNat, by omega⟩
  have hk : k < 11 := by omega
  have hl : (things x).length = 11 := rfl
  refine ⟨(things x)[k]'(by rw [hl]; exact hk), List.getElem_mem _, ?_⟩
  match k, hk with
  | 0, _ => rfl
  | 1, _ => rfl
  | 2, _ => rfl
  | 3, _ => rfl
  | 4, _ => rfl
  | 5, _ => rfl
  | 6, _ => rfl
  | 7, _ => rfl
  | 8, _ => rfl
  | 9, _ => rfl
  | 10, _ => rfl
theorem pow6 : dPow (.int 10) (.int 6) = some (.int 1000000) := by kernel_rfl
theorem ne1 : dNe (.lst [.str "menu", .str "own", .str "sort"]) (.lst [.str "menu", .str "own", .str "sort"]) = some (.bl false) := by kernel_rfl
theorem ne2 : dNe (.lst [.str "log", .str "own", .str "sort"]) (.lst [.str "log", .str "own", .str "sort"]) = some (.bl false) := by kernel_rfl
theorem ne3 : dNe (.lst [.str "text", .str "own", .str "sort"]) (.lst [.str "text", .str "own", .str "sort"]) = some (.bl false) := by kernel_rfl
theorem ne4 : dNe (.lst [.str "great"]) (.lst [.str "great"]) = some (.bl false) := by kernel_rfl
/-- the slots -/
abbrev r80 (a : Ad) (x0 x2 x3 x4 x5 x6 x7 x8 x9 x10 : Sl) : List Sl := [x0, Sl.val (.opq (.ref a.m)), x2, x3, x4, x5, x6, x7, x8, x9, x10]
variable {a : Ad} {x0 x2 x3 x4 x5 x6 x7 x8 x9 x10 : Sl} {ts : List D}
abbrev rQ (a : Ad) (x0 x2 : Sl) (ts : List D) (q z : D) (x8 x9 x10 : Sl) : List Sl := r80 a x0 x2 (.own ts) (Sl.val q) (Sl.val z) (Sl.val (L3 q z)) (Sl.val (L3 q z)) x8 x9 x10
theorem w3_h : w3 (r80 a x0 x2 (.own ts) (Sl.val q) (Sl.val z) x6 x7 x8 x9 x10) s = .nxt (r80 a x0 x2 (.own ts) (Sl.val q) (Sl.val z) (Sl.val (L3 q z)) x7 x8 x9 x10) s := by
  unfold w3
  rw [aE (d := L3 q z) (lE (c3 (d := bM q) (e := bL q) (x := bT q z) rfl rfl rfl) (by simp)) (by simp)]
  rfl
theorem w4_h : w4 (r80 a x0 x2 (.own ts) (Sl.val q) (Sl.val z) x6 x7 x8 x9 x10) s = .nxt (r80 a x0 x2 (.own ts) (Sl.val q) (Sl.val z) x6 (Sl.val (L3 q z)) x8 x9 x10) s := by
  unfold w4
  rw [aE (d := L3 q z) (lE (c3 (d := bM q) (e := bL q) (x := bT q z) rfl rfl rfl) (by simp)) (by simp)]
  rfl
abbrev rB (a : Ad) (x0 x2 : Sl) (ts : List D) (q z : D) (x9 x10 : Sl) : List Sl := rQ a x0 x2 ts q z (Sl.val (L3 q z)) x9 x10
theorem v00_h {k : Int} {d : D} {w l : D} (h1 : dIx (L3 q z) (.int k) = some d) (h2 : F_law_classes [d] s = .ok l s) (h3 : dIx (.lst [.str "menu", .str "log", .str "text"]) (.int k) = some w) (h4 : dNe l (.lst [w, .str "own", .str "sort"]) = some (.bl false)) :
    v00 F_law_classes (rB a x0 x2 ts q z (Sl.val (.int k)) x10) s = .nxt (rB a x0 x2 ts q z (Sl.val (.int k)) x10) s := by
  unfold v00
  rw [ifS_ap, testB_ap, bE (caE (n := 1) (c1 (bE (vKk rfl) (vKk rfl) h1)) rfl h2) (lE (c3 (bE (lE (ds := [.str "menu", .str "log", .str "text"]) (c3 kOk kOk kOk) (by decide)) (vKk rfl) h3) kOk kOk) (by simp)) h4, bind_okS, tbK_bl, thenS_ok, if_neg (by decide)]
  rfl
theorem v0_h : v0 F_law_classes (rB a x0 x2 ts q z x9 x10) s = .nxt (rB a x0 x2 ts q z (Sl.val (.int 2)) x10) s := by
  have er : iRange1 (kD (.int 3)) (rB a x0 x2 ts q z x9 x10) s = .ok (rangeD (0 : Nat) 3) s := iR1 (hi := 3) kOk (by omega)
  have t0 := v00_h (a := a) (x0 := x0) (x2 := x2) (ts := ts) (q := q) (z := z) (x10 := x10) (k := 0) (d := bM q) rfl (cls_M (s := s)) rfl ne1
  have t1 := v00_h (a := a) (x0 := x0) (x2 := x2) (ts := ts) (q := q) (z := z) (x10 := x10) (k := 1) (d := bL q) rfl (cls_L (s := s)) rfl ne2
  have t2 := v00_h (a := a) (x0 := x0) (x2 := x2) (ts := ts) (q := q) (z := z) (x10 := x10) (k := 2) (d := bT q z) rfl (cls_T (s := s)) rfl ne3
  unfold v0
  rw [forS_ap, er, thenS_ok]
  show forGo (tN 9) _ [.int 0, .int 1, .int 2] _ _ = _
  rw [forGo_cons (ρ1 := rB a x0 x2 ts q z (Sl.val (.int 0)) x10) (by simp), sE t0, nextS_ap, turn_nxt, forGo_cons (ρ1 := rB a x0 x2 ts q z (Sl.val (.int 1)) x10) (by simp), sE t1, nextS_ap, turn_nxt, forGo_cons (ρ1 := rB a x0 x2 ts q z (Sl.val (.int 2)) x10) (by simp), sE t2, nextS_ap, turn_nxt]
  rfl
theorem v1_h : v1 (rB a x0 x2 ts q z x9 x10) s = .nxt (rB a x0 x2 ts q z x9 (Sl.val (.lst [q, q, q, z]))) s := by
  unfold v1
  have e1 : (fldxE fxA "number" (bin dIx (vK 8) (kD (.int 0))) : EvF Dw) (rB a x0 x2 ts q z x9 x10) s = .ok q s := rfl
  have e2 : (fldxE fxA "place" (bin dIx (vK 8) (kD (.int 1))) : EvF Dw) (rB a x0 x2 ts q z x9 x10) s = .ok q s := rfl
  have e3 : (fldxE fxA "line" (bin dIx (vK 8) (kD (.int 2))) : EvF Dw) (rB a x0 x2 ts q z x9 x10) s = .ok q s := rfl
  have e4 : (fldxE fxA "word" (bin dIx (vK 8) (kD (.int 2))) : EvF Dw) (rB a x0 x2 ts q z x9 x10) s = .ok z s := rfl
  rw [aE (lE (cA e1 (c3 e2 e3 e4)) (by simp)) (by simp)]
  rfl
theorem mul3 (q : D) : dMul (.lst [q]) (.int 3) = some (.lst [q, q, q]) := by
  simp only [dMul]
  rw [if_pos ⟨by omega, sz (by simp)⟩]
  rfl
theorem add31 (q z : D) : dAdd (.lst [q, q, q]) (.lst [z]) = some (.lst [q, q, q, z]) := by
  simp [dAdd, sz]
theorem v2_h (hq : Th q) (hz : Th z) : v2 F_law_like (rB a x0 x2 ts q z x9 (Sl.val (.lst [q, q, q, z]))) s = .nxt (rB a x0 x2 ts q z x9 (Sl.val (.lst [q, q, q, z]))) s := by
  have e2 : bin dAdd (bin dMul (lstE (consA (vC 4) nilA)) (kD (.int 3))) (lstE (consA (vC 5) nilA)) (rB a x0 x2 ts q z x9 (Sl.val (.lst [q, q, q, z]))) s = .ok (.lst [q, q, q, z]) s := bE (bE (lE (c1 (vOk rfl)) (by simp)) kOk (mul3 q)) (lE (c1 (vOk rfl)) (by simp)) (add31 q z)
  unfold v2
  exact likeIf (by cases q <;> cases z <;> rfl) (vOk rfl) e2 (like80 (repr4 hq hz) s)
theorem w5B_h (hq : Th q) (hz : Th z) : w5B F_law_like F_law_classes (rB a x0 x2 ts q z x9 x10) s = .nxt (rB a x0 x2 ts q z (Sl.val (.int 2)) (Sl.val (.lst [q, q, q, z]))) s := by
  unfold w5B
  rw [sE v0_h, sE v1_h, sE (v2_h hq hz)]
  rfl
theorem w5_h (hq : Th q) (hz : Th z) : w5 F_law_like F_law_classes (rQ a x0 x2 ts q z x8 x9 x10) s = .nxt (rB a x0 x2 ts q z (Sl.val (.int 2)) (Sl.val (.lst [q, q, q, z]))) s := by
  have er : (iSeq (tupE (consA (vC 6) (consA (vC 7) nilA))) : EvL' Dw) (rQ a x0 x2 ts q z x8 x9 x10) s = .ok [L3 q z, L3 q z] s := iT (tE (c2 (vOk rfl) (vOk rfl)) (by simp))
  unfold w5
  rw [rE rfl, forS_ap, er, thenS_ok, forGo_cons (ρ1 := rB a x0 x2 ts q z x9 x10) (by simp), w5B_h hq hz, turn_nxt, forGo_cons (ρ1 := rB a x0 x2 ts q z (Sl.val (.int 2)) (Sl.val (.lst [q, q, q, z]))) (by simp), w5B_h hq hz, turn_nxt]
  rfl
theorem w6_h (hq : Th q) : w6 F_law_like F_law_classes (rB a x0 x2 ts q z x9 x10) s = .nxt (rB a x0 x2 ts q z x9 x10) s := by
  have e0 : (mkxE "TooGreat" ["most"] true (consA (vC 4) nilA) : EvF Dw) (rB a x0 x2 ts q z x9 x10) s = .ok (bG q) s := rfl
  have e1 : (fldxE fxA "most" (mkxE "TooGreat" ["most"] true (consA (vC 4) nilA)) : EvF Dw) (rB a x0 x2 ts q z x9 x10) s = .ok q s := rfl
  unfold w6
  rw [rE (by cases q <;> rfl), ifS_ap, orT_ap, testB_ap, bE (caE (n := 1) (c1 e0) rfl cls_G) (lE (ds := [.str "great"]) (c1 kOk) (by decide)) ne4, bind_okS, tbK_bl, bind_okS, if_neg (by decide), notT_ap, truth_ap, caE (n := 2) (c2 e1 (vOk rfl)) rfl (like80 hq.rp s)]
  rfl
theorem turn80 (hac : a.c ≠ a.g) {B : Int} (k : Sk B s) (hB : B < 1000) : ∃ (y3 y4 y5 y6 y7 y8 y9 y10 : Sl) (s' : Dw), wB (F_law_draw a) F_law_like F_law_classes (r80 a x0 x2 x3 x4 x5 x6 x7 x8 x9 x10) s = .nxt (r80 a x0 x2 y3 y4 y5 y6 y7 y8 y9 y10) s' ∧ Sk (B + 3) s' := by
  obtain ⟨x, s1, d1, x0', x1', k1⟩ := draws hac s B 1000000 k (by omega) (by omega) (big_lt (by omega))
  obtain ⟨i, s2, d2, i0, i1, k2⟩ := draws hac s1 (B + 1) 11 k1 (by omega) (by omega) (big_lt (by omega))
  obtain ⟨j, s3, d3, j0, j1, k3⟩ := draws hac s2 (B + 1 + 1) 11 k2 (by omega) (by omega) (big_lt (by omega))
  obtain ⟨q, hq, eq⟩ := things_at (x := x) i0 i1
  obtain ⟨z, hz, ez⟩ := things_at (x := x) j0 j1
  have tq := th_of x0' x1' q hq
  have tz := th_of x0' x1' z hz
  have b0 : w0 (F_law_draw a) (r80 a x0 x2 x3 x4 x5 x6 x7 x8 x9 x10) s = .nxt (r80 a x0 x2 (.own ((things x).take 10)) x4 x5 x6 x7 x8 x9 x10) s1 := by
    unfold w0
    rw [rE rfl, oE (d := .lst ((things x).take 10)) (lE (cA kOk (cA kOk (cA kOk (cA (caE (n := 2) (c2 (vOk rfl) (bE kOk kOk pow6)) rfl d1) (cA kOk (cA kOk (cA (tE nA (by simp)) (cA (tE (c2 kOk kOk) (by simp)) (c2 (lE (c2 kOk (lE (c1 kOk) (by simp))) (by simp)) rfl))))))))) (by simp [things])) (by simp)]
    rfl
  have b1 : w1 (r80 a x0 x2 (.own ((things x).take 10)) x4 x5 x6 x7 x8 x9 x10) s1 = .nxt (r80 a x0 x2 (.own (things x)) x4 x5 x6 x7 x8 x9 x10) s1 := by
    unfold w1
    rw [appS_own (ds := (things x).take 10) rfl]
    show thenS _ (Res.ok (D.box (Bx.dS ["a"]) [.int 1]) s1) _ = _
    rw [thenS_ok, if_pos (by rw [sizeLine_eq]; simp [things])]
    rfl
  have b2 : w2 (F_law_draw a) (r80 a x0 x2 (.own (things x)) x4 x5 x6 x7 x8 x9 x10) s1 = .nxt (r80 a x0 x2 (.own (things x)) (Sl.val q) (Sl.val z) x6 x7 x8 x9 x10) s3 := by
    unfold w2
    rw [rE rfl]
    unfold parS
    rw [c2 (bE (vKo rfl) (caE (n := 2) (c2 (vOk rfl) kOk) rfl d2) eq) (bE (vKo rfl) (caE (n := 2) (c2 (vOk rfl) kOk) rfl d3) ez), thenS_ok]
    rfl
  refine ⟨.own (things x), Sl.val q, Sl.val z, Sl.val (L3 q z), Sl.val (L3 q z), Sl.val (L3 q z), Sl.val (.int 2), Sl.val (.lst [q, q, q, z]), s3, ?_, k3.mono (by omega)⟩
  unfold wB
  rw [sE b0, sE b1, sE b2, sE w3_h, sE w4_h, sE (w5_h tq tz), sE (w6_h tq), nextS_ap]
theorem loop80 (hac : a.c ≠ a.g) : ∀ (n : Nat) (m : Int) (s : Dw) (B : Int) (x2 x3 x4 x5 x6 x7 x8 x9 x10 : Sl), Sk B s → B + 3 * n < 1000 → ∃ y2 y3 y4 y5 y6 y7 y8 y9 y10 s', forGo (tN 2) (wB (F_law_draw a) F_law_like F_law_classes) (rangeD m n) (r80 a x0 x2 x3 x4 x5 x6 x7 x8 x9 x10) s = .nxt (r80 a x0 y2 y3 y4 y5 y6 y7 y8 y9 y10) s'
  | 0, m, s, B, x2, x3, x4, x5, x6, x7, x8, x9, x10, _, _ => ⟨_, _, _, _, _, _, _, _, _, s, rfl⟩
  | n + 1, m, s, B, x2, x3, x4, x5, x6, x7, x8, x9, x10, k, hB => by
    obtain ⟨y3, y4, y5, y6, y7, y8, y9, y10, s1, e, k1⟩ := turn80 (x0 := x0) (x2 := Sl.val (.int m)) (x3 := x3) (x4 := x4) (x5 := x5) (x6 := x6) (x7 := x7) (x8 := x8) (x9 := x9) (x10 := x10) hac k (by omega)
    obtain ⟨z2, z3, z4, z5, z6, z7, z8, z9, z10, s2, e2⟩ := loop80 hac n (m + 1) s1 (B + 3) (Sl.val (.int m)) y3 y4 y5 y6 y7 y8 y9 y10 k1 (by omega)
    refine ⟨z2, z3, z4, z5, z6, z7, z8, z9, z10, s2, ?_⟩
    rw [rangeD, forGo_cons (ρ1 := r80 a x0 (Sl.val (.int m)) x3 x4 x5 x6 x7 x8 x9 x10) (by simp), e, turn_nxt]
    exact e2
end
theorem lawRun (a : Ad) (hac : a.c ≠ a.g) {ns : List Int} (hn : ns.length ≤ 63) {s : Dw} (hk : Sk 0 s) : ∃ (b : Bool) (s' : Dw), claw (F_law_draw a) F_law_like F_law_classes (rho0 nlaw [.scr (iD ns), .opq (.ref a.m)]) s = .ret b (.bl true) s' := by
  obtain ⟨j, hj, ej⟩ : ∃ j : Nat, j ≤ 9 ∧ (3 + (if (ns.length : Int) < 6 then (ns.length : Int) else 6) : Int) = j := by
    split
    · exact ⟨3 + ns.length, by omega, by omega⟩
    · exact ⟨9, by omega, by omega⟩
  have hmin : bMin [.int 6, .int ns.length] = some (.int (if (ns.length : Int) < 6 then (ns.length : Int) else 6)) := rfl
  have q0 : iRange1 (S := Dw) (bin dAdd (kD (.int 3)) (biF bMin (consA (kD (.int 6)) (consA (biF bLen (consA (vK 0) nilA)) nilA)))) (r80 a (Sl.val (.scr (iD ns))) .no .no .no .no .no .no .no .no .no) s = .ok (rangeD (0 : Nat) j) s := iR1 (hi := j) (by simp [bLen_scr, hmin]; exact ej) (by omega)
  obtain ⟨y2, y3, y4, y5, y6, y7, y8, y9, y10, s', e⟩ := loop80 (x0 := Sl.val (.scr (iD ns))) hac j ((0 : Nat) : Int) s 0 .no .no .no .no .no .no .no .no .no hk (by omega)
  refine ⟨true, s', ?_⟩
  rw [claw_cut]
  show seqS _ _ (r80 a (Sl.val (.scr (iD ns))) .no .no .no .no .no .no .no .no .no) s = _
  rw [seqS_ap, forS_ap, q0, thenS_ok, e, next_nxt]
  rfl
end D80

/-! Lay41: own classes with two fields, from the looked-at part. -/
namespace Q
open PySem PySem.Spec PyProof.Rows L2
/-- __init__ of two fields: d.fld, then f2 -/
structure IniS3 (d : IniD) (f2 a b b2 : Str) : Prop where
  s : SupS3 a b b2 d.scope
  ne : d.fld ≠ f2
  ps : ∃ ar : Arg, (d.params.posonlyargs ++ d.params.args).head? = some ar ∧ ar.arg = a
  bd : ∃ (kk : Nat) (p0 p1 p2 p3 p4 p5 q1 q2 q3 q4 r1 r2 r3 r4 : Pos) (txt : Str), d.body = [.Expr (.Call (.Attribute (.Call (.Name "super" p0) [] [] p1) "__init__" p2) [.Constant (.str txt) kk p3] [] p4) p5, .Assign [.Attribute (.Name a q1) d.fld q2] (.Name b q3) q4, .Assign [.Attribute (.Name a r1) f2 r2] (.Name b2 r3) r4] ∧
    ∃ pl : Env → Sem Bool, ∀ env, eval (.Call (.Attribute (.Call (.Name "super" p0) [] [] p1) "__init__" p2) [.Constant (.str txt) kk p3] [] p4) env = (do
      let ov ← attributeBase (.Call (.Name "super" p0) [] [] p1) "__init__" env (eval (.Call (.Name "super" p0) [] [] p1) env)
      standAt p2.atName
      let (f, first) ← holding [ov] (getMethod ov "__init__" (pl env))
      callWith p4 f first (backTo p4 (starEach [.Constant (.str txt) kk p3] env)) [])
  bi : ∀ (kV doc pm : Value) (an : Option Addr) (cdv ct : Value) (cc : Addr) (us : List Value), us.length = 3 → bindArgs (PySem.W.ksFn "__init__" d.qual d.params d.body d.scope .none kV doc pm an cdv ct cc) ⟨us, []⟩ = pure ([a, b, b2].zip us)
  d1 : (a == ("__debug__" : Str)) = false
  d2 : (a == ("__classdict__" : Str)) = false
  d3 : (b == ("__debug__" : Str)) = false
  d4 : (b == ("__classdict__" : Str)) = false
  d5 : (b2 == ("__debug__" : Str)) = false
  d6 : (b2 == ("__classdict__" : Str)) = false
end Q


/-! Bx81: own errors that are made as values, from the looked-at part. -/
namespace Q
open PySem PySem.Spec PyProof.Rows L2
/-- what ObkM wants of a class -/
def XmM (P : Program) (w : World) (K : PySem.W.Frag) (mg : Str → Option Value) (base : Heap) (x : Str) (fs : List Str) : Prop :=
  ∃ (fI : Addr) (fd : FuncData) (ps : List Str) (sp : Sp), mg x = some (.ref (gaQ K x)) ∧ (OexC K (gaQ K x) ∨ OexO K (gaQ K x)) ∧ PySem.W.findIn K (.ref (gaQ K x)) "__init__" = some (some (.ref fI)) ∧ PySem.W.typeIn K (.ref fI) = some (.type "function") ∧
    FnOk P w K mg base (fun _ _ _ _ _ _ => False) 1 fI fd ps sp ∧ Binds K fd ps [] ∧ KwX K fd ps fs ∧ SpX fs (gaQ K x) sp
theorem kw1_of {K : PySem.W.Frag} {fd : FuncData} {a b f : Str} (h : ∀ u w : Value, bindArgs fd ⟨[u], [(f, w)]⟩ = pure ([a, b].zip [u, w])) : KwX K fd [a, b] [f] := by
  refine ⟨fun s us ws hK h1 h2 M A E Q q => ?_, fun {vs us zs ws} r1 r2 => r1.append r2.reverse⟩
  match us, ws, h1, h2 with
  | [u], [w], _, _ => exact wpAny_of_eq (h u w) q
theorem kw2_of {K : PySem.W.Frag} {fd : FuncData} {a b b2 f f2 : Str} (h : ∀ u w w2 : Value, bindArgs fd ⟨[u], [(f2, w2), (f, w)]⟩ = pure ([a, b, b2].zip [u, w, w2])) : KwX K fd [a, b, b2] [f, f2] := by
  refine ⟨fun s us ws hK h1 h2 M A E Q q => ?_, fun {vs us zs ws} r1 r2 => r1.append r2.reverse⟩
  match us, ws, h1, h2 with
  | [u], [w2, w], _, _ => exact wpAny_of_eq (h u w w2) q
section
variable {P : Program} {w : World} {K : PySem.W.Frag} {mg : Str → Option Value} {base : Heap} {file f2 a b b2 : Str} {d : IniD}
theorem xm1_of (e : iniOf K d.cls = d.val) (h : supB K file d.cls d.fld = true) (S : IniS d a b) (hk : ∀ (kV doc pm : Value) (an : Option Addr) (cdv ct : Value) (cc : Addr) (u w : Value), bindArgs (PySem.W.ksFn "__init__" d.qual d.params d.body d.scope .none kV doc pm an cdv ct cc) ⟨[u], [(d.fld, w)]⟩ = pure ([a, b].zip [u, w]))
    (hf : ((P.main.file : Str) == file) = true) (hm : mg d.cls = some (.ref (He.ga K d.cls))) (sup : mg "super" = none) (top : (P.main.scope.names.lookup ("super" : Str)).isSome = false) : XmM P w K mg base d.cls [d.fld] := by
  obtain ⟨⟨h1, h2, h3, h4, h5, h6, h7, h8⟩, oc, od, kV, doc, pm, ct, an, osl, cda, cc, ccl, cl, cdd, cld, ccs, csl, vs0, tf, g1, g2, g3, g4, g5⟩ := supB_ok e h
  obtain ⟨ar, ha, har⟩ := S.ps
  obtain ⟨kk, p0, p1, p2, p3, p4, p5, q1, q2, q3, q4, txt, hbd, pl, hcall⟩ := S.bd
  have bi := fun us hl => S.bi kV doc pm an (.ref cda) ct cc us hl
  have bk := fun u w => hk kV doc pm an (.ref cda) ct cc u w
  rw [hbd] at g1
  have T : SupC K mg P (He.ga K d.cls) d.fld := ⟨h1, h2, h3, h4, h5, h6, sup, top⟩
  refine ⟨He.ma K (He.ga K d.cls) "__init__", _, [a, b], _, hm, .inl h1, h7, h8, sup_run (k := 0) S.s T g1 ha har g2 g3 g4 hf g5 hcall S.d1 S.d2 S.d3 S.d4, ?_, ?_, rfl⟩ <;> rw [← hbd]
  · exact Binds.all bi
  · exact kw1_of bk
theorem xmO_of (e : iniOf K d.cls = d.val) (h : supOB K file d.cls d.fld = true) (S : IniS d a b) (hk : ∀ (kV doc pm : Value) (an : Option Addr) (cdv ct : Value) (cc : Addr) (u w : Value), bindArgs (PySem.W.ksFn "__init__" d.qual d.params d.body d.scope .none kV doc pm an cdv ct cc) ⟨[u], [(d.fld, w)]⟩ = pure ([a, b].zip [u, w]))
    (hf : ((P.main.file : Str) == file) = true) (hm : mg d.cls = some (.ref (He.ga K d.cls))) (sup : mg "super" = none) (top : (P.main.scope.names.lookup ("super" : Str)).isSome = false) : XmM P w K mg base d.cls [d.fld] := by
  obtain ⟨⟨h1, h2, h3, h4, h5, h6, h7, h8⟩, oc, od, kV, doc, pm, ct, an, osl, cda, cc, ccl, cl, cdd, cld, ccs, csl, vs0, tf, g1, g2, g3, g4, g5⟩ := supOB_ok e h
  obtain ⟨ar, ha, har⟩ := S.ps
  obtain ⟨kk, p0, p1, p2, p3, p4, p5, q1, q2, q3, q4, txt, hbd, pl, hcall⟩ := S.bd
  have bi := fun us hl => S.bi kV doc pm an (.ref cda) ct cc us hl
  have bk := fun u w => hk kV doc pm an (.ref cda) ct cc u w
  rw [hbd] at g1
  have T : SupO K mg P (He.ga K d.cls) d.fld := ⟨h1, h2, h3, h4, h5, h6, sup, top⟩
  refine ⟨He.ma K (He.ga K d.cls) "__init__", _, [a, b], _, hm, .inr h1, h7, h8, sup_runO (k := 0) S.s T g1 ha har g2 g3 g4 hf g5 hcall S.d1 S.d2 S.d3 S.d4, ?_, ?_, rfl⟩ <;> rw [← hbd]
  · exact Binds.all bi
  · exact kw1_of bk
theorem xm2_of (e : iniOf K d.cls = d.val) (h : supB K file d.cls d.fld = true) (hf2 : supB K file d.cls f2 = true) (S : IniS3 d f2 a b b2) (hk : ∀ (kV doc pm : Value) (an : Option Addr) (cdv ct : Value) (cc : Addr) (u w w2 : Value), bindArgs (PySem.W.ksFn "__init__" d.qual d.params d.body d.scope .none kV doc pm an cdv ct cc) ⟨[u], [(f2, w2), (d.fld, w)]⟩ = pure ([a, b, b2].zip [u, w, w2]))
    (hf : ((P.main.file : Str) == file) = true) (hm : mg d.cls = some (.ref (He.ga K d.cls))) (sup : mg "super" = none) (top : (P.main.scope.names.lookup ("super" : Str)).isSome = false) : XmM P w K mg base d.cls [d.fld, f2] := by
  obtain ⟨⟨h1, h2, h3, h4, h5, h6, h7, h8⟩, oc, od, kV, doc, pm, ct, an, osl, cda, cc, ccl, cl, cdd, cld, ccs, csl, vs0, tf, g1, g2, g3, g4, g5⟩ := supB_ok e h
  obtain ⟨⟨_, _, _, _, h52, _, _, _⟩, _⟩ := supB_ok (d := { d with fld := f2 }) e hf2
  obtain ⟨ar, ha, har⟩ := S.ps
  obtain ⟨kk, p0, p1, p2, p3, p4, p5, q1, q2, q3, q4, r1, r2, r3, r4, txt, hbd, pl, hcall⟩ := S.bd
  have bi := fun us hl => S.bi kV doc pm an (.ref cda) ct cc us hl
  have bk := fun u w w2 => hk kV doc pm an (.ref cda) ct cc u w w2
  rw [hbd] at g1
  have T : SupC K mg P (He.ga K d.cls) d.fld := ⟨h1, h2, h3, h4, h5, h6, sup, top⟩
  have T2 : SupC K mg P (He.ga K d.cls) f2 := ⟨h1, h2, h3, h4, h52, h6, sup, top⟩
  refine ⟨He.ma K (He.ga K d.cls) "__init__", _, [a, b, b2], _, hm, .inl h1, h7, h8, sup_run3 (k := 0) S.s T T2 S.ne g1 ha har g2 g3 g4 hf g5 hcall S.d1 S.d2 S.d3 S.d4 S.d5 S.d6, ?_, ?_, rfl⟩ <;> rw [← hbd]
  · exact Binds.all bi
  · exact kw2_of bk
end
end Q

set_option maxHeartbeats 0
namespace D80
open PySem PySem.Spec PyProof.Rows L2 Q Wd LamX
abbrev PP : Program := (PySem.Challenge.rw_pilerules_k80_errors_of_the_third_part).prog
abbrev Says (h : Heap) (K : PySem.W.Frag) : Prop := SaysQ H80.fa H80.fn H80.inis H80.tf H80.exB h K
abbrev cQ (K : PySem.W.Frag) : Str → Option Addr := clsQ H80.clNames K
abbrev Lq (K : PySem.W.Frag) : List (Addr × Str) := tabL H80.tf K
theorem exB_ok {K : PySem.W.Frag} (h : H80.exB0 K = true) : (∀ x f, (x, f) ∈ H80.exNames → supB K H80.file x f = true) ∧ ∀ x ∈ H80.clNames, L2.XfC K (He.ga K x) ∧ PySem.W.exmOne K (.ref (He.ga K x)) (.ref (He.ga K x)) = some true ∧ ∀ y ∈ H80.clNames, PySem.W.exmOne K (.ref (He.ga K x)) (.ref (He.ga K y)) = some (decide (x = y)) := by
  obtain ⟨h, _⟩ := He.ba h
  obtain ⟨h, _⟩ := He.ba h
  obtain ⟨h1, h2⟩ := He.ba h
  obtain ⟨h2, h3⟩ := He.ba h2
  have k3 : ∀ x ∈ H80.clNames, ∀ y ∈ H80.clNames, PySem.W.exmOne K (.ref (He.ga K x)) (.ref (He.ga K y)) = some (decide (x = y)) := fun x hx y hy => of_decide_eq_true (List.all_eq_true.mp (List.all_eq_true.mp h3 x hx) y hy)
  exact ⟨fun x f hx => List.all_eq_true.mp h1 (x, f) hx, fun x hx => ⟨L2.xfB_ok (List.all_eq_true.mp h2 x hx), by have := k3 x hx x hx; rwa [decide_eq_true rfl] at this, k3 x hx⟩⟩
theorem exB_sys {K : PySem.W.Frag} (h : H80.exB0 K = true) : Q.SysOk K := sysOk_of (He.ba (He.ba h).2).1
section
variable {w : World} {K : PySem.W.Frag} {mg : Str → Option Value} {h : Heap} {base : Heap}
theorem glo_all (X : K.In h) (G : h.Ns mainGlobals mg) (c : Says h K) : ∀ x d, glo x = some d → ∃ v u, mg x = some u ∧ RelV v u ∧ (∀ H F, Rp K H F v d) ∧ ∀ ds, d ≠ .lst ds := fun x d e => nomatch e
theorem blt_all (X : K.In h) (G : h.Ns mainGlobals mg) (c : Says h K) : ∀ x ∈ bltNames, mg (Str.ofString x) = none := by
  intro x hx
  simp only [bltNames, List.mem_cons, List.not_mem_nil, or_false] at hx
  rcases hx with rfl | rfl | rfl | rfl | rfl | rfl | rfl | rfl | rfl | rfl | rfl | rfl | rfl | rfl | rfl | rfl | rfl | rfl | rfl | rfl
  · exact He.free_ok X G (c.d.fact 7 (f := .free "len") rfl)
  · exact He.free_ok X G (c.d.fact 8 (f := .free "int") rfl)
  · exact He.free_ok X G (c.d.fact 9 (f := .free "abs") rfl)
  · exact He.free_ok X G (c.d.fact 10 (f := .free "tuple") rfl)
  · exact He.free_ok X G (c.d.fact 11 (f := .free "list") rfl)
  · exact He.free_ok X G (c.d.fact 12 (f := .free "sum") rfl)
  · exact He.free_ok X G (c.d.fact 13 (f := .free "max") rfl)
  · exact He.free_ok X G (c.d.fact 14 (f := .free "min") rfl)
  · exact He.free_ok X G (c.d.fact 15 (f := .free "all") rfl)
  · exact He.free_ok X G (c.d.fact 16 (f := .free "any") rfl)
  · exact He.free_ok X G (c.d.fact 17 (f := .free "repr") rfl)
  · exact He.free_ok X G (c.d.fact 18 (f := .free "isinstance") rfl)
  · exact He.free_ok X G (c.d.fact 19 (f := .free "range") rfl)
  · exact He.free_ok X G (c.d.fact 20 (f := .free "enumerate") rfl)
  · exact He.free_ok X G (c.d.fact 21 (f := .free "zip") rfl)
  · exact He.free_ok X G (c.d.fact 22 (f := .free "bool") rfl)
  · exact He.free_ok X G (c.d.fact 23 (f := .free "str") rfl)
  · exact He.free_ok X G (c.d.fact 24 (f := .free "dict") rfl)
  · exact He.free_ok X G (c.d.fact 25 (f := .free "sorted") rfl)
  · exact He.free_ok X G (c.d.fact 26 (f := .free "set") rfl)
theorem obk_all {S : Type} {T : StK S} {k : Nat} (X : K.In h) (G : h.Ns mainGlobals mg) (c : Says h K) (hk : 2 ≤ k) : ObkM PP w K mg base T (cQ K) k (obA (S := S)) := by
  obtain ⟨m0, m3⟩ := He.ba c.more
  obtain ⟨m1, m2⟩ := exB_ok m0
  obtain ⟨mO, mB⟩ := He.ba m3
  have sup := He.free_ok X G (c.d.fact 28 (f := .free "super") rfl)
  have hO : supOB K H80.file "TooGreat" "most" = true := List.all_eq_true.mp mO ("TooGreat", "most") (by decide +kernel)
  refine ⟨fun _ _ z => (by cases z), fun _ _ _ z => (by cases z), fun _ _ _ z => (by cases z), fun _ _ _ z => (by cases z), fun _ _ z => (by cases z), fun _ _ _ z => (by cases z), fun x fs e => ?_, fun n y b e => ?_, fun n f e => ?_⟩
  · simp only [obA, excA] at e
    by_cases hx : x = Str.ofString "BadMenu"
    · rw [if_pos hx] at e; subst hx; cases e
      have S : IniS (H80.ini "BadMenu" "number" "BadMenu.__init__" 8) "self" "number" := ⟨⟨rfl, rfl, rfl, by decide, rfl, rfl, by decide +kernel, free_by (by decide +kernel), rfl, rfl⟩, ⟨_, rfl, rfl⟩, ⟨_, _, _, _, _, _, _, _, _, _, _, _, rfl, plainOf (.Call (.Name "super" _) [] [] _), fun env => hcallQ _ _ rfl env⟩, fun _ _ _ _ _ _ _ us hl => match us, hl with | [_, _], _ => rfl, rfl, rfl, rfl, rfl⟩
      exact ⟨hk, xm1_of (file := H80.file) (d := (H80.ini "BadMenu" "number" "BadMenu.__init__" 8)) (c.iniAt (List.mem_iff_getElem?.mpr ⟨0, rfl⟩)) (m1 "BadMenu" "number" (by decide +kernel)) S (fun _ _ _ _ _ _ _ _ _ => rfl) (by kernel_rfl) (He.glo_ok X G (c.d.fact 35 (f := .glo "BadMenu") rfl)) sup (by kernel_rfl)⟩
    rw [if_neg hx] at e; clear hx
    by_cases hx : x = Str.ofString "BadLog"
    · rw [if_pos hx] at e; subst hx; cases e
      have S : IniS (H80.ini "BadLog" "place" "BadLog.__init__" 9) "self" "place" := ⟨⟨rfl, rfl, rfl, by decide, rfl, rfl, by decide +kernel, free_by (by decide +kernel), rfl, rfl⟩, ⟨_, rfl, rfl⟩, ⟨_, _, _, _, _, _, _, _, _, _, _, _, rfl, plainOf (.Call (.Name "super" _) [] [] _), fun env => hcallQ _ _ rfl env⟩, fun _ _ _ _ _ _ _ us hl => match us, hl with | [_, _], _ => rfl, rfl, rfl, rfl, rfl⟩
      exact ⟨hk, xm1_of (file := H80.file) (d := (H80.ini "BadLog" "place" "BadLog.__init__" 9)) (c.iniAt (List.mem_iff_getElem?.mpr ⟨1, rfl⟩)) (m1 "BadLog" "place" (by decide +kernel)) S (fun _ _ _ _ _ _ _ _ _ => rfl) (by kernel_rfl) (He.glo_ok X G (c.d.fact 36 (f := .glo "BadLog") rfl)) sup (by kernel_rfl)⟩
    rw [if_neg hx] at e; clear hx
    by_cases hx : x = Str.ofString "BadText"
    · rw [if_pos hx] at e; subst hx; cases e
      have S : IniS3 (H80.ini "BadText" "line" "BadText.__init__" 10) "word" "self" "line" "word" := ⟨⟨rfl, rfl, rfl, by decide, by decide, by decide, rfl, rfl, rfl, by decide +kernel, free_by (by decide +kernel), rfl, rfl⟩, by decide, ⟨_, rfl, rfl⟩, ⟨_, _, _, _, _, _, _, _, _, _, _, _, _, _, _, _, rfl, plainOf (.Call (.Name "super" _) [] [] _), fun env => hcallQ _ _ rfl env⟩, fun _ _ _ _ _ _ _ us hl => match us, hl with | [_, _, _], _ => rfl, rfl, rfl, rfl, rfl, rfl, rfl⟩
      exact ⟨hk, xm2_of (file := H80.file) (d := (H80.ini "BadText" "line" "BadText.__init__" 10)) (c.iniAt (List.mem_iff_getElem?.mpr ⟨3, rfl⟩)) (m1 "BadText" "line" (by decide +kernel)) (m1 "BadText" "word" (by decide +kernel)) S (fun _ _ _ _ _ _ _ _ _ _ => rfl) (by kernel_rfl) (He.glo_ok X G (c.d.fact 37 (f := .glo "BadText") rfl)) sup (by kernel_rfl)⟩
    rw [if_neg hx] at e; clear hx
    by_cases hx : x = Str.ofString "TooGreat"
    · rw [if_pos hx] at e; subst hx; cases e
      have S : IniS (H80.ini "TooGreat" "most" "TooGreat.__init__" 11) "self" "most" := ⟨⟨rfl, rfl, rfl, by decide, rfl, rfl, by decide +kernel, free_by (by decide +kernel), rfl, rfl⟩, ⟨_, rfl, rfl⟩, ⟨_, _, _, _, _, _, _, _, _, _, _, _, rfl, plainOf (.Call (.Name "super" _) [] [] _), fun env => hcallQ _ _ rfl env⟩, fun _ _ _ _ _ _ _ us hl => match us, hl with | [_, _], _ => rfl, rfl, rfl, rfl, rfl⟩
      exact ⟨hk, xmO_of (file := H80.file) (d := (H80.ini "TooGreat" "most" "TooGreat.__init__" 11)) (c.iniAt (List.mem_iff_getElem?.mpr ⟨2, rfl⟩)) hO S (fun _ _ _ _ _ _ _ _ _ => rfl) (by kernel_rfl) (He.glo_ok X G (c.d.fact 38 (f := .glo "TooGreat") rfl)) sup (by kernel_rfl)⟩
    rw [if_neg hx] at e; clear hx
    cases e
  · have e : isxA n y = some b := e
    have hy : y ∈ xasked := by
      unfold isxA at e
      split at e
      · rename_i z; simpa using z
      · cases e
    have hn : n ∈ xown ++ (["TooGreat"] : List Str) := by
      unfold isxA at e
      split at e
      · split at e
        · rename_i z; exact List.mem_append_left _ (by simpa using z)
        · split at e
          · rename_i z; exact List.mem_append_right _ (by rw [z]; exact List.mem_singleton.mpr rfl)
          · cases e
      · cases e
    obtain ⟨b1, b2⟩ := He.ba (List.all_eq_true.mp mB n hn)
    have b3 := of_decide_eq_true (List.all_eq_true.mp b2 y hy)
    rw [e] at b3
    refine ⟨excB_ok b1, H80.yv K y, ?_, b3⟩
    simp only [xasked, List.mem_cons, List.not_mem_nil, or_false] at hy
    rcases hy with rfl | rfl | rfl | rfl | rfl | rfl | rfl | rfl | rfl | rfl | rfl | rfl
    · exact .inl ⟨He.glo_ok X G (c.d.fact 29 (f := .glo "BadSorter") rfl), _, rfl⟩
    · exact .inl ⟨He.glo_ok X G (c.d.fact 30 (f := .glo "BadWants") rfl), _, rfl⟩
    · exact .inl ⟨He.glo_ok X G (c.d.fact 31 (f := .glo "BadLengths") rfl), _, rfl⟩
    · exact .inl ⟨He.glo_ok X G (c.d.fact 32 (f := .glo "BadSystem") rfl), _, rfl⟩
    · exact .inl ⟨He.glo_ok X G (c.d.fact 33 (f := .glo "BadNumber") rfl), _, rfl⟩
    · exact .inl ⟨He.glo_ok X G (c.d.fact 34 (f := .glo "BadPaper") rfl), _, rfl⟩
    · exact .inl ⟨He.glo_ok X G (c.d.fact 35 (f := .glo "BadMenu") rfl), _, rfl⟩
    · exact .inl ⟨He.glo_ok X G (c.d.fact 36 (f := .glo "BadLog") rfl), _, rfl⟩
    · exact .inl ⟨He.glo_ok X G (c.d.fact 37 (f := .glo "BadText") rfl), _, rfl⟩
    · exact .inl ⟨He.glo_ok X G (c.d.fact 39 (f := .glo "PileError") rfl), _, rfl⟩
    · exact .inr ⟨He.free_ok X G (c.d.fact 27 (f := .free "ValueError") rfl), "ValueError", by kernel_rfl, rfl, by decide⟩
    · exact .inl ⟨He.glo_ok X G (c.d.fact 38 (f := .glo "TooGreat") rfl), _, rfl⟩
  · have e : fxA n f = true := e
    unfold fxA at e
    rw [List.any_eq_true] at e
    obtain ⟨p, hp, e⟩ := e
    obtain ⟨e1, e2⟩ := He.ba e
    have e1 := of_decide_eq_true e1
    have e2 := of_decide_eq_true e2
    subst e1 e2
    simp only [xfields, List.mem_cons, List.not_mem_nil, or_false] at hp
    rcases hp with rfl | rfl | rfl | rfl | rfl
    · exact ⟨(m2 "BadMenu" (by decide +kernel)).1, (supB_ok (d := H80.ini "BadMenu" "number" "BadMenu.__init__" 8) (c.iniAt (d := H80.ini "BadMenu" "number" "BadMenu.__init__" 8) (List.mem_iff_getElem?.mpr ⟨0, rfl⟩)) (m1 "BadMenu" "number" (by decide +kernel))).1.2.2.2.2.1⟩
    · exact ⟨(m2 "BadLog" (by decide +kernel)).1, (supB_ok (d := H80.ini "BadLog" "place" "BadLog.__init__" 9) (c.iniAt (d := H80.ini "BadLog" "place" "BadLog.__init__" 9) (List.mem_iff_getElem?.mpr ⟨1, rfl⟩)) (m1 "BadLog" "place" (by decide +kernel))).1.2.2.2.2.1⟩
    · exact ⟨(m2 "BadText" (by decide +kernel)).1, (supB_ok (d := H80.ini "BadText" "line" "BadText.__init__" 10) (c.iniAt (d := H80.ini "BadText" "line" "BadText.__init__" 10) (List.mem_iff_getElem?.mpr ⟨3, rfl⟩)) (m1 "BadText" "line" (by decide +kernel))).1.2.2.2.2.1⟩
    · exact ⟨(m2 "BadText" (by decide +kernel)).1, (supB_ok (d := { (H80.ini "BadText" "line" "BadText.__init__" 10) with fld := "word" }) (c.iniAt (d := H80.ini "BadText" "line" "BadText.__init__" 10) (List.mem_iff_getElem?.mpr ⟨3, rfl⟩)) (m1 "BadText" "word" (by decide +kernel))).1.2.2.2.2.1⟩
    · exact ⟨(m2 "TooGreat" (by decide +kernel)).1, (supOB_ok (d := H80.ini "TooGreat" "most" "TooGreat.__init__" 11) (c.iniAt (d := H80.ini "TooGreat" "most" "TooGreat.__init__" 11) (List.mem_iff_getElem?.mpr ⟨2, rfl⟩)) hO).1.2.2.2.2.1⟩
theorem m_law_mixed {S : Type} {T : StK S} (X : K.In h) (G : h.Ns mainGlobals mg) (c : Says h K) : CalM PP w K mg base T (cQ K) 1 "_law_mixed" ⟨2, false, F_law_mixed⟩ := by
  obtain ⟨fd, F⟩ := c.d.def_ 0 (d := H80.dd "_law_mixed" 13) rfl
  have hS : FnScope n_law_mixed ["_law_cell", "_law_n"] (defScope (top 13)) := ⟨rfl, rfl, rfl, by decide +kernel, rfl, by decide +kernel, by decide +kernel⟩
  have hg : ∀ ds : List D, GkM PP w K mg base T (cQ K) 0 (k_law_mixed (S := S)).G := fun ds => by
    refine ⟨glo_all X G c, fun x f e => ?_, blt_all X G c, fun C h1 h2 h3 => moreSp_ok rfl, (fun _ _ e => nomatch e), fun _ => rfl, exB_sys (He.ba c.more).1, (fun _ _ _ e => nomatch e), obkM_no rfl⟩
    simp only [k_law_mixed, g_law_mixed] at e
    cases e
  refine ⟨_, fd, ["_law_cell", "_law_n"], ?_, He.glo_ok X G (c.d.fact 0 (f := .glo "_law_mixed") rfl), F.kp, F.bindsN fun _ _ _ _ _ _ us hl => match us, hl with | [_, _], _ => rfl⟩
  have r := fn_run F hS false (fun ds _ => k_law_mixed (S := S)) 60 (fun ds s => ⟨rfl, rfl, hg ds, fun _ _ _ xd g => moreSt2_ok rfl xd g⟩)
  have e : runDef false (fun ds _ => k_law_mixed (S := S)) 60 n_law_mixed (["_law_cell", "_law_n"] : List Str).length (defBody (top 13)) = ⟨2, false, F_law_mixed⟩ := by
    unfold runDef
    simp only [e_law_mixed]
    rfl
  rw [← e]
  exact r
theorem m_law_folded {S : Type} {T : StK S} (X : K.In h) (G : h.Ns mainGlobals mg) (c : Says h K) : CalM PP w K mg base T (cQ K) 1 "_law_folded" ⟨1, true, F_law_folded⟩ := by
  obtain ⟨fd, F⟩ := c.d.def_ 1 (d := H80.dd "_law_folded" 14) rfl
  have hS : FnScope n_law_folded ["_law_script"] (defScope (top 14)) := ⟨rfl, rfl, rfl, by decide +kernel, rfl, by decide +kernel, by decide +kernel⟩
  have hg : ∀ ds : List D, GkM PP w K mg base T (cQ K) 0 (k_law_folded (S := S)).G := fun ds => by
    refine ⟨glo_all X G c, fun x f e => ?_, blt_all X G c, fun C h1 h2 h3 => moreSp_ok rfl, (fun _ _ e => nomatch e), fun _ => rfl, exB_sys (He.ba c.more).1, (fun _ _ _ e => nomatch e), obkM_no rfl⟩
    simp only [k_law_folded, g_law_folded] at e
    cases e
  refine ⟨_, fd, ["_law_script"], ?_, He.glo_ok X G (c.d.fact 1 (f := .glo "_law_folded") rfl), F.kp, F.bindsN fun _ _ _ _ _ _ us hl => match us, hl with | [_], _ => rfl⟩
  have r := fn_run F hS true (fun ds _ => k_law_folded (S := S)) 60 (fun ds s => ⟨rfl, rfl, hg ds, fun _ _ _ xd g => moreSt2_ok rfl xd g⟩)
  have e : runDef true (fun ds _ => k_law_folded (S := S)) 60 n_law_folded (["_law_script"] : List Str).length (defBody (top 14)) = ⟨1, true, F_law_folded⟩ := by
    unfold runDef
    simp only [e_law_folded]
    rfl
  rw [← e]
  exact r
theorem m_law_draw (a : Ad) (X : K.In h) (G : h.Ns mainGlobals mg) (c : Says h K) : CalM PP w K mg base (TD a) (cQ K) 2 "_law_draw" ⟨2, false, F_law_draw a⟩ := by
  obtain ⟨fd, F⟩ := c.d.def_ 2 (d := H80.dd "_law_draw" 15) rfl
  have hS : FnScope n_law_draw ["_law_m", "_law_limit"] (defScope (top 15)) := ⟨rfl, rfl, rfl, by decide +kernel, rfl, by decide +kernel, by decide +kernel⟩
  have hg : ∀ ds : List D, GkM PP w K mg base (TD a) (cQ K) 1 (k_law_draw a (F_law_mixed)).G := fun ds => by
    refine ⟨glo_all X G c, fun x f e => ?_, blt_all X G c, fun C h1 h2 h3 => drawSp_ok h2 rfl, (fun _ _ e => nomatch e), fun _ => rfl, exB_sys (He.ba c.more).1, (fun _ _ _ e => nomatch e), obkM_no rfl⟩
    simp only [k_law_draw, g_law_draw] at e
    by_cases hx : x = Str.ofString "_law_mixed"
    · rw [if_pos hx] at e; subst hx; cases e; exact (m_law_mixed X G c).mono (by decide)
    rw [if_neg hx] at e; clear hx
    cases e
  refine ⟨_, fd, ["_law_m", "_law_limit"], ?_, He.glo_ok X G (c.d.fact 2 (f := .glo "_law_draw") rfl), F.kp, F.bindsN fun _ _ _ _ _ _ us hl => match us, hl with | [_, _], _ => rfl⟩
  have r := fn_run F hS false (fun ds _ => k_law_draw a (F_law_mixed)) 60 (fun ds s => ⟨rfl, rfl, hg ds, fun h1 h2 h3 xd g => drawSt_ok h2 rfl xd g⟩)
  have e : runDef false (fun ds _ => k_law_draw a (F_law_mixed)) 60 n_law_draw (["_law_m", "_law_limit"] : List Str).length (defBody (top 15)) = ⟨2, false, F_law_draw a⟩ := by
    unfold runDef
    simp only [e_law_draw]
    rfl
  rw [← e]
  exact r
theorem m_law_like {S : Type} {T : StK S} (X : K.In h) (G : h.Ns mainGlobals mg) (c : Says h K) : CalM PP w K mg base T (cQ K) 1 "_law_like" ⟨2, false, F_law_like⟩ := by
  obtain ⟨fd, F⟩ := c.d.def_ 4 (d := H80.dd "_law_like" 17) rfl
  have hS : FnScope n_law_like ["_law_answer", "_law_due"] (defScope (top 17)) := ⟨rfl, rfl, rfl, by decide +kernel, rfl, by decide +kernel, by decide +kernel⟩
  have hg : ∀ ds : List D, GkM PP w K mg base T (cQ K) 0 (k_law_like (S := S)).G := fun ds => by
    refine ⟨glo_all X G c, fun x f e => ?_, blt_all X G c, fun C h1 h2 h3 => moreSp_ok rfl, (fun _ _ e => nomatch e), fun _ => rfl, exB_sys (He.ba c.more).1, (fun _ _ _ e => nomatch e), obkM_no rfl⟩
    simp only [k_law_like, g_law_like] at e
    cases e
  refine ⟨_, fd, ["_law_answer", "_law_due"], ?_, He.glo_ok X G (c.d.fact 4 (f := .glo "_law_like") rfl), F.kp, F.bindsN fun _ _ _ _ _ _ us hl => match us, hl with | [_, _], _ => rfl⟩
  have r := fn_run F hS false (fun ds _ => k_law_like (S := S)) 60 (fun ds s => ⟨rfl, rfl, hg ds, fun _ _ _ xd g => moreSt2_ok rfl xd g⟩)
  have e : runDef false (fun ds _ => k_law_like (S := S)) 60 n_law_like (["_law_answer", "_law_due"] : List Str).length (defBody (top 17)) = ⟨2, false, F_law_like⟩ := by
    unfold runDef
    simp only [e_law_like]
    rfl
  rw [← e]
  exact r
theorem m_law_classes {S : Type} {T : StK S} (X : K.In h) (G : h.Ns mainGlobals mg) (c : Says h K) : CalM PP w K mg base T (cQ K) 3 "_law_classes" ⟨1, false, F_law_classes⟩ := by
  obtain ⟨fd, F⟩ := c.d.def_ 5 (d := H80.dd "_law_classes" 18) rfl
  have hS : FnScope n_law_classes ["_law_error"] (defScope (top 18)) := ⟨rfl, rfl, rfl, by decide +kernel, rfl, by decide +kernel, by decide +kernel⟩
  have hg : ∀ ds : List D, GkM PP w K mg base T (cQ K) 2 (k_law_classes (S := S)).G := fun ds => by
    refine ⟨glo_all X G c, fun x f e => ?_, blt_all X G c, fun C h1 h2 h3 => excSp_ok rfl, (fun _ _ e => nomatch e), fun _ => rfl, exB_sys (He.ba c.more).1, (fun _ _ _ e => nomatch e), obk_all X G c (by decide)⟩
    simp only [k_law_classes, g_law_classes] at e
    cases e
  refine ⟨_, fd, ["_law_error"], ?_, He.glo_ok X G (c.d.fact 5 (f := .glo "_law_classes") rfl), F.kp, F.bindsN fun _ _ _ _ _ _ us hl => match us, hl with | [_], _ => rfl⟩
  have r := fn_run F hS false (fun ds _ => k_law_classes (S := S)) 60 (fun ds s => ⟨rfl, rfl, hg ds, fun _ _ _ xd g => moreSt2_ok rfl xd g⟩)
  have e : runDef false (fun ds _ => k_law_classes (S := S)) 60 n_law_classes (["_law_error"] : List Str).length (defBody (top 18)) = ⟨1, false, F_law_classes⟩ := by
    unfold runDef
    simp only [e_law_classes]
    rfl
  rw [← e]
  exact r
end
end D80

set_option maxHeartbeats 0
namespace D80
open PySem PySem.Spec PyProof.Rows L2 Q Wd LamX
def gBegun : Gk Unit := { glo := glo, cal := fun x => if x = "_law_folded" then some ⟨1, true, F_law_folded⟩ else none }
abbrev kLaw (a : Ad) : Dk Dw := klaw (F_law_draw a) (F_law_like) (F_law_classes)
section
variable {w : World} {K : PySem.W.Frag} {mg : Str → Option Value} {h : Heap} {base : Heap}
theorem mBegun (X : K.In h) (G : h.Ns mainGlobals mg) (c : Says h K) : ∃ fd, FnG PP w K mg base (L2.CX PP w) 27 (He.fAd K ("_law_begun", none)) fd ["_law_script"] (spBegun K) ∧ PySem.W.keepIn K (.ref (He.fAd K ("_law_begun", none))) = true ∧ Binds K fd ["_law_script"] [] := by
  obtain ⟨fd, F⟩ := c.d.def_ 3 (d := H80.dd "_law_begun" 16) rfl
  have hS : FnScope nBegun ["_law_script"] (defScope (top 16)) := ⟨rfl, rfl, rfl, by decide +kernel, rfl, by decide +kernel, by decide +kernel⟩
  have hg : GkM PP w K mg base TU (cQ K) 1 gBegun := by
    refine ⟨glo_all X G c, fun x f e => ?_, blt_all X G c, fun C h1 h2 h3 => spOk_no (fun _ _ _ _ => rfl), (fun _ _ e => nomatch e), fun _ => rfl, exB_sys (He.ba c.more).1, (fun _ _ _ e => nomatch e), obkM_no rfl⟩
    simp only [gBegun] at e
    split at e
    · rename_i hx; subst hx; cases e; exact (m_law_folded X G c).mono (by decide)
    cases e
  refine ⟨fd, ?_, F.kp, F.bindsN fun _ _ _ _ _ _ us hl => match us, hl with | [_], _ => rfl⟩
  exact (begun_ok F hS gBegun hg (bEc (defBody (top 16))) (bE1 (defBody (top 16))) ⟨_, _, _, _, _, _, _, _, _, _, _, _, _, _, _, _, _, _, _, rfl⟩ (by kernel_rfl) (by kernel_rfl) (Fo := F_law_folded) (by kernel_rfl) (by kernel_rfl) (fun ns => folded_spec ns ())).mono (by decide)
theorem mLaw (X : K.In h) (G : h.Ns mainGlobals mg) (c : Says h K) : ∃ fd, (∀ (s : Shared) (v : Value), BindsTo s fd ⟨[v], []⟩ [("_law_script", v)]) ∧ ∀ base : Heap, (∀ p ∈ H80.tf.map (He.cT K), TabB base mg p.1 p.2) → FnG PP w K mg base (L2.CX PP w) 28 (He.fAd K ("law", none)) fd ["_law_script"] (spLawT K (Lq K)) := by
  obtain ⟨fd, F⟩ := c.d.def_ 6 (d := H80.dd "law" 19) rfl
  have hS : FnScope nlaw ["_law_script"] (defScope (top 19)) := ⟨rfl, rfl, rfl, by decide +kernel, rfl, by decide +kernel, by decide +kernel⟩
  have b := FunD.bindsA (ps := ["_law_script"]) F fun _ _ _ _ _ _ us hl => match us, hl with | [_], _ => rfl
  refine ⟨fd, fun s v => b s [v] rfl, fun base tb => ?_⟩
  obtain ⟨fdb, B, kb, bb⟩ := mBegun (w := w) (base := base) X G c
  have hg : ∀ a : Ad, GkM PP w K mg base (TDT a (Lq K)) (cQ K) 25 (kLaw a).G := fun a => by
    refine ⟨glo_all X G c, fun x f e => ?_, blt_all X G c, fun C h1 h2 h3 => excSp_ok rfl, (fun _ _ e => nomatch e), fun _ => rfl, exB_sys (He.ba c.more).1, (fun _ _ _ e => nomatch e), obk_all X G c (by decide)⟩
    simp only [kLaw, klaw, glaw] at e
    by_cases hx : x = Str.ofString "_law_draw"
    · rw [if_pos hx] at e; subst hx; cases e; exact (m_law_draw a X G c).liftT.mono (by decide)
    rw [if_neg hx] at e; clear hx
    by_cases hx : x = Str.ofString "_law_like"
    · rw [if_pos hx] at e; subst hx; cases e; exact (m_law_like X G c).mono (by decide)
    rw [if_neg hx] at e; clear hx
    by_cases hx : x = Str.ofString "_law_classes"
    · rw [if_pos hx] at e; subst hx; cases e; exact (m_law_classes X G c).mono (by decide)
    rw [if_neg hx] at e; clear hx
    cases e
  refine law_okT (k := 27) (L := Lq K) (rest := (defBody (top 19)).drop 1) (m := 60) (cls := cQ K) F hS ⟨_, _, _, _, _, rfl⟩ (by kernel_rfl) (by kernel_rfl) (by kernel_rfl) B (He.glo_ok X G (c.d.fact 3 (f := .glo "_law_begun") rfl)) kb bb kLaw (fun ad => ⟨rfl, rfl, fun e1 e2 e3 x1 x2 x3 x4 x5 x6 x7 hr => gk_of (hg ad) e1 e2 e3 x1 x2 x3 x4 x5 (hr.mono (by decide)), fun _ _ _ xd g => moreSt2_ok rfl xd g⟩) fun ad ns s hac hn h64 h0 => ?_
  have er := elaw (F_law_draw ad) (F_law_like) (F_law_classes)
  obtain ⟨b, s', e⟩ := lawRun ad hac hn (s := s) ⟨h64, by omega, by omega⟩
  refine ⟨b, s', ?_⟩
  show exs (klaw (F_law_draw ad) (F_law_like) (F_law_classes)) 60 ((defBody (top 19)).drop 1) _ s = _
  rw [er]
  exact e
end
end D80
open PySem PySem.W PySem.Calls PyProof.Rows
theorem PySem.Challenge.cw_pilerules_k80_errors_of_the_third_part_holds : PySem.Challenge.rw_pilerules_k80_errors_of_the_third_part.Holds := by
  w_on; o_law
  refine HandSHeadRun.head_any (r := OpenLaw.row PySem.Challenge.rw_pilerules_k80_errors_of_the_third_part) (q := view (OpenLaw.row PySem.Challenge.rw_pilerules_k80_errors_of_the_third_part).prog [19]) (H := H80.hk) (ob := H80.ob) (M := 6000) (loose := H80.names) (d := HandSHeadRun.topDef (OpenLaw.row PySem.Challenge.rw_pilerules_k80_errors_of_the_third_part).prog 19) (kwd := []) H80.ob_eq
    (by kernel_rfl) (fun s => by kernel_rfl) H80.run (by kernel_rfl) (by kernel_rfl) (by kernel_rfl) (by rfl) (by first | assumption | decide +kernel) (by decide +kernel) ⟨rfl, rfl, rfl, rfl, rfl, by decide +kernel⟩ ?hw ?hc
  case hw => w_witness2
  case hc =>
    refine Q.walkT (l := PySem.Challenge.rw_pilerules_k80_errors_of_the_third_part) (n := 63) (k := 28) (x := "_law_script") rfl (by decide) (by kernel_rfl) ⟨rfl, by decide, by decide⟩ ?F
    intro w mg fa h Y G hmg0
    obtain ⟨K, KX, c⟩ := Y
    have hmg : mg ("law" : PySem.Str) = some (.ref fa) := by
      have e : (HandSHeadRun.topDef (OpenLaw.row PySem.Challenge.rw_pilerules_k80_errors_of_the_third_part).prog 19).name = ("law" : PySem.Str) := by kernel_rfl
      rw [← e]
      exact hmg0
    have e := hmg.symm.trans (He.glo_ok KX G (c.d.fact 6 (f := .glo "law") rfl))
    cases e
    obtain ⟨fd, hb, hF⟩ := D80.mLaw (w := w) KX G c
    refine ⟨K, fd, Q.spLawT K (D80.Lq K), H80.tf.map (He.cT K), KX, c.tabs, hb, fun H a ns hl ht hS => ⟨a, ns, rfl, hS, hl, fun p hp => ?_, fun _ => rfl⟩, fun base _ _ tb => hF base tb⟩
    obtain ⟨q, hq, rfl⟩ := List.mem_map.mp hp
    exact ht (He.cT K q) (List.mem_map.mpr ⟨q, hq, rfl⟩)

