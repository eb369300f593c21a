import PyProof.Rows.All
import Wide.All
import OpenK.AllK
import Wide.FinOn
import HandS.Codes
import HandS.Head0
import HandS.Head1
import HandS.Head2
import HandS.Head3
import HandS.HeadEnd
import HandS.HeadHook1
import HandS.HeadHook2
import HandS.Ends
import HandS.Property
import HandS.ClsMeth
import HandS.Words
import HandS.ForMost
import HandS.Exc
import HandS.TryOnly
import HandS.ExcOwn
import HandS.WordsExc
import HandS.CallSlots
import HandS.Star
import HandS.Defaults
import HandS.IsInst
import HandS.Flow
import KE.GoesEnum
import HandS.DictComp
import HandS.SetFor
import HandS.Strs
import HandS.OwnEq
import PyProof.NeKinds
import HandS.TupAny
import HandS.Text
import HandS.Gcd
import HandS.Style
import HandS.SortInts
import HandS.RaiseMore
import HandS.FStr
import HandS.Dict
import PyProof.InstNe
import HandS.SlotsOwn
import HandS.Conv
import KE.KOpsOwn
import KE.KDictPairs
import HandS.OwnIter
import HandS.IterNext
import HandS.MakeKwOnly
import HandS.Nested
import KE.KSuper
import PySem.Challenge.RW_headpasses_k81_whole_best_heads
set_option Elab.async false
set_option linter.all false
set_option maxRecDepth 1000000
set_option maxHeartbeats 8000000
/-! GChk -/
namespace GG
open PySem PySem.Spec PyProof.Rows L2
/-! ### the head's looks, by Booleans and addresses -/
def tyN : List String := ["int", "bool", "str", "list", "tuple", "dict", "NoneType"]
def allN (n : Nat) (p : Nat → Bool) : Bool := (List.range n).all p
def eqO (a b : Option (Option Value)) : Bool := decide (a = b)
def clsB (K : PySem.W.Frag) (C : Addr) : Bool := PySem.W.plainGet K C Str.empty && (PySem.W.hasDictIn K C && (PySem.W.plainOver K C && eqO (PySem.W.findIn K (.ref C) "__setattr__") (some (some (.builtin "object.__setattr__")))))
def clsIB (K : PySem.W.Frag) (C : Addr) : Bool := clsB K C && (eqO (PySem.W.findIn K (.ref C) "__class__") (some (some (.builtin "object.__class__"))) && (eqO (PySem.W.specialIn K (.builtin "object.__class__") "__get__") (some (some (.builtin "getset_descriptor.__get__"))) && (decide (PySem.W.takesIn K (.builtin "object.__class__") = some true) && decide (PySem.W.mroIn K C (.type "object") = some true))))
def isiB (K : PySem.W.Frag) (nc : Nat) (sub : Nat → Nat → Bool) (cls : Nat → Addr) : Bool :=
  allN nc (fun i => clsIB K (cls i)) && (allN nc (fun i => tyN.all fun n => decide (PySem.W.kitOne K (.ref (cls i)) (.type n) = some false)) &&
  (allN nc (fun j => tyN.all fun m => decide (PySem.W.kitOne K (.type m) (.ref (cls j)) = some false)) && allN nc (fun i => allN nc fun j => decide (PySem.W.kitOne K (.ref (cls i)) (.ref (cls j)) = some (sub i j)))))
def Kof (g : Addr → Option Obj) : List Addr → PySem.W.Frag → PySem.W.Frag
  | [], acc => acc
  | a :: r, acc => match g a with
    | some o => Kof g r ((a, o) :: acc)
    | none => Kof g r acc
def frK {β : Type} (g : Addr → Option Obj) (k : PySem.W.Frag → β) : List Addr → PySem.W.Frag → β
  | [], acc => k acc
  | a :: r, acc => match g a with
    | some o => frK g k r ((a, o) :: acc)
    | none => frK g k r acc
theorem frK_eq {β : Type} {g : Addr → Option Obj} {k : PySem.W.Frag → β} : ∀ {as : List Addr} {acc : PySem.W.Frag}, frK g k as acc = k (Kof g as acc)
  | [], _ => rfl
  | a :: r, acc => by
    unfold frK Kof
    cases g a with
    | some o => exact frK_eq
    | none => exact frK_eq
theorem kof_at {g : Addr → Option Obj} : ∀ {as : List Addr} {acc : PySem.W.Frag} {a : Addr} {o : Obj}, (∀ a o, acc.lookup a = some o → g a = some o) → (Kof g as acc).lookup a = some o → g a = some o
  | [], acc, a, o, ha, e => ha a o e
  | b :: r, acc, a, o, ha, e => by
    unfold Kof at e
    cases hb : g b with
    | none => rw [hb] at e; exact kof_at ha e
    | some ob =>
      rw [hb] at e
      refine kof_at (fun a' o' e' => ?_) e
      have e2 : (match a' == b with | true => some ob | false => List.lookup a' acc) = some o' := e'
      cases q : (a' == b) with
      | true => rw [q] at e2; cases e2; rw [beq_iff_eq.mp q, hb]
      | false => rw [q] at e2; exact ha _ _ e2
theorem kof_in {as : List Addr} {h : Heap} : (Kof h.get? as []).In h := fun _ _ e => kof_at (fun _ _ z => by cases z) e
/-- a function by its address -/
def fnA (K : PySem.W.Frag) (a : Addr) : He.FnW := match K.lookup a with
  | some ⟨_, _, .func fd, _⟩ => some (fd.name, fd.qualname, fd.params, fd.body, fd.scope, fd.globals, fd.closure, fd.builtins)
  | _ => none
abbrev AlA : Type := Bool × List He.FnW
def obsA (chk : PySem.W.Frag → Bool) (fas : List Addr) (K : PySem.W.Frag) : AlA := (chk K, fas.map (fnA K))
def hookA (as : List Addr) (chk : PySem.W.Frag → Bool) (fas : List Addr) (vals : List He.FnW) : PySem.W.Hook where
  α := AlA
  obs := fun s => frK s.heap.get? (obsA chk fas) as []
  val := fun _ => (true, vals)
  says := fun _ h => ∃ K : PySem.W.Frag, K.In h ∧ chk K = true ∧ fas.map (fnA K) = vals
  of := fun _ _ e => by
    rw [frK_eq] at e
    exact ⟨_, kof_in, (Prod.mk.inj e).1, (Prod.mk.inj e).2⟩
  keeps := fun _ _ _ ⟨K, hK, c⟩ k => ⟨K, PySem.W.Frag.In.keeps hK k, c⟩
def obA (as : List Addr) (chk : PySem.W.Frag → Bool) (fas : List Addr) (s : PySem.W.SharedT) : AlA := frK (HandSHeadRun.getT s) (obsA chk fas) as []
theorem obA_eq {as : List Addr} {chk : PySem.W.Frag → Bool} {fas : List Addr} {vals : List He.FnW} (s : PySem.W.SharedT) : obA as chk fas s = (hookA as chk fas vals).obs s.abs := by
  unfold obA
  rw [show HandSHeadRun.getT s = s.abs.heap.get? from funext (HandSHeadRun.getT_eq s)]
  rfl
def intB (K : PySem.W.Frag) (x : Str) (i : Int) : Bool := match PySem.W.nsIn K mainGlobals x with
  | some (some (.int j _)) => decide (j = i)
  | _ => false
def strB (K : PySem.W.Frag) (x z : Str) : Bool := match PySem.W.nsIn K mainGlobals x with
  | some (some (.str y _)) => decide (y = z)
  | _ => false
def mkB (K : PySem.W.Frag) (C f : Addr) : Bool := PySem.W.makesIn K C && (eqO (PySem.W.findIn K (.ref C) "__init__") (some (some (.ref f))) && (PySem.W.isFn K (.ref f) && PySem.W.keepIn K (.ref C)))
def fldB (K : PySem.W.Frag) (cls : Nat → Addr) (cs : List Nat) (f : Str) : Bool := cs.all fun c => clsB K (cls c) && eqO (PySem.W.findIn K (.ref (cls c)) f) (some none)
def recB (K : PySem.W.Frag) (p : Addr) (t : String) (g : Addr) : Bool := match PySem.W.recIn K p t with
  | some (.ref a :: _) => decide (a = g)
  | _ => false
def prB (K : PySem.W.Frag) (C : Addr) (f : Str) (p g : Addr) : Bool := eqO (PySem.W.findIn K (.ref C) f) (some (some (.ref p))) && (eqO (PySem.W.specialIn K (.ref p) "__get__") (some (some (.builtin "property.__get__"))) && (decide (PySem.W.takesIn K (.ref p) = some true) && recB K p "property" g))
def meB (K : PySem.W.Frag) (C : Addr) (m : Str) (f : Addr) : Bool := eqO (PySem.W.findIn K (.ref C) m) (some (some (.ref f))) && (PySem.W.isFn K (.ref f) && PySem.W.keepIn K (.ref f))
def crB (K : PySem.W.Frag) (C : Addr) (mc : Value) : Bool := PySem.W.readsIn K C mc && eqO (PySem.W.specialIn K (.ref C) "__getattribute__") (some (some (.builtin "type.__getattribute__")))
def smAtB (K : PySem.W.Frag) (C : Addr) (mc : Value) (m : Str) (p : Addr) : Bool := match PySem.W.findCls K (.ref C) mc m with
  | some (.get (.builtin g) (.ref q) .none (.ref D)) => decide (g = "staticmethod.__get__") && (decide (q = p) && decide (D = C))
  | _ => false
def smB (K : PySem.W.Frag) (C : Addr) (mc : Value) (m : Str) (p g : Addr) : Bool := smAtB K C mc m p && (recB K p "staticmethod" g && PySem.W.keepIn K (.ref g))
def dfnB (K : PySem.W.Frag) (a : Addr) (qual : Str) (dvs : List V) : Bool := PySem.W.keepIn K (.ref a) && (match K.lookup a with
  | some ⟨_, _, .func fd, _⟩ => PySem.W.codeIn K fd.code qual && He.dflB K fd.defaults dvs
  | _ => false)
def supB (K : PySem.W.Frag) (file0 : Str) (a cc c D : Addr) (qual : Str) : Bool := (match K.lookup a with
  | some ⟨_, _, .func fd, _⟩ => (match fd.defaults, fd.kwdefaults, fd.annotations with
    | .none, .none, none => (match fd.code with
      | .ref d => Nat.beq d c
      | _ => false)
    | _, _, _ => false)
  | _ => false) && (PySem.W.codeIn K (.ref c) qual && ((match K.lookup c with
  | some ⟨_, _, .fields vs, _⟩ => (match (vs[2]? : Option Value) with
    | some (Value.str file _) => file0 == file
    | _ => false)
  | _ => false) && ((match K.lookup cc with
  | some ⟨_, _, .cell (some (.ref d)), _⟩ => Nat.beq d D
  | _ => false) && ((PySem.W.clsIn K D).isSome && eqO (PySem.W.nsIn K cStatics "thirdparty.any") (some none)))))
def supMB (K : PySem.W.Frag) (C D g : Addr) (m : Str) : Bool := decide (PySem.W.mroIn K C (.ref D) = some true) && (eqO (PySem.W.ks_superIn K C D m) (some (some (.ref g))) && (decide (PySem.W.typeIn K (.ref g) = some (.type "function")) && PySem.W.fnIn K g))
/-- the i-th look -/
theorem chk_at {l : List Bool} (h : l.all id = true) (i : Nat) {b : Bool} (e : l[i]? = some b) : b = true := List.all_eq_true.mp h b (List.mem_of_getElem? e)
theorem fn_at {K : PySem.W.Frag} {fas : List Addr} {vals : List He.FnW} (h : fas.map (fnA K) = vals) (i : Nat) {a : Addr} {v : He.FnW} (ea : fas[i]? = some a) (ev : vals[i]? = some v) : fnA K a = v := by
  rw [← h, List.getElem?_map, ea] at ev
  exact Option.some.inj ev
end GG
/-! L81A -/
namespace L81
open PySem PySem.Spec PyProof.Rows L2 GG
def top (i : Nat) : Stmt := PySem.Challenge.pw_headpasses_k81_whole_best_heads.main.body.getD i (.Pass ⟨0, 0, 0, 0⟩)
def clsBody : Stmt → List Stmt
  | .ClassDef (body := b) .. => b
  | _ => []
def meth (i j : Nat) : Stmt := (clsBody (top i)).getD j (.Pass ⟨0, 0, 0, 0⟩)
def clsA : Nat → Addr := fun n => [538, 767, 893, 1105, 1164, 928].getD n 0
def faA : Nat → Addr := fun n => [237, 244, 251, 258, 279, 399, 406, 380, 415, 435, 443, 528, 506, 547, 552, 557, 562, 567, 586, 604, 676, 644, 814, 831, 839, 799, 961, 939, 1060, 1102, 1067, 918, 1161, 1114, 1119, 1126, 1133, 1140, 1145, 1173, 1180, 1187, 1192, 1199, 1206, 1213, 1221, 1228, 1235, 1242, 1247, 1252, 1257, 1264, 0, 0, 0, 0, 0, 0, 450].getD n 0
def paA : Nat → Addr := fun n => [237, 244, 251, 258, 279, 399, 408, 380, 417, 436, 443, 528, 506, 547, 552, 557, 562, 567, 586, 606, 676, 645, 814, 832, 840, 799, 961, 939, 1060, 1102, 1067, 918, 1161, 1114, 1119, 1126, 1133, 1140, 1145, 1173, 1180, 1187, 1192, 1199, 1206, 1213, 1221, 1228, 1235, 1242, 1247, 1252, 1257, 1264, 0, 0, 0, 0, 0, 0, 450].getD n 0
abbrev s_is_integer : Stmt := top 16
abbrev s_is_within : Stmt := top 17
abbrev s_is_offset : Stmt := top 18
abbrev s_is_list : Stmt := top 19
abbrev s_ascending : Stmt := top 22
abbrev s_Head_init : Stmt := meth 32 1
abbrev s_Head_of : Stmt := meth 32 2
abbrev s_moved_head : Stmt := top 30
abbrev s_Head_even : Stmt := meth 32 3
abbrev s_Head_span : Stmt := meth 32 5
abbrev s_Head_len : Stmt := meth 32 6
abbrev s_Head_eq : Stmt := meth 32 21
abbrev s_Head_invert : Stmt := meth 32 17
abbrev s_is_way : Stmt := top 34
abbrev s_has_way : Stmt := top 35
abbrev s_ordered_ways : Stmt := top 36
abbrev s_lean_ways : Stmt := top 37
abbrev s_subsets : Stmt := top 38
abbrev s_Wish_init : Stmt := meth 40 0
abbrev s_Wish_dots : Stmt := meth 40 2
abbrev s_Wish_is_met : Stmt := meth 40 11
abbrev s_Wish_span : Stmt := meth 40 6
abbrev s_Job_init : Stmt := meth 47 0
abbrev s_Job_span : Stmt := meth 47 2
abbrev s_Job_limit : Stmt := meth 47 3
abbrev s_need_job : Stmt := top 46
abbrev s_Ratio_init : Stmt := meth 55 0
abbrev s_ratio_of : Stmt := top 53
abbrev s_Ratio_eq : Stmt := meth 55 14
abbrev s_Ratio_compare : Stmt := meth 55 20
abbrev s_Ratio_lt : Stmt := meth 55 15
abbrev s_Paper_init : Stmt := meth 50 1
abbrev s_Rated_init : Stmt := meth 65 1
abbrev s_all_windows : Stmt := top 58
abbrev s_touching : Stmt := top 59
abbrev s_is_fed : Stmt := top 60
abbrev s_is_step : Stmt := top 61
abbrev s_behind : Stmt := top 62
abbrev s_web_of : Stmt := top 63
abbrev s_cost_of : Stmt := top 66
abbrev s_lowered : Stmt := top 67
abbrev s_ring_from : Stmt := top 68
abbrev s_priced : Stmt := top 69
abbrev s_rate_of : Stmt := top 70
abbrev s_rated : Stmt := top 71
abbrev s_least_rate : Stmt := top 72
abbrev s_best_heads : Stmt := top 75
abbrev s_law_pen : Stmt := top 77
abbrev s_law_draw : Stmt := top 78
abbrev s_law_pick : Stmt := top 79
abbrev s_law_heads : Stmt := top 80
abbrev s_Head_iter : Stmt := meth 32 7
abbrev s_law_best_right : Stmt := top 81
abbrev s_law_wider_right : Stmt := top 82
abbrev s_law : Stmt := top 83
end L81
/-! L81R -/
namespace L81
open PySem PySem.Spec PyProof.Rows L2 GG
def asA : List Addr := [449, 450, 1263, 1264, 1256, 1257, 1251, 1252, 1246, 1247, 1241, 1242, 1234, 1235, 1227, 1228, 1214, 1220, 1221, 1212, 1213, 1205, 1206, 1198, 1199, 1191, 1192, 1186, 1187, 1179, 1180, 1172, 1173, 1144, 1145, 1139, 1140, 1132, 1133, 1125, 1126, 1118, 1119, 1113, 1114, 1149, 1160, 1161, 917, 918, 1066, 1067, 1101, 1102, 1059, 1060, 938, 939, 954, 960, 961, 792, 798, 799, 838, 840, 839, 830, 832, 831, 807, 813, 814, 643, 645, 644, 675, 676, 597, 603, 606, 604, 585, 586, 566, 567, 561, 562, 556, 557, 551, 552, 546, 547, 505, 506, 527, 528, 442, 443, 434, 436, 435, 410, 414, 417, 415, 379, 380, 405, 408, 406, 398, 399, 278, 279, 257, 258, 250, 251, 243, 244, 236, 237, 927, 928, 1163, 1164, 1104, 1105, 892, 893, 766, 767, 537, 538, 2, 3]
def mcA : Nat → Value := fun _ => .type "type"
def subA : Nat → Nat → Bool := Nat.beq
def file0 : Str := "/claim/cut.py"
def chk_0 (K : PySem.W.Frag) : List Bool := [
  eqO (PySem.W.nsIn K mainGlobals ("isinstance" : PySem.Str)) (some none),
  isiB K 4 subA clsA,
  eqO (PySem.W.nsIn K mainGlobals ("int" : PySem.Str)) (some none),
  eqO (PySem.W.nsIn K mainGlobals ("bool" : PySem.Str)) (some none),
  PySem.W.keepIn K (.ref (faA 0)),
  eqO (PySem.W.nsIn K mainGlobals ("is_integer" : PySem.Str)) (some (some (.ref (faA 0)))),
  PySem.W.keepIn K (.ref (faA 1)),
  eqO (PySem.W.nsIn K mainGlobals ("is_within" : PySem.Str)) (some (some (.ref (faA 1)))),
  intB K ("MOST_OFFSET" : PySem.Str) 7,
  eqO (PySem.W.nsIn K mainGlobals ("list" : PySem.Str)) (some none),
  eqO (PySem.W.nsIn K mainGlobals ("tuple" : PySem.Str)) (some none),
  eqO (PySem.W.nsIn K mainGlobals ("sorted" : PySem.Str)) (some none),
  eqO (PySem.W.nsIn K mainGlobals ("set" : PySem.Str)) (some none),
  eqO (PySem.W.nsIn K mainGlobals ("enumerate" : PySem.Str)) (some none),
  PySem.W.keepIn K (.ref (faA 2)),
  eqO (PySem.W.nsIn K mainGlobals ("is_offset" : PySem.Str)) (some (some (.ref (faA 2)))),
  eqO (PySem.W.nsIn K mainGlobals ("len" : PySem.Str)) (some none),
  fldB K clsA [0] ("offsets" : PySem.Str),
  PySem.W.keepIn K (.ref (faA 3)),
  eqO (PySem.W.nsIn K mainGlobals ("is_list" : PySem.Str)) (some (some (.ref (faA 3))))]
def chk_1 (K : PySem.W.Frag) : List Bool := [
  mkB K (clsA 0) (faA 5),
  PySem.W.keepIn K (.ref (clsA 0)),
  eqO (PySem.W.nsIn K mainGlobals ("Head" : PySem.Str)) (some (some (.ref (clsA 0)))),
  eqO (PySem.W.nsIn K mainGlobals ("all" : PySem.Str)) (some none),
  intB K ("GREATEST" : PySem.Str) 7,
  PySem.W.keepIn K (.ref (faA 7)),
  eqO (PySem.W.nsIn K mainGlobals ("moved_head" : PySem.Str)) (some (some (.ref (faA 7)))),
  eqO (PySem.W.nsIn K mainGlobals ("range" : PySem.Str)) (some none),
  clsB K (clsA 0),
  prB K (clsA 0) ("span" : PySem.Str) (paA 9) (faA 9),
  PySem.W.keepIn K (.ref (faA 4)),
  eqO (PySem.W.nsIn K mainGlobals ("ascending" : PySem.Str)) (some (some (.ref (faA 4)))),
  eqO (PySem.W.nsIn K mainGlobals ("str" : PySem.Str)) (some none),
  eqO (PySem.W.nsIn K mainGlobals ("dict" : PySem.Str)) (some none),
  eqO (PySem.W.nsIn K mainGlobals ("any" : PySem.Str)) (some none),
  PySem.W.keepIn K (.ref (faA 14)),
  eqO (PySem.W.nsIn K mainGlobals ("has_way" : PySem.Str)) (some (some (.ref (faA 14)))),
  PySem.W.keepIn K (.ref (faA 15)),
  eqO (PySem.W.nsIn K mainGlobals ("ordered_ways" : PySem.Str)) (some (some (.ref (faA 15)))),
  PySem.W.keepIn K (.ref (faA 17))]
def chk_2 (K : PySem.W.Frag) : List Bool := [
  eqO (PySem.W.nsIn K mainGlobals ("subsets" : PySem.Str)) (some (some (.ref (faA 17)))),
  PySem.W.keepIn K (.ref (faA 13)),
  eqO (PySem.W.nsIn K mainGlobals ("is_way" : PySem.Str)) (some (some (.ref (faA 13)))),
  fldB K clsA [1] ("ways" : PySem.Str),
  PySem.W.keepIn K (.ref (faA 16)),
  eqO (PySem.W.nsIn K mainGlobals ("lean_ways" : PySem.Str)) (some (some (.ref (faA 16)))),
  fldB K clsA [1] ("offsets" : PySem.Str),
  eqO (PySem.W.findIn K (.ref (clsA 0)) ("__len__" : PySem.Str)) (some (some (.ref (faA 10)))),
  PySem.W.isFn K (.ref (faA 10)),
  mkB K (clsA 1) (faA 18),
  PySem.W.keepIn K (.ref (clsA 1)),
  eqO (PySem.W.nsIn K mainGlobals ("Wish" : PySem.Str)) (some (some (.ref (clsA 1)))),
  intB K ("MOST_PLACE" : PySem.Str) 1000000000000000000000000000000,
  fldB K clsA [2] ("wish" : PySem.Str),
  fldB K clsA [2] ("most" : PySem.Str),
  fldB K clsA [2] ("ahead" : PySem.Str),
  fldB K clsA [2] ("short" : PySem.Str),
  clsB K (clsA 1),
  prB K (clsA 1) ("span" : PySem.Str) (paA 21) (faA 21),
  clsB K (clsA 2)]
def chk_3 (K : PySem.W.Frag) : List Bool := [
  prB K (clsA 2) ("span" : PySem.Str) (paA 23) (faA 23),
  eqO (PySem.W.nsIn K mainGlobals ("Job" : PySem.Str)) (some (some (.ref (clsA 2)))),
  eqO (PySem.W.nsIn K mainGlobals ("gcd" : PySem.Str)) (some (some (.builtin "math.gcd"))),
  fldB K clsA [3] ("top" : PySem.Str),
  fldB K clsA [3] ("bottom" : PySem.Str),
  eqO (PySem.W.nsIn K mainGlobals ("Ratio" : PySem.Str)) (some (some (.ref (clsA 3)))),
  mkB K (clsA 3) (faA 26),
  PySem.W.keepIn K (.ref (clsA 3)),
  PySem.W.keepIn K (.ref (faA 27)),
  eqO (PySem.W.nsIn K mainGlobals ("ratio_of" : PySem.Str)) (some (some (.ref (faA 27)))),
  clsB K (clsA 3),
  meB K (clsA 3) ("compare" : PySem.Str) (faA 29),
  fldB K clsA [5, 4] ("parts" : PySem.Str),
  fldB K clsA [4] ("least" : PySem.Str),
  fldB K clsA [4] ("prices" : PySem.Str),
  fldB K clsA [4] ("ring" : PySem.Str),
  strB K ("SIGNS" : PySem.Str) ("01" : PySem.Str),
  prB K (clsA 2) ("limit" : PySem.Str) (paA 24) (faA 24),
  meB K (clsA 1) ("is_met" : PySem.Str) (faA 20),
  PySem.W.keepIn K (.ref (faA 34))]
def chk_4 (K : PySem.W.Frag) : List Bool := [
  eqO (PySem.W.nsIn K mainGlobals ("touching" : PySem.Str)) (some (some (.ref (faA 34)))),
  PySem.W.keepIn K (.ref (faA 35)),
  eqO (PySem.W.nsIn K mainGlobals ("is_fed" : PySem.Str)) (some (some (.ref (faA 35)))),
  PySem.W.keepIn K (.ref (faA 33)),
  eqO (PySem.W.nsIn K mainGlobals ("all_windows" : PySem.Str)) (some (some (.ref (faA 33)))),
  PySem.W.keepIn K (.ref (faA 36)),
  eqO (PySem.W.nsIn K mainGlobals ("is_step" : PySem.Str)) (some (some (.ref (faA 36)))),
  PySem.W.keepIn K (.ref (faA 39)),
  eqO (PySem.W.nsIn K mainGlobals ("cost_of" : PySem.Str)) (some (some (.ref (faA 39)))),
  PySem.W.keepIn K (.ref (faA 37)),
  eqO (PySem.W.nsIn K mainGlobals ("behind" : PySem.Str)) (some (some (.ref (faA 37)))),
  PySem.W.keepIn K (.ref (faA 40)),
  eqO (PySem.W.nsIn K mainGlobals ("lowered" : PySem.Str)) (some (some (.ref (faA 40)))),
  PySem.W.keepIn K (.ref (faA 41)),
  eqO (PySem.W.nsIn K mainGlobals ("ring_from" : PySem.Str)) (some (some (.ref (faA 41)))),
  PySem.W.keepIn K (.ref (faA 25)),
  eqO (PySem.W.nsIn K mainGlobals ("need_job" : PySem.Str)) (some (some (.ref (faA 25)))),
  PySem.W.keepIn K (.ref (faA 38)),
  eqO (PySem.W.nsIn K mainGlobals ("web_of" : PySem.Str)) (some (some (.ref (faA 38)))),
  PySem.W.keepIn K (.ref (faA 42))]
def chk_5 (K : PySem.W.Frag) : List Bool := [
  eqO (PySem.W.nsIn K mainGlobals ("priced" : PySem.Str)) (some (some (.ref (faA 42)))),
  PySem.W.keepIn K (.ref (faA 43)),
  eqO (PySem.W.nsIn K mainGlobals ("rate_of" : PySem.Str)) (some (some (.ref (faA 43)))),
  mkB K (clsA 4) (faA 32),
  PySem.W.keepIn K (.ref (clsA 4)),
  eqO (PySem.W.nsIn K mainGlobals ("Rated" : PySem.Str)) (some (some (.ref (clsA 4)))),
  PySem.W.keepIn K (.ref (faA 44)),
  eqO (PySem.W.nsIn K mainGlobals ("rated" : PySem.Str)) (some (some (.ref (faA 44)))),
  intB K ("MOST_SPAN" : PySem.Str) 6,
  PySem.W.keepIn K (.ref (faA 45)),
  eqO (PySem.W.nsIn K mainGlobals ("least_rate" : PySem.Str)) (some (some (.ref (faA 45)))),
  mkB K (clsA 2) (faA 22),
  PySem.W.keepIn K (.ref (clsA 2)),
  crB K (clsA 1) (mcA 1),
  smB K (clsA 1) (mcA 1) ("dots" : PySem.Str) (paA 19) (faA 19),
  eqO (PySem.W.findIn K (.ref (clsA 3)) ("__lt__" : PySem.Str)) (some (some (.ref (faA 30)))),
  PySem.W.isFn K (.ref (faA 30)),
  eqO (PySem.W.nsIn K mainGlobals ("abs" : PySem.Str)) (some none),
  PySem.W.keepIn K (.ref (faA 48)),
  eqO (PySem.W.nsIn K mainGlobals ("_law_draw" : PySem.Str)) (some (some (.ref (faA 48))))]
def chk_6 (K : PySem.W.Frag) : List Bool := [
  PySem.W.keepIn K (.ref (faA 46)),
  eqO (PySem.W.nsIn K mainGlobals ("best_heads" : PySem.Str)) (some (some (.ref (faA 46)))),
  PySem.W.keepIn K (.ref (faA 50)),
  eqO (PySem.W.nsIn K mainGlobals ("_law_heads" : PySem.Str)) (some (some (.ref (faA 50)))),
  crB K (clsA 0) (mcA 0),
  smB K (clsA 0) (mcA 0) ("of" : PySem.Str) (paA 6) (faA 6),
  smB K (clsA 0) (mcA 0) ("even" : PySem.Str) (paA 8) (faA 8),
  eqO (PySem.W.findIn K (.ref (clsA 0)) ("__invert__" : PySem.Str)) (some (some (.ref (faA 12)))),
  PySem.W.isFn K (.ref (faA 12)),
  PySem.W.keepIn K (.ref (faA 47)),
  eqO (PySem.W.nsIn K mainGlobals ("_law_pen" : PySem.Str)) (some (some (.ref (faA 47)))),
  PySem.W.keepIn K (.ref (faA 49)),
  eqO (PySem.W.nsIn K mainGlobals ("_law_pick" : PySem.Str)) (some (some (.ref (faA 49)))),
  PySem.W.keepIn K (.ref (faA 51)),
  eqO (PySem.W.nsIn K mainGlobals ("_law_best_right" : PySem.Str)) (some (some (.ref (faA 51)))),
  PySem.W.keepIn K (.ref (faA 52)),
  eqO (PySem.W.nsIn K mainGlobals ("_law_wider_right" : PySem.Str)) (some (some (.ref (faA 52)))),
  eqO (PySem.W.findIn K (.ref (clsA 0)) ("__eq__" : PySem.Str)) (some (some (.ref (faA 11)))),
  PySem.W.isFn K (.ref (faA 11)),
  eqO (PySem.W.findIn K (.ref (clsA 3)) ("__eq__" : PySem.Str)) (some (some (.ref (faA 28))))]
def chk_7 (K : PySem.W.Frag) : List Bool := [
  PySem.W.isFn K (.ref (faA 28)),
  eqO (PySem.W.nsIn K mainGlobals ("super" : PySem.Str)) (some none),
  eqO (PySem.W.nsIn K mainGlobals "law") (some (some (.ref (faA 53)))),
  eqO (PySem.W.nsIn K mainGlobals "iter") (some none),
  eqO (PySem.W.findIn K (.ref (clsA 0)) "__iter__") (some (some (.ref (faA 60)))),
  PySem.W.isFn K (.ref (faA 60)),
  eqO (PySem.W.findIn K (.ref (clsA 0)) "__ne__") (some (some (.builtin "object.__ne__"))),
  eqO (PySem.W.findIn K (.ref (clsA 3)) "__ne__") (some (some (.builtin "object.__ne__"))),
  decide (PySem.W.mroIn K (clsA 0) (.type "object") = some true),
  decide (PySem.W.mroIn K (clsA 3) (.type "object") = some true),
  dfnB K (faA 0) ("is_integer" : PySem.Str) [],
  dfnB K (faA 1) ("is_within" : PySem.Str) [],
  dfnB K (faA 2) ("is_offset" : PySem.Str) [],
  dfnB K (faA 3) ("is_list" : PySem.Str) [],
  dfnB K (faA 4) ("ascending" : PySem.Str) [],
  dfnB K (faA 5) ("Head.__init__" : PySem.Str) [],
  dfnB K (faA 6) ("Head.of" : PySem.Str) [],
  dfnB K (faA 7) ("moved_head" : PySem.Str) [],
  dfnB K (faA 8) ("Head.even" : PySem.Str) [V.int 1],
  dfnB K (faA 9) ("Head.span" : PySem.Str) []]
def chk_8 (K : PySem.W.Frag) : List Bool := [
  dfnB K (faA 10) ("Head.__len__" : PySem.Str) [],
  dfnB K (faA 11) ("Head.__eq__" : PySem.Str) [],
  dfnB K (faA 12) ("Head.__invert__" : PySem.Str) [],
  dfnB K (faA 13) ("is_way" : PySem.Str) [],
  dfnB K (faA 14) ("has_way" : PySem.Str) [],
  dfnB K (faA 15) ("ordered_ways" : PySem.Str) [],
  dfnB K (faA 16) ("lean_ways" : PySem.Str) [],
  dfnB K (faA 17) ("subsets" : PySem.Str) [],
  dfnB K (faA 18) ("Wish.__init__" : PySem.Str) [],
  dfnB K (faA 19) ("Wish.dots" : PySem.Str) [V.int 1],
  dfnB K (faA 20) ("Wish.is_met" : PySem.Str) [],
  dfnB K (faA 21) ("Wish.span" : PySem.Str) [],
  dfnB K (faA 22) ("Job.__init__" : PySem.Str) [V.non, V.int 7, V.int 0],
  dfnB K (faA 23) ("Job.span" : PySem.Str) [],
  dfnB K (faA 24) ("Job.limit" : PySem.Str) [],
  dfnB K (faA 25) ("need_job" : PySem.Str) [V.str ("job" : PySem.Str)],
  dfnB K (faA 26) ("Ratio.__init__" : PySem.Str) [V.int 1],
  dfnB K (faA 27) ("ratio_of" : PySem.Str) [],
  dfnB K (faA 28) ("Ratio.__eq__" : PySem.Str) [],
  dfnB K (faA 29) ("Ratio.compare" : PySem.Str) []]
def chk_9 (K : PySem.W.Frag) : List Bool := [
  dfnB K (faA 30) ("Ratio.__lt__" : PySem.Str) [],
  dfnB K (faA 31) ("Paper.__init__" : PySem.Str) [],
  supB K file0 (faA 32) 1149 1160 (clsA 4) ("Rated.__init__" : PySem.Str),
  [4].all fun c => supMB K (clsA c) (clsA 4) (faA 31) ("__init__" : PySem.Str),
  dfnB K (faA 33) ("all_windows" : PySem.Str) [],
  dfnB K (faA 34) ("touching" : PySem.Str) [],
  dfnB K (faA 35) ("is_fed" : PySem.Str) [],
  dfnB K (faA 36) ("is_step" : PySem.Str) [],
  dfnB K (faA 37) ("behind" : PySem.Str) [],
  dfnB K (faA 38) ("web_of" : PySem.Str) [],
  dfnB K (faA 39) ("cost_of" : PySem.Str) [],
  dfnB K (faA 40) ("lowered" : PySem.Str) [],
  dfnB K (faA 41) ("ring_from" : PySem.Str) [],
  dfnB K (faA 42) ("priced" : PySem.Str) [],
  dfnB K (faA 43) ("rate_of" : PySem.Str) [],
  dfnB K (faA 44) ("rated" : PySem.Str) [],
  dfnB K (faA 45) ("least_rate" : PySem.Str) [],
  dfnB K (faA 46) ("best_heads" : PySem.Str) [V.int 1],
  dfnB K (faA 47) ("_law_pen" : PySem.Str) [],
  dfnB K (faA 48) ("_law_draw" : PySem.Str) []]
def chk_10 (K : PySem.W.Frag) : List Bool := [
  dfnB K (faA 49) ("_law_pick" : PySem.Str) [],
  dfnB K (faA 50) ("_law_heads" : PySem.Str) [],
  dfnB K (faA 51) ("_law_best_right" : PySem.Str) [],
  dfnB K (faA 52) ("_law_wider_right" : PySem.Str) [],
  dfnB K (faA 53) ("law" : PySem.Str) [],
  dfnB K (faA 60) ("Head.__iter__" : PySem.Str) []]
def chkA (K : PySem.W.Frag) : Bool := (chk_0 K).all id && (chk_1 K).all id && (chk_2 K).all id && (chk_3 K).all id && (chk_4 K).all id && (chk_5 K).all id && (chk_6 K).all id && (chk_7 K).all id && (chk_8 K).all id && (chk_9 K).all id && (chk_10 K).all id
def fasA : List Addr := [faA 0, faA 1, faA 2, faA 3, faA 4, faA 5, faA 6, faA 7, faA 8, faA 9, faA 10, faA 11, faA 12, faA 13, faA 14, faA 15, faA 16, faA 17, faA 18, faA 19, faA 20, faA 21, faA 22, faA 23, faA 24, faA 25, faA 26, faA 27, faA 28, faA 29, faA 30, faA 31, faA 32, faA 33, faA 34, faA 35, faA 36, faA 37, faA 38, faA 39, faA 40, faA 41, faA 42, faA 43, faA 44, faA 45, faA 46, faA 47, faA 48, faA 49, faA 50, faA 51, faA 52, faA 53, faA 60]
def valsA : List He.FnW := [
  some (("is_integer" : PySem.Str), ("is_integer" : PySem.Str), defArgs s_is_integer, .stmts (defBody s_is_integer), defScope s_is_integer, mainGlobals, [], builtinsNs),
  some (("is_within" : PySem.Str), ("is_within" : PySem.Str), defArgs s_is_within, .stmts (defBody s_is_within), defScope s_is_within, mainGlobals, [], builtinsNs),
  some (("is_offset" : PySem.Str), ("is_offset" : PySem.Str), defArgs s_is_offset, .stmts (defBody s_is_offset), defScope s_is_offset, mainGlobals, [], builtinsNs),
  some (("is_list" : PySem.Str), ("is_list" : PySem.Str), defArgs s_is_list, .stmts (defBody s_is_list), defScope s_is_list, mainGlobals, [], builtinsNs),
  some (("ascending" : PySem.Str), ("ascending" : PySem.Str), defArgs s_ascending, .stmts (defBody s_ascending), defScope s_ascending, mainGlobals, [], builtinsNs),
  some (("__init__" : PySem.Str), ("Head.__init__" : PySem.Str), defArgs s_Head_init, .stmts (defBody s_Head_init), defScope s_Head_init, mainGlobals, [], builtinsNs),
  some (("of" : PySem.Str), ("Head.of" : PySem.Str), defArgs s_Head_of, .stmts (defBody s_Head_of), defScope s_Head_of, mainGlobals, [], builtinsNs),
  some (("moved_head" : PySem.Str), ("moved_head" : PySem.Str), defArgs s_moved_head, .stmts (defBody s_moved_head), defScope s_moved_head, mainGlobals, [], builtinsNs),
  some (("even" : PySem.Str), ("Head.even" : PySem.Str), defArgs s_Head_even, .stmts (defBody s_Head_even), defScope s_Head_even, mainGlobals, [], builtinsNs),
  some (("span" : PySem.Str), ("Head.span" : PySem.Str), defArgs s_Head_span, .stmts (defBody s_Head_span), defScope s_Head_span, mainGlobals, [], builtinsNs),
  some (("__len__" : PySem.Str), ("Head.__len__" : PySem.Str), defArgs s_Head_len, .stmts (defBody s_Head_len), defScope s_Head_len, mainGlobals, [], builtinsNs),
  some (("__eq__" : PySem.Str), ("Head.__eq__" : PySem.Str), defArgs s_Head_eq, .stmts (defBody s_Head_eq), defScope s_Head_eq, mainGlobals, [], builtinsNs),
  some (("__invert__" : PySem.Str), ("Head.__invert__" : PySem.Str), defArgs s_Head_invert, .stmts (defBody s_Head_invert), defScope s_Head_invert, mainGlobals, [], builtinsNs),
  some (("is_way" : PySem.Str), ("is_way" : PySem.Str), defArgs s_is_way, .stmts (defBody s_is_way), defScope s_is_way, mainGlobals, [], builtinsNs),
  some (("has_way" : PySem.Str), ("has_way" : PySem.Str), defArgs s_has_way, .stmts (defBody s_has_way), defScope s_has_way, mainGlobals, [], builtinsNs),
  some (("ordered_ways" : PySem.Str), ("ordered_ways" : PySem.Str), defArgs s_ordered_ways, .stmts (defBody s_ordered_ways), defScope s_ordered_ways, mainGlobals, [], builtinsNs),
  some (("lean_ways" : PySem.Str), ("lean_ways" : PySem.Str), defArgs s_lean_ways, .stmts (defBody s_lean_ways), defScope s_lean_ways, mainGlobals, [], builtinsNs),
  some (("subsets" : PySem.Str), ("subsets" : PySem.Str), defArgs s_subsets, .stmts (defBody s_subsets), defScope s_subsets, mainGlobals, [], builtinsNs),
  some (("__init__" : PySem.Str), ("Wish.__init__" : PySem.Str), defArgs s_Wish_init, .stmts (defBody s_Wish_init), defScope s_Wish_init, mainGlobals, [], builtinsNs),
  some (("dots" : PySem.Str), ("Wish.dots" : PySem.Str), defArgs s_Wish_dots, .stmts (defBody s_Wish_dots), defScope s_Wish_dots, mainGlobals, [], builtinsNs),
  some (("is_met" : PySem.Str), ("Wish.is_met" : PySem.Str), defArgs s_Wish_is_met, .stmts (defBody s_Wish_is_met), defScope s_Wish_is_met, mainGlobals, [], builtinsNs),
  some (("span" : PySem.Str), ("Wish.span" : PySem.Str), defArgs s_Wish_span, .stmts (defBody s_Wish_span), defScope s_Wish_span, mainGlobals, [], builtinsNs),
  some (("__init__" : PySem.Str), ("Job.__init__" : PySem.Str), defArgs s_Job_init, .stmts (defBody s_Job_init), defScope s_Job_init, mainGlobals, [], builtinsNs),
  some (("span" : PySem.Str), ("Job.span" : PySem.Str), defArgs s_Job_span, .stmts (defBody s_Job_span), defScope s_Job_span, mainGlobals, [], builtinsNs),
  some (("limit" : PySem.Str), ("Job.limit" : PySem.Str), defArgs s_Job_limit, .stmts (defBody s_Job_limit), defScope s_Job_limit, mainGlobals, [], builtinsNs),
  some (("need_job" : PySem.Str), ("need_job" : PySem.Str), defArgs s_need_job, .stmts (defBody s_need_job), defScope s_need_job, mainGlobals, [], builtinsNs),
  some (("__init__" : PySem.Str), ("Ratio.__init__" : PySem.Str), defArgs s_Ratio_init, .stmts (defBody s_Ratio_init), defScope s_Ratio_init, mainGlobals, [], builtinsNs),
  some (("ratio_of" : PySem.Str), ("ratio_of" : PySem.Str), defArgs s_ratio_of, .stmts (defBody s_ratio_of), defScope s_ratio_of, mainGlobals, [], builtinsNs),
  some (("__eq__" : PySem.Str), ("Ratio.__eq__" : PySem.Str), defArgs s_Ratio_eq, .stmts (defBody s_Ratio_eq), defScope s_Ratio_eq, mainGlobals, [], builtinsNs),
  some (("compare" : PySem.Str), ("Ratio.compare" : PySem.Str), defArgs s_Ratio_compare, .stmts (defBody s_Ratio_compare), defScope s_Ratio_compare, mainGlobals, [], builtinsNs),
  some (("__lt__" : PySem.Str), ("Ratio.__lt__" : PySem.Str), defArgs s_Ratio_lt, .stmts (defBody s_Ratio_lt), defScope s_Ratio_lt, mainGlobals, [], builtinsNs),
  some (("__init__" : PySem.Str), ("Paper.__init__" : PySem.Str), defArgs s_Paper_init, .stmts (defBody s_Paper_init), defScope s_Paper_init, mainGlobals, [], builtinsNs),
  some (("__init__" : PySem.Str), ("Rated.__init__" : PySem.Str), defArgs s_Rated_init, .stmts (defBody s_Rated_init), defScope s_Rated_init, mainGlobals, [(("__class__" : Str), 1149)], builtinsNs),
  some (("all_windows" : PySem.Str), ("all_windows" : PySem.Str), defArgs s_all_windows, .stmts (defBody s_all_windows), defScope s_all_windows, mainGlobals, [], builtinsNs),
  some (("touching" : PySem.Str), ("touching" : PySem.Str), defArgs s_touching, .stmts (defBody s_touching), defScope s_touching, mainGlobals, [], builtinsNs),
  some (("is_fed" : PySem.Str), ("is_fed" : PySem.Str), defArgs s_is_fed, .stmts (defBody s_is_fed), defScope s_is_fed, mainGlobals, [], builtinsNs),
  some (("is_step" : PySem.Str), ("is_step" : PySem.Str), defArgs s_is_step, .stmts (defBody s_is_step), defScope s_is_step, mainGlobals, [], builtinsNs),
  some (("behind" : PySem.Str), ("behind" : PySem.Str), defArgs s_behind, .stmts (defBody s_behind), defScope s_behind, mainGlobals, [], builtinsNs),
  some (("web_of" : PySem.Str), ("web_of" : PySem.Str), defArgs s_web_of, .stmts (defBody s_web_of), defScope s_web_of, mainGlobals, [], builtinsNs),
  some (("cost_of" : PySem.Str), ("cost_of" : PySem.Str), defArgs s_cost_of, .stmts (defBody s_cost_of), defScope s_cost_of, mainGlobals, [], builtinsNs),
  some (("lowered" : PySem.Str), ("lowered" : PySem.Str), defArgs s_lowered, .stmts (defBody s_lowered), defScope s_lowered, mainGlobals, [], builtinsNs),
  some (("ring_from" : PySem.Str), ("ring_from" : PySem.Str), defArgs s_ring_from, .stmts (defBody s_ring_from), defScope s_ring_from, mainGlobals, [], builtinsNs),
  some (("priced" : PySem.Str), ("priced" : PySem.Str), defArgs s_priced, .stmts (defBody s_priced), defScope s_priced, mainGlobals, [], builtinsNs),
  some (("rate_of" : PySem.Str), ("rate_of" : PySem.Str), defArgs s_rate_of, .stmts (defBody s_rate_of), defScope s_rate_of, mainGlobals, [], builtinsNs),
  some (("rated" : PySem.Str), ("rated" : PySem.Str), defArgs s_rated, .stmts (defBody s_rated), defScope s_rated, mainGlobals, [], builtinsNs),
  some (("least_rate" : PySem.Str), ("least_rate" : PySem.Str), defArgs s_least_rate, .stmts (defBody s_least_rate), defScope s_least_rate, mainGlobals, [], builtinsNs),
  some (("best_heads" : PySem.Str), ("best_heads" : PySem.Str), defArgs s_best_heads, .stmts (defBody s_best_heads), defScope s_best_heads, mainGlobals, [], builtinsNs),
  some (("_law_pen" : PySem.Str), ("_law_pen" : PySem.Str), defArgs s_law_pen, .stmts (defBody s_law_pen), defScope s_law_pen, mainGlobals, [], builtinsNs),
  some (("_law_draw" : PySem.Str), ("_law_draw" : PySem.Str), defArgs s_law_draw, .stmts (defBody s_law_draw), defScope s_law_draw, mainGlobals, [], builtinsNs),
  some (("_law_pick" : PySem.Str), ("_law_pick" : PySem.Str), defArgs s_law_pick, .stmts (defBody s_law_pick), defScope s_law_pick, mainGlobals, [], builtinsNs),
  some (("_law_heads" : PySem.Str), ("_law_heads" : PySem.Str), defArgs s_law_heads, .stmts (defBody s_law_heads), defScope s_law_heads, mainGlobals, [], builtinsNs),
  some (("_law_best_right" : PySem.Str), ("_law_best_right" : PySem.Str), defArgs s_law_best_right, .stmts (defBody s_law_best_right), defScope s_law_best_right, mainGlobals, [], builtinsNs),
  some (("_law_wider_right" : PySem.Str), ("_law_wider_right" : PySem.Str), defArgs s_law_wider_right, .stmts (defBody s_law_wider_right), defScope s_law_wider_right, mainGlobals, [], builtinsNs),
  some (("law" : PySem.Str), ("law" : PySem.Str), defArgs s_law, .stmts (defBody s_law), defScope s_law, mainGlobals, [], builtinsNs),
  some (("__iter__" : PySem.Str), ("Head.__iter__" : PySem.Str), defArgs s_Head_iter, .stmts (defBody s_Head_iter), defScope s_Head_iter, mainGlobals, [], builtinsNs)]
abbrev R : PySem.W.OpenRow := PySem.W.OpenLaw.row PySem.Challenge.rw_headpasses_k81_whole_best_heads
def loose_0 : List PySem.Str := [("_wall" : PySem.Str), ("__name__" : PySem.Str), ("PassError" : PySem.Str), ("ValueError" : PySem.Str), ("BadHead" : PySem.Str), ("BadWish" : PySem.Str), ("BadJob" : PySem.Str), ("BadOffset" : PySem.Str), ("BadNumber" : PySem.Str), ("BadText" : PySem.Str), ("NoItem" : PySem.Str), ("NoWay" : PySem.Str), ("MOST_OFFSET" : PySem.Str), ("MOST_PLACE" : PySem.Str), ("MOST_DIGITS" : PySem.Str)]
def loose_1 : List PySem.Str := [("is_integer" : PySem.Str), ("is_within" : PySem.Str), ("is_offset" : PySem.Str), ("is_list" : PySem.Str), ("is_single" : PySem.Str), ("need_offset" : PySem.Str), ("ascending" : PySem.Str), ("written" : PySem.Str), ("number_of" : PySem.Str), ("Words" : PySem.Str), ("GREATEST" : PySem.Str), ("need_head" : PySem.Str), ("moved_head" : PySem.Str), ("some_head" : PySem.Str), ("Head" : PySem.Str)]
def loose_2 : List PySem.Str := [("is_way" : PySem.Str), ("has_way" : PySem.Str), ("ordered_ways" : PySem.Str), ("lean_ways" : PySem.Str), ("subsets" : PySem.Str), ("wish_of_ways" : PySem.Str), ("Wish" : PySem.Str), ("need_other" : PySem.Str), ("need_number" : PySem.Str), ("take_ways" : PySem.Str), ("ANY" : PySem.Str), ("need_job" : PySem.Str), ("Job" : PySem.Str), ("take_job" : PySem.Str), ("Paper" : PySem.Str)]
def loose_3 : List PySem.Str := [("MOST_SIDE" : PySem.Str), ("ratio_of" : PySem.Str), ("above_zero" : PySem.Str), ("Ratio" : PySem.Str), ("SIGNS" : PySem.Str), ("all_windows" : PySem.Str), ("touching" : PySem.Str), ("is_fed" : PySem.Str), ("is_step" : PySem.Str), ("behind" : PySem.Str), ("web_of" : PySem.Str), ("Rated" : PySem.Str), ("cost_of" : PySem.Str), ("lowered" : PySem.Str), ("ring_from" : PySem.Str)]
def loose_4 : List PySem.Str := [("priced" : PySem.Str), ("rate_of" : PySem.Str), ("rated" : PySem.Str), ("least_rate" : PySem.Str), ("MOST_SPAN" : PySem.Str), ("best_heads" : PySem.Str), ("_law_pen" : PySem.Str), ("_law_draw" : PySem.Str), ("_law_pick" : PySem.Str), ("_law_heads" : PySem.Str), ("_law_best_right" : PySem.Str), ("_law_wider_right" : PySem.Str)]
def looseA : List PySem.Str := loose_0 ++ loose_1 ++ loose_2 ++ loose_3 ++ loose_4
def lawix : Nat := 83
def Mtop : Nat := 9795
theorem runA (w : World) : HandSHeadRun.RunEqI R (PySem.W.view R.prog [0, 83]) (hookA asA chkA fasA valsA) (obA asA chkA fasA) 9795 looseA w := by
  unfold HandSHeadRun.RunEqI
  kernel_rfl
end L81
/-! GHeap -/
/-! A growing array that the kernel reads and writes in few steps: a tree over the binary digits of the place. -/
namespace GG
inductive HT (α : Type) where
  | nil | node (x : Option α) (l r : HT α)
namespace HT
variable {α : Type}
def get : HT α → Nat → Option α
  | nil, _ => none
  | node x l r, n => cond (Nat.beq n 0) x (cond (Nat.beq (Nat.mod n 2) 1) (get l (Nat.div (Nat.sub n 1) 2)) (get r (Nat.div (Nat.sub n 1) 2)))
def mk : Nat → Nat → α → HT α
  | 0, _, x => node (some x) nil nil
  | f + 1, n, x => cond (Nat.beq n 0) (node (some x) nil nil) (cond (Nat.beq (Nat.mod n 2) 1) (node none (mk f (Nat.div (Nat.sub n 1) 2) x) nil) (node none nil (mk f (Nat.div (Nat.sub n 1) 2) x)))
def ins : HT α → Nat → α → HT α
  | nil, n, x => mk n n x
  | node y l r, n, x => cond (Nat.beq n 0) (node (some x) l r) (cond (Nat.beq (Nat.mod n 2) 1) (node y (ins l (Nat.div (Nat.sub n 1) 2) x) r) (node y l (ins r (Nat.div (Nat.sub n 1) 2) x)))
theorem get_node {x : Option α} {l r : HT α} {n : Nat} : get (node x l r) n = if n = 0 then x else if n % 2 = 1 then get l ((n - 1) / 2) else get r ((n - 1) / 2) := by
  show cond (Nat.beq n 0) x (cond (Nat.beq (n % 2) 1) (get l ((n - 1) / 2)) (get r ((n - 1) / 2))) = _
  by_cases h : n = 0
  · subst h; rfl
  · rw [show Nat.beq n 0 = false from by cases n with | zero => exact absurd rfl h | succ n => rfl, if_neg h, cond_false]
    rcases Nat.mod_two_eq_zero_or_one n with q | q
    · rw [q]; rfl
    · rw [q]; rfl
theorem mk_node {f n : Nat} {x : α} : mk (f + 1) n x = if n = 0 then node (some x) nil nil else if n % 2 = 1 then node none (mk f ((n - 1) / 2) x) nil else node none nil (mk f ((n - 1) / 2) x) := by
  show cond (Nat.beq n 0) _ (cond (Nat.beq (n % 2) 1) _ _) = _
  by_cases h : n = 0
  · subst h; rfl
  · rw [show Nat.beq n 0 = false from by cases n with | zero => exact absurd rfl h | succ n => rfl, if_neg h, cond_false]
    rcases Nat.mod_two_eq_zero_or_one n with q | q
    · rw [q]; rfl
    · rw [q]; rfl
theorem ins_node {y : Option α} {l r : HT α} {n : Nat} {x : α} : ins (node y l r) n x = if n = 0 then node (some x) l r else if n % 2 = 1 then node y (ins l ((n - 1) / 2) x) r else node y l (ins r ((n - 1) / 2) x) := by
  show cond (Nat.beq n 0) _ (cond (Nat.beq (n % 2) 1) _ _) = _
  by_cases h : n = 0
  · subst h; rfl
  · rw [show Nat.beq n 0 = false from by cases n with | zero => exact absurd rfl h | succ n => rfl, if_neg h, cond_false]
    rcases Nat.mod_two_eq_zero_or_one n with q | q
    · rw [q]; rfl
    · rw [q]; rfl
theorem get_mk : ∀ {f n m : Nat} {x : α}, n ≤ f → get (mk f n x) m = if m = n then some x else none
  | 0, n, m, x, h => by
    obtain rfl : n = 0 := by omega
    show get (node (some x) nil nil) m = _
    rw [get_node]
    by_cases h1 : m = 0
    · rw [if_pos h1, if_pos h1]
    · rw [if_neg h1, if_neg h1]; split <;> rfl
  | f + 1, n, m, x, h => by
    rw [mk_node]
    by_cases h0 : n = 0
    · subst h0
      rw [if_pos rfl, get_node]
      by_cases h1 : m = 0
      · rw [if_pos h1, if_pos h1]
      · rw [if_neg h1, if_neg h1]; split <;> rfl
    · rw [if_neg h0]
      have hf : (n - 1) / 2 ≤ f := by omega
      by_cases hn : n % 2 = 1
      · rw [if_pos hn, get_node]
        by_cases h1 : m = 0
        · rw [if_pos h1, if_neg (by omega)]
        · rw [if_neg h1]
          by_cases hm : m % 2 = 1
          · rw [if_pos hm, get_mk hf]
            by_cases e : m = n
            · rw [if_pos e, if_pos (by omega)]
            · rw [if_neg e, if_neg (by omega)]
          · rw [if_neg hm, if_neg (by omega)]; rfl
      · rw [if_neg hn, get_node]
        by_cases h1 : m = 0
        · rw [if_pos h1, if_neg (by omega)]
        · rw [if_neg h1]
          by_cases hm : m % 2 = 1
          · rw [if_pos hm, if_neg (by omega)]; rfl
          · rw [if_neg hm, get_mk hf]
            by_cases e : m = n
            · rw [if_pos e, if_pos (by omega)]
            · rw [if_neg e, if_neg (by omega)]
theorem get_ins : ∀ {t : HT α} {n m : Nat} {x : α}, get (ins t n x) m = if m = n then some x else get t m
  | nil, n, m, x => get_mk (Nat.le_refl n)
  | node y l r, n, m, x => by
    rw [ins_node]
    by_cases h0 : n = 0
    · subst h0
      rw [if_pos rfl, get_node, get_node]
      by_cases h1 : m = 0
      · rw [if_pos h1, if_pos h1]
      · rw [if_neg h1, if_neg h1, if_neg h1]
    · rw [if_neg h0]
      by_cases hn : n % 2 = 1
      · rw [if_pos hn, get_node, get_node]
        by_cases h1 : m = 0
        · rw [if_pos h1, if_neg (by omega), if_pos h1]
        · rw [if_neg h1, if_neg h1]
          by_cases hm : m % 2 = 1
          · rw [if_pos hm, if_pos hm, get_ins]
            by_cases e : m = n
            · rw [if_pos e, if_pos (by omega)]
            · rw [if_neg e, if_neg (by omega)]
          · rw [if_neg hm, if_neg hm, if_neg (by omega)]
      · rw [if_neg hn, get_node, get_node]
        by_cases h1 : m = 0
        · rw [if_pos h1, if_neg (by omega), if_pos h1]
        · rw [if_neg h1, if_neg h1]
          by_cases hm : m % 2 = 1
          · rw [if_pos hm, if_pos hm, if_neg (by omega)]
          · rw [if_neg hm, if_neg hm, get_ins]
            by_cases e : m = n
            · rw [if_pos e, if_pos (by omega)]
            · rw [if_neg e, if_neg (by omega)]
end HT
structure HA (α : Type) where
  length : Nat
  t : HT α
namespace HA
variable {α : Type} [Inhabited α]
def nil : HA α := ⟨0, .nil⟩
def get? (h : HA α) (n : Nat) : Option α := cond (Nat.blt n h.length) (some ((h.t.get n).getD default)) none
theorem get?_isSome {h : HA α} {n : Nat} (hl : n < h.length) : (h.get? n).isSome = true := by
  unfold get?
  rw [show Nat.blt n h.length = true from Nat.ble_eq_true_of_le hl]
  rfl
instance : GetElem? (HA α) Nat α (fun h n => n < h.length) where
  getElem h n hl := (h.get? n).get (get?_isSome hl)
  getElem? h n := h.get? n
def push (h : HA α) (x : α) : HA α := ⟨Nat.add h.length 1, h.t.ins h.length x⟩
def pushL : HA α → List α → HA α
  | h, [] => h
  | h, x :: r => pushL (h.push x) r
instance : HAppend (HA α) (List α) (HA α) := ⟨pushL⟩
def set (h : HA α) (n : Nat) (x : α) : HA α := ⟨h.length, h.t.ins n x⟩
theorem get_def {h : HA α} {n : Nat} : h[n]? = if n < h.length then some ((h.t.get n).getD default) else none := by
  show cond (Nat.blt n h.length) _ _ = _
  by_cases hl : n < h.length
  · rw [if_pos hl, show Nat.blt n h.length = true from Nat.ble_eq_true_of_le hl]; rfl
  · rw [if_neg hl, show Nat.blt n h.length = false from Bool.eq_false_iff.mpr fun z => hl (Nat.le_of_ble_eq_true z)]; rfl
theorem lt_of_get {h : HA α} {n : Nat} {o : α} (e : h[n]? = some o) : n < h.length := by
  rw [get_def] at e
  by_cases hl : n < h.length
  · exact hl
  · rw [if_neg hl] at e; cases e
theorem ex {h : HA α} {n : Nat} (hl : n < h.length) : ∃ o, h[n]? = some o := ⟨_, by rw [get_def, if_pos hl]⟩
theorem getEq {h : HA α} {n : Nat} (hl : n < h.length) : h[n]? = some h[n] := (Option.some_get (get?_isSome hl)).symm
@[simp] theorem length_push {h : HA α} {x : α} : (h ++ [x]).length = h.length + 1 := rfl
theorem push_lt {h : HA α} {x : α} {n : Nat} (hl : n < h.length) : (h ++ [x])[n]? = h[n]? := by
  rw [get_def, get_def, length_push, if_pos (by omega), if_pos hl, show (h ++ [x]).t = h.t.ins h.length x from rfl, HT.get_ins, if_neg (by omega)]
theorem push_self {h : HA α} {x : α} : (h ++ [x])[h.length]? = some x := by
  rw [get_def, length_push, if_pos (by omega), show (h ++ [x]).t = h.t.ins h.length x from rfl, HT.get_ins, if_pos rfl]; rfl
@[simp] theorem length_set {h : HA α} {n : Nat} {x : α} : (h.set n x).length = h.length := rfl
theorem set_self {h : HA α} {n : Nat} {x : α} (hl : n < h.length) : (h.set n x)[n]? = some x := by
  rw [get_def, length_set, if_pos hl, show (h.set n x).t = h.t.ins n x from rfl, HT.get_ins, if_pos rfl]; rfl
theorem set_ne {h : HA α} {n m : Nat} {x : α} (hn : n ≠ m) : (h.set n x)[m]? = h[m]? := by
  rw [get_def, get_def, length_set, show (h.set n x).t = h.t.ins n x from rfl, HT.get_ins, if_neg (Ne.symm hn)]
end HA
end GG
/-! GCore -/
/-! G, the core: values, abstract heaps, results; how they stand for what HandS tracks; a reading made of a function. -/
namespace GG
open PySem PySem.Spec PyProof.Rows L2

/-- a value: tuples are values here; ref: the n-th object of the abstract heap; adr: a thing that stands still -/
inductive U where
  | non | bl (b : Bool) | int (i : Int) | str (x : Str) | ty (n : String) | adr (a : Addr) | tup (l : List U) | fls (l : List U) | ref (n : Nat)
/-- an object -/
inductive HU where
  | lst (l : List U) | frl (l : List U) | dK (kvs : List (Key × U)) | dT (kvs : List (List Key × U)) | fK (kvs : List (Key × U)) | fT (kvs : List (List Key × U)) | ins (c : Nat) (fs : List (Str × U))
instance : Inhabited HU := ⟨.lst []⟩
abbrev Hq := HA HU
structure Ex where
  c : Nat
  fs : List (Str × U) := []
inductive Res (α : Type) where
  | ok (a : α) (h : Hq)
  | exc (x : Ex) (h : Hq)
  | bad
abbrev Sl := List (Option U)
abbrev Ev := Sl → Hq → Res U
abbrev Evt := Sl → Hq → Res Bool
abbrev Eva := Sl → Hq → Res (List U)
inductive SRes where
  | nx (s : Sl) (h : Hq) | rt (u : U) (h : Hq) | bk (s : Sl) (h : Hq) | ct (s : Sl) (h : Hq)
  | exc (x : Ex) (s : Sl) (h : Hq)
  | bad
abbrev SM := Sl → Hq → SRes
abbrev Fn := List U → Hq → Res U

def Res.bind {α β : Type} (r : Res α) (k : α → Hq → Res β) : Res β := match r with
  | .ok a h => k a h
  | .exc x h => .exc x h
  | .bad => .bad

/-! ### what stands for what -/
/-- a tracked tuple -/
abbrev TU (_ : PySem.W.Frag) (H : Hp) (a : Addr) (vs : List V) : Prop := H a = some (.tup vs)
/-- an untracked list: it stays as it is -/
def FL (K : PySem.W.Frag) (ρ : List Addr) (H : Hp) (a : Addr) (vs : List V) : Prop := (Rd H a (.lst vs) ∧ a ∉ ρ) ∨
  ∃ (o : Obj) (its : Array Value) (n : Nat), K.lookup a = some o ∧ o.cls = .type "list" ∧ o.dict = none ∧ o.data = .seq its n ∧ its.size ≤ sizeLine ∧ Vals vs its.toList
theorem FL.sq {K : PySem.W.Frag} {ρ : List Addr} {H : Hp} {a : Addr} {vs : List V} (f : FL K ρ H a vs) : SqL K H a vs := f.elim (fun z => .inl z.1) .inr
section
variable (K : PySem.W.Frag) (cls : Nat → Addr) (ρ : List Addr) (H : Hp)
mutual
def RU : U → V → Prop
  | .non, v => v = .non
  | .bl b, v => v = .bl b
  | .int i, v => v = .int i
  | .str x, v => v = .str x
  | .ty n, v => v = .ty n
  | .adr a, v => v = .ref a
  | .ref n, v => ∃ a, ρ[n]? = some a ∧ v = .ref a
  | .tup l, v => ∃ a vs, v = .ref a ∧ TU K H a vs ∧ RUl l vs
  | .fls l, v => ∃ a vs, v = .ref a ∧ FL K ρ H a vs ∧ RUl l vs
def RUl : List U → List V → Prop
  | [], vs => vs = []
  | u :: us, vs => ∃ v r, vs = v :: r ∧ RU u v ∧ RUl us r
end
/-- pairs of a dict, of attributes -/
def RUp {κ : Type} : List (κ × U) → List (κ × V) → Prop
  | [], ws => ws = []
  | (k, u) :: r, ws => ∃ v t, ws = (k, v) :: t ∧ RU K ρ H u v ∧ RUp r t
def RO : HU → Addr → Prop
  | .lst l, a => ∃ vs, H a = some (.lst vs) ∧ RUl K ρ H l vs
  | .frl l, a => ∃ vs, SqL K H a vs ∧ (∃ o, H a = some (.frz o (.lst vs))) ∧ RUl K ρ H l vs
  | .dK kvs, a => ∃ ws, H a = some (.dK ws) ∧ RUp K ρ H kvs ws
  | .dT kvs, a => ∃ ws, H a = some (.dT ws) ∧ RUp K ρ H kvs ws
  | .fK kvs, a => ∃ o ws, H a = some (.frz o (.dK ws)) ∧ RUp K ρ H kvs ws
  | .fT kvs, a => ∃ o ws, H a = some (.frz o (.dT ws)) ∧ RUp K ρ H kvs ws
  | .ins c fs, a => ∃ dx ws, H a = some (.ins (cls c) dx ws) ∧ RUp K ρ H fs ws
end
structure Rel (K : PySem.W.Frag) (cls : Nat → Addr) (ρ : List Addr) (h : Hq) (H : Hp) : Prop where
  len : ρ.length = h.length
  nd : ρ.Nodup
  at_ : ∀ (n : Nat) (o : HU) (a : Addr), h[n]? = some o → ρ[n]? = some a → RO K cls ρ H o a
/-- from one heap to a later one -/
structure Step (ρ : List Addr) (H : Hp) (ρ' : List Addr) (H' : Hp) : Prop where
  pre : ∃ t, ρ' = ρ ++ t
  fresh : ∀ a ∈ ρ', a ∉ ρ → H a = none
  pres : ∀ a o, H a = some o → a ∉ ρ → H' a = some o
  frz : ∀ a o u, H a = some (.frz o u) → H' a = some (.frz o u)
theorem Step.refl {ρ : List Addr} {H : Hp} : Step ρ H ρ H := ⟨⟨[], by simp⟩, fun _ h n => absurd h n, fun _ _ e _ => e, fun _ _ _ e => e⟩
theorem Step.trans {ρ ρ1 ρ2 : List Addr} {H H1 H2 : Hp} (a : Step ρ H ρ1 H1) (b : Step ρ1 H1 ρ2 H2) : Step ρ H ρ2 H2 := by
  obtain ⟨t1, e1⟩ := a.pre
  obtain ⟨t2, e2⟩ := b.pre
  refine ⟨⟨t1 ++ t2, by rw [e2, e1, List.append_assoc]⟩, fun x hx hn => ?_, fun x o e hn => ?_, fun x o u e => b.frz x o u (a.frz x o u e)⟩
  · by_cases h1 : x ∈ ρ1
    · exact a.fresh x h1 hn
    · have z := b.fresh x hx h1
      cases q : H x with
      | none => rfl
      | some o => rw [a.pres x o q hn] at z; cases z
  · refine b.pres x o (a.pres x o e hn) fun h1 => ?_
    rw [a.fresh x h1 hn] at e; cases e
theorem Step.get {ρ ρ' : List Addr} {H H' : Hp} (s : Step ρ H ρ' H') {n : Nat} {a : Addr} (e : ρ[n]? = some a) : ρ'[n]? = some a := by
  obtain ⟨t, rfl⟩ := s.pre
  rw [List.getElem?_append_left (List.getElem?_eq_some_iff.mp e).1]; exact e

section
variable {K : PySem.W.Frag} {cls : Nat → Addr} {ρ ρ' : List Addr} {h h' : Hq} {H H' : Hp}
/-- what is tracked by ρ is no tuple -/
theorem Rel.notup (r : Rel K cls ρ h H) {a : Addr} (ha : a ∈ ρ) : ∀ xs, H a ≠ some (.tup xs) := fun xs e => by
  obtain ⟨n, hn⟩ := List.mem_iff_getElem?.mp ha
  have hl : n < h.length := by rw [← r.len]; exact (List.getElem?_eq_some_iff.mp hn).1
  have z := r.at_ n _ a (HA.getEq hl) hn
  cases q : h[n] with
  | lst l => rw [q] at z; obtain ⟨vs, z, _⟩ := z; rw [e] at z; cases z
  | frl l => rw [q] at z; obtain ⟨vs, _, ⟨o, z⟩, _⟩ := z; rw [e] at z; cases z
  | dK l => rw [q] at z; obtain ⟨vs, z, _⟩ := z; rw [e] at z; cases z
  | dT l => rw [q] at z; obtain ⟨vs, z, _⟩ := z; rw [e] at z; cases z
  | fK l => rw [q] at z; obtain ⟨o, vs, z, _⟩ := z; rw [e] at z; cases z
  | fT l => rw [q] at z; obtain ⟨o, vs, z, _⟩ := z; rw [e] at z; cases z
  | ins c fs => rw [q] at z; obtain ⟨dx, vs, z, _⟩ := z; rw [e] at z; cases z
theorem Rel.nofrt (r : Rel K cls ρ h H) {a : Addr} (ha : a ∈ ρ) : ∀ o xs, H a ≠ some (.frz o (.tup xs)) := fun o xs e => by
  obtain ⟨n, hn⟩ := List.mem_iff_getElem?.mp ha
  have hl : n < h.length := by rw [← r.len]; exact (List.getElem?_eq_some_iff.mp hn).1
  have z := r.at_ n _ a (HA.getEq hl) hn
  cases q : h[n] with
  | lst l => rw [q] at z; obtain ⟨vs, z, _⟩ := z; rw [e] at z; cases z
  | frl l => rw [q] at z; obtain ⟨vs, _, ⟨o, z⟩, _⟩ := z; rw [e] at z; cases z
  | dK l => rw [q] at z; obtain ⟨vs, z, _⟩ := z; rw [e] at z; cases z
  | dT l => rw [q] at z; obtain ⟨vs, z, _⟩ := z; rw [e] at z; cases z
  | fK l => rw [q] at z; obtain ⟨o, vs, z, _⟩ := z; rw [e] at z; cases z
  | fT l => rw [q] at z; obtain ⟨o, vs, z, _⟩ := z; rw [e] at z; cases z
  | ins c fs => rw [q] at z; obtain ⟨dx, vs, z, _⟩ := z; rw [e] at z; cases z
theorem Rel.sqt (r : Rel K cls ρ h H) (s : Step ρ H ρ' H') {a : Addr} {vs : List V} (t : SqT K H a vs) : SqT K H' a vs := by
  rcases t with (t | ⟨o, t⟩) | t
  · exact .inl (.inl (s.pres a _ t fun ha => r.notup ha _ t))
  · exact .inl (.inr ⟨o, s.pres a _ t fun ha => r.nofrt ha _ _ t⟩)
  · exact .inr t
theorem FL.mono {a : Addr} {vs : List V} (s : Step ρ H ρ' H') (f : FL K ρ H a vs) : FL K ρ' H' a vs := by
  rcases f with ⟨q, n⟩ | q
  · refine .inl ⟨?_, fun hm => ?_⟩
    · rcases q with q | ⟨o, q⟩
      · exact .inl (s.pres a _ q n)
      · exact .inr ⟨o, s.frz a _ _ q⟩
    · have z := s.fresh a hm n
      rcases q with q | ⟨o, q⟩ <;> (rw [q] at z; cases z)
  · exact .inr q
mutual
theorem RU.mono (r : Rel K cls ρ h H) (s : Step ρ H ρ' H') : ∀ {u : U} {v : V}, RU K ρ H u v → RU K ρ' H' u v
  | .non, _, e => e
  | .bl _, _, e => e
  | .int _, _, e => e
  | .str _, _, e => e
  | .ty _, _, e => e
  | .adr _, _, e => e
  | .ref _, _, ⟨a, e, q⟩ => ⟨a, s.get e, q⟩
  | .tup _, _, ⟨a, vs, e, t, q⟩ => ⟨a, vs, e, s.pres a _ t (fun ha => r.notup ha _ t), RUl.mono r s q⟩
  | .fls _, _, ⟨a, vs, e, t, q⟩ => ⟨a, vs, e, t.mono s, RUl.mono r s q⟩
theorem RUl.mono (r : Rel K cls ρ h H) (s : Step ρ H ρ' H') : ∀ {us : List U} {vs : List V}, RUl K ρ H us vs → RUl K ρ' H' us vs
  | [], _, e => e
  | _ :: _, _, ⟨v, t, e, q, z⟩ => ⟨v, t, e, RU.mono r s q, RUl.mono r s z⟩
end
theorem RUp.mono {κ : Type} (r : Rel K cls ρ h H) (s : Step ρ H ρ' H') : ∀ {us : List (κ × U)} {vs : List (κ × V)}, RUp K ρ H us vs → RUp K ρ' H' us vs
  | [], _, e => e
  | (_, _) :: _, _, ⟨v, t, e, q, z⟩ => ⟨v, t, e, RU.mono r s q, RUp.mono r s z⟩
end

/-! ### slots -/
def RS (K : PySem.W.Frag) (ρ : List Addr) (H : Hp) (us : Sl) (σ : L2.St) : Prop := us.length = σ.length ∧ ∀ (i : Nat) (u : U), us[i]? = some (some u) → ∃ v, σ[i]? = some (some v) ∧ RU K ρ H u v
theorem RS.mono {K : PySem.W.Frag} {cls : Nat → Addr} {ρ ρ' : List Addr} {h : Hq} {H H' : Hp} {us : Sl} {σ : L2.St} (r : Rel K cls ρ h H) (s : Step ρ H ρ' H') (q : RS K ρ H us σ) : RS K ρ' H' us σ :=
  ⟨q.1, fun i u e => let ⟨v, e1, e2⟩ := q.2 i u e; ⟨v, e1, RU.mono r s e2⟩⟩

/-! ### a reading made of a function -/
abbrev RelT (α β : Type) := List Addr → Hp → α → β → Prop
/-- an exception: its class -/
def RX (cls : Nat → Addr) (ρ : List Addr) (H : Hp) (x : Ex) (c : Value) (d : Option Addr) : Prop := c = .ref (cls x.c)
section
variable (K : PySem.W.Frag) (cls : Nat → Addr) (W : WX)
def Post {α β : Type} (R : RelT α β) (ρ : List Addr) (σ : L2.St) (H : Hp) (Q : β → Hp → Prop) : Res α → Prop
  | .ok u h => ∀ v H' ρ', Step ρ H ρ' H' → Rel K cls ρ' h H' → R ρ' H' u v → Q v H'
  | .exc x h => ∀ c d H' ρ', Step ρ H ρ' H' → Rel K cls ρ' h H' → RX cls ρ' H' x c d → W c d σ H'
  | .bad => False
def PostS (ρ : List Addr) (H : Hp) (D : Ends) : SRes → Prop
  | .nx us h => ∀ σ' H' ρ', Step ρ H ρ' H' → Rel K cls ρ' h H' → RS K ρ' H' us σ' → D.nx σ' H'
  | .bk us h => ∀ σ' H' ρ', Step ρ H ρ' H' → Rel K cls ρ' h H' → RS K ρ' H' us σ' → D.bk σ' H'
  | .ct us h => ∀ σ' H' ρ', Step ρ H ρ' H' → Rel K cls ρ' h H' → RS K ρ' H' us σ' → D.ct σ' H'
  | .rt u h => ∀ v H' ρ', Step ρ H ρ' H' → Rel K cls ρ' h H' → RU K ρ' H' u v → D.rt v H'
  | .exc x us h => ∀ c d σ' H' ρ', Step ρ H ρ' H' → Rel K cls ρ' h H' → RS K ρ' H' us σ' → RX cls ρ' H' x c d → W c d σ' H'
  | .bad => False
/-- the state is that of us, h -/
structure At (ρ : List Addr) (us : Sl) (h : Hq) (σ : L2.St) (H : Hp) : Prop where
  rel : Rel K cls ρ h H
  sl : RS K ρ H us σ
def tG {α β : Type} (R : RelT α β) (m : Sl → Hq → Res α) : L2.St → Hp → (β → Hp → Prop) → Prop := fun σ H Q => ∃ us h ρ, At K cls ρ us h σ H ∧ Post K cls W R ρ σ H Q (m us h)
abbrev rT : RelT Bool Bool := fun _ _ a b => a = b
abbrev tE (m : Ev) : TE := tG K cls W (RU K) m
abbrev tT (m : Evt) : TT := tG K cls W rT m
abbrev tA (m : Eva) : TA := tG K cls W (RUl K) m
def tM (m : SM) : TS := fun D σ H => ∃ us h ρ, At K cls ρ us h σ H ∧ PostS K cls W ρ H D (m us h)
end
section
variable {K : PySem.W.Frag} {cls : Nat → Addr} {W : WX} {ρ ρ' : List Addr} {us : Sl} {h h' : Hq} {σ : L2.St} {H H' : Hp}
theorem At.step (a : At K cls ρ us h σ H) (s : Step ρ H ρ' H') (r : Rel K cls ρ' h' H') : At K cls ρ' us h' σ H' := ⟨r, a.sl.mono a.rel s⟩
theorem Post.step {α β : Type} {R : RelT α β} {Q : β → Hp → Prop} (s : Step ρ H ρ' H') : ∀ {r : Res α}, Post K cls W R ρ σ H Q r → Post K cls W R ρ' σ H' Q r
  | .ok _ _, p => fun v H2 ρ2 t => p v H2 ρ2 (s.trans t)
  | .exc _ _, p => fun c d H2 ρ2 t => p c d H2 ρ2 (s.trans t)
  | .bad, p => p
theorem PostS.step {D : Ends} (s : Step ρ H ρ' H') : ∀ {r : SRes}, PostS K cls W ρ H D r → PostS K cls W ρ' H' D r
  | .nx _ _, p => fun v H2 ρ2 t => p v H2 ρ2 (s.trans t)
  | .bk _ _, p => fun v H2 ρ2 t => p v H2 ρ2 (s.trans t)
  | .ct _ _, p => fun v H2 ρ2 t => p v H2 ρ2 (s.trans t)
  | .rt _ _, p => fun v H2 ρ2 t => p v H2 ρ2 (s.trans t)
  | .exc _ _ _, p => fun c d v H2 ρ2 t => p c d v H2 ρ2 (s.trans t)
  | .bad, p => p
/-- a value at once -/
theorem Post.ok {α β : Type} {R : RelT α β} {Q : β → Hp → Prop} {u : α} {v : β} (p : Post K cls W R ρ σ H Q (.ok u h)) (r : Rel K cls ρ h H) (q : R ρ H u v) : Q v H := p v H ρ Step.refl r q
/-- the first part of a row -/
theorem Post.bind {α β γ δ : Type} {R : RelT α β} {R' : RelT γ δ} {Q : δ → Hp → Prop} {r : Res α} {k : α → Hq → Res γ} (a : At K cls ρ us h σ H) (p : Post K cls W R' ρ σ H Q (r.bind k)) :
    Post K cls W R ρ σ H (fun v H1 => ∃ u h1 ρ1, Step ρ H ρ1 H1 ∧ At K cls ρ1 us h1 σ H1 ∧ R ρ1 H1 u v ∧ Post K cls W R' ρ1 σ H1 Q (k u h1)) r := by
  cases r with
  | ok u h1 => exact fun v H1 ρ1 s r1 q => ⟨u, h1, ρ1, s, a.step s r1, q, Post.step s (r := k u h1) p⟩
  | exc x h1 => exact p
  | bad => exact p
theorem Post.imp {α β : Type} {R : RelT α β} {Q Q' : β → Hp → Prop} (i : ∀ v H', Q v H' → Q' v H') : ∀ {r : Res α}, Post K cls W R ρ σ H Q r → Post K cls W R ρ σ H Q' r
  | .ok _ _, p => fun v H2 ρ2 t r q => i v H2 (p v H2 ρ2 t r q)
  | .exc _ _, p => p
  | .bad, p => p
end

/-- the judgements with such readings -/
abbrev SE (X : Cx) (cls : Nat → Addr) (W : WX) (e : Expr) (m : Ev) : Prop := PE X e (tE X.K cls W m)
abbrev ST (X : Cx) (cls : Nat → Addr) (W : WX) (e : Expr) (m : Evt) : Prop := PT X e (tT X.K cls W m)
abbrev SA (X : Cx) (cls : Nat → Addr) (W : WX) (es : List Expr) (m : Eva) : Prop := PA X es (tA X.K cls W m)
abbrev SS (X : Cx) (cls : Nat → Addr) (W : WX) (s : Stmt) (m : SM) : Prop := PS X s (tM X.K cls W m)
abbrev SSs (X : Cx) (cls : Nat → Addr) (W : WX) (s : List Stmt) (m : SM) : Prop := PSs X s (tM X.K cls W m)
theorem pe_imp {X : Cx} {e : Expr} {t t' : TE} (h : PE X e t) (i : ∀ σ H Q, t' σ H Q → t σ H Q) : PE X e t' := ⟨fun pins s σ H Q I hw => h.run pins s σ H Q I (i σ H Q hw)⟩
theorem pt_imp {X : Cx} {e : Expr} {t t' : TT} (h : PT X e t) (i : ∀ σ H Q, t' σ H Q → t σ H Q) : PT X e t' := ⟨fun pins s σ H Q I hw => h.run pins s σ H Q I (i σ H Q hw)⟩
theorem pa_imp {X : Cx} {e : List Expr} {t t' : TA} (h : PA X e t) (i : ∀ σ H Q, t' σ H Q → t σ H Q) : PA X e t' := ⟨fun pos pins s σ H Q I hw => h.run pos pins s σ H Q I (i σ H Q hw)⟩
theorem ps_imp {X : Cx} {e : Stmt} {t t' : TS} (h : PS X e t) (i : ∀ D σ H, t' D σ H → t D σ H) : PS X e t' := ⟨fun pins s σ H D I hw => h.run pins s σ H D I (i D σ H hw)⟩
theorem pss_imp {X : Cx} {e : List Stmt} {t t' : TS} (h : PSs X e t) (i : ∀ D σ H, t' D σ H → t D σ H) : PSs X e t' := ⟨fun pins s σ H D I hw => h.run pins s σ H D I (i D σ H hw)⟩

/-! ### names, constants -/
section
variable {X : Cx} {cls : Nat → Addr} {W : WX} {pos : Pos}
def evVar (i : Nat) : Ev := fun us h => match us[i]? with
  | some (some u) => .ok u h
  | _ => .bad
def evC (u : U) : Ev := fun _ h => .ok u h
theorem se_var (i : Nat) {x : Str} (hN : X.N[i]? = some x := by rfl) (hv : Vis X.env.scope x := by first | exact Or.inl rfl | exact Or.inr (Or.inl rfl) | exact Or.inr (Or.inr rfl)) (hd : (x == ("__debug__" : Str)) = false := by decide)
    (hcd : (x == ("__classdict__" : Str)) = false := by decide) : SE X cls W (.Name x pos) (evVar i) := pe_imp (pe_var hN hv hd hcd) fun σ H Q ⟨us, h, ρ, a, p⟩ => by
  unfold evVar at p
  split at p
  · rename_i u e
    obtain ⟨v, e1, e2⟩ := a.sl.2 i u e
    exact ⟨v, e1, p.ok a.rel e2⟩
  · exact p.elim
theorem se_int {i : Int} {j : Nat} : SE X cls W (.Constant (.int i) j pos) (evC (.int i)) := pe_imp pe_int fun σ H Q ⟨us, h, ρ, a, p⟩ => p.ok (v := V.int i) a.rel rfl
theorem se_bl {b : Bool} {j : Nat} : SE X cls W (.Constant (.bool b) j pos) (evC (.bl b)) := pe_imp pe_bl fun σ H Q ⟨us, h, ρ, a, p⟩ => p.ok (v := V.bl b) a.rel rfl
theorem se_non {j : Nat} : SE X cls W (.Constant .none j pos) (evC .non) := pe_imp pe_non fun σ H Q ⟨us, h, ρ, a, p⟩ => p.ok (v := V.non) a.rel rfl
theorem se_str {x : Str} {j : Nat} : SE X cls W (.Constant (.str x) j pos) (evC (.str x)) := pe_imp pe_str fun σ H Q ⟨us, h, ρ, a, p⟩ => p.ok (v := V.str x) a.rel rfl
theorem se_gint {x : Str} {i : Int} (hg : Gl X x) (hm : ∃ t, X.mg x = some (.int i t)) (hd : (x == ("__debug__" : Str)) = false := by decide) : SE X cls W (.Name x pos) (evC (.int i)) :=
  pe_imp (pe_glob (v := .int i) hg hm.choose_spec ⟨_, rfl⟩ hd) fun σ H Q ⟨us, h, ρ, a, p⟩ => p.ok (v := V.int i) a.rel rfl
theorem se_gstr {x : Str} {i : Str} (hg : Gl X x) (hm : ∃ t, X.mg x = some (.str i t)) (hd : (x == ("__debug__" : Str)) = false := by decide) : SE X cls W (.Name x pos) (evC (.str i)) :=
  pe_imp (pe_glob (v := .str i) hg hm.choose_spec ⟨_, rfl⟩ hd) fun σ H Q ⟨us, h, ρ, a, p⟩ => p.ok (v := V.str i) a.rel rfl
theorem se_gadr {x : Str} {b : Addr} (hg : Gl X x) (hm : X.mg x = some (.ref b)) (hd : (x == ("__debug__" : Str)) = false := by decide) : SE X cls W (.Name x pos) (evC (.adr b)) :=
  pe_imp (pe_glob (v := .ref b) hg hm rfl hd) fun σ H Q ⟨us, h, ρ, a, p⟩ => p.ok (v := V.ref b) a.rel rfl
end

/-! ### two-place operations -/
section
variable {X : Cx} {cls : Nat → Addr} {W : WX} {pos : Pos} {a b : Expr} {ma mb : Ev}
abbrev F2 := U → U → Hq → Res U
def evBin (f : F2) (ma mb : Ev) : Ev := fun us h => (ma us h).bind fun x h1 => (mb us h1).bind fun y h2 => f x y h2
/-- the operation op, by values, does as f says -/
def OpW (X : Cx) (cls : Nat → Addr) (W : WX) (op : Value → Value → Sem Value) (f : F2) : Prop := ∀ (pins : List (Addr × Obj)) (s : Shared) (σ : L2.St) (ρ : List Addr) (h : Hq) (H : Hp) (a b : U) (x y : V) (v u : Value) (Q : VK),
  Inv X pins σ H s → RelV x v → RelV y u → Rel X.K cls ρ h H → RU X.K ρ H a x → RU X.K ρ H b y → Post X.K cls W (RU X.K) ρ σ H Q (f a b h) → wpAny (model X.prog X.w) X.A (op v u) (EP X pins σ Q) X.xe s
/-- f says what r asks -/
def OpG (K : PySem.W.Frag) (cls : Nat → Addr) (f : F2) (r : R2) : Prop := ∀ (W : WX) (σ : L2.St) (ρ : List Addr) (h : Hq) (H : Hp) (a b : U) (x y : V) (Q : VK), Rel K cls ρ h H → RU K ρ H a x → RU K ρ H b y → Post K cls W (RU K) ρ σ H Q (f a b h) → r x y H Q
theorem OpW.of {op : Value → Value → Sem Value} {f : F2} {r : R2} (ho : OpR X op r) (hf : OpG X.K cls f r) : OpW X cls W op f := fun pins s σ ρ h H a b x y v u Q I rx ry rel qa qb p => ho pins s σ H x y v u Q I rx ry (hf W σ ρ h H a b x y Q rel qa qb p)
theorem binW {op : Value → Value → Sem Value} {f : F2} (ho : OpW X cls W op f) (ha : SE X cls W a ma) (hb : SE X cls W b mb) {pins : List (Addr × Obj)} {s : Shared} {σ : L2.St} {H : Hp} {Q : VK} (I : Inv X pins σ H s) (hw : tE X.K cls W (evBin f ma mb) σ H Q) :
    wpAny (model X.prog X.w) X.A (eval a X.env) (fun v s₁ => wpAny (model X.prog X.w) X.A (eval b X.env) (fun u s₂ => wpAny (model X.prog X.w) X.A (op v u) (EP X pins σ Q) X.xe s₂) X.xe s₁) X.xe s := by
  obtain ⟨us, h, ρ, at_, p⟩ := hw
  refine thn (ha.run pins s σ H _ I ⟨us, h, ρ, at_, Post.bind (R := RU X.K) at_ p⟩) fun v s1 ⟨x, H1, I1, rx, u, h1, ρ1, s1', at1, q1, p1⟩ => ?_
  refine thn (hb.run pins s1 σ H1 _ I1 ⟨us, h1, ρ1, at1, Post.bind (R := RU X.K) at1 p1⟩) fun v2 s2 ⟨y, H2, I2, ry, w, h2, ρ2, s2', at2, q2, p2⟩ => ?_
  exact ho pins s2 σ ρ2 h2 H2 u w x y v v2 Q I2 rx ry at2.rel (RU.mono at1.rel s2' q1) q2 p2
theorem se_bin {op : Operator} {f : F2} (ho : OpW X cls W (binaryOp op) f) (ha : SE X cls W a ma) (hb : SE X cls W b mb) : SE X cls W (.BinOp a op b pos) (evBin f ma mb) :=
  ⟨fun pins s σ H Q I hw => wpAny_BinOp (binW ho ha hb I hw)⟩
theorem se_cmp {op : CmpOp} {f : F2} (ho : OpW X cls W (compareOp op) f) (ha : SE X cls W a ma) (hb : SE X cls W b mb) (hm : behindInMarks op b = false := by first | exact nobehind _ (by decide) (by decide) | rfl) : SE X cls W (.Compare a [op] [b] pos) (evBin f ma mb) :=
  ⟨fun pins s σ H Q I hw => wpAny_Compare1 (binW ho ha hb I hw) hm⟩
end
end GG
/-! GStm -/
namespace GG
open PySem PySem.Spec PyProof.Rows L2
/-! ### tests -/
section
variable {X : Cx} {cls : Nat → Addr} {W : WX} {pos : Pos} {a b c : Expr} {rest : List Expr} {ma mb mc : Ev} {ta tb tc : Evt}
def isB : U → Hq → Res Bool
  | .bl k, h => .ok k h
  | _, _ => .bad
def evB (m : Ev) : Evt := fun us h => (m us h).bind isB
theorem isB_imp {K : PySem.W.Frag} {ρ : List Addr} {σ : L2.St} {h : Hq} {H : Hp} {u : U} {v : V} {Q : Bool → Hp → Prop} (r : Rel K cls ρ h H) (q : RU K ρ H u v) (p : Post K cls W rT ρ σ H Q (isB u h)) : ∃ k, v = .bl k ∧ Q k H := by
  cases u with
  | bl k => exact ⟨k, q, p.ok (v := k) r rfl⟩
  | _ => exact p.elim
theorem tB_imp {m : Ev} : ∀ σ H Q, tT X.K cls W (evB m) σ H Q → tTest (tE X.K cls W m) σ H Q := fun σ H Q ⟨us, h, ρ, at_, p⟩ => by
  refine ⟨us, h, ρ, at_, Post.imp (fun x H1 q => ?_) (Post.bind (R := RU X.K) at_ p)⟩
  obtain ⟨u, h1, ρ1, s1, at1, q1, p1⟩ := q
  exact isB_imp at1.rel q1 p1
theorem st_val (ha : SE X cls W a ma) (he : ∀ whole, isTrue a X.env whole = (do let v ← whole; standAt a.pos; holding [v] (truthy v)) := by intro _; rfl) : ST X cls W a (evB ma) := pt_imp (pt_val ha he) tB_imp
theorem st_cmp {op : CmpOp} {f : F2} (ho : OpW X cls W (compareOp op) f) (ha : SE X cls W a ma) (hb : SE X cls W b mb) (hm : behindInMarks op b = false := by first | exact nobehind _ (by decide) (by decide) | rfl) : ST X cls W (.Compare a [op] [b] pos) (evB (evBin f ma mb)) := by
  refine ⟨fun pins s σ H Q I hw => ?_⟩
  obtain ⟨us, h, ρ, at_, p⟩ := tB_imp (X := X) σ H Q hw
  refine wpAny_isTrue_Compare1 (thn (ha.run pins s σ H _ I ⟨us, h, ρ, at_, Post.bind (R := RU X.K) at_ p⟩) fun v s1 ⟨x, H1, I1, rx, u, h1, ρ1, s1', at1, q1, p1⟩ =>
    thn (hb.run pins s1 σ H1 _ I1 ⟨us, h1, ρ1, at1, Post.bind (R := RU X.K) at1 p1⟩) fun v2 s2 ⟨y, H2, I2, ry, w, h2, ρ2, s2', at2, q2, p2⟩ =>
    thn (ho pins s2 σ ρ2 h2 H2 u w x y v v2 _ I2 rx ry at2.rel (RU.mono at1.rel s2' q1) q2 p2) fun c s3 ⟨z, H3, I3, r3, k, e, q3⟩ => ?_) hm
  subst e
  cases r3
  exact wpAny_truthy_bool ⟨H3, I3, q3⟩
/-- a < b < c -/
def evChain (f g : F2) (ma mb mc : Ev) : Ev := fun us h => (ma us h).bind fun x h1 => (mb us h1).bind fun y h2 => (f x y h2).bind fun z h3 => (isB z h3).bind fun k h4 => cond k ((mc us h4).bind fun w h5 => g y w h5) (.ok (.bl false) h4)
/-- the second link, from behind the first -/
theorem chain_mid {f g : F2} {σ : L2.St} {us : Sl} {h2 : Hq} {ρ2 : List Addr} {H2 : Hp} {Q : VK} {u w : U} {y : V} (at2 : At X.K cls ρ2 us h2 σ H2) (q2 : RU X.K ρ2 H2 w y)
    (p2 : Post X.K cls W (RU X.K) ρ2 σ H2 Q ((f u w h2).bind fun z h3 => (isB z h3).bind fun k h4 => cond k ((mc us h4).bind fun t h5 => g w t h5) (.ok (.bl false) h4))) :
    Post X.K cls W (RU X.K) ρ2 σ H2 (fun z H3 => ∃ k, z = .bl k ∧ ((k = true ∧ tE X.K cls W mc σ H3 fun t H4 => ∃ ut h4 ρ4, At X.K cls ρ4 us h4 σ H4 ∧ RU X.K ρ4 H4 w y ∧ RU X.K ρ4 H4 ut t ∧ Post X.K cls W (RU X.K) ρ4 σ H4 Q (g w ut h4)) ∨ (k = false ∧ Q (.bl false) H3))) (f u w h2) := by
  refine Post.imp (fun z H3 q => ?_) (Post.bind (R := RU X.K) at2 p2)
  obtain ⟨uz, h3, ρ3, s3, at3, q3, p3⟩ := q
  cases uz with
  | bl k =>
    refine ⟨k, q3, ?_⟩
    cases k with
    | true =>
      refine .inl ⟨rfl, us, h3, ρ3, at3, Post.imp (fun t H4 q => ?_) (Post.bind (R := RU X.K) at3 p3)⟩
      obtain ⟨ut, h4, ρ4, s4, at4, q4, p4⟩ := q
      exact ⟨ut, h4, ρ4, at4, RU.mono at3.rel s4 (RU.mono at2.rel s3 q2), q4, p4⟩
    | false => exact .inr ⟨rfl, Post.ok (v := V.bl false) (σ := σ) (u := U.bl false) p3 at3.rel rfl⟩
  | _ => exact p3.elim
theorem se_chain {op op' : CmpOp} {f g : F2} (ho : OpW X cls W (compareOp op) f) (ho' : OpW X cls W (compareOp op') g) (ha : SE X cls W a ma) (hb : SE X cls W b mb) (hc : SE X cls W c mc)
    (hm : lastMarks [op, op'] [b, c] = false := by with_unfolding_all rfl) : SE X cls W (.Compare a [op, op'] [b, c] pos) (evChain f g ma mb mc) := by
  refine ⟨fun pins s σ H Q I ⟨us, h, ρ, at_, p⟩ => ?_⟩
  refine Compare_chain (thn (ha.run pins s σ H _ I ⟨us, h, ρ, at_, Post.bind (R := RU X.K) at_ p⟩) fun v s1 ⟨x, H1, I1, rx, u, h1, ρ1, s1', at1, q1, p1⟩ => chain_link (thn (hb.run pins s1 σ H1 _ I1 ⟨us, h1, ρ1, at1, Post.bind (R := RU X.K) at1 p1⟩) fun v2 s2 ⟨y, H2, I2, ry, w, h2, ρ2, s2', at2, q2, p2⟩ =>
    thn (ho pins s2 σ ρ2 h2 H2 u w x y v v2 _ I2 rx ry at2.rel (RU.mono at1.rel s2' q1) q2 (chain_mid at2 q2 p2)) fun d s3 ⟨z, H3, I3, r3, k, e, q3⟩ => ?_)) hm
  subst e
  cases r3
  refine wpAny_truthy_bool ?_
  rcases q3 with ⟨rfl, q3⟩ | ⟨rfl, q3⟩
  · exact ite_tt (chain_last (thn (hc.run pins s3 σ H3 _ I3 q3) fun w' s4 ⟨t, H4, I4, r4, ut, h4, ρ4, at4, qw, qt, p4⟩ => ho' pins s4 σ ρ4 h4 H4 w ut y t v2 w' Q I4 ry r4 at4.rel qw qt p4))
  · exact ite_ff ⟨.bl false, H3, I3, rfl, q3⟩
theorem st_chain {op op' : CmpOp} {f g : F2} (ho : OpW X cls W (compareOp op) f) (ho' : OpW X cls W (compareOp op') g) (ha : SE X cls W a ma) (hb : SE X cls W b mb) (hc : SE X cls W c mc)
    (hm : lastMarks [op, op'] [b, c] = false := by with_unfolding_all rfl) : ST X cls W (.Compare a [op, op'] [b, c] pos) (evB (evChain f g ma mb mc)) := by
  refine ⟨fun pins s σ H Q I hw => ?_⟩
  obtain ⟨us, h, ρ, at_, p⟩ := tB_imp (X := X) σ H Q hw
  refine isTrue_chain (thn (ha.run pins s σ H _ I ⟨us, h, ρ, at_, Post.bind (R := RU X.K) at_ p⟩) fun v s1 ⟨x, H1, I1, rx, u, h1, ρ1, s1', at1, q1, p1⟩ => test_link (thn (hb.run pins s1 σ H1 _ I1 ⟨us, h1, ρ1, at1, Post.bind (R := RU X.K) at1 p1⟩) fun v2 s2 ⟨y, H2, I2, ry, w, h2, ρ2, s2', at2, q2, p2⟩ =>
    thn (ho pins s2 σ ρ2 h2 H2 u w x y v v2 _ I2 rx ry at2.rel (RU.mono at1.rel s2' q1) q2 (chain_mid at2 q2 p2)) fun d s3 ⟨z, H3, I3, r3, k, e, q3⟩ => ?_)) hm
  subst e
  cases r3
  refine wpAny_truthy_bool ?_
  rcases q3 with ⟨rfl, q3⟩ | ⟨rfl, q3⟩
  · refine ite_tt (test_last (thn (hc.run pins s3 σ H3 _ I3 q3) fun w' s4 ⟨t, H4, I4, r4, ut, h4, ρ4, at4, qw, qt, p4⟩ => thn (ho' pins s4 σ ρ4 h4 H4 w ut y t v2 w' _ I4 ry r4 at4.rel qw qt p4) fun d' s5 ⟨z2, H5, I5, r5, k2, e2, q5⟩ => ?_))
    subst e2
    cases r5
    exact wpAny_truthy_bool ⟨H5, I5, q5⟩
  · obtain ⟨k', e', q'⟩ := q3
    cases e'
    exact ite_ff ⟨H3, I3, q'⟩
/-- not -/
def etNot (t : Evt) : Evt := fun us h => (t us h).bind fun k h1 => .ok (!k) h1
theorem tnot_imp : ∀ σ H Q, tT X.K cls W (etNot ta) σ H Q → tNot (tT X.K cls W ta) σ H Q := fun σ H Q ⟨us, h, ρ, at_, p⟩ => by
  refine ⟨us, h, ρ, at_, Post.imp (fun x H1 q => ?_) (Post.bind (R := rT) at_ p)⟩
  obtain ⟨u, h1, ρ1, s1, at1, q1, p1⟩ := q
  subst q1
  exact p1.ok (v := !u) at1.rel rfl
theorem st_not (ha : ST X cls W a ta) : ST X cls W (.UnaryOp .Not a pos) (etNot ta) := pt_imp (pt_not ha) tnot_imp
def evNot (m : Ev) : Ev := fun us h => (m us h).bind fun x h1 => (isB x h1).bind fun k h2 => .ok (.bl (!k)) h2
theorem se_not (ha : SE X cls W a ma) : SE X cls W (.UnaryOp .Not a pos) (evNot ma) := pe_imp (pe_not ha) fun σ H Q ⟨us, h, ρ, at_, p⟩ => by
  refine ⟨us, h, ρ, at_, Post.imp (fun x H1 q => ?_) (Post.bind (R := RU X.K) at_ p)⟩
  obtain ⟨u, h1, ρ1, s1, at1, q1, p1⟩ := q
  cases u with
  | bl k => exact ⟨k, q1, p1.ok (v := V.bl (!k)) at1.rel rfl⟩
  | _ => exact p1.elim
/-- and, or as tests -/
abbrev SW (X : Cx) (cls : Nat → Addr) (W : WX) (e : Expr) (m : Evt) : Prop := PW X e (tT X.K cls W m)
theorem pw_imp {X : Cx} {e : Expr} {t t' : TT} (h : PW X e t) (i : ∀ σ H Q, t' σ H Q → t σ H Q) : PW X e t' := ⟨fun w pins s σ H Q I hw => h.run w pins s σ H Q I (i σ H Q hw)⟩
def etAnd (t u : Evt) : Evt := fun us h => (t us h).bind fun k h1 => cond k (u us h1) (.ok false h1)
def etOr (t u : Evt) : Evt := fun us h => (t us h).bind fun k h1 => cond k (.ok true h1) (u us h1)
theorem sw_and (ha : ST X cls W a ta) (hb : SW X cls W (.BoolOp .And (b :: rest) pos) tb) : SW X cls W (.BoolOp .And (a :: b :: rest) pos) (etAnd ta tb) := pw_imp (pw_and ha hb) fun σ H Q ⟨us, h, ρ, at_, p⟩ => by
  refine ⟨us, h, ρ, at_, Post.imp (fun x H1 q => ?_) (Post.bind (R := rT) at_ p)⟩
  obtain ⟨u, h1, ρ1, s1, at1, q1, p1⟩ := q
  subst q1
  cases u with
  | true => rw [if_pos rfl]; exact ⟨us, h1, ρ1, at1, p1⟩
  | false => rw [if_neg Bool.false_ne_true]; exact p1.ok (v := false) at1.rel rfl
theorem sw_or (ha : ST X cls W a ta) (hb : SW X cls W (.BoolOp .Or (b :: rest) pos) tb) : SW X cls W (.BoolOp .Or (a :: b :: rest) pos) (etOr ta tb) := pw_imp (pw_or ha hb) fun σ H Q ⟨us, h, ρ, at_, p⟩ => by
  refine ⟨us, h, ρ, at_, Post.imp (fun x H1 q => ?_) (Post.bind (R := rT) at_ p)⟩
  obtain ⟨u, h1, ρ1, s1, at1, q1, p1⟩ := q
  subst q1
  cases u with
  | false => rw [if_neg Bool.false_ne_true]; exact ⟨us, h1, ρ1, at1, p1⟩
  | true => rw [if_pos rfl]; exact p1.ok (v := true) at1.rel rfl
theorem sw_and1 (ha : ST X cls W a ta) : SW X cls W (.BoolOp .And [a] pos) ta := pw_and1 ha
theorem sw_or1 (ha : ST X cls W a ta) : SW X cls W (.BoolOp .Or [a] pos) ta := pw_or1 ha
theorem SW.st (h : SW X cls W a ta) : ST X cls W a ta := PW.pt h
/-- and, or as values, all but the last truth values -/
def evAnd (ma mb : Ev) : Ev := fun us h => (ma us h).bind fun x h1 => (isB x h1).bind fun k h2 => cond k (mb us h2) (.ok (.bl false) h2)
def evOr (ma mb : Ev) : Ev := fun us h => (ma us h).bind fun x h1 => (isB x h1).bind fun k h2 => cond k (.ok (.bl true) h2) (mb us h2)
theorem se_and (ha : SE X cls W a ma) (hb : SE X cls W (.BoolOp .And (b :: rest) pos) mb) : SE X cls W (.BoolOp .And (a :: b :: rest) pos) (evAnd ma mb) := pe_imp (pe_and ha hb) fun σ H Q ⟨us, h, ρ, at_, p⟩ => by
  refine ⟨us, h, ρ, at_, Post.imp (fun x H1 q => ?_) (Post.bind (R := RU X.K) at_ p)⟩
  obtain ⟨u, h1, ρ1, s1, at1, q1, p1⟩ := q
  cases u with
  | bl k =>
    refine ⟨k, q1, ?_⟩
    cases k with
    | true => rw [if_pos rfl]; exact ⟨us, h1, ρ1, at1, p1⟩
    | false => rw [if_neg Bool.false_ne_true]; exact p1.ok (v := V.bl false) at1.rel rfl
  | _ => exact p1.elim
theorem se_or (ha : SE X cls W a ma) (hb : SE X cls W (.BoolOp .Or (b :: rest) pos) mb) : SE X cls W (.BoolOp .Or (a :: b :: rest) pos) (evOr ma mb) := pe_imp (pe_or ha hb) fun σ H Q ⟨us, h, ρ, at_, p⟩ => by
  refine ⟨us, h, ρ, at_, Post.imp (fun x H1 q => ?_) (Post.bind (R := RU X.K) at_ p)⟩
  obtain ⟨u, h1, ρ1, s1, at1, q1, p1⟩ := q
  cases u with
  | bl k =>
    refine ⟨k, q1, ?_⟩
    cases k with
    | false => rw [if_neg Bool.false_ne_true]; exact ⟨us, h1, ρ1, at1, p1⟩
    | true => rw [if_pos rfl]; exact p1.ok (v := V.bl true) at1.rel rfl
  | _ => exact p1.elim
theorem se_one {op : BoolOp} (ha : SE X cls W a ma) : SE X cls W (.BoolOp op [a] pos) ma := pe_one ha
/-- a if t else b -/
def evIf (t : Evt) (ma mb : Ev) : Ev := fun us h => (t us h).bind fun k h1 => cond k (ma us h1) (mb us h1)
theorem se_if (hc : ST X cls W c tc) (ha : SE X cls W a ma) (hb : SE X cls W b mb) : SE X cls W (.IfExp c a b pos) (evIf tc ma mb) := pe_imp (pe_ifExp hc ha hb) fun σ H Q ⟨us, h, ρ, at_, p⟩ => by
  refine ⟨us, h, ρ, at_, Post.imp (fun x H1 q => ?_) (Post.bind (R := rT) at_ p)⟩
  obtain ⟨u, h1, ρ1, s1, at1, q1, p1⟩ := q
  subst q1
  cases u with
  | true => rw [if_pos rfl]; exact ⟨us, h1, ρ1, at1, p1⟩
  | false => rw [if_neg Bool.false_ne_true]; exact ⟨us, h1, ρ1, at1, p1⟩
end

/-! ### statements -/
section
variable {X : Cx} {cls : Nat → Addr} {W : WX} {pos : Pos} {st : Stmt} {rest : List Stmt} {e : Expr} {me : Ev} {m m' : SM} {tc : Evt}
def SRes.seq (r : SRes) (k : Sl → Hq → SRes) : SRes := match r with
  | .nx us h => k us h
  | r => r
def Res.toS {α : Type} (r : Res α) (us : Sl) (k : α → Hq → SRes) : SRes := match r with
  | .ok u h => k u h
  | .exc x h => .exc x us h
  | .bad => .bad
def mSkip : SM := fun us h => .nx us h
def mBad : SM := fun _ _ => .bad
def mSeq (m m' : SM) : SM := fun us h => (m us h).seq m'
def mExpr (me : Ev) : SM := fun us h => (me us h).toS us fun _ h1 => .nx us h1
def mRet (me : Ev) : SM := fun us h => (me us h).toS us fun u h1 => .rt u h1
def mRetN : SM := fun _ h => .rt .non h
def mIf (t : Evt) (m m' : SM) : SM := fun us h => (t us h).toS us fun k h1 => cond k (m us h1) (m' us h1)
def mBreak : SM := fun us h => .bk us h
def mCont : SM := fun us h => .ct us h
theorem PostS.bind {α β : Type} {K : PySem.W.Frag} {ρ : List Addr} {us : Sl} {h : Hq} {σ : L2.St} {H : Hp} {D : Ends} {R : RelT α β} {r : Res α} {k : α → Hq → SRes} (a : At K cls ρ us h σ H) (p : PostS K cls W ρ H D (r.toS us k)) :
    Post K cls W R ρ σ H (fun v H1 => ∃ u h1 ρ1, Step ρ H ρ1 H1 ∧ At K cls ρ1 us h1 σ H1 ∧ R ρ1 H1 u v ∧ PostS K cls W ρ1 H1 D (k u h1)) r := by
  cases r with
  | ok u h1 => exact fun v H1 ρ1 s r1 q => ⟨u, h1, ρ1, s, a.step s r1, q, PostS.step s (r := k u h1) p⟩
  | exc x h1 => exact fun c d H1 ρ1 s r1 q => p c d σ H1 ρ1 s r1 (a.sl.mono a.rel s) q
  | bad => exact p
theorem PostS.nx {K : PySem.W.Frag} {ρ : List Addr} {us : Sl} {h : Hq} {σ : L2.St} {H : Hp} {D : Ends} (p : PostS K cls W ρ H D (.nx us h)) (a : At K cls ρ us h σ H) : D.nx σ H := p σ H ρ Step.refl a.rel a.sl
theorem ss_pass : SS X cls W (.Pass pos) mSkip := ps_imp ps_pass fun D σ H ⟨us, h, ρ, a, p⟩ => p.nx a
theorem ss_break : SS X cls W (.Break pos) mBreak := ps_imp ps_break fun D σ H ⟨us, h, ρ, a, p⟩ => p σ H ρ Step.refl a.rel a.sl
theorem ss_cont : SS X cls W (.Continue pos) mCont := ps_imp ps_continue fun D σ H ⟨us, h, ρ, a, p⟩ => p σ H ρ Step.refl a.rel a.sl
theorem ss_never : SS X cls W st mBad := ps_imp ps_never fun D σ H ⟨us, h, ρ, a, p⟩ => p
theorem sss_nil : SSs X cls W [] mSkip := pss_imp pss_nil fun D σ H ⟨us, h, ρ, a, p⟩ => p.nx a
theorem sss_cons (h1 : SS X cls W st m) (h2 : SSs X cls W rest m') : SSs X cls W (st :: rest) (mSeq m m') := pss_imp (pss_cons h1 h2) fun D σ H ⟨us, h, ρ, a, p⟩ => by
  refine ⟨us, h, ρ, a, ?_⟩
  unfold mSeq at p
  cases e : m us h with
  | nx us' h' =>
    rw [e] at p
    exact fun σ' H' ρ' s r q => ⟨us', h', ρ', ⟨r, q⟩, PostS.step s p⟩
  | rt u h' => rw [e] at p; exact p
  | bk u h' => rw [e] at p; exact p
  | ct u h' => rw [e] at p; exact p
  | exc x u h' => rw [e] at p; exact p
  | bad => rw [e] at p; exact p
theorem sss_one (h1 : SS X cls W st m) : SSs X cls W [st] m := pss_imp (pss_one h1) fun D σ H h => h
theorem ss_expr (he : SE X cls W e me) (hs : swapsWith e none pos.line X.env = pure false := by rfl) : SS X cls W (.Expr e pos) (mExpr me) := ps_imp (ps_expr he hs) fun D σ H ⟨us, h, ρ, a, p⟩ => by
  refine ⟨us, h, ρ, a, Post.imp (fun x H1 q => ?_) (PostS.bind (R := RU X.K) a p)⟩
  obtain ⟨u, h1, ρ1, s1, at1, q1, p1⟩ := q
  exact p1.nx at1
theorem ss_doc {x : Str} {j : Nat} {pos' : Pos} : SS X cls W (.Expr (.Constant (.str x) j pos) pos') mSkip := ps_imp ps_doc fun D σ H ⟨us, h, ρ, a, p⟩ => p.nx a
theorem ss_ret (he : SE X cls W e me) : SS X cls W (.Return (some e) pos) (mRet me) := ps_imp (ps_ret he) fun D σ H ⟨us, h, ρ, a, p⟩ => by
  refine ⟨us, h, ρ, a, Post.imp (fun x H1 q => ?_) (PostS.bind (R := RU X.K) a p)⟩
  obtain ⟨u, h1, ρ1, s1, at1, q1, p1⟩ := q
  exact p1 x H1 ρ1 Step.refl at1.rel q1
theorem ss_retN : SS X cls W (.Return none pos) mRetN := ps_imp ps_retN fun D σ H ⟨us, h, ρ, a, p⟩ => p .non H ρ Step.refl a.rel rfl
theorem ss_if {c : Expr} {s1 s2 : List Stmt} (hc : ST X cls W c tc) (ha : SSs X cls W s1 m) (hb : SSs X cls W s2 m') : SS X cls W (.If c s1 s2 pos) (mIf tc m m') := ps_imp (ps_if hc ha hb) fun D σ H ⟨us, h, ρ, a, p⟩ => by
  refine ⟨us, h, ρ, a, Post.imp (fun x H1 q => ?_) (PostS.bind (R := rT) a p)⟩
  obtain ⟨u, h1, ρ1, s1, at1, q1, p1⟩ := q
  subst q1
  cases u with
  | true => rw [if_pos rfl]; exact ⟨us, h1, ρ1, at1, p1⟩
  | false => rw [if_neg Bool.false_ne_true]; exact ⟨us, h1, ρ1, at1, p1⟩
end

/-! ### targets -/
section
variable {X : Cx} {cls : Nat → Addr} {W : WX} {pos : Pos} {e : Expr} {me : Ev}
/-- a target: stores a value -/
abbrev GM := U → Sl → Hq → SRes
def PostG (K : PySem.W.Frag) (cls : Nat → Addr) (ρ : List Addr) (H : Hp) (Q : L2.St → Hp → Prop) : SRes → Prop
  | .nx us' h' => ∀ σ' H' ρ', Step ρ H ρ' H' → Rel K cls ρ' h' H' → RS K ρ' H' us' σ' → Q σ' H'
  | _ => False
theorem PostG.step {K : PySem.W.Frag} {cls : Nat → Addr} {ρ ρ' : List Addr} {H H' : Hp} {Q : L2.St → Hp → Prop} (s : Step ρ H ρ' H') : ∀ {r : SRes}, PostG K cls ρ H Q r → PostG K cls ρ' H' Q r
  | .nx _ _, p => fun v H2 ρ2 t => p v H2 ρ2 (s.trans t)
  | .rt _ _, p => p
  | .bk _ _, p => p
  | .ct _ _, p => p
  | .exc _ _ _, p => p
  | .bad, p => p
theorem PostG.seq {K : PySem.W.Frag} {cls : Nat → Addr} {ρ : List Addr} {H : Hp} {Q : L2.St → Hp → Prop} {k : Sl → Hq → SRes} : ∀ {r : SRes}, PostG K cls ρ H Q (r.seq k) →
    PostG K cls ρ H (fun σ' H' => ∃ us' h' ρ', Step ρ H ρ' H' ∧ At K cls ρ' us' h' σ' H' ∧ PostG K cls ρ' H' Q (k us' h')) r
  | .nx us' h', p => fun σ' H' ρ' s r q => ⟨us', h', ρ', s, ⟨r, q⟩, PostG.step s (r := k us' h') p⟩
  | .rt _ _, p => p
  | .bk _ _, p => p
  | .ct _ _, p => p
  | .exc _ _ _, p => p
  | .bad, p => p
theorem PostG.imp {K : PySem.W.Frag} {cls : Nat → Addr} {ρ : List Addr} {H : Hp} {Q Q' : L2.St → Hp → Prop} (i : ∀ ρ' σ' H', Step ρ H ρ' H' → Q σ' H' → Q' σ' H') : ∀ {r : SRes}, PostG K cls ρ H Q r → PostG K cls ρ H Q' r
  | .nx _ _, p => fun v H2 ρ2 t r q => i ρ2 v H2 t (p v H2 ρ2 t r q)
  | .rt _ _, p => p
  | .bk _ _, p => p
  | .ct _ _, p => p
  | .exc _ _ _, p => p
  | .bad, p => p
def tGm (K : PySem.W.Frag) (cls : Nat → Addr) (g : GM) : TG := fun v σ H Q => ∃ us h ρ u, At K cls ρ us h σ H ∧ RU K ρ H u v ∧ PostG K cls ρ H Q (g u us h)
def tGms (K : PySem.W.Frag) (cls : Nat → Addr) (g : List U → Sl → Hq → SRes) : TGs := fun vs σ H Q => ∃ us h ρ l, At K cls ρ us h σ H ∧ RUl K ρ H l vs ∧ PostG K cls ρ H Q (g l us h)
abbrev SG (X : Cx) (cls : Nat → Addr) (e : Expr) (g : GM) : Prop := PG X e (tGm X.K cls g)
abbrev SGs (X : Cx) (cls : Nat → Addr) (es : List Expr) (g : List U → Sl → Hq → SRes) : Prop := PGs X es (tGms X.K cls g)
theorem pg_imp {X : Cx} {e : Expr} {t t' : TG} (h : PG X e t) (i : ∀ v σ H Q, t' v σ H Q → t v σ H Q) : PG X e t' := ⟨fun pins s σ H v u Q I r hw => h.run pins s σ H v u Q I r (i v σ H Q hw)⟩
theorem pgs_imp {X : Cx} {e : List Expr} {t t' : TGs} (h : PGs X e t) (i : ∀ v σ H Q, t' v σ H Q → t v σ H Q) : PGs X e t' := ⟨fun pins s σ H v u Q I r hw => h.run pins s σ H v u Q I r (i v σ H Q hw)⟩
def gmName (i : Nat) : GM := fun u us h => if i < us.length then .nx (us.set i (some u)) h else .bad
theorem RS.set {K : PySem.W.Frag} {ρ : List Addr} {H : Hp} {us : Sl} {σ : L2.St} {i : Nat} {u : U} {v : V} (q : RS K ρ H us σ) (r : RU K ρ H u v) : RS K ρ H (us.set i (some u)) (σ.set i (some v)) := by
  refine ⟨by simpa using q.1, fun j w e => ?_⟩
  by_cases hj : j = i
  · subst hj
    by_cases hl : j < us.length
    · rw [List.getElem?_set_self hl] at e; cases e
      exact ⟨v, by rw [List.getElem?_set_self (by rw [← q.1]; exact hl)], r⟩
    · rw [List.getElem?_eq_none (by simpa using hl)] at e; cases e
  · rw [List.getElem?_set_ne (Ne.symm hj)] at e
    obtain ⟨x, e1, e2⟩ := q.2 j w e
    exact ⟨x, by rw [List.getElem?_set_ne (Ne.symm hj)]; exact e1, e2⟩
theorem sg_name {i : Nat} {x : Str} (hN : X.N.Nodup) (hi : X.N[i]? = some x := by rfl) (hx : Loc X.env.scope x := by first | exact .inl rfl | exact .inr rfl) (hf : X.fn x = true ∨ X.env.scope.names.lookup x = some .local := by first | exact .inl rfl | exact .inr rfl | assumption) : SG X cls (.Name x pos) (gmName i) :=
  pg_imp (pg_name hN hi hx hf) fun v σ H Q ⟨us, h, ρ, u, a, r, p⟩ => by
    unfold gmName at p
    by_cases hl : i < us.length
    · rw [if_pos hl] at p
      exact p _ H ρ Step.refl a.rel (a.sl.set r)
    · rw [if_neg hl] at p; exact p.elim
def gmNil : List U → Sl → Hq → SRes
  | [], us, h => .nx us h
  | _ :: _, _, _ => .bad
def gmCons (g : GM) (gs : List U → Sl → Hq → SRes) : List U → Sl → Hq → SRes
  | u :: l, us, h => (g u us h).seq (gs l)
  | [], _, _ => .bad
theorem sgs_nil : SGs X cls [] gmNil := pgs_imp pgs_nil fun v σ H Q ⟨us, h, ρ, l, a, r, p⟩ => by
  cases l with
  | nil => exact ⟨r, p σ H ρ Step.refl a.rel a.sl⟩
  | cons u l => exact p.elim
theorem sgs_cons {e : Expr} {es : List Expr} {g : GM} {gs : List U → Sl → Hq → SRes} (h1 : SG X cls e g) (h2 : SGs X cls es gs)
    (hs : (assignEach (e :: es) X.env).map (·.2) = assign e X.env :: (assignEach es X.env).map (·.2) := by rfl) : SGs X cls (e :: es) (gmCons g gs) := pgs_imp (pgs_cons h1 h2 hs) fun vs σ H Q ⟨us, h, ρ, l, a, r, p⟩ => by
  cases l with
  | nil => exact p.elim
  | cons u l =>
    obtain ⟨v, t, rfl, ru, rl⟩ := r
    refine ⟨v, t, rfl, us, h, ρ, u, a, ru, ?_⟩
    have p' : PostG X.K cls ρ H Q ((g u us h).seq (gs l)) := p
    cases e : g u us h with
    | nx us' h' =>
      rw [e] at p'
      exact fun σ' H' ρ' s r q => ⟨us', h', ρ', l, ⟨r, q⟩, RUl.mono a.rel s rl, PostG.step s (r := gs l us' h') p'⟩
    | _ => rw [e] at p'; exact p'
/-- (a, b, ..) = a tuple -/
def gmTup (n : Nat) (gs : List U → Sl → Hq → SRes) : GM := fun u us h => match u with
  | .tup l => if l.length = n then gs l us h else .bad
  | _ => .bad
theorem RUl.length {K : PySem.W.Frag} {ρ : List Addr} {H : Hp} : ∀ {l : List U} {vs : List V}, RUl K ρ H l vs → vs.length = l.length
  | [], _, e => by rw [show _ = ([] : List V) from e] <;> rfl
  | _ :: _, _, ⟨v, r, e, _, q⟩ => by rw [e]; exact congrArg (· + 1) q.length
theorem sg_tup {es : List Expr} {k : Nat} {gs : List U → Sl → Hq → SRes} {n : Nat} (hc : X.calm = true) (h : SGs X cls es gs)
    (hn : (assignEach es X.env).length = n := by rfl) (hst : (assignEach es X.env).findIdx? (·.1) = none := by rfl) : SG X cls (.Tuple es k pos) (gmTup n gs) := pg_imp (pg_tup hc h hn hst) fun v σ H Q ⟨us, h, ρ, u, a, r, p⟩ => by
  unfold gmTup at p
  cases u with
  | tup l =>
    obtain ⟨b, vs, rfl, ht, hl⟩ := r
    by_cases hlen : l.length = n
    · simp only [if_pos hlen] at p
      exact ⟨b, vs, rfl, .inl (.inl ht), by rw [hl.length, hlen], us, h, ρ, l, a, hl, p⟩
    · simp only [if_neg hlen] at p
      exact p.elim
  | _ => exact p.elim
/-- target = value -/
def SRes.only (r : SRes) : SRes := match r with
  | .nx us h => .nx us h
  | _ => .bad
def mAsg (me : Ev) (g : GM) : SM := fun us h => (me us h).toS us fun u h1 => (g u us h1).only
theorem PostS.only {K : PySem.W.Frag} {ρ : List Addr} {H : Hp} {D : Ends} : ∀ {r : SRes}, PostS K cls W ρ H D r.only → PostG K cls ρ H D.nx r
  | .nx _ _, p => p
  | .rt _ _, p => p
  | .bk _ _, p => p
  | .ct _ _, p => p
  | .exc _ _ _, p => p
  | .bad, p => p
theorem ss_asg {tg e : Expr} {g : GM} (he : SE X cls W e me) (hg : SG X cls tg g) (hs : swapsWithSole [tg] e pos.line X.env = pure false := by rfl) (hw : swappedStores [tg] e X.env = pure none := by rfl)
    (h1 : (assignEach [tg] X.env).map (·.2) = [assign tg X.env] := by rfl) : SS X cls W (.Assign [tg] e pos) (mAsg me g) := ps_imp (ps_asg he hg hs hw h1) fun D σ H ⟨us, h, ρ, a, p⟩ => by
  refine ⟨us, h, ρ, a, Post.imp (fun x H1 q => ?_) (PostS.bind (R := RU X.K) a p)⟩
  obtain ⟨u, h1, ρ1, s1, at1, q1, p1⟩ := q
  exact ⟨us, h1, ρ1, u, at1, q1, PostS.only p1⟩
def mSet (i : Nat) (me : Ev) : SM := fun us h => (me us h).toS us fun u h1 => .nx (us.set i (some u)) h1
theorem ss_set {i : Nat} {x : Str} {e : Expr} {pos' : Pos} (hN : X.N.Nodup) (he : SE X cls W e me) (hi : X.N[i]? = some x := by rfl) (hx : Loc X.env.scope x := by first | exact .inl rfl | exact .inr rfl) (hs : swapsWith e (some (.Name x pos')) pos.line X.env = pure false := by rfl) (hf : X.fn x = true ∨ X.env.scope.names.lookup x = some .local := by first | exact .inl rfl | exact .inr rfl | assumption) :
    SS X cls W (.Assign [.Name x pos'] e pos) (mSet i me) := ps_imp (ps_set hN hi hx he hs hf) fun D σ H ⟨us, h, ρ, a, p⟩ => by
  refine ⟨us, h, ρ, a, Post.imp (fun x H1 q => ?_) (PostS.bind (R := RU X.K) a p)⟩
  obtain ⟨u, h1, ρ1, s1, at1, q1, p1⟩ := q
  exact p1 _ H1 ρ1 Step.refl at1.rel (at1.sl.set q1)
end
end GG
/-! GCall -/
namespace GG
open PySem PySem.Spec PyProof.Rows L2
/-! ### argument lists, displays -/
section
variable {X : Cx} {cls : Nat → Addr} {W : WX} {pos p apos : Pos} {e o : Expr} {es : List Expr} {me mo : Ev} {ma : Eva}
def eaNil : Eva := fun _ h => .ok [] h
def eaCons (me : Ev) (ma : Eva) : Eva := fun us h => (me us h).bind fun u h1 => (ma us h1).bind fun l h2 => .ok (u :: l) h2
/-- the items of a sequence -/
def seqU (h : Hq) : U → Option (List U)
  | .tup l => some l
  | .fls l => some l
  | .ref n => match h[n]? with
    | some (.lst l) => some l
    | some (.frl l) => some l
    | _ => none
  | _ => none
def eaStar (me : Ev) (ma : Eva) : Eva := fun us h => (me us h).bind fun u h1 => match seqU h1 u with
  | some l => (ma us h1).bind fun l2 h2 => .ok (l ++ l2) h2
  | none => .bad
theorem RUl.append {K : PySem.W.Frag} {ρ : List Addr} {H : Hp} : ∀ {l l2 : List U} {vs ws : List V}, RUl K ρ H l vs → RUl K ρ H l2 ws → RUl K ρ H (l ++ l2) (vs ++ ws)
  | [], _, _, _, e, q => by rw [show _ = ([] : List V) from e]; exact q
  | _ :: _, _, _, _, ⟨v, r, e, a, b⟩, q => by rw [e]; exact ⟨v, _, rfl, a, RUl.append b q⟩
theorem seqU_imp {K : PySem.W.Frag} {ρ : List Addr} {h : Hq} {H : Hp} {u : U} {v : V} {l : List U} (r : Rel K cls ρ h H) (q : RU K ρ H u v) (e : seqU h u = some l) : ∃ a vs, v = .ref a ∧ (SqT K H a vs ∨ SqL K H a vs) ∧ RUl K ρ H l vs := by
  cases u with
  | tup l2 =>
    obtain ⟨a, vs, e1, t, q⟩ := q
    cases e
    exact ⟨a, vs, e1, .inl (.inl (.inl t)), q⟩
  | fls l2 =>
    obtain ⟨a, vs, e1, t, q⟩ := q
    cases e
    exact ⟨a, vs, e1, .inr t.sq, q⟩
  | ref n =>
    obtain ⟨a, e1, rfl⟩ := q
    unfold seqU at e
    cases e2 : h[n]? with
    | none => simp only [e2] at e; cases e
    | some o =>
      have z := r.at_ n o a e2 e1
      cases o with
      | lst l2 =>
        simp only [e2] at e; cases e
        obtain ⟨vs, z1, z2⟩ := z
        exact ⟨a, vs, rfl, .inr (SqL.of z1), z2⟩
      | frl l2 =>
        simp only [e2] at e; cases e
        obtain ⟨vs, z1, _, z2⟩ := z
        exact ⟨a, vs, rfl, .inr z1, z2⟩
      | _ => simp only [e2] at e; cases e
  | _ => cases e
theorem sa_nil : SA X cls W [] eaNil := pa_imp pa_nil fun σ H Q ⟨us, h, ρ, a, p⟩ => p.ok (v := []) a.rel rfl
theorem sa_cons (he : SE X cls W e me) (ha : SA X cls W es ma) (hs : starEach (e :: es) X.env = (false, eval e X.env) :: starEach es X.env := by rfl) : SA X cls W (e :: es) (eaCons me ma) := pa_imp (pa_cons he ha hs) fun σ H Q ⟨us, h, ρ, at_, p⟩ => by
  refine ⟨us, h, ρ, at_, Post.imp (fun x H1 q => ?_) (Post.bind (R := RU X.K) at_ p)⟩
  obtain ⟨u, h1, ρ1, s1, at1, q1, p1⟩ := q
  refine ⟨us, h1, ρ1, at1, Post.imp (fun y H2 q => ?_) (Post.bind (R := RUl X.K) at1 p1)⟩
  obtain ⟨w, h2, ρ2, s2, at2, q2, p2⟩ := q
  exact p2.ok (v := x :: y) at2.rel ⟨x, y, rfl, RU.mono at1.rel s2 q1, q2⟩
theorem sa_star {p : Pos} (he : SE X cls W e me) (ha : SA X cls W es ma) (hs : starEach (.Starred e p :: es) X.env = (true, eval e X.env) :: starEach es X.env := by rfl) : SA X cls W (.Starred e p :: es) (eaStar me ma) := pa_imp (StX.pa_star he ha hs) fun σ H Q ⟨us, h, ρ, at_, p⟩ => by
  refine ⟨us, h, ρ, at_, Post.imp (fun x H1 q => ?_) (Post.bind (R := RU X.K) at_ p)⟩
  obtain ⟨u, h1, ρ1, s1, at1, q1, p1⟩ := q
  cases e1 : seqU h1 u with
  | none => rw [e1] at p1; exact p1.elim
  | some l =>
    rw [e1] at p1
    obtain ⟨a, vs, rfl, t, ql⟩ := seqU_imp at1.rel q1 e1
    refine ⟨a, vs, rfl, t, us, h1, ρ1, at1, Post.imp (fun y H2 q => ?_) (Post.bind (R := RUl X.K) at1 p1)⟩
    obtain ⟨w, h2, ρ2, s2, at2, q2, p2⟩ := q
    exact p2.ok (v := vs ++ y) at2.rel (RUl.append (RUl.mono at1.rel s2 ql) q2)

/-- a new object -/
theorem Rel.push {K : PySem.W.Frag} {ρ : List Addr} {h : Hq} {H : Hp} {p : Addr} {o : HO} {u : HU} (r : Rel K cls ρ h H) (hp : H p = none) (new : RO K cls (ρ ++ [p]) (upd H p o) u p) :
    Rel K cls (ρ ++ [p]) (h ++ [u]) (upd H p o) ∧ Step ρ H (ρ ++ [p]) (upd H p o) := by
  have st : Step ρ H (ρ ++ [p]) (upd H p o) := ⟨⟨[p], rfl⟩, fun a ha hn => by
    rcases List.mem_append.mp ha with z | z
    · exact absurd z hn
    · rw [List.mem_singleton.mp z]; exact hp, fun a ob e _ => by rw [upd_ne (ne_of_none e hp)]; exact e, fun a ob u e => by rw [upd_ne (ne_of_none e hp)]; exact e⟩
  have np : p ∉ ρ := fun hm => by
    obtain ⟨n, hn⟩ := List.mem_iff_getElem?.mp hm
    have hl : n < h.length := by rw [← r.len]; exact (List.getElem?_eq_some_iff.mp hn).1
    have z := r.at_ n _ p (HA.getEq hl) hn
    cases q : h[n] with
    | lst l => rw [q] at z; obtain ⟨vs, z, _⟩ := z; rw [hp] at z; cases z
    | frl l => rw [q] at z; obtain ⟨vs, _, ⟨o, z⟩, _⟩ := z; rw [hp] at z; cases z
    | dK l => rw [q] at z; obtain ⟨vs, z, _⟩ := z; rw [hp] at z; cases z
    | dT l => rw [q] at z; obtain ⟨vs, z, _⟩ := z; rw [hp] at z; cases z
    | fK l => rw [q] at z; obtain ⟨o, vs, z, _⟩ := z; rw [hp] at z; cases z
    | fT l => rw [q] at z; obtain ⟨o, vs, z, _⟩ := z; rw [hp] at z; cases z
    | ins c fs => rw [q] at z; obtain ⟨dx, vs, z, _⟩ := z; rw [hp] at z; cases z
  refine ⟨⟨by simp [r.len], ?_, fun n ob a e1 e2 => ?_⟩, st⟩
  · rw [List.nodup_append]
    exact ⟨r.nd, by simp, fun a ha b hb => by rw [List.mem_singleton.mp hb]; rintro rfl; exact np ha⟩
  · by_cases hn : n < h.length
    · rw [HA.push_lt hn] at e1
      rw [List.getElem?_append_left (by rw [r.len]; exact hn)] at e2
      have hm : a ∈ ρ := List.mem_of_getElem? e2
      have z := r.at_ n ob a e1 e2
      have ne : a ≠ p := by rintro rfl; exact np hm
      cases ob with
      | lst l => obtain ⟨vs, z1, z2⟩ := z; exact ⟨vs, by rw [upd_ne ne]; exact z1, RUl.mono r st z2⟩
      | frl l =>
        obtain ⟨vs, z1, ⟨ob, z3⟩, z2⟩ := z
        have z3' : upd H p o a = some (.frz ob (.lst vs)) := by rw [upd_ne ne]; exact z3
        exact ⟨vs, .inl (.inr ⟨ob, z3'⟩), ⟨ob, z3'⟩, RUl.mono r st z2⟩
      | dK l => obtain ⟨vs, z1, z2⟩ := z; exact ⟨vs, by rw [upd_ne ne]; exact z1, RUp.mono r st z2⟩
      | dT l => obtain ⟨vs, z1, z2⟩ := z; exact ⟨vs, by rw [upd_ne ne]; exact z1, RUp.mono r st z2⟩
      | fK l => obtain ⟨ob, vs, z1, z2⟩ := z; exact ⟨ob, vs, by rw [upd_ne ne]; exact z1, RUp.mono r st z2⟩
      | fT l => obtain ⟨ob, vs, z1, z2⟩ := z; exact ⟨ob, vs, by rw [upd_ne ne]; exact z1, RUp.mono r st z2⟩
      | ins c fs => obtain ⟨dx, vs, z1, z2⟩ := z; exact ⟨dx, vs, by rw [upd_ne ne]; exact z1, RUp.mono r st z2⟩
    · have hn2 : n = h.length := by
        have z := HA.lt_of_get e1
        rw [HA.length_push] at z; omega
      subst hn2
      rw [HA.push_self] at e1
      rw [List.getElem?_append_right (by rw [r.len]; exact Nat.le_refl _)] at e2
      simp only [r.len, Nat.sub_self, List.getElem?_cons_zero, Option.some.injEq] at e1 e2
      subst e1 e2
      exact new
/-- an object written -/
theorem Rel.put {K : PySem.W.Frag} {ρ : List Addr} {h : Hq} {H : Hp} {a : Addr} {o : HO} {u : HU} {n : Nat} (r : Rel K cls ρ h H) (e : ρ[n]? = some a) (nf : ∀ ob u, H a ≠ some (.frz ob u)) (new : Step ρ H ρ (upd H a o) → RO K cls ρ (upd H a o) u a) :
    Rel K cls ρ (h.set n u) (upd H a o) ∧ Step ρ H ρ (upd H a o) := by
  have ha : a ∈ ρ := List.mem_of_getElem? e
  have st : Step ρ H ρ (upd H a o) := ⟨⟨[], by simp⟩, fun _ x y => absurd x y, fun b ob q hn => by rw [upd_ne (fun z => hn (by rw [z]; exact ha))]; exact q, fun b ob w q => by rw [upd_ne (fun z => nf ob w (by rw [← z]; exact q))]; exact q⟩
  have hl : n < h.length := by rw [← r.len]; exact (List.getElem?_eq_some_iff.mp e).1
  refine ⟨⟨by simp [r.len], r.nd, fun m ob b e1 e2 => ?_⟩, st⟩
  by_cases hm : m = n
  · subst hm
    rw [HA.set_self hl] at e1; cases e1
    rw [e] at e2; cases e2
    exact new st
  · rw [HA.set_ne (Ne.symm hm)] at e1
    have ne : b ≠ a := by
      rintro rfl
      exact hm ((List.getElem_inj r.nd).mp ((List.getElem?_eq_some_iff.mp e2).2.trans (List.getElem?_eq_some_iff.mp e).2.symm))
    have z := r.at_ m ob b e1 e2
    cases ob with
    | lst l => obtain ⟨vs, z1, z2⟩ := z; exact ⟨vs, by rw [upd_ne ne]; exact z1, RUl.mono r st z2⟩
    | frl l =>
      obtain ⟨vs, z1, ⟨ob, z3⟩, z2⟩ := z
      have z3' : upd H a o b = some (.frz ob (.lst vs)) := by rw [upd_ne ne]; exact z3
      exact ⟨vs, .inl (.inr ⟨ob, z3'⟩), ⟨ob, z3'⟩, RUl.mono r st z2⟩
    | dK l => obtain ⟨vs, z1, z2⟩ := z; exact ⟨vs, by rw [upd_ne ne]; exact z1, RUp.mono r st z2⟩
    | dT l => obtain ⟨vs, z1, z2⟩ := z; exact ⟨vs, by rw [upd_ne ne]; exact z1, RUp.mono r st z2⟩
    | fK l => obtain ⟨ob, vs, z1, z2⟩ := z; exact ⟨ob, vs, by rw [upd_ne ne]; exact z1, RUp.mono r st z2⟩
    | fT l => obtain ⟨ob, vs, z1, z2⟩ := z; exact ⟨ob, vs, by rw [upd_ne ne]; exact z1, RUp.mono r st z2⟩
    | ins c fs => obtain ⟨dx, vs, z1, z2⟩ := z; exact ⟨dx, vs, by rw [upd_ne ne]; exact z1, RUp.mono r st z2⟩
/-- a heap with one more untracked object -/
theorem Rel.other {K : PySem.W.Frag} {ρ : List Addr} {h : Hq} {H : Hp} {p : Addr} {o : HO} (r : Rel K cls ρ h H) (hp : H p = none) : Rel K cls ρ h (upd H p o) ∧ Step ρ H ρ (upd H p o) := by
  have st : Step ρ H ρ (upd H p o) := ⟨⟨[], by simp⟩, fun _ x y => absurd x y, fun a ob e _ => by rw [upd_ne (ne_of_none e hp)]; exact e, fun a ob u e => by rw [upd_ne (ne_of_none e hp)]; exact e⟩
  refine ⟨⟨r.len, r.nd, fun n ob a e1 e2 => ?_⟩, st⟩
  have z := r.at_ n ob a e1 e2
  cases ob with
  | lst l => obtain ⟨vs, z1, z2⟩ := z; exact ⟨vs, by rw [upd_ne (ne_of_none z1 hp)]; exact z1, RUl.mono r st z2⟩
  | frl l =>
    obtain ⟨vs, z1, ⟨ob, z3⟩, z2⟩ := z
    have z3' : upd H p o a = some (.frz ob (.lst vs)) := by rw [upd_ne (ne_of_none z3 hp)]; exact z3
    exact ⟨vs, .inl (.inr ⟨ob, z3'⟩), ⟨ob, z3'⟩, RUl.mono r st z2⟩
  | dK l => obtain ⟨vs, z1, z2⟩ := z; exact ⟨vs, by rw [upd_ne (ne_of_none z1 hp)]; exact z1, RUp.mono r st z2⟩
  | dT l => obtain ⟨vs, z1, z2⟩ := z; exact ⟨vs, by rw [upd_ne (ne_of_none z1 hp)]; exact z1, RUp.mono r st z2⟩
  | fK l => obtain ⟨ob, vs, z1, z2⟩ := z; exact ⟨ob, vs, by rw [upd_ne (ne_of_none z1 hp)]; exact z1, RUp.mono r st z2⟩
  | fT l => obtain ⟨ob, vs, z1, z2⟩ := z; exact ⟨ob, vs, by rw [upd_ne (ne_of_none z1 hp)]; exact z1, RUp.mono r st z2⟩
  | ins c fs => obtain ⟨dx, vs, z1, z2⟩ := z; exact ⟨dx, vs, by rw [upd_ne (ne_of_none z1 hp)]; exact z1, RUp.mono r st z2⟩
/-- sizes are looked at by a test of numbers -/
def szOk (n : Nat) : Bool := Nat.ble n 16777216
theorem szOk.le {n : Nat} (h : szOk n = true) : n ≤ sizeLine := Nat.le_of_ble_eq_true h
def evTup (ma : Eva) : Ev := fun us h => (ma us h).bind fun l h1 => cond (szOk l.length) (.ok (.tup l) h1) .bad
def evLst (ma : Eva) : Ev := fun us h => (ma us h).bind fun l h1 => cond (szOk l.length) (.ok (.ref h1.length) (h1 ++ [HU.lst l])) .bad
theorem se_tup {x1 : Nat} (ha : SA X cls W es ma) : SE X cls W (.Tuple es x1 pos) (evTup ma) := pe_imp (pe_tup ha) fun σ H Q ⟨us, h, ρ, at_, p⟩ => by
  refine ⟨us, h, ρ, at_, Post.imp (fun x H1 q => ?_) (Post.bind (R := RUl X.K) at_ p)⟩
  obtain ⟨l, h1, ρ1, s1, at1, q1, p1⟩ := q
  cases hz : szOk l.length with
  | false => rw [hz] at p1; exact p1.elim
  | true =>
    rw [hz] at p1
    refine ⟨by rw [q1.length]; exact szOk.le hz, fun p hp => ?_⟩
    obtain ⟨r2, s2⟩ := at1.rel.other (o := .tup x) hp
    exact p1 (.ref p) _ ρ1 s2 r2 ⟨p, x, rfl, upd_same, RUl.mono at1.rel s2 q1⟩
theorem get_last {α : Type} (l : List α) (a : α) : (l ++ [a])[l.length]? = some a := by rw [List.getElem?_append_right (Nat.le_refl _), Nat.sub_self] <;> rfl
theorem se_lst (ha : SA X cls W es ma) : SE X cls W (.List es pos) (evLst ma) := pe_imp (pe_lst ha) fun σ H Q ⟨us, h, ρ, at_, p⟩ => by
  refine ⟨us, h, ρ, at_, Post.imp (fun x H1 q => ?_) (Post.bind (R := RUl X.K) at_ p)⟩
  obtain ⟨l, h1, ρ1, s1, at1, q1, p1⟩ := q
  cases hz : szOk l.length with
  | false => rw [hz] at p1; exact p1.elim
  | true =>
    rw [hz] at p1
    refine ⟨by rw [q1.length]; exact szOk.le hz, fun p hp => ?_⟩
    obtain ⟨_, s2⟩ := at1.rel.push (u := .dK []) (o := .dK []) hp ⟨[], upd_same, rfl⟩
    have s2' : Step ρ1 H1 (ρ1 ++ [p]) (upd H1 p (.lst x)) := ⟨s2.pre, s2.fresh, fun a ob e _ => by rw [upd_ne (ne_of_none e hp)]; exact e, fun a ob u e => by rw [upd_ne (ne_of_none e hp)]; exact e⟩
    obtain ⟨r3, s3⟩ := at1.rel.push (u := .lst l) (o := .lst x) hp ⟨x, upd_same, RUl.mono at1.rel s2' q1⟩
    exact p1 (.ref p) _ _ s3 r3 ⟨p, by rw [← at1.rel.len]; exact get_last _ _, rfl⟩
end

/-! ### calls -/
/-- what a def promises that does as sem does -/
def spG (K : PySem.W.Frag) (cls : Nat → Addr) (sem : Fn) : Sp := fun vs H Q E => ∃ us h ρ, Rel K cls ρ h H ∧ RUl K ρ H us vs ∧ Post K cls (fun c d _ H' => E c d H') (RU K) ρ [] H Q (sem us h)
def FnG (P : Program) (w : World) (K : PySem.W.Frag) (mg : Str → Option Value) (base : Heap) (cls : Nat → Addr) (k : Nat) (f : Addr) (sem : Fn) : Prop := FnR P w K mg base (L2.CX P w) k f (spG K cls sem)
theorem FnG.mono {P : Program} {w : World} {K : PySem.W.Frag} {mg : Str → Option Value} {base : Heap} {cls : Nat → Addr} {j k : Nat} {f : Addr} {sem : Fn} (F : FnG P w K mg base cls j f sem) (h : j ≤ k) : FnG P w K mg base cls k f sem := FnR.mono F h
/-- a value that can be called -/
def Cal (X : Cx) (cls : Nat → Addr) (W : WX) (v : Value) (sem : Fn) : Prop := ∀ (pins : List (Addr × Obj)) (s : Shared) (σ : L2.St) (H : Hp) (us : List Value) (vs : List V) (Q : VK) (l : List U) (h : Hq) (ρ : List Addr),
  Inv X pins σ H s → Vals vs us → Rel X.K cls ρ h H → RUl X.K ρ H l vs → Post X.K cls W (RU X.K) ρ σ H Q (sem l h) → wpAny (model X.prog X.w) X.A (call v us) (EP X pins σ Q) X.xe s
theorem Post.wish {K : PySem.W.Frag} {cls : Nat → Addr} {W : WX} {α β : Type} {R : RelT α β} {ρ : List Addr} {σ : L2.St} {H : Hp} {Q : β → Hp → Prop} : ∀ {r : Res α}, Post K cls W R ρ σ H Q r → Post K cls (fun c d _ H' => W c d σ H') R ρ [] H Q r
  | .ok _ _, p => p
  | .exc _ _, p => p
  | .bad, p => p
section
variable {X : Cx} {cls : Nat → Addr} {W : WX} {pos p apos : Pos} {x m : Str} {e o : Expr} {es : List Expr} {me mo : Ev} {ma : Eva} {sem : Fn} {f C : Addr} {k : Nat}
theorem cal_fn (F : FnG X.prog X.w X.K X.mg X.base cls k f sem) (hr : Room k X.A) (tk : Takes X W) : Cal X cls W (.ref f) sem := fun pins s σ H us vs Q l h ρ I r rel ql p => by
  refine wpAny_call (codeAny_mono (F X.A X.stack s H us vs Q (WE W σ) hr I.env0 r ⟨l, h, ρ, rel, ql, p.wish⟩) fun r s' hq => ?_)
  cases r with
  | error e => exact passAt tk σ pins H s e s' I hq
  | ok fl =>
    cases fl with
    | ret u => exact I.after hq
    | next => exact False.elim hq
    | brk => exact False.elim hq
    | cont => exact False.elim hq
def onlyNone (n : Nat) : U → Hq → Res U
  | .non, h => .ok (.ref n) h
  | _, _ => .bad
/-- C(..): a new instance, then its __init__ -/
def mkSem (c : Nat) (init : Fn) : Fn := fun l h => (init (.ref h.length :: l) (h ++ [HU.ins c []])).bind (onlyNone h.length)
theorem cal_make {c : Nat} (M : Mk X.K (cls c) f) (F : FnG X.prog X.w X.K X.mg X.base cls k f sem) (hr : Room (k + 1) X.A) (tk : Takes X W) : Cal X cls W (.ref (cls c)) (mkSem c sem) := fun pins s σ H us vs Q l h ρ I r rel ql p => by
  have hx := I.hok.fresh (Nat.le_succ s.heap.objs.size)
  have hd := I.hok.fresh (Nat.le_refl s.heap.objs.size)
  have I2 := Inv.made (C := cls c) I
  have r2 : Vals (V.ref (s.heap.objs.size + 1) :: vs) (Value.ref (s.heap.objs.size + 1) :: us) := .cons rfl r
  obtain ⟨rel1, s1⟩ := rel.other (o := .own (s.heap.objs.size + 1)) hd
  have hx1 : (upd H s.heap.objs.size (.own (s.heap.objs.size + 1))) (s.heap.objs.size + 1) = none := by rw [upd_ne (Nat.succ_ne_self _)]; exact hx
  obtain ⟨rel2, s2⟩ := rel1.push (u := .ins c []) (o := .ins (cls c) s.heap.objs.size []) hx1 ⟨s.heap.objs.size, [], upd_same, rfl⟩
  have s12 := s1.trans s2
  have hn : (ρ ++ [s.heap.objs.size + 1])[h.length]? = some (s.heap.objs.size + 1) := by rw [← rel.len]; exact get_last _ _
  have at0 : At X.K cls (ρ ++ [s.heap.objs.size + 1]) ([] : Sl) (h ++ [HU.ins c []]) ([] : L2.St) (upd (upd H s.heap.objs.size (.own (s.heap.objs.size + 1))) (s.heap.objs.size + 1) (.ins (cls c) s.heap.objs.size [])) := ⟨rel2, rfl, fun i u e => by simp at e⟩
  have p2 := Post.bind (R := RU X.K) at0 (Post.step s12 p.wish)
  refine wpAny_call (make_map (f := f) I.kIn M.makes M.init (beq_iff_eq.mp M.fn) (codeAny_mono (F _ X.stack _ _ (Value.ref (s.heap.objs.size + 1) :: us) _ (fun v H2 => v = .non ∧ Q (.ref (s.heap.objs.size + 1)) H2) (WE W σ) (hr.make (cls c) us []) (I2.env0.make (cls c) us []) r2
    ⟨.ref h.length :: l, h ++ [HU.ins c []], ρ ++ [s.heap.objs.size + 1], rel2, ⟨_, _, rfl, ⟨_, hn, rfl⟩, RUl.mono rel s12 ql⟩, Post.imp (fun v H2 q => ?_) p2⟩) fun r s' hq' => ?_))
  · obtain ⟨u, h1, ρ1, s3, at1, q1, p1⟩ := q
    cases u with
    | non => exact ⟨q1, p1.ok (v := V.ref _) at1.rel ⟨_, s3.get hn, rfl⟩⟩
    | _ => exact p1.elim
  · cases r with
    | error e => exact passAt tk σ pins _ _ e s' I2 hq'
    | ok fl =>
      cases fl with
      | ret u =>
        obtain ⟨v, H', I3, rv, ev, q3⟩ := I2.after hq'
        subst ev
        exact ⟨rv, ⟨V.ref (s.heap.objs.size + 1), H', I3, rfl, q3⟩⟩
      | next => exact False.elim hq'
      | brk => exact False.elim hq'
      | cont => exact False.elim hq'
def evCall (sem : Fn) (ma : Eva) : Ev := fun us h => (ma us h).bind sem
theorem se_call (c : Cal X cls W (.ref f) sem) (hk : PySem.W.keepIn X.K (.ref f) = true) (hm : X.mg x = some (.ref f)) (ha : SA X cls W (e :: es) ma) (hg : Gl X x := by rfl) (hdb : (x == ("__debug__" : Str)) = false := by decide)
    (he : starEach (e :: es) X.env = (false, eval e X.env) :: starEach es X.env := by rfl) (hpl : (backTo pos (starEach es X.env)).any (·.1) = false := by rfl) : SE X cls W (.Call (.Name x p) (e :: es) [] pos) (evCall sem ma) := by
  refine ⟨fun pins s σ H Q I ⟨us, h, ρ, at_, p⟩ => ?_⟩
  refine wpAny_Call_Name_kw (ld_glob I hg hm ?_ hdb)
  refine PySem.W.callWith_K (h₀ := X.base) I.ok.mod.kin hk (thn (ha.run pos pins s σ H _ I ⟨us, h, ρ, at_, Post.bind (R := RUl X.K) at_ p⟩) fun uv s1 ⟨vs, H1, I1, r, l, h1, ρ1, s1', at1, ql, p1⟩ => ⟨I1.kIn, ?_⟩) he hpl
  exact c pins s1 σ H1 uv vs Q l h1 ρ1 I1 r at1.rel ql p1
theorem se_call0 (c : Cal X cls W (.ref f) sem) (hk : PySem.W.keepIn X.K (.ref f) = true) (hm : X.mg x = some (.ref f)) (hg : Gl X x := by rfl) (hdb : (x == ("__debug__" : Str)) = false := by decide) : SE X cls W (.Call (.Name x p) [] [] pos) (evCall sem eaNil) := by
  refine ⟨fun pins s σ H Q I ⟨us, h, ρ, at_, p⟩ => ?_⟩
  refine wpAny_Call_Name_kw (ld_glob I hg hm ?_ hdb)
  exact PySem.W.callWith_K0 I.kIn hk (c pins s σ H [] [] Q [] h ρ I .nil at_.rel rfl p)
theorem se_callS1 {sp_ : Pos} (c : Cal X cls W (.ref f) sem) (hk : PySem.W.keepIn X.K (.ref f) = true) (hm : X.mg x = some (.ref f)) (he : SE X cls W e me) (hg : Gl X x := by rfl) (hdb : (x == ("__debug__" : Str)) = false := by decide)
    (hst : starEach [.Starred e sp_] X.env = [(true, eval e X.env)] := by rfl) : SE X cls W (.Call (.Name x p) [.Starred e sp_] [] pos) (evCall sem (eaStar me eaNil)) := by
  refine ⟨fun pins s σ H Q I ⟨us, h, ρ, at_, p⟩ => ?_⟩
  refine wpAny_Call_Name_kw (ld_glob I hg hm ?_ hdb)
  have p' : Post X.K cls W (RU X.K) ρ σ H Q ((me us h).bind fun u h1 => (match seqU h1 u with
    | some l => sem (l ++ []) h1
    | none => .bad)) := by
    have e0 : evCall sem (eaStar me eaNil) us h = (me us h).bind fun u h1 => (match seqU h1 u with
      | some l => sem (l ++ []) h1
      | none => .bad) := by
      unfold evCall eaStar eaNil
      cases me us h with
      | ok u h1 => show Res.bind (match seqU h1 u with | some l => _ | none => _) _ = (match seqU h1 u with | some l => _ | none => _); cases seqU h1 u <;> rfl
      | exc _ _ => rfl
      | bad => rfl
    rw [e0] at p; exact p
  refine PySem.W.callWith_S (h₀ := X.base) I.ok.mod.kin hk (thn (he.run pins s σ H _ I ⟨us, h, ρ, at_, Post.bind (R := RU X.K) at_ p'⟩) fun v s1 ⟨y, H1, I1, ry, u, h1, ρ1, s1', at1, q1, p1⟩ => ?_) hst
  cases e1 : seqU h1 u with
  | none => rw [e1] at p1; exact p1.elim
  | some l =>
    simp only [e1, List.append_nil] at p1
    obtain ⟨a, vs, ey, t, ql⟩ := seqU_imp at1.rel q1 e1
    subst ey
    obtain rfl : v = Value.ref a := ry
    exact StX.star_any I1 t fun us2 s2 I2 rv => ⟨I2.kIn, c pins s2 σ H1 us2 vs Q l h1 ρ1 I2 rv at1.rel ql p1⟩
theorem se_callS2 (c : Cal X cls W (.ref f) sem) (hk : PySem.W.keepIn X.K (.ref f) = true) (hm : X.mg x = some (.ref f)) (ha : SA X cls W (e :: es) ma) (hg : Gl X x := by rfl) (hdb : (x == ("__debug__" : Str)) = false := by decide)
    (he : starEach (e :: es) X.env = (false, eval e X.env) :: starEach es X.env := by rfl) (hst : (backTo pos (starEach es X.env)).any (·.1) = true := by rfl) : SE X cls W (.Call (.Name x p) (e :: es) [] pos) (evCall sem ma) := by
  refine ⟨fun pins s σ H Q I ⟨us, h, ρ, at_, p⟩ => ?_⟩
  refine wpAny_Call_Name_kw (ld_glob I hg hm ?_ hdb)
  refine PySem.W.callWith_S2 (h₀ := X.base) I.ok.mod.kin hk (thn (ha.run pos pins s σ H _ I ⟨us, h, ρ, at_, Post.bind (R := RUl X.K) at_ p⟩) fun uv s1 ⟨vs, H1, I1, r, l, h1, ρ1, s1', at1, ql, p1⟩ => ⟨I1.kIn, ?_⟩) he hst
  exact c pins s1 σ H1 uv vs Q l h1 ρ1 I1 r at1.rel ql p1
end

/-! ### instances -/
section
variable {X : Cx} {cls : Nat → Addr} {W : WX} {pos p apos : Pos} {x m : Str} {e o : Expr} {es : List Expr} {me mo mv : Ev} {ma : Eva} {sem : Fn} {f C : Addr} {k : Nat}
/-- the instance at a value -/
def insU (h : Hq) : U → Option (Nat × Nat × List (Str × U))
  | .ref n => match h[n]? with
    | some (.ins c fs) => some (n, c, fs)
    | _ => none
  | _ => none
theorem insU_imp {K : PySem.W.Frag} {ρ : List Addr} {h : Hq} {H : Hp} {u : U} {v : V} {n c : Nat} {fs : List (Str × U)} (r : Rel K cls ρ h H) (q : RU K ρ H u v) (e : insU h u = some (n, c, fs)) :
    ∃ a dx ws, u = .ref n ∧ h[n]? = some (.ins c fs) ∧ ρ[n]? = some a ∧ v = .ref a ∧ H a = some (.ins (cls c) dx ws) ∧ RUp K ρ H fs ws := by
  cases u with
  | ref m =>
    obtain ⟨a, e1, rfl⟩ := q
    unfold insU at e
    cases e2 : h[m]? with
    | none => simp only [e2] at e; cases e
    | some o =>
      have z := r.at_ m o a e2 e1
      cases o with
      | ins c2 fs2 =>
        simp only [e2] at e; cases e
        obtain ⟨dx, ws, z1, z2⟩ := z
        exact ⟨a, dx, ws, rfl, e2, e1, rfl, z1, z2⟩
      | _ => simp only [e2] at e; cases e
  | _ => cases e
theorem RUp.lookup {K : PySem.W.Frag} {ρ : List Addr} {H : Hp} {f : Str} : ∀ {fs : List (Str × U)} {ws : List (Str × V)}, RUp K ρ H fs ws → (match fs.lookup f with
  | some u => ∃ v, ws.lookup f = some v ∧ RU K ρ H u v
  | none => ws.lookup f = none)
  | [], _, e => by rw [show _ = ([] : List (Str × V)) from e]; exact rfl
  | (g, u) :: fs, _, ⟨v, t, e, q, z⟩ => by
    rw [e]
    rw [List.lookup_cons, List.lookup_cons]
    cases h : (f == g) with
    | true => exact ⟨v, rfl, q⟩
    | false => exact RUp.lookup z
/-- e.f, an attribute of an instance of one of some classes -/
def evFld (cs : List Nat) (f : Str) (me : Ev) : Ev := fun us h => (me us h).bind fun u h1 => match insU h1 u with
  | some (_, c, fs) => cond (cs.contains c) (match fs.lookup f with
    | some w => .ok w h1
    | none => .bad) .bad
  | none => .bad
theorem se_fld {f : Str} {cs : List Nat} (hc : ∀ c ∈ cs, Cls X.K (cls c) ∧ NoAttr X.K (cls c) f) (he : SE X cls W e me) (hb : attributeBase e f X.env (eval e X.env) = eval e X.env := by rfl) : SE X cls W (.Attribute e f pos) (evFld cs f me) := pe_imp (pe_fld he hb) fun σ H Q ⟨us, h, ρ, at_, p⟩ => by
  refine ⟨us, h, ρ, at_, Post.imp (fun x H1 q => ?_) (Post.bind (R := RU X.K) at_ p)⟩
  obtain ⟨u, h1, ρ1, s1, at1, q1, p1⟩ := q
  cases e1 : insU h1 u with
  | none => rw [e1] at p1; exact p1.elim
  | some z =>
    obtain ⟨n, c, fs⟩ := z
    rw [e1] at p1
    obtain ⟨a, dx, ws, _, _, _, rfl, z1, z2⟩ := insU_imp at1.rel q1 e1
    cases e2 : cs.contains c with
    | false => simp only [e2] at p1; exact p1.elim
    | true =>
      simp only [e2, cond_true] at p1
      obtain ⟨c1, c2⟩ := hc c (by simpa using e2)
      have z3 := RUp.lookup (f := f) z2
      cases e3 : fs.lookup f with
      | none => simp only [e3] at p1; exact p1.elim
      | some w =>
        simp only [e3] at p1 z3
        obtain ⟨v, l, q3⟩ := z3
        exact ⟨a, _, dx, ws, v, rfl, z1, c1, c2, l, p1.ok (v := v) at1.rel q3⟩
/-- the attributes with f set -/
def putU (f : Str) (v : U) : List (Str × U) → List (Str × U)
  | [] => [(f, v)]
  | (k, x) :: r => cond (k == f) ((k, v) :: r) ((k, x) :: putU f v r)
theorem RUp.put {K : PySem.W.Frag} {ρ : List Addr} {H : Hp} {f : Str} {u : U} {v : V} (q : RU K ρ H u v) : ∀ {fs : List (Str × U)} {ws : List (Str × V)}, RUp K ρ H fs ws → RUp K ρ H (putU f u fs) (putF f v ws)
  | [], _, e => by rw [show _ = ([] : List (Str × V)) from e]; exact ⟨v, [], rfl, q, rfl⟩
  | (g, w) :: fs, _, ⟨x, t, e, q1, z⟩ => by
    rw [e]
    show RUp K ρ H (cond (g == f) ((g, u) :: fs) ((g, w) :: putU f u fs)) (if g = f then (g, v) :: t else (g, x) :: putF f v t)
    by_cases h : g = f
    · rw [if_pos h, beq_iff_eq.mpr h]; exact ⟨v, t, rfl, q, z⟩
    · rw [if_neg h, beq_eq_false_iff_ne.mpr h]; exact ⟨x, _, rfl, q1, RUp.put q z⟩
theorem RUp.length {κ : Type} {K : PySem.W.Frag} {ρ : List Addr} {H : Hp} : ∀ {l : List (κ × U)} {vs : List (κ × V)}, RUp K ρ H l vs → vs.length = l.length
  | [], _, e => by rw [show _ = ([] : List (κ × V)) from e] <;> rfl
  | (_, _) :: _, _, ⟨v, r, e, _, q⟩ => by rw [e]; exact congrArg (· + 1) q.length
def lt1000 (n : Nat) : Bool := Nat.blt n 1000
/-- o.f = e -/
def mFld (cs : List Nat) (f : Str) (mo mv : Ev) : SM := fun us h => (mv us h).toS us fun v h1 => (mo us h1).toS us fun u h2 => match insU h2 u with
  | some (n, c, fs) => cond (cs.contains c && lt1000 fs.length) (.nx us (h2.set n (.ins c (putU f v fs)))) .bad
  | none => .bad
theorem ss_fld {value : Expr} {pos' : Pos} {f : Str} {cs : List Nat} (hc : ∀ c ∈ cs, Cls X.K (cls c) ∧ NoAttr X.K (cls c) f) (ho : SE X cls W o mo) (hv : SE X cls W value mv) (hs : swapsWith value (some (.Attribute o f pos')) pos.line X.env = pure false := by rfl) :
    SS X cls W (.Assign [.Attribute o f pos'] value pos) (mFld cs f mo mv) := ps_imp (ps_fld ho hv hs) fun D σ H ⟨us, h, ρ, at_, p⟩ => by
  refine ⟨us, h, ρ, at_, Post.imp (fun y H1 q => ?_) (PostS.bind (R := RU X.K) at_ p)⟩
  obtain ⟨v, h1, ρ1, s1, at1, q1, p1⟩ := q
  refine ⟨us, h1, ρ1, at1, Post.imp (fun x H2 q => ?_) (PostS.bind (R := RU X.K) at1 p1)⟩
  obtain ⟨u, h2, ρ2, s2, at2, q2, p2⟩ := q
  cases e1 : insU h2 u with
  | none => rw [e1] at p2; exact p2.elim
  | some z =>
    obtain ⟨n, c, fs⟩ := z
    rw [e1] at p2
    obtain ⟨a, dx, ws, _, eh, er, rfl, z1, z2⟩ := insU_imp at2.rel q2 e1
    cases e2 : (cs.contains c && lt1000 fs.length) with
    | false => simp only [e2] at p2; exact p2.elim
    | true =>
      simp only [e2, cond_true] at p2
      obtain ⟨e3, e4⟩ := Bool.and_eq_true_iff.mp e2
      obtain ⟨c1, c2⟩ := hc c (by simpa using e3)
      refine ⟨a, _, dx, ws, rfl, z1, c1, c2, by rw [z2.length]; exact Nat.le_of_ble_eq_true e4, ?_⟩
      obtain ⟨r3, s3⟩ := at2.rel.put (o := .ins (cls c) dx (putF f y ws)) (u := .ins c (putU f v fs)) er (fun ob w z => by rw [z1] at z; cases z) fun st => ⟨dx, _, upd_same, RUp.mono at2.rel st (RUp.put (RU.mono at1.rel s2 q1) z2)⟩
      exact p2 σ _ ρ2 s3 r3 (at2.sl.mono at2.rel s3)
/-- o.m(..) of an instance of the class c -/
def evMeth (c : Nat) (m : Str) (sem : Fn) (mo : Ev) (ma : Eva) : Ev := fun us h => (mo us h).bind fun u h1 => match insU h1 u with
  | some (_, c', fs) => cond (c' == c && (fs.lookup m).isNone) ((ma us h1).bind fun l h2 => sem (u :: l) h2) .bad
  | none => .bad
theorem meth_at {K : PySem.W.Frag} {ρ : List Addr} {h : Hq} {H : Hp} {u : U} {v : V} {c : Nat} {r : Res U} {Q : VK} {σ : L2.St} (rel : Rel K cls ρ h H) (q : RU K ρ H u v)
    (p : Post K cls W (RU K) ρ σ H Q (match insU h u with
      | some (_, c', fs) => cond (c' == c && (fs.lookup m).isNone) r .bad
      | none => .bad)) : ∃ n a dx ws, u = .ref n ∧ ρ[n]? = some a ∧ v = .ref a ∧ H a = some (.ins (cls c) dx ws) ∧ ws.lookup m = none ∧ Post K cls W (RU K) ρ σ H Q r := by
  cases e1 : insU h u with
  | none => rw [e1] at p; exact p.elim
  | some z =>
    obtain ⟨n, c', fs⟩ := z
    rw [e1] at p
    obtain ⟨a, dx, ws, eu, eh, er, rfl, z1, z2⟩ := insU_imp rel q e1
    cases e2 : (c' == c && (fs.lookup m).isNone) with
    | false => simp only [e2] at p; exact p.elim
    | true =>
      simp only [e2, cond_true] at p
      obtain ⟨e3, e4⟩ := Bool.and_eq_true_iff.mp e2
      obtain rfl : c' = c := beq_iff_eq.mp e3
      have z3 := RUp.lookup (f := m) z2
      cases e5 : fs.lookup m with
      | some w => rw [e5] at e4; cases e4
      | none => rw [e5] at z3; exact ⟨n, a, dx, ws, eu, er, rfl, z1, z3, p⟩
theorem se_meth {c : Nat} {pl : Sem Bool} (hc : Cls X.K (cls c)) (hm : Meth X.K (cls c) m f) (cal : Cal X cls W (.ref f) sem) (ho : SE X cls W o mo) (ha : SA X cls W (e :: es) ma)
    (hst : starEach (e :: es) X.env = (false, eval e X.env) :: starEach es X.env := by rfl) (hpl : (backTo pos (starEach es X.env)).any (·.1) = false := by rfl)
    (ht : eval (.Call (.Attribute o m apos) (e :: es) [] pos) X.env = (do
      let ov ← eval o X.env
      standAt apos.atName
      let (f, first) ← holding [ov] (getMethod ov m pl)
      callWith pos f first (backTo pos (starEach (e :: es) X.env)) (backToKw pos (keywordEach [] X.env))) := by rfl) : SE X cls W (.Call (.Attribute o m apos) (e :: es) [] pos) (evMeth c m sem mo ma) := by
  refine ⟨fun pins s σ H Q I ⟨us, h, ρ, at_, p⟩ => ?_⟩
  refine PySem.W.methodCall_KW (pl := pl) (thn (ho.run pins s σ H _ I ⟨us, h, ρ, at_, Post.bind (R := RU X.K) at_ p⟩) fun u s1 ⟨x, H1, I1, rx, w, h1, ρ1, s1', at1, q1, p1⟩ => ?_) ht
  obtain ⟨n, a, dx, ws, eu, er, ev, z1, z3, p1⟩ := meth_at at1.rel q1 p1
  subst ev
  obtain rfl : u = Value.ref a := rx
  refine getmeth_ok I1 z1 hc hm z3 ?_
  refine PySem.W.callWith_K (first := [.ref a]) (h₀ := X.base) I.ok.mod.kin hm.kp (thn (ha.run pos pins s1 σ H1 _ I1 ⟨us, h1, ρ1, at1, Post.bind (R := RUl X.K) at1 p1⟩) fun uv s2 ⟨vs, H2, I2, r, l, h2, ρ2, s2', at2, q2, p2⟩ => ⟨I2.kIn, ?_⟩) hst hpl
  exact cal pins s2 σ H2 (.ref a :: uv) (.ref a :: vs) Q (w :: l) h2 ρ2 I2 (.cons rfl r) at2.rel ⟨_, _, rfl, RU.mono at1.rel s2' q1, q2⟩ p2
theorem se_meth0 {c : Nat} {pl : Sem Bool} (hc : Cls X.K (cls c)) (hm : Meth X.K (cls c) m f) (cal : Cal X cls W (.ref f) sem) (ho : SE X cls W o mo)
    (ht : eval (.Call (.Attribute o m apos) [] [] pos) X.env = (do
      let ov ← eval o X.env
      standAt apos.atName
      let (f, first) ← holding [ov] (getMethod ov m pl)
      callWith pos f first (backTo pos (starEach [] X.env)) (backToKw pos (keywordEach [] X.env))) := by rfl) : SE X cls W (.Call (.Attribute o m apos) [] [] pos) (evMeth c m sem mo eaNil) := by
  refine ⟨fun pins s σ H Q I ⟨us, h, ρ, at_, p⟩ => ?_⟩
  refine PySem.W.methodCall_KW (pl := pl) (thn (ho.run pins s σ H _ I ⟨us, h, ρ, at_, Post.bind (R := RU X.K) at_ p⟩) fun u s1 ⟨x, H1, I1, rx, w, h1, ρ1, s1', at1, q1, p1⟩ => ?_) ht
  obtain ⟨n, a, dx, ws, eu, er, ev, z1, z3, p1⟩ := meth_at at1.rel q1 p1
  subst ev
  obtain rfl : u = Value.ref a := rx
  refine getmeth_ok I1 z1 hc hm z3 ?_
  exact PySem.W.callWith_K0 (first := [.ref a]) I1.kIn hm.kp (cal pins s1 σ H1 [.ref a] [.ref a] Q [w] h1 ρ1 I1 (.cons rfl .nil) at1.rel ⟨_, _, rfl, q1, rfl⟩ p1)
/-- e.f, a property of the class c whose getter raises nothing -/
def evProp (c : Nat) (sem : Fn) (me : Ev) : Ev := fun us h => (me us h).bind fun u h1 => match insU h1 u with
  | some (_, c', _) => cond (c' == c) (match sem [u] h1 with
    | .exc _ _ => .bad
    | r => r) .bad
  | none => .bad
theorem se_prop {c : Nat} {fn : Str} {pp g : Addr} (hc : Cls X.K (cls c)) (hp : PropOf X.K (cls c) fn pp g) (F : FnG X.prog X.w X.K X.mg X.base cls k g sem) (hr : Room (k + 1) X.A) (he : SE X cls W e me)
    (hab : attributeBase e fn X.env (eval e X.env) = eval e X.env := by rfl) : SE X cls W (.Attribute e fn pos) (evProp c sem me) := by
  refine ⟨fun pins s σ H Q I ⟨us, h, ρ, at_, p⟩ => ?_⟩
  refine attr_of hab (thn (he.run pins s σ H _ I ⟨us, h, ρ, at_, Post.bind (R := RU X.K) at_ p⟩) fun uv s1 ⟨x, H1, I1, rx, u, h1, ρ1, s1', at1, q1, p1⟩ => ?_)
  cases e1 : insU h1 u with
  | none => rw [e1] at p1; exact p1.elim
  | some z =>
    obtain ⟨n, c', fs⟩ := z
    rw [e1] at p1
    obtain ⟨a, dx, ws, eu, eh, er, rfl, z1, z2⟩ := insU_imp at1.rel q1 e1
    cases e2 : (c' == c) with
    | false => simp only [e2] at p1; exact p1.elim
    | true =>
      simp only [e2, cond_true] at p1
      obtain rfl : c' = c := beq_iff_eq.mp e2
      obtain rfl : uv = Value.ref a := rx
      have p2 : Post X.K cls (fun _ _ _ _ => False) (RU X.K) ρ1 [] H1 Q (sem [u] h1) := by
        cases e3 : sem [u] h1 with
        | ok w h2 => rw [e3] at p1; exact p1
        | exc _ _ => rw [e3] at p1; exact p1.elim
        | bad => rw [e3] at p1; exact p1.elim
      obtain ⟨mA, O, _, _, _, _⟩ := ins_get I1.hok z1
      obtain ⟨od, J, _⟩ := O.look
      obtain ⟨rest, hrec⟩ := hp.rec_
      have I2 := I1.tok (s1.toks + 1)
      have hcc : (PySem.W.clsIn X.K (cls c')).isSome = true := by
        obtain ⟨cd, hc, _⟩ := PySem.W.any_some hc.hd
        rw [hc]
        rfl
      refine PySem.W.get_bind I1.kIn J (PySem.W.plainGet_of (hc.get fn)).1 (PySem.W.findObj_data hcc hp.at_ hp.get hp.tak) (PySem.W.plainGet_of (hc.get fn)).2 (wpAny_call (PySem.W.prop_get (s := { s1 with toks := s1.toks + 1 }) I1.kIn hrec ?_))
      refine codeAny_mono (F X.A.in1 X.stack { s1 with toks := s1.toks + 1 } H1 [.ref a] [.ref a] Q (fun _ _ _ => False) hr.in1 I2.env0.in1 (.cons rfl .nil) ⟨[u], h1, ρ1, at1.rel, ⟨_, _, rfl, q1, rfl⟩, p2⟩) fun r s' hq => ?_
      cases r with
      | error er => exact False.elim (passL (X := X.nox) pins σ H1 { s1 with toks := s1.toks + 1 } er s' (I2.wish _) hq)
      | ok fl =>
        cases fl with
        | ret u =>
          obtain ⟨v, H', I3, rv, q3⟩ := I2.after hq
          show wpAny _ _ (handedOut u) _ _ _
          rw [PySem.W.handedOut_of (handed_of rv)]
          exact wpAny_pure ⟨v, H', I3, rv, q3⟩
        | next => exact False.elim hq
        | brk => exact False.elim hq
        | cont => exact False.elim hq
/-- C.m, a staticmethod: its record at p, its def at g -/
structure SMet (K : PySem.W.Frag) (C : Addr) (mc : Value) (m : Str) (p g : Addr) : Prop where
  at_ : PySem.W.findCls K (.ref C) mc m = some (.get (.builtin "staticmethod.__get__") (.ref p) .none (.ref C))
  rc : ∃ rest, PySem.W.recIn K p "staticmethod" = some (.ref g :: rest)
  kp : PySem.W.keepIn K (.ref g) = true
theorem getsm_ok {pins : List (Addr × Obj)} {σ : L2.St} {H : Hp} {s : Shared} {A : Around} {E : Value → Shared → Prop} {pl : Sem Bool} {pp g : Addr} {mc : Value} {Q : Value × List Value → Shared → Prop} (I : Inv X pins σ H s) (r : ClX.CRead X.K C mc) (k : SMet X.K C mc m pp g)
    (h : ∀ s', Inv X pins σ H s' → Q (.ref g, []) s') : wpAny (model X.prog X.w) A (getMethod (.ref C) m pl) Q E s := by
  obtain ⟨rest, hp⟩ := k.rc
  refine PySem.W.method_cls I.kIn r.ga (PySem.W.cls_bind I.kIn r.rd k.at_ ?_)
  exact wpAny_call (PySem.W.sm_get (s := { s with toks := s.toks + 1 }) I.kIn hp (PySem.W.handed_on rfl (h _ (I.tok _))))
/-- C.m(..), a staticmethod -/
theorem se_smeth {cn : Str} {mc : Value} {pp g : Addr} {pl : Sem Bool} (hm : X.mg cn = some (.ref C)) (r : ClX.CRead X.K C mc) (k : SMet X.K C mc m pp g) (cal : Cal X cls W (.ref g) sem) (ha : SA X cls W (e :: es) ma) (hg : Gl X cn := by rfl) (hdb : (cn == ("__debug__" : Str)) = false := by decide)
    (hst : starEach (e :: es) X.env = (false, eval e X.env) :: starEach es X.env := by rfl) (hpl : (backTo pos (starEach es X.env)).any (·.1) = false := by rfl)
    (ht : eval (.Call (.Attribute (.Name cn p) m apos) (e :: es) [] pos) X.env = (do
      let ov ← eval (.Name cn p) X.env
      standAt apos.atName
      let (f, first) ← holding [ov] (getMethod ov m pl)
      callWith pos f first (backTo pos (starEach (e :: es) X.env)) (backToKw pos (keywordEach [] X.env))) := by rfl) : SE X cls W (.Call (.Attribute (.Name cn p) m apos) (e :: es) [] pos) (evCall sem ma) := by
  refine ⟨fun pins s σ H Q I ⟨us, h, ρ, at_, p⟩ => ?_⟩
  refine PySem.W.methodCall_KW (pl := pl) (ld_glob I hg hm (getsm_ok I r k fun s1 I1 => ?_) hdb) ht
  refine PySem.W.callWith_K (first := []) (h₀ := X.base) I.ok.mod.kin k.kp (thn (ha.run pos pins s1 σ H _ I1 ⟨us, h, ρ, at_, Post.bind (R := RUl X.K) at_ p⟩) fun uv s2 ⟨vs, H2, I2, r, l, h2, ρ2, s2', at2, q2, p2⟩ => ⟨I2.kIn, ?_⟩) hst hpl
  exact cal pins s2 σ H2 uv vs Q l h2 ρ2 I2 r at2.rel q2 p2
end
end GG
/-! GEnum -/
/-! enumerate(a tuple), enumerate(a text), as HandS has it of a list -/
namespace GG
open PySem PySem.Spec PyProof.Rows L2
theorem meets_enum_new1 {v : Value} {o : Obj} {H : Heap → Prop} (B : Begins v o H) :
    Meets (Builtin.«enumerate.__new__» ⟨[.type "enumerate", v], []⟩) (fun _ R s => H s.heap ∧
      R (.ok (.ret (.ref (s.heap.push o).objs.size))) { s with heap := (s.heap.push o).push { cls := .type "enumerate", data := .fields #[.none, .bool false, .ref s.heap.objs.size, rawInt 0, .none, .none] } }) :=
  .of_wp fun prog w A R s h => by
    obtain ⟨hp, g, d, tk, os⟩ := s; obtain ⟨h1, h⟩ := h
    have hsub := sub_enumerate
    have q1 : ∀ {A' : Around} {E : Value → Shared → Prop} {Q : Value → Shared → Prop}, Q (.ref hp.objs.size) ⟨hp.push o, g, d, tk, os⟩ → wpAny (model prog w) A' (pyIter v) Q E ⟨hp, g, d, tk, os⟩ :=
      fun q => B.iter prog w _ _ ⟨hp, g, d, tk, os⟩ _ h1 q
    wp_walk using q1
    refine wpAny_stack_any fun st => wpAny_pure ?_
    split
    · rename_i c _ _ _ _ _
      cases (c == Value.type "enumerate")
      · wp_walk using q1
        exact ⟨_, rfl, h⟩
      · wp_walk using q1
        exact ⟨_, rfl, h⟩
    · wp_walk using q1
      exact ⟨_, rfl, h⟩
section
variable {prog : Program} {w : World} {A : Around} {E : Value → Shared → Prop} {s : Shared}
theorem enum_begins1 {v : Value} {o : Obj} {H : Heap → Prop} {Q : Value → Shared → Prop} (B : Begins v o H) (h1 : H s.heap)
    (h : ∀ h', IsEnum h' (s.heap.objs.size + 1) s.heap.objs.size 0 .none → h'.get? s.heap.objs.size = some o → h'.objs.size = s.heap.objs.size + 2 →
      (∀ b o, s.heap.get? b = some o → h'.get? b = some o) → Q (.ref (s.heap.objs.size + 1)) { s with heap := h' }) :
    wpAny (model prog w) A (call (.type "enumerate") [v]) Q E s := by
  refine callType_new F.called_enumerate (by decide) (F.typeCall_enumerate_1 _) (F.newCall_enumerate_1 _) (fun obj => F.args_object_init_2 obj _) F.entry_enumerate_new
    (meets_enum_new1 B) ⟨h1, ?_⟩
  have hz : (s.heap.push o).objs.size = s.heap.objs.size + 1 := Heap.size_push ..
  show _ ∧ _
  rw [hz]
  have he : IsEnum ((s.heap.push o).push { cls := .type "enumerate", data := .fields #[.none, .bool false, .ref s.heap.objs.size, rawInt 0, .none, .none] }) (s.heap.objs.size + 1) s.heap.objs.size 0 .none := by
    have := Heap.get?_push_size (s.heap.push o) (o := { cls := .type "enumerate", data := .fields #[.none, .bool false, .ref s.heap.objs.size, rawInt 0, .none, .none] }) rfl
    rw [hz] at this; exact this
  refine ⟨⟨_, he, rfl⟩, h _ he (Heap.get?_push_of_some _ (Heap.get?_push_size _ B.free)) (by rw [Heap.size_push, hz]) fun b o x => Heap.get?_push_of_some _ (Heap.get?_push_of_some _ x)⟩
end
/-- the tuple at a, each item in a new pair -/
def Iet (K : PySem.W.Frag) (a : Addr) : It :=
  ⟨fun i H => ∃ (xs : List V) (x : V), SqT K H a xs ∧ xs[i]? = some x, fun i H v H' => ∃ T x, v = .ref T ∧ H T = none ∧ H' = upd H T (.tup [.int (i : Nat), x]) ∧ ∀ xs, SqT K H a xs → xs[i]? = some x, fun i H => ∃ xs : List V, SqT K H a xs ∧ xs.length ≤ i⟩
/-- the text x, each sign in a new pair -/
def Ies (x : Str) : It :=
  ⟨fun i H => i < x.cps.size, fun i H v H' => ∃ T c, v = .ref T ∧ H T = none ∧ H' = upd H T (.tup [.int (i : Nat), .str ⟨#[c]⟩]) ∧ x.cps[i]? = some c, fun i H => x.cps.size ≤ i⟩
section
variable {P : Program} {w : World} {K : PySem.W.Frag} {elts : List Expr} {kk : Nat} {tpos : Pos}
theorem enum_turn {X : Cx} {pins : List (Addr × Obj)} {s : Shared} {σ : L2.St} {H : Hp} {E : Value → Shared → Prop} {e it : Addr} {fp : List Addr} {n i : Nat} {P : Nat → Value → Prop} {St : Nat → Heap → Prop} {old : Value} {J : It} {tn : Nat → Heap → Prop}
    (D : Draws X.prog X.w X.A.in1 it fp n P St) (I : Inv X pins σ H s) (hf : ∀ b ∈ [e, it], FpOk X pins H b) (he : IsEnum s.heap e it i old) (hst : St i s.heap) (hlt : i < n) (hne : e ≠ it) (hef : e ∉ fp) (hil : it < s.heap.objs.size)
    (hP : ∀ v, P i v → ∃ x : V, RelV x v ∧ ∀ T, H T = none → J.yld i H (.ref T) (upd H T (.tup [.int (i : Nat), x])))
    (htn : ∀ h' h'' x, IsEnum h'' e it ((i : Int) + 1) x → St (i + 1) h' → (∀ b, b ≠ e → h''.get? b = h'.get? b) → tn (i + 1) h'') :
    wpAny (model X.prog X.w) X.A (pyNext (.ref e)) (fun r s1 => ∃ u, r = some u ∧
      wpAny (model X.prog X.w) X.A (letOwnedTupleGo (.Tuple elts kk tpos) (.ref e) u) (fun _ s2 => ∃ x H', Inv X pins σ H' s2 ∧ RelV x u ∧ J.yld i H x H' ∧ tn (i + 1) s2.heap ∧ ∀ b ∈ [e, it], H' b = none) E s1) E s := by
  have hel : e < s.heap.objs.size := Heap.lt_size he
  refine wpAny_pyNext_enum_itemD D he hst hlt hne hef fun x h' tk hPx ho hst' hT hsz hk => ?_
  obtain ⟨xv, rx, hy⟩ := hP x hPx
  refine ⟨_, rfl, wpAny_letOwnedTupleGo_enum (s := { s with heap := h', toks := tk + 1 }) ho fun h'' he' sb => ?_⟩
  have hT2 : h''.get? s.heap.objs.size = some { cls := .type "tuple", data := .seq #[.int i tk, x] } := (sb.2 _ (Nat.ne_of_gt hel)).trans hT
  have new : ObjOk X.prog X.w (upd H s.heap.objs.size (.tup [.int (i : Nat), xv])) h'' s.heap.objs.size (.tup [.int (i : Nat), xv]) :=
    ⟨by show 2 ≤ sizeLine; decide, [.int i tk, x], .cons ⟨_, rfl⟩ (.cons rx .nil), ⟨_, hT2, rfl, _, rfl⟩⟩
  have I1 : Inv X pins σ (upd H s.heap.objs.size (.tup [.int (i : Nat), xv])) { s with heap := h'', toks := tk + 1 } :=
    I.turnedNew (ch := [e, it]) (fun b ob hb q => (sb.2 b (fun z => hb (by simp [z]))).trans (hk b ob (fun z => hb (by simp [z])) (fun z => hb (by simp [z])) q)) hf (Nat.le_refl _) new
  refine ⟨.ref s.heap.objs.size, _, I1, rfl, hy _ (I.hok.fresh (Nat.le_refl _)), htn h' h'' x he' hst' sb.2, fun b hb => ?_⟩
  have hb' : b < s.heap.objs.size := by
    have e' : b = e ∨ b = it := by simpa using hb
    rcases e' with z | z
    · rw [z]; exact hel
    · rw [z]; exact hil
  rw [upd_ne (Nat.ne_of_lt hb')]
  exact (hf b hb).1
theorem turn_enumT (a e it : Addr) (hea : e ≠ a) (hia : a ≠ it) :
    Turn P w K (.Tuple elts kk tpos) (Iet K a) [e, it] e (fun i h => (∃ old, IsEnum h e it ((i : Nat) : Int) old) ∧ h.IsTupleIter it a i ∧ e ≠ it) where
  mem := by simp
  obj := fun i h st b hb => by
    obtain ⟨⟨old, he⟩, ⟨o, ho, hc, hd⟩, _⟩ := st
    have e' : b = e ∨ b = it := by simpa using hb
    rcases e' with z | z
    · rw [z]; exact ⟨_, he, fun v q => nomatch q⟩
    · rw [z]; exact ⟨o, ho, fun v q => by rw [hd] at q; cases q⟩
  keep := fun i h h' st k => let ⟨⟨old, he⟩, hi, hne⟩ := st; ⟨⟨old, k e (by simp) _ he⟩, hi.at fun o q => k it (by simp) o q, hne⟩
  item := by
    intro X hP hw hK hc i pins s σ H E I hf st hg
    subst hP hw hK
    obtain ⟨⟨old, he⟩, hit, hne⟩ := st
    obtain ⟨xs, x, hq, hx⟩ := hg
    obtain ⟨its, rv, p, hz⟩ := I.tuple hq
    obtain ⟨u, hu, ru⟩ := rv.get hx
    have hlen : i < its.toArray.size := by have := (List.getElem?_eq_some_iff.mp hu).1; simpa using this
    refine enum_turn (J := Iet X.K a) (tn := fun i h => (∃ old, IsEnum h e it ((i : Nat) : Int) old) ∧ h.IsTupleIter it a i ∧ e ≠ it) (Draws.tuple (A := X.A.in1) (I.ok.hd hc) it a hia its.toArray) I hf he ⟨hit, p⟩ hlen hne (by simp [hne, hea]) (by obtain ⟨_, q, _⟩ := hit; exact Heap.lt_size q) (fun v hv => ?_) fun h' h'' x he' hst' sb => ?_
    · have e2 : v = u := by
        have hv' : its[i]? = some v := by simpa using hv
        rw [hu] at hv'; exact (Option.some.inj hv').symm
      subst e2
      exact ⟨x, ru, fun T hT => ⟨T, x, rfl, hT, rfl, fun ys hy => by rw [I.tuple_inj hy hq]; exact hx⟩⟩
    · have e1 : ((i + 1 : Nat) : Int) = (i : Int) + 1 := by omega
      exact ⟨⟨x, by rw [e1]; exact he'⟩, hst'.1.at fun o q => (sb it (Ne.symm hne)).trans q, hne⟩
  done := by
    intro X hP hw hK hc i pins s σ H E I hf st hg
    subst hP hw hK
    obtain ⟨⟨old, he⟩, hit, hne⟩ := st
    obtain ⟨xs, hq, hx⟩ := hg
    obtain ⟨its, rv, p, hz⟩ := I.tuple hq
    obtain ⟨f0, f1, f2, f3, f4, f5⟩ := hf it (by simp)
    have hl := rv.length
    have hT : s.TypeIs (.ref e) "enumerate" := ⟨_, he, rfl⟩
    unfold pyNext
    refine wpAny_bind (wpAny_attempt (wpAny_callSpecial?_slot (name := Str.ofString "__next__") hT F.slot_enumerate_next
      (wpAny_call_entry F.slot_enumerate_next hT F.entry_enumerate_next ?_ (F.args_enumerate_next_1 _))))
    show wpAny _ _ (field (.ref e) 2 >>= _) _ _ _
    refine wpAny_bind (wpAny_field he rfl (x := .ref it) rfl ?_)
    refine wpAny_bind (wpAny_nextOf_tuple_end (I.ok.hd hc) hit (show s.heap.IsTuple a its.toArray from p) (by simp; omega) fun h' x he' hx' => ?_)
    obtain ⟨o, ho, hc⟩ := hx'
    refine wpAny_bind (wpAny_isInstance (T := "StopIteration") (b := true) ⟨o, ho, hc⟩ isSubtype_stop ?_)
    exact wpAny_pure ⟨rfl, I.turned (t' := s.toks) (fun b o hb q => he' b o hb q) f0 f1 f3 f4 f5⟩
  self := fun A i s Q E st h => let ⟨⟨_, he⟩, _⟩ := st; wpAny_pyIter_enum he h
theorem turn_enumS (x : Str) (t : Tok) (e it : Addr) :
    Turn P w K (.Tuple elts kk tpos) (Ies x) [e, it] e (fun i h => (∃ old, IsEnum h e it ((i : Nat) : Int) old) ∧ h.IsStrIter it (strIterType x) x t i ∧ e ≠ it) where
  mem := by simp
  obj := fun i h st b hb => by
    obtain ⟨⟨old, he⟩, ⟨o, ho, hc, hd⟩, _⟩ := st
    have e' : b = e ∨ b = it := by simpa using hb
    rcases e' with z | z
    · rw [z]; exact ⟨_, he, fun v q => nomatch q⟩
    · rw [z]; exact ⟨o, ho, fun v q => by rw [hd] at q; cases q⟩
  keep := fun i h h' st k => let ⟨⟨old, he⟩, hi, hne⟩ := st; ⟨⟨old, k e (by simp) _ he⟩, let ⟨o, ho, r⟩ := hi; ⟨o, k it (by simp) o ho, r⟩, hne⟩
  item := by
    intro X hP hw hK hc i pins s σ H E I hf st hg
    subst hP hw hK
    obtain ⟨⟨old, he⟩, hit, hne⟩ := st
    refine enum_turn (J := Ies x) (tn := fun i h => (∃ old, IsEnum h e it ((i : Nat) : Int) old) ∧ h.IsStrIter it (strIterType x) x t i ∧ e ≠ it) (Draws.text (A := X.A.in1) (I.ok.hd hc) it x t) I hf he hit hg hne (by simp [hne]) (by obtain ⟨_, q, _⟩ := hit; exact Heap.lt_size q) (fun v hv => ?_) fun h' h'' x he' hst' sb => ?_
    · obtain ⟨c, u, hcx, rfl⟩ := hv
      exact ⟨.str ⟨#[c]⟩, ⟨u, rfl⟩, fun T hT => ⟨T, c, rfl, hT, rfl, hcx⟩⟩
    · have e1 : ((i + 1 : Nat) : Int) = (i : Int) + 1 := by omega
      exact ⟨⟨x, by rw [e1]; exact he'⟩, let ⟨o, ho, r⟩ := hst'; ⟨o, (sb it (Ne.symm hne)).trans ho, r⟩, hne⟩
  done := by
    intro X hP hw hK hc i pins s σ H E I hf st hg
    subst hP hw hK
    obtain ⟨⟨old, he⟩, hit, hne⟩ := st
    obtain ⟨f0, f1, f2, f3, f4, f5⟩ := hf it (by simp)
    have hx : x.cps[i]? = none := Array.getElem?_eq_none hg
    have hT : s.TypeIs (.ref e) "enumerate" := ⟨_, he, rfl⟩
    unfold pyNext
    refine wpAny_bind (wpAny_attempt (wpAny_callSpecial?_slot (name := Str.ofString "__next__") hT F.slot_enumerate_next
      (wpAny_call_entry F.slot_enumerate_next hT F.entry_enumerate_next ?_ (F.args_enumerate_next_1 _))))
    show wpAny _ _ (field (.ref e) 2 >>= _) _ _ _
    refine wpAny_bind (wpAny_field he rfl (x := .ref it) rfl ?_)
    cases ha : x.cps.all (· < 128)
    · rw [show strIterType x = "str_iterator" by simp [strIterType, ha]] at hit
      refine wpAny_bind (wpAny_nextOf_wide_end (I.ok.hd hc) hit hx fun h' x he' hx' => ?_)
      obtain ⟨o, ho, hc⟩ := hx'
      refine wpAny_bind (wpAny_isInstance (T := "StopIteration") (b := true) ⟨o, ho, hc⟩ isSubtype_stop ?_)
      exact wpAny_pure ⟨rfl, I.turned (t' := s.toks) (fun b o hb q => he' b o hb q) f0 f1 f3 f4 f5⟩
    · rw [show strIterType x = "str_ascii_iterator" by simp [strIterType, ha]] at hit
      refine wpAny_bind (wpAny_nextOf_ascii_end (I.ok.hd hc) hit hx fun h' x he' hx' => ?_)
      obtain ⟨o, ho, hc⟩ := hx'
      refine wpAny_bind (wpAny_isInstance (T := "StopIteration") (b := true) ⟨o, ho, hc⟩ isSubtype_stop ?_)
      exact wpAny_pure ⟨rfl, I.turned (t' := s.toks) (fun b o hb q => he' b o hb q) f0 f1 f3 f4 f5⟩
  self := fun A i s Q E st h => let ⟨⟨_, he⟩, _⟩ := st; wpAny_pyIter_enum he h
end
/-- enumerate(v) for a list, a tuple, a text -/
def iEnumA (K : PySem.W.Frag) (ta : TA) : TI := fun σ H R => ta σ H fun vs H1 => (∃ a xs, vs = [.ref a] ∧ SqL K H1 a xs ∧ R (Ite K a) H1) ∨ (∃ a xs, vs = [.ref a] ∧ SqT K H1 a xs ∧ R (Iet K a) H1) ∨ (∃ x, vs = [.str x] ∧ R (Ies x) H1)
theorem pi_enumA {X : Cx} {e : Expr} {ta : TA} {p pos tpos : Pos} {elts : List Expr} {kk : Nat} (hg : Gl X "enumerate") (hm : X.mg "enumerate" = none) (ha : PA X [e] ta) (hs : starEach [e] X.env = [(false, eval e X.env)] := by rfl) :
    PI X (.Tuple elts kk tpos) (.Call (.Name "enumerate" p) [e] [] pos) (iEnumA X.K ta) := by
  refine ⟨fun pins s σ H R I h => ?_⟩
  refine Call_ (ld_blt I hg hm boot_enumerate (PyProof.Rows.callWith_type1 (thn (ha.run pos pins s σ H _ I h) fun us s1 ⟨vs, H1, I1, r1, q1⟩ => ?_) hs rfl))
  rcases q1 with ⟨a, xs, ex, hq, q⟩ | ⟨a, xs, ex, hq, q⟩ | ⟨x, ex, q⟩
  · subst ex
    cases r1 with
    | cons r rr =>
      cases rr
      cases r
      obtain ⟨its, rv, p', hz⟩ := I1.list hq
      refine call_enumerate_list p'.isList fun h' he hit hsz hk => wpAny_pyIter_enum he ?_
      have I2 : Inv X pins σ H1 { s1 with heap := h' } := I1.kept (t' := s1.toks) hk
      refine ⟨s1.heap.objs.size + 1, [s1.heap.objs.size + 1, s1.heap.objs.size], _, _, H1, rfl, I2, turn_enum a (s1.heap.objs.size + 1) s1.heap.objs.size, ⟨⟨.none, he⟩, hit, Nat.succ_ne_self _⟩, fun b hb => ?_, q⟩
      have e' : b = s1.heap.objs.size + 1 ∨ b = s1.heap.objs.size := by simpa using hb
      have hle : s1.heap.objs.size ≤ b := by
        rcases e' with z | z
        · rw [z]; exact Nat.le_add_right _ _
        · rw [z]; exact Nat.le_refl _
      exact I1.fpOk hle (I1.hok.fresh hle)
  · subst ex
    cases r1 with
    | cons r rr =>
      cases rr
      cases r
      obtain ⟨its, rv, p', hz⟩ := I1.tuple hq
      have hla : a < s1.heap.objs.size := by obtain ⟨o, ho, _⟩ := p'; exact Heap.lt_size ho
      refine enum_begins1 (begins_tuple a its.toArray) p' fun h' he hit hsz hk => wpAny_pyIter_enum he ?_
      have I2 : Inv X pins σ H1 { s1 with heap := h' } := I1.kept (t' := s1.toks) hk
      refine ⟨s1.heap.objs.size + 1, [s1.heap.objs.size + 1, s1.heap.objs.size], _, _, H1, rfl, I2, turn_enumT a (s1.heap.objs.size + 1) s1.heap.objs.size (Nat.ne_of_gt (Nat.lt_succ_of_lt hla)) (Nat.ne_of_lt hla), ⟨⟨.none, he⟩, ⟨_, hit, rfl, rfl⟩, Nat.succ_ne_self _⟩, fun b hb => ?_, q⟩
      have e' : b = s1.heap.objs.size + 1 ∨ b = s1.heap.objs.size := by simpa using hb
      have hle : s1.heap.objs.size ≤ b := by
        rcases e' with z | z
        · rw [z]; exact Nat.le_add_right _ _
        · rw [z]; exact Nat.le_refl _
      exact I1.fpOk hle (I1.hok.fresh hle)
  · subst ex
    cases r1 with
    | cons r rr =>
      cases rr
      obtain ⟨t, rfl⟩ := r
      refine enum_begins1 (begins_text x t) trivial fun h' he hit hsz hk => wpAny_pyIter_enum he ?_
      have I2 : Inv X pins σ H1 { s1 with heap := h' } := I1.kept (t' := s1.toks) hk
      refine ⟨s1.heap.objs.size + 1, [s1.heap.objs.size + 1, s1.heap.objs.size], _, _, H1, rfl, I2, turn_enumS x t (s1.heap.objs.size + 1) s1.heap.objs.size, ⟨⟨.none, he⟩, ⟨_, hit, rfl, rfl⟩, Nat.succ_ne_self _⟩, fun b hb => ?_, q⟩
      have e' : b = s1.heap.objs.size + 1 ∨ b = s1.heap.objs.size := by simpa using hb
      have hle : s1.heap.objs.size ≤ b := by
        rcases e' with z | z
        · rw [z]; exact Nat.le_add_right _ _
        · rw [z]; exact Nat.le_refl _
      exact I1.fpOk hle (I1.hok.fresh hle)
end GG
/-! GLoop -/
namespace GG
open PySem PySem.Spec PyProof.Rows L2
/-! ### what is walked: fixed items, or a list as it stands at each turn; en: each with its number -/
inductive GI where
  | st (l : List U)
  | lv (n : Nat) (m : Nat)
  | en (g : GI)
abbrev EvI := Sl → Hq → Res GI
/-- the turn: stop, an item, or nothing is known -/
def GI.at_ (i : Nat) (h : Hq) : GI → Option (Option U)
  | .st l => some l[i]?
  | .lv n m => match h[n]? with
    | some (.lst l) => cond (Nat.ble l.length m) (some l[i]?) none
    | some (.frl l) => cond (Nat.ble l.length m) (some l[i]?) none
    | _ => none
  | .en g => match g.at_ i h with
    | some (some u) => some (some (.tup [.int (i : Nat), u]))
    | r => r
def GI.size : GI → Nat
  | .st l => l.length
  | .lv _ m => m
  | .en g => g.size
/-- J walks as g says, from ρ0, H0 on -/
def RI (K : PySem.W.Frag) (cls : Nat → Addr) (ρ0 : List Addr) (H0 : Hp) (g : GI) (J : It) : Prop := ∀ (i : Nat) (ρ : List Addr) (h : Hq) (H : Hp), Step ρ0 H0 ρ H → Rel K cls ρ h H →
  (g.at_ i h = some none → J.stop i H) ∧ (∀ u, g.at_ i h = some (some u) → J.go i H ∧ ∀ x H', J.yld i H x H' → Step ρ H ρ H' ∧ Rel K cls ρ h H' ∧ RU K ρ H' u x)
section
variable (K : PySem.W.Frag) (cls : Nat → Addr) (W : WX)
def PostI (ρ : List Addr) (σ : L2.St) (H : Hp) (R : It → Hp → Prop) : Res GI → Prop
  | .ok g h => ∀ J H' ρ', Step ρ H ρ' H' → Rel K cls ρ' h H' → RI K cls ρ' H' g J → R J H'
  | .exc x h => ∀ c d H' ρ', Step ρ H ρ' H' → Rel K cls ρ' h H' → RX cls ρ' H' x c d → W c d σ H'
  | .bad => False
def tItr (m : EvI) : TI := fun σ H R => ∃ us h ρ, At K cls ρ us h σ H ∧ PostI K cls W ρ σ H R (m us h)
end
abbrev SI (X : Cx) (cls : Nat → Addr) (W : WX) (tg e : Expr) (m : EvI) : Prop := PI X tg e (tItr X.K cls W m)
theorem pi_imp {X : Cx} {tg e : Expr} {t t' : TI} (h : PI X tg e t) (i : ∀ σ H R, t' σ H R → t σ H R) : PI X tg e t' := ⟨fun pins s σ H R I hw => h.run pins s σ H R I (i σ H R hw)⟩
theorem RUl.get {K : PySem.W.Frag} {ρ : List Addr} {H : Hp} : ∀ {l : List U} {vs : List V} {i : Nat}, RUl K ρ H l vs → match l[i]? with
  | some u => ∃ v, vs[i]? = some v ∧ RU K ρ H u v
  | none => vs.length ≤ i := fun {l vs i} q => by
  induction l generalizing vs i with
  | nil => rw [show vs = [] from q]; exact Nat.zero_le _
  | cons u l ih =>
    obtain ⟨v, r, rfl, q1, q2⟩ := q
    cases i with
    | zero => exact ⟨v, rfl, q1⟩
    | succ i =>
      have z := ih (i := i) q2
      rw [List.getElem?_cons_succ]
      cases e : l[i]? with
      | none => rw [e] at z; exact Nat.succ_le_succ z
      | some w => rw [e] at z; obtain ⟨x, e1, e2⟩ := z; exact ⟨x, by rw [List.getElem?_cons_succ]; exact e1, e2⟩
section
variable {K : PySem.W.Frag} {cls : Nat → Addr} {W : WX} {ρ0 : List Addr} {H0 : Hp}
/-- for fixed items: what must hold at each turn -/
theorem ri_st {l : List U} {J : It} (hs : ∀ i ρ h H, Step ρ0 H0 ρ H → Rel K cls ρ h H → l[i]? = none → J.stop i H)
    (hg : ∀ i ρ h H u, Step ρ0 H0 ρ H → Rel K cls ρ h H → l[i]? = some u → J.go i H ∧ ∀ x H', J.yld i H x H' → Step ρ H ρ H' ∧ Rel K cls ρ h H' ∧ RU K ρ H' u x) : RI K cls ρ0 H0 (.st l) J := fun i ρ h H s r =>
  ⟨fun e => hs i ρ h H s r (Option.some.inj e), fun u e => hg i ρ h H u s r (Option.some.inj e)⟩
theorem ri_tup {a : Addr} {vs : List V} {l : List U} {h0 : Hq} (r0 : Rel K cls ρ0 h0 H0) (t : SqT K H0 a vs) (q : RUl K ρ0 H0 l vs) : RI K cls ρ0 H0 (.st l) (Itt K a) := by
  refine ri_st (fun i ρ h H s r e => ?_) fun i ρ h H u s r e => ?_
  · have q' := (RUl.mono r0 s q).get (i := i)
    rw [e] at q'
    exact ⟨vs, r0.sqt s t, q'⟩
  · have q' := (RUl.mono r0 s q).get (i := i)
    rw [e] at q'
    obtain ⟨v, e1, e2⟩ := q'
    refine ⟨⟨vs, v, r0.sqt s t, e1⟩, fun x H' ⟨eH, y⟩ => ?_⟩
    subst eH
    have ev := y vs (r0.sqt s t)
    rw [e1] at ev; cases ev
    exact ⟨Step.refl, r, e2⟩
/-- a list as it stands -/
theorem lv_at {ρ : List Addr} {h : Hq} {H : Hp} {a : Addr} {n m i : Nat} {r : Option U} (rel : Rel K cls ρ h H) (ea : ρ[n]? = some a) (e : (GI.lv n m).at_ i h = some r) : ∃ l vs, SqL K H a vs ∧ RUl K ρ H l vs ∧ l[i]? = r := by
  unfold GI.at_ at e
  cases eh : h[n]? with
  | none => simp only [eh] at e; cases e
  | some o =>
    have z := rel.at_ n o a eh ea
    cases o with
    | lst l =>
      obtain ⟨vs, z1, z2⟩ := z
      simp only [eh] at e
      cases hb : Nat.ble l.length m with
      | false => rw [hb] at e; cases e
      | true => rw [hb] at e; exact ⟨l, vs, SqL.of z1, z2, Option.some.inj e⟩
    | frl l =>
      obtain ⟨vs, z1, _, z2⟩ := z
      simp only [eh] at e
      cases hb : Nat.ble l.length m with
      | false => rw [hb] at e; cases e
      | true => rw [hb] at e; exact ⟨l, vs, z1, z2, Option.some.inj e⟩
    | _ => simp only [eh] at e; cases e
theorem ri_lst {a : Addr} {n m : Nat} (ea : ρ0[n]? = some a) : RI K cls ρ0 H0 (.lv n m) (Itl K a) := fun i ρ h H s r => by
  refine ⟨fun e => ?_, fun u e => ?_⟩
  · obtain ⟨l, vs, t, q, e⟩ := lv_at r (s.get ea) e
    have q' := q.get (i := i)
    rw [e] at q'
    exact ⟨vs, t, q'⟩
  · obtain ⟨l, vs, t, q, e⟩ := lv_at r (s.get ea) e
    have q' := q.get (i := i)
    rw [e] at q'
    obtain ⟨v, e1, e2⟩ := q'
    refine ⟨⟨vs, v, t, e1⟩, fun x H' ⟨eH, y⟩ => ?_⟩
    subst eH
    have ev := y vs t
    rw [e1] at ev; cases ev
    exact ⟨Step.refl, r, e2⟩
theorem ri_fls {a : Addr} {vs : List V} {l : List U} {h0 : Hq} (r0 : Rel K cls ρ0 h0 H0) (t : FL K ρ0 H0 a vs) (q : RUl K ρ0 H0 l vs) : RI K cls ρ0 H0 (.st l) (Itl K a) := by
  refine ri_st (fun i ρ h H s r e => ?_) fun i ρ h H u s r e => ?_
  · have q' := (RUl.mono r0 s q).get (i := i)
    rw [e] at q'
    exact ⟨vs, (t.mono s).sq, q'⟩
  · have q' := (RUl.mono r0 s q).get (i := i)
    rw [e] at q'
    obtain ⟨v, e1, e2⟩ := q'
    refine ⟨⟨vs, v, (t.mono s).sq, e1⟩, fun x H' ⟨eH, y⟩ => ?_⟩
    subst eH
    have ev := y vs (t.mono s).sq
    rw [e1] at ev; cases ev
    exact ⟨Step.refl, r, e2⟩
theorem en_at {g : GI} {i : Nat} {h : Hq} : ((GI.en g).at_ i h = some none → g.at_ i h = some none) ∧ (∀ u, (GI.en g).at_ i h = some (some u) → ∃ w, g.at_ i h = some (some w) ∧ u = .tup [.int (i : Nat), w]) := by
  have ee : (GI.en g).at_ i h = (match g.at_ i h with | some (some u) => some (some (U.tup [.int (i : Nat), u])) | r => r) := rfl
  rw [ee]
  cases e : g.at_ i h with
  | none => exact And.intro (fun z => nomatch z) (fun u z => nomatch z)
  | some r =>
    cases r with
    | none => exact And.intro (fun _ => rfl) (fun u z => nomatch z)
    | some w => exact And.intro (fun z => nomatch z) (fun u z => ⟨w, rfl, (Option.some.inj (Option.some.inj z)).symm⟩)
theorem en_pair {ρ : List Addr} {h : Hq} {H : Hp} {T : Addr} {w : U} {v : V} {i : Nat} (r : Rel K cls ρ h H) (hT : H T = none) (q : RU K ρ H w v) :
    Step ρ H ρ (upd H T (.tup [.int (i : Nat), v])) ∧ Rel K cls ρ h (upd H T (.tup [.int (i : Nat), v])) ∧ RU K ρ (upd H T (.tup [.int (i : Nat), v])) (.tup [.int (i : Nat), w]) (.ref T) := by
  obtain ⟨r2, s2⟩ := r.other (o := .tup [.int (i : Nat), v]) hT
  have ql : RUl K ρ (upd H T (.tup [.int (i : Nat), v])) [.int (i : Nat), w] [.int (i : Nat), v] := ⟨_, _, rfl, rfl, v, [], rfl, RU.mono r s2 q, rfl⟩
  have sq : (upd H T (.tup [.int (i : Nat), v])) T = some (.tup [.int (i : Nat), v]) := upd_same
  exact ⟨s2, r2, T, _, rfl, sq, ql⟩
theorem ri_enl {a : Addr} {n m : Nat} (ea : ρ0[n]? = some a) : RI K cls ρ0 H0 (.en (.lv n m)) (Ite K a) := fun i ρ h H s r => by
  refine ⟨fun e => ?_, fun u e => ?_⟩
  · obtain ⟨l, vs, t, q, e⟩ := lv_at r (s.get ea) (en_at.1 e)
    have q' := q.get (i := i)
    rw [e] at q'
    exact ⟨vs, t, q'⟩
  · obtain ⟨w, e', rfl⟩ := en_at.2 u e
    obtain ⟨l, vs, t, q, e⟩ := lv_at r (s.get ea) e'
    have q' := q.get (i := i)
    rw [e] at q'
    obtain ⟨v, e1, e2⟩ := q'
    refine ⟨⟨vs, v, t, e1⟩, fun x H' ⟨T, y, ex, hT, eH, hy⟩ => ?_⟩
    have ev := hy vs t
    rw [e1] at ev; cases ev
    subst ex eH
    exact en_pair r hT e2
theorem ri_ent {a : Addr} {vs : List V} {l : List U} {h0 : Hq} (r0 : Rel K cls ρ0 h0 H0) (t0 : SqT K H0 a vs) (q0 : RUl K ρ0 H0 l vs) : RI K cls ρ0 H0 (.en (.st l)) (Iet K a) := fun i ρ h H s r => by
  have t := r0.sqt s t0
  have q' := (RUl.mono r0 s q0).get (i := i)
  refine ⟨fun e => ?_, fun u e => ?_⟩
  · rw [show l[i]? = none from Option.some.inj (en_at.1 e)] at q'
    exact ⟨vs, t, q'⟩
  · obtain ⟨w, e', rfl⟩ := en_at.2 u e
    rw [show l[i]? = some w from Option.some.inj e'] at q'
    obtain ⟨v, e1, e2⟩ := q'
    refine ⟨⟨vs, v, t, e1⟩, fun x H' ⟨T, y, ex, hT, eH, hy⟩ => ?_⟩
    have ev := hy vs t
    rw [e1] at ev; cases ev
    subst ex eH
    exact en_pair r hT e2
/-- the signs of a text -/
def signs (x : Str) : List U := x.cps.toList.map fun c => .str ⟨⟨[c]⟩⟩
theorem signs_get {x : Str} {i : Nat} : (signs x)[i]? = (x.cps[i]?).map fun c => U.str ⟨#[c]⟩ := by
  unfold signs
  rw [List.getElem?_map, Array.getElem?_toList]
theorem ri_ens {x : Str} : RI K cls ρ0 H0 (.en (.st (signs x))) (Ies x) := fun i ρ h H s r => by
  refine ⟨fun e => ?_, fun u e => ?_⟩
  · have e : (signs x)[i]? = none := Option.some.inj (en_at.1 e)
    rw [signs_get, Option.map_eq_none_iff] at e
    exact Array.getElem?_eq_none_iff.mp e
  · obtain ⟨w, e', rfl⟩ := en_at.2 u e
    have e : (signs x)[i]? = some w := Option.some.inj e'
    rw [signs_get, Option.map_eq_some_iff] at e
    obtain ⟨c, e1, rfl⟩ := e
    refine ⟨(Array.getElem?_eq_some_iff.mp e1).1, fun v H' ⟨T, c', ex, hT, eH, hc⟩ => ?_⟩
    rw [e1] at hc; cases hc
    subst ex eH
    exact en_pair r hT (v := .str ⟨#[c]⟩) rfl
theorem ri_str {x : Str} : RI K cls ρ0 H0 (.st (signs x)) (Its x) := by
  refine ri_st (fun i ρ h H s r e => ?_) fun i ρ h H u s r e => ?_
  · rw [signs_get, Option.map_eq_none_iff] at e
    exact Array.getElem?_eq_none_iff.mp e
  · rw [signs_get, Option.map_eq_some_iff] at e
    obtain ⟨c, e1, rfl⟩ := e
    refine ⟨(Array.getElem?_eq_some_iff.mp e1).1, fun v H' ⟨eH, c', hc, ev⟩ => ?_⟩
    rw [e1] at hc; cases hc
    subst eH ev
    exact ⟨Step.refl, r, rfl⟩
/-- lo, lo + 1, .. -/
def rangeU (lo : Int) (n : Nat) : List U := (List.range n).map fun i => .int (lo + (i : Nat))
theorem ri_rng {lo : Int} {n : Nat} : RI K cls ρ0 H0 (.st (rangeU lo n)) (Itr lo n) := by
  refine ri_st (fun i ρ h H s r e => ?_) fun i ρ h H u s r e => ?_
  · unfold rangeU at e
    rw [List.getElem?_map, Option.map_eq_none_iff] at e
    have := List.getElem?_eq_none_iff.mp e
    rw [List.length_range] at this
    exact this
  · unfold rangeU at e
    rw [List.getElem?_map, Option.map_eq_some_iff] at e
    obtain ⟨j, e1, rfl⟩ := e
    obtain ⟨hl, e1⟩ := List.getElem?_eq_some_iff.mp e1
    simp only [List.length_range] at hl
    simp only [List.getElem_range] at e1
    subst e1
    refine ⟨hl, fun v H' ⟨eH, ev⟩ => ?_⟩
    subst eH ev
    exact ⟨Step.refl, r, rfl⟩
def keyU : Key → U
  | .inl i => .int i
  | .inr x => .str x
theorem ru_key {ρ : List Addr} {H : Hp} {k : Key} : RU K ρ H (keyU k) (kV k) := by cases k <;> rfl
theorem ru_keys {ρ : List Addr} {H : Hp} : ∀ {k : List Key}, RUl K ρ H (k.map keyU) (k.map kV)
  | [] => rfl
  | _ :: _ => ⟨_, _, rfl, ru_key, ru_keys⟩
theorem RUp.keys {κ : Type} {ρ : List Addr} {H : Hp} : ∀ {l : List (κ × U)} {vs : List (κ × V)}, RUp K ρ H l vs → vs.map (·.1) = l.map (·.1)
  | [], _, e => by rw [show _ = ([] : List (κ × V)) from e] <;> rfl
  | (_, _) :: _, _, ⟨v, r, e, _, q⟩ => by rw [e]; exact congrArg (_ :: ·) q.keys
theorem ri_keys {d : Addr} {o : Obj} {kvs : List (Key × V)} {us : List (Key × U)} (hd : H0 d = some (.frz o (.dK kvs))) (q : RUp K ρ0 H0 us kvs) : RI K cls ρ0 H0 (.st (us.map fun p => keyU p.1)) (Itk d o kvs) := by
  have ek : (us.map fun p => keyU p.1) = kvs.map fun p => keyU p.1 := by
    have := congrArg (List.map keyU) q.keys
    rw [List.map_map, List.map_map] at this
    exact this.symm
  rw [ek]
  refine ri_st (fun i ρ h H s r e => ?_) fun i ρ h H u s r e => ?_
  · rw [List.getElem?_map, Option.map_eq_none_iff] at e
    exact ⟨s.frz _ _ _ hd, List.getElem?_eq_none_iff.mp e⟩
  · rw [List.getElem?_map, Option.map_eq_some_iff] at e
    obtain ⟨⟨k, v⟩, e1, rfl⟩ := e
    refine ⟨⟨s.frz _ _ _ hd, (List.getElem?_eq_some_iff.mp e1).1⟩, fun x H' ⟨eH, k', v', e2, ev⟩ => ?_⟩
    rw [e1] at e2; cases e2
    subst eH ev
    exact ⟨Step.refl, r, ru_key⟩
theorem ri_keysT {d : Addr} {o : Obj} {kvs : List (List Key × V)} {us : List (List Key × U)} (hd : H0 d = some (.frz o (.dT kvs))) (q : RUp K ρ0 H0 us kvs) : RI K cls ρ0 H0 (.st (us.map fun p => .tup (p.1.map keyU))) (Itkt d o kvs) := by
  have ek : (us.map fun p => U.tup (p.1.map keyU)) = kvs.map fun p => U.tup (p.1.map keyU) := by
    have := congrArg (List.map fun k : List Key => U.tup (k.map keyU)) q.keys
    rw [List.map_map, List.map_map] at this
    exact this.symm
  rw [ek]
  refine ri_st (fun i ρ h H s r e => ?_) fun i ρ h H u s r e => ?_
  · rw [List.getElem?_map, Option.map_eq_none_iff] at e
    exact ⟨s.frz _ _ _ hd, List.getElem?_eq_none_iff.mp e⟩
  · rw [List.getElem?_map, Option.map_eq_some_iff] at e
    obtain ⟨⟨k, v⟩, e1, rfl⟩ := e
    refine ⟨⟨s.frz _ _ _ hd, (List.getElem?_eq_some_iff.mp e1).1⟩, fun x H' ⟨eH, k', v', b, e2, ev, hb⟩ => ?_⟩
    rw [e1] at e2; cases e2
    subst eH ev
    exact ⟨Step.refl, r, b, _, rfl, hb, ru_keys⟩
end
/-! ### the walked things -/
section
variable {X : Cx} {cls : Nat → Addr} {W : WX} {pos p : Pos} {tg e e2 : Expr} {es : List Expr} {me me2 : Ev} {ma : Eva}
theorem post_i {K : PySem.W.Frag} {ρ : List Addr} {us : Sl} {h : Hq} {σ : L2.St} {H : Hp} {R : It → Hp → Prop} {α β : Type} {Rr : RelT α β} {r : Res α} {k : α → Hq → Res GI} (a : At K cls ρ us h σ H) (p : PostI K cls W ρ σ H R (r.bind k)) :
    Post K cls W Rr ρ σ H (fun v H1 => ∃ u h1 ρ1, Step ρ H ρ1 H1 ∧ At K cls ρ1 us h1 σ H1 ∧ Rr ρ1 H1 u v ∧ PostI K cls W ρ1 σ H1 R (k u h1)) r := by
  cases r with
  | ok u h1 =>
    refine fun v H1 ρ1 s r1 q => ⟨u, h1, ρ1, s, a.step s r1, q, ?_⟩
    have p' : PostI K cls W ρ σ H R (k u h1) := p
    cases e : k u h1 with
    | ok g h2 => rw [e] at p'; exact fun J H2 ρ2 t => p' J H2 ρ2 (s.trans t)
    | exc x h2 => rw [e] at p'; exact fun c d H2 ρ2 t => p' c d H2 ρ2 (s.trans t)
    | bad => rw [e] at p'; exact p'
  | exc x h1 => exact p
  | bad => exact p
theorem PostI.ok {K : PySem.W.Frag} {ρ : List Addr} {h : Hq} {σ : L2.St} {H : Hp} {R : It → Hp → Prop} {g : GI} {J : It} (p : PostI K cls W ρ σ H R (.ok g h)) (r : Rel K cls ρ h H) (q : RI K cls ρ H g J) : R J H := p J H ρ Step.refl r q
section
variable {pins : List (Addr × Obj)} {σ : L2.St} {H1 : Hp} {s1 : Shared} {R : It → Hp → Prop} {a : Addr}
theorem pie_tup (I1 : Inv X pins σ H1 s1) {xs : List V} (hq : SqT X.K H1 a xs) (q : R (Itt X.K a) H1) : wpAny (model X.prog X.w) X.A (pyIter (.ref a)) (PIE X pins σ tg R) X.xe s1 := by
  obtain ⟨its, rv, p, hz⟩ := I1.tuple hq
  refine wpAny_pyIter_tuple (show s1.heap.IsTuple a its.toArray from p) ?_
  refine ⟨s1.heap.objs.size, [s1.heap.objs.size], _, _, H1, rfl, I1.kept (t' := s1.toks) fun b o e => Heap.get?_push_of_some _ e, turn_tuple a _, ⟨_, Heap.get?_push_size _ rfl, rfl, rfl⟩, fun b hb => ?_, q⟩
  have e : b = s1.heap.objs.size := by simpa using hb
  subst e
  exact I1.fpOk (Nat.le_refl _) (I1.hok.fresh (Nat.le_refl _))
theorem pie_lst (I1 : Inv X pins σ H1 s1) {xs : List V} (hq : SqL X.K H1 a xs) (q : R (Itl X.K a) H1) : wpAny (model X.prog X.w) X.A (pyIter (.ref a)) (PIE X pins σ tg R) X.xe s1 := by
  obtain ⟨its, rv, p, hz⟩ := I1.list hq
  refine wpAny_pyIter_list p.isList ?_
  refine ⟨s1.heap.objs.size, [s1.heap.objs.size], _, _, H1, rfl, I1.kept (t' := s1.toks) fun b o e => Heap.get?_push_of_some _ e, turn_list a _, ⟨_, Heap.get?_push_size _ rfl, rfl, rfl⟩, fun b hb => ?_, q⟩
  have e : b = s1.heap.objs.size := by simpa using hb
  subst e
  exact I1.fpOk (Nat.le_refl _) (I1.hok.fresh (Nat.le_refl _))
end
/-- a sequence: a tuple, a list -/
def seqI (h : Hq) : U → Option GI
  | .tup l => some (.st l)
  | .ref n => match h[n]? with
    | some (.lst l) => some (.lv n l.length)
    | some (.frl l) => some (.lv n l.length)
    | _ => none
  | _ => none
def evSeq (me : Ev) : EvI := fun us h => (me us h).bind fun u h1 => match seqI h1 u with
  | some g => .ok g h1
  | none => .bad
theorem seqI_imp {K : PySem.W.Frag} {ρ : List Addr} {h : Hq} {H : Hp} {u : U} {v : V} {g : GI} (r : Rel K cls ρ h H) (q : RU K ρ H u v) (e : seqI h u = some g) : ∃ a vs, v = .ref a ∧ ((SqT K H a vs ∧ RI K cls ρ H g (Itt K a) ∧ RI K cls ρ H (.en g) (Iet K a)) ∨ (SqL K H a vs ∧ RI K cls ρ H g (Itl K a) ∧ RI K cls ρ H (.en g) (Ite K a))) := by
  cases u with
  | tup l =>
    obtain ⟨b, vs, rfl, t, ql⟩ := q
    cases e
    exact ⟨b, vs, rfl, .inl ⟨.inl (.inl t), ri_tup r (.inl (.inl t)) ql, ri_ent r (.inl (.inl t)) ql⟩⟩
  | ref n =>
    obtain ⟨b, eb, rfl⟩ := q
    unfold seqI at e
    cases eh : h[n]? with
    | none => simp only [eh] at e; cases e
    | some o =>
      have z := r.at_ n o b eh eb
      cases o with
      | lst l =>
        obtain ⟨vs, z1, z2⟩ := z
        simp only [eh] at e; cases e
        exact ⟨b, vs, rfl, .inr ⟨SqL.of z1, ri_lst eb, ri_enl eb⟩⟩
      | frl l =>
        obtain ⟨vs, z1, _, z2⟩ := z
        simp only [eh] at e; cases e
        exact ⟨b, vs, rfl, .inr ⟨z1, ri_lst eb, ri_enl eb⟩⟩
      | _ => simp only [eh] at e; cases e
  | _ => cases e
theorem si_seq (he : SE X cls W e me) : SI X cls W tg e (evSeq me) := by
  refine ⟨fun pins s σ H R I ⟨us, h, ρ, a, p⟩ => ?_⟩
  refine thn (he.run pins s σ H _ I ⟨us, h, ρ, a, post_i (Rr := RU X.K) a p⟩) fun v s1 ⟨x, H1, I1, rx, u, h1, ρ1, s1', at1, q1, p1⟩ => ?_
  cases e1 : seqI h1 u with
  | none => simp only [e1] at p1; exact p1.elim
  | some g =>
    simp only [e1] at p1
    obtain ⟨b, vs, rfl, z⟩ := seqI_imp at1.rel q1 e1
    obtain rfl : v = Value.ref b := rx
    rcases z with ⟨t, z, _⟩ | ⟨t, z, _⟩
    · exact pie_tup I1 t (p1.ok at1.rel z)
    · exact pie_lst I1 t (p1.ok at1.rel z)
def evSgn (me : Ev) : EvI := fun us h => (me us h).bind fun u h1 => match u with
  | .str x => .ok (.st (signs x)) h1
  | _ => .bad
theorem si_str (he : SE X cls W e me) : SI X cls W tg e (evSgn me) := pi_imp (pi_str he) fun σ H R ⟨us, h, ρ, a, p⟩ => by
  refine ⟨us, h, ρ, a, Post.imp (fun x H1 q => ?_) (post_i (Rr := RU X.K) a p)⟩
  obtain ⟨u, h1, ρ1, s1, at1, q1, p1⟩ := q
  cases u with
  | str y => exact ⟨y, q1, p1.ok at1.rel ri_str⟩
  | _ => exact p1.elim
/-- of a locked dict, its keys -/
def keysI (h : Hq) : U → Option GI
  | .ref n => match h[n]? with
    | some (.fK l) => some (.st (l.map fun p => keyU p.1))
    | some (.fT l) => some (.st (l.map fun p => .tup (p.1.map keyU)))
    | _ => none
  | _ => none
def evKeys (me : Ev) : EvI := fun us h => (me us h).bind fun u h1 => match keysI h1 u with
  | some g => .ok g h1
  | none => .bad
theorem si_keys (he : SE X cls W e me) : SI X cls W tg e (evKeys me) := pi_imp (pi_keys he) fun σ H R ⟨us, h, ρ, a, p⟩ => by
  refine ⟨us, h, ρ, a, Post.imp (fun x H1 q => ?_) (post_i (Rr := RU X.K) a p)⟩
  obtain ⟨u, h1, ρ1, s1, at1, q1, p1⟩ := q
  cases e1 : keysI h1 u with
  | none => simp only [e1] at p1; exact p1.elim
  | some g =>
    simp only [e1] at p1
    cases u with
    | ref n =>
      obtain ⟨b, eb, rfl⟩ := q1
      unfold keysI at e1
      cases eh : h1[n]? with
      | none => simp only [eh] at e1; cases e1
      | some o =>
        have z := at1.rel.at_ n o b eh eb
        cases o with
        | fK l =>
          obtain ⟨o, ws, z1, z2⟩ := z
          simp only [eh] at e1; cases e1
          exact ⟨b, o, rfl, .inl ⟨ws, z1, p1.ok at1.rel (ri_keys z1 z2)⟩⟩
        | fT l =>
          obtain ⟨o, ws, z1, z2⟩ := z
          simp only [eh] at e1; cases e1
          exact ⟨b, o, rfl, .inr ⟨ws, z1, p1.ok at1.rel (ri_keysT z1 z2)⟩⟩
        | _ => simp only [eh] at e1; cases e1
    | _ => cases e1
def sm62 (j : Int) : Bool := decide (-4611686018427387904 ≤ j) && decide (j < 4611686018427387904)
theorem sm62.of {j : Int} (h : sm62 j = true) : -(2 ^ 62) ≤ j ∧ j < 2 ^ 62 := by
  unfold sm62 at h
  rw [Bool.and_eq_true] at h
  exact ⟨by have := of_decide_eq_true h.1; omega, by have := of_decide_eq_true h.2; omega⟩
def rng1 : List U → Hq → Res GI
  | [.int j], h => cond (sm62 j) (.ok (.st (rangeU 0 j.toNat)) h) .bad
  | _, _ => .bad
def rng2 : List U → Hq → Res GI
  | [.int i, .int j], h => cond (sm62 i && sm62 j) (.ok (.st (rangeU i (j - i).toNat)) h) .bad
  | _, _ => .bad
def evRng (f : List U → Hq → Res GI) (ma : Eva) : EvI := fun us h => (ma us h).bind f
theorem si_range1 (hm : X.mg "range" = none) (ha : SA X cls W [e] ma) (hg : Gl X "range" := by rfl) (hs : starEach [e] X.env = [(false, eval e X.env)] := by rfl) : SI X cls W tg (.Call (.Name "range" p) [e] [] pos) (evRng rng1 ma) := pi_imp (pi_range1 hg hm ha hs) fun σ H R ⟨us, h, ρ, a, p⟩ => by
  refine ⟨us, h, ρ, a, Post.imp (fun x H1 q => ?_) (post_i (Rr := RUl X.K) a p)⟩
  obtain ⟨l, h1, ρ1, s1, at1, q1, p1⟩ := q
  unfold rng1 at p1
  split at p1
  · rename_i j
    obtain ⟨v, r, rfl, qv, qr⟩ := q1
    obtain rfl : v = .int j := qv
    obtain rfl : r = [] := qr
    cases hj : sm62 j with
    | false => simp only [hj] at p1; exact p1.elim
    | true =>
      simp only [hj] at p1
      obtain ⟨b1, b2⟩ := sm62.of hj
      exact ⟨j, rfl, b1, b2, PostI.ok p1 at1.rel ri_rng⟩
  · exact p1.elim
theorem si_range2 (hm : X.mg "range" = none) (ha : SA X cls W [e, e2] ma) (hg : Gl X "range" := by rfl) (hs : starEach [e, e2] X.env = [(false, eval e X.env), (false, eval e2 X.env)] := by rfl) (hs2 : starEach [e2] X.env = [(false, eval e2 X.env)] := by rfl) :
    SI X cls W tg (.Call (.Name "range" p) [e, e2] [] pos) (evRng rng2 ma) := pi_imp (pi_range2 hg hm ha hs hs2) fun σ H R ⟨us, h, ρ, a, p⟩ => by
  refine ⟨us, h, ρ, a, Post.imp (fun x H1 q => ?_) (post_i (Rr := RUl X.K) a p)⟩
  obtain ⟨l, h1, ρ1, s1, at1, q1, p1⟩ := q
  unfold rng2 at p1
  split at p1
  · rename_i i j
    obtain ⟨v, r, rfl, qv, v2, r2, rfl, qv2, qr⟩ := q1
    obtain rfl : v = .int i := qv
    obtain rfl : v2 = .int j := qv2
    obtain rfl : r2 = [] := qr
    cases hj : (sm62 i && sm62 j) with
    | false => simp only [hj] at p1; exact p1.elim
    | true =>
      simp only [hj] at p1
      rw [Bool.and_eq_true] at hj
      obtain ⟨b1, b2⟩ := sm62.of hj.1
      obtain ⟨b3, b4⟩ := sm62.of hj.2
      exact ⟨i, j, rfl, ⟨b1, b2, b3, b4⟩, PostI.ok p1 at1.rel ri_rng⟩
  · exact p1.elim
def enuI : List U → Hq → Res GI
  | [.str x], h => .ok (.en (.st (signs x))) h
  | [u], h => match seqI h u with
    | some g => .ok (.en g) h
    | none => .bad
  | _, _ => .bad
theorem si_enum {elts : List Expr} {kk : Nat} {tpos : Pos} (hm : X.mg "enumerate" = none) (ha : SA X cls W [e] ma) (hg : Gl X "enumerate" := by rfl) (hs : starEach [e] X.env = [(false, eval e X.env)] := by rfl) : SI X cls W (.Tuple elts kk tpos) (.Call (.Name "enumerate" p) [e] [] pos) (evRng enuI ma) :=
  pi_imp (pi_enumA hg hm ha hs) fun σ H R ⟨us, h, ρ, a, p⟩ => by
  refine ⟨us, h, ρ, a, Post.imp (fun x H1 q => ?_) (post_i (Rr := RUl X.K) a p)⟩
  obtain ⟨l, h1, ρ1, s1, at1, q1, p1⟩ := q
  unfold enuI at p1
  split at p1
  · rename_i y
    obtain ⟨v, r, rfl, qv, qr⟩ := q1
    obtain rfl : v = .str y := qv
    obtain rfl : r = [] := qr
    exact .inr (.inr ⟨y, rfl, PostI.ok p1 at1.rel ri_ens⟩)
  · rename_i u _
    obtain ⟨v, r, rfl, qv, qr⟩ := q1
    obtain rfl : r = [] := qr
    cases e1 : seqI h1 u with
    | none => simp only [e1] at p1; exact p1.elim
    | some g =>
      simp only [e1] at p1
      obtain ⟨b, vs, rfl, z⟩ := seqI_imp at1.rel qv e1
      rcases z with ⟨t, _, z⟩ | ⟨t, _, z⟩
      · exact .inr (.inl ⟨b, vs, rfl, t, PostI.ok p1 at1.rel z⟩)
      · exact .inl ⟨b, vs, rfl, t, PostI.ok p1 at1.rel z⟩
  · exact p1.elim
end
/-! ### for, while -/
section
variable {X : Cx} {cls : Nat → Addr} {W : WX} {pos : Pos} {tg e : Expr} {mi : EvI} {g : GM} {mb : SM} {tc : Evt} {body : List Stmt}
def loopFor (gi : GI) (g : GM) (mb : SM) : Nat → Nat → SM
  | 0, _, _, _ => .bad
  | f + 1, i, us, h => match gi.at_ i h with
    | none => .bad
    | some none => .nx us h
    | some (some u) => match (g u us h).only with
      | .nx us1 h1 => match mb us1 h1 with
        | .nx us2 h2 => loopFor gi g mb f (i + 1) us2 h2
        | .ct us2 h2 => loopFor gi g mb f (i + 1) us2 h2
        | .bk us2 h2 => .nx us2 h2
        | r => r
      | _ => .bad
def mFor (mi : EvI) (g : GM) (mb : SM) : SM := fun us h => (mi us h).toS us fun gi h1 => loopFor gi g mb (gi.size + 1) 0 us h1
theorem ss_for (hp : PassesOwn (model X.prog X.w) X.A X.env X.xe) (hc : X.calm = true) (hi : SI X cls W tg e mi) (hg : SG X cls tg g) (hb : SSs X cls W body mb) (hs : ∀ x, foldedSetIterable e X.env x = pure x := by intro _; rfl) : SS X cls W (.For tg e body [] pos) (mFor mi g mb) :=
  ps_imp (ps_for hp hc hi hg hb hs) fun D σ H ⟨us, h, ρ, a, p⟩ => by
  refine ⟨us, h, ρ, a, ?_⟩
  unfold mFor at p
  cases em : mi us h with
  | exc x h1 => rw [em] at p; exact fun c d H1 ρ1 s r q => p c d σ H1 ρ1 s r (a.sl.mono a.rel s) q
  | bad => rw [em] at p; exact p
  | ok gi h1 =>
    rw [em] at p
    intro J H1 ρ1 s1 r1 ri
    have p1 : PostS X.K cls W ρ1 H1 D (loopFor gi g mb (gi.size + 1) 0 us h1) := PostS.step s1 p
    have a1 := a.step s1 r1
    refine ⟨fun i m σ H => ∃ us h ρ, Step ρ1 H1 ρ H ∧ At X.K cls ρ us h σ H ∧ PostS X.K cls W ρ H D (loopFor gi g mb m i us h), ⟨_, us, h1, ρ1, Step.refl, a1, p1⟩, ?_⟩
    rintro i m σ2 H2 ⟨us2, h2, ρ2, s2, a2, p2⟩
    cases m with
    | zero => exact p2.elim
    | succ m =>
      have z := ri i ρ2 h2 H2 s2 a2.rel
      unfold loopFor at p2
      cases ea : gi.at_ i h2 with
      | none => rw [ea] at p2; exact p2.elim
      | some r =>
        cases r with
        | none => rw [ea] at p2; exact .inl ⟨z.1 ea, p2.nx a2⟩
        | some u =>
          rw [ea] at p2
          obtain ⟨go, y⟩ := z.2 u ea
          refine .inr ⟨go, fun σ' H' => ∃ us h ρ, Step ρ1 H1 ρ H' ∧ At X.K cls ρ us h σ' H' ∧ PostS X.K cls W ρ H' D (loopFor gi g mb m (i + 1) us h), fun σ' H' w => ⟨m, Nat.lt_succ_self m, w⟩, fun x H3 hy => ?_⟩
          obtain ⟨s3, r3, qx⟩ := y x H3 hy
          have a3 := a2.step s3 r3
          refine ⟨us2, h2, ρ2, u, a3, qx, ?_⟩
          cases eg : g u us2 h2 with
          | nx us4 h4 =>
            simp only [eg, SRes.only] at p2
            intro σ4 H4 ρ4 s4 r4 q4
            have a4 : At X.K cls ρ4 us4 h4 σ4 H4 := ⟨r4, q4⟩
            refine ⟨us4, h4, ρ4, a4, ?_⟩
            have sx := s2.trans (s3.trans s4)
            cases eb : mb us4 h4 with
            | nx us5 h5 =>
              simp only [eb] at p2
              exact fun σ5 H5 ρ5 s5 r5 q5 => ⟨us5, h5, ρ5, sx.trans s5, ⟨r5, q5⟩, PostS.step (s3.trans (s4.trans s5)) p2⟩
            | ct us5 h5 =>
              simp only [eb] at p2
              exact fun σ5 H5 ρ5 s5 r5 q5 => ⟨us5, h5, ρ5, sx.trans s5, ⟨r5, q5⟩, PostS.step (s3.trans (s4.trans s5)) p2⟩
            | bk us5 h5 =>
              simp only [eb] at p2
              exact fun σ5 H5 ρ5 s5 r5 q5 => p2 σ5 H5 ρ5 (s3.trans (s4.trans s5)) r5 q5
            | rt w h5 =>
              simp only [eb] at p2
              exact fun v H5 ρ5 s5 r5 q5 => p2 v H5 ρ5 (s3.trans (s4.trans s5)) r5 q5
            | exc w us5 h5 =>
              simp only [eb] at p2
              exact fun c d σ5 H5 ρ5 s5 r5 q5 => p2 c d σ5 H5 ρ5 (s3.trans (s4.trans s5)) r5 q5
            | bad => simp only [eb] at p2; exact p2
          | _ => simp only [eg, SRes.only] at p2; exact p2.elim
def loopWhile (c : Evt) (mb : SM) : Nat → SM
  | 0, _, _ => .bad
  | f + 1, us, h => match c us h with
    | .ok k h1 => cond k (match mb us h1 with
      | .nx us2 h2 => loopWhile c mb f us2 h2
      | .ct us2 h2 => loopWhile c mb f us2 h2
      | .bk us2 h2 => .nx us2 h2
      | r => r) (.nx us h1)
    | .exc x h1 => .exc x us h1
    | .bad => .bad
theorem ss_while (fuel : Nat) {c : Expr} (hp : PassesOwn (model X.prog X.w) X.A X.env X.xe) (hc : ST X cls W c tc) (hb : SSs X cls W body mb) : SS X cls W (.While c body [] pos) (loopWhile tc mb fuel) :=
  ps_imp (ps_while hp hc hb) fun D σ H ⟨us, h, ρ, a, p⟩ => by
  refine ⟨fun m σ H => ∃ us h ρ, At X.K cls ρ us h σ H ∧ PostS X.K cls W ρ H D (loopWhile tc mb m us h), ⟨fuel, us, h, ρ, a, p⟩, ?_⟩
  rintro m σ2 H2 ⟨us2, h2, ρ2, a2, p2⟩
  cases m with
  | zero => exact p2.elim
  | succ m =>
    unfold loopWhile at p2
    refine ⟨us2, h2, ρ2, a2, ?_⟩
    cases ec : tc us2 h2 with
    | bad => rw [ec] at p2; exact p2
    | exc x h3 => rw [ec] at p2; exact fun c d H3 ρ3 s r q => p2 c d σ2 H3 ρ3 s r (a2.sl.mono a2.rel s) q
    | ok k h3 =>
      rw [ec] at p2
      intro b H3 ρ3 s3 r3 qb
      have qb : k = b := qb
      subst qb
      have a3 := a2.step s3 r3
      cases k with
      | false =>
        rw [if_neg Bool.false_ne_true]
        exact p2 σ2 H3 ρ3 s3 r3 a3.sl
      | true =>
        rw [if_pos rfl]
        refine ⟨fun σ' H' => ∃ us h ρ, At X.K cls ρ us h σ' H' ∧ PostS X.K cls W ρ H' D (loopWhile tc mb m us h), fun σ' H' w => ⟨m, Nat.lt_succ_self m, w⟩, us2, h3, ρ3, a3, ?_⟩
        cases eb : mb us2 h3 with
        | nx us5 h5 =>
          simp only [eb, cond_true] at p2
          exact fun σ5 H5 ρ5 s5 r5 q5 => ⟨us5, h5, ρ5, ⟨r5, q5⟩, PostS.step (s3.trans s5) p2⟩
        | ct us5 h5 =>
          simp only [eb, cond_true] at p2
          exact fun σ5 H5 ρ5 s5 r5 q5 => ⟨us5, h5, ρ5, ⟨r5, q5⟩, PostS.step (s3.trans s5) p2⟩
        | bk us5 h5 =>
          simp only [eb, cond_true] at p2
          exact fun σ5 H5 ρ5 s5 r5 q5 => p2 σ5 H5 ρ5 (s3.trans s5) r5 q5
        | rt w h5 =>
          simp only [eb, cond_true] at p2
          exact fun v H5 ρ5 s5 r5 q5 => p2 v H5 ρ5 (s3.trans s5) r5 q5
        | exc w us5 h5 =>
          simp only [eb, cond_true] at p2
          exact fun c d σ5 H5 ρ5 s5 r5 q5 => p2 c d σ5 H5 ρ5 (s3.trans s5) r5 q5
        | bad => simp only [eb, cond_true] at p2; exact p2
end
end GG
/-! GComp -/
namespace GG
open PySem PySem.Spec PyProof.Rows L2
/-! ### slots forgotten, targets of a comprehension -/
theorem wipe_get {σ : L2.St} {i : Nat} : ∀ {vs : List Nat}, (wipe σ vs)[i]? = if i ∈ vs then (σ[i]?).map (fun _ => none) else σ[i]?
  | [] => by simp [wipe]
  | v :: vs => by
    have ih := wipe_get (σ := σ) (i := i) (vs := vs)
    unfold wipe
    by_cases h : v = i
    · subst h
      rw [List.getElem?_set_self', ih, if_pos List.mem_cons_self]
      by_cases hm : v ∈ vs
      · rw [if_pos hm]; cases σ[v]? <;> rfl
      · rw [if_neg hm]; cases σ[v]? <;> rfl
    · rw [List.getElem?_set_ne h, ih]
      by_cases hm : i ∈ vs
      · rw [if_pos hm, if_pos (List.mem_cons_of_mem _ hm)]
      · rw [if_neg hm, if_neg (by simp [hm, Ne.symm h])]
theorem wipe_set {σ : L2.St} {i : Nat} {x : Option V} {vs : List Nat} (h : i ∈ vs) : wipe (σ.set i x) vs = wipe σ vs := by
  apply List.ext_getElem?
  intro j
  rw [wipe_get, wipe_get]
  by_cases hj : j ∈ vs
  · rw [if_pos hj, if_pos hj]
    by_cases e : i = j
    · subst e
      rw [List.getElem?_set_self']; cases σ[i]? <;> rfl
    · rw [List.getElem?_set_ne e]
  · rw [if_neg hj, if_neg hj, List.getElem?_set_ne (fun e => hj (by rw [← e]; exact h))]
theorem wipe_wipe {σ τ : L2.St} {vs ws : List Nat} (h : wipe σ ws = wipe τ ws) (s : ∀ i ∈ ws, i ∈ vs) : wipe σ vs = wipe τ vs := by
  apply List.ext_getElem?
  intro j
  have hj := congrArg (fun l => l[j]?) h
  simp only [wipe_get] at hj ⊢
  by_cases hm : j ∈ ws
  · rw [if_pos (s j hm), if_pos (s j hm)]
    rw [if_pos hm, if_pos hm] at hj
    cases e1 : σ[j]? <;> cases e2 : τ[j]? <;> simp_all
  · rw [if_neg hm, if_neg hm] at hj
    by_cases hv : j ∈ vs
    · rw [if_pos hv, if_pos hv, hj]
    · rw [if_neg hv, if_neg hv, hj]
theorem wipe_idem {σ : L2.St} {vs : List Nat} : wipe (wipe σ vs) vs = wipe σ vs := by
  apply List.ext_getElem?
  intro j
  rw [wipe_get, wipe_get]
  by_cases hv : j ∈ vs
  · rw [if_pos hv, if_pos hv]; cases σ[j]? <;> rfl
  · rw [if_neg hv, if_neg hv]
def wipeU (us : Sl) : List Nat → Sl
  | [] => us
  | v :: vs => (wipeU us vs).set v none
theorem RS.wipe {K : PySem.W.Frag} {ρ : List Addr} {H : Hp} {us : Sl} {σ : L2.St} (q : RS K ρ H us σ) : ∀ {vs : List Nat}, RS K ρ H (wipeU us vs) (L2.wipe σ vs)
  | [] => q
  | v :: vs => by
    have ih := RS.wipe q (vs := vs)
    unfold wipeU L2.wipe
    refine ⟨by rw [List.length_set, List.length_set]; exact ih.1, fun i u e => ?_⟩
    by_cases h : v = i
    · subst h
      rw [List.getElem?_set_self'] at e
      cases hz : (wipeU us vs)[v]? <;> rw [hz] at e <;> cases e
    · rw [List.getElem?_set_ne h] at e
      obtain ⟨x, e1, e2⟩ := ih.2 i u e
      exact ⟨x, by rw [List.getElem?_set_ne h]; exact e1, e2⟩
/-- a target of a comprehension: stores in slots of its own -/
abbrev CM := U → Sl → Option Sl
abbrev CMs := List U → Sl → Option Sl
def CG (K : PySem.W.Frag) (vs : List Nat) (g : TG) (gm : CM) : Prop := ∀ (us us' : Sl) (ρ : List Addr) (σ : L2.St) (H : Hp) (u : U) (x : V) (Q : L2.St → Hp → Prop), RS K ρ H us σ → RU K ρ H u x → gm u us = some us' →
  (∀ σ', RS K ρ H us' σ' → wipe σ' vs = wipe σ vs → Q σ' H) → g x σ H Q
def CGs (K : PySem.W.Frag) (vs : List Nat) (g : TGs) (gm : CMs) : Prop := ∀ (us us' : Sl) (ρ : List Addr) (σ : L2.St) (H : Hp) (u : List U) (x : List V) (Q : L2.St → Hp → Prop), RS K ρ H us σ → RUl K ρ H u x → gm u us = some us' →
  (∀ σ', RS K ρ H us' σ' → wipe σ' vs = wipe σ vs → Q σ' H) → g x σ H Q
def cmName (i : Nat) : CM := fun u us => cond (Nat.blt i us.length) (some (us.set i (some u))) none
def cmNil : CMs
  | [], us => some us
  | _ :: _, _ => none
def cmCons (g : CM) (gs : CMs) : CMs
  | u :: l, us => (g u us).bind (gs l)
  | [], _ => none
def cmTup (n : Nat) (gs : CMs) : CM := fun u us => match u with
  | .tup l => cond (Nat.beq l.length n) (gs l us) none
  | _ => none
theorem cg_name {K : PySem.W.Frag} {vs : List Nat} {i : Nat} (hi : i ∈ vs) : CG K vs (gName i) (cmName i) := fun us us' ρ σ H u x Q rs ru e hQ => by
  unfold cmName at e
  cases hl : Nat.blt i us.length with
  | true =>
    rw [hl] at e; cases e
    exact hQ _ (rs.set ru) (wipe_set hi)
  | false => rw [hl] at e; cases e
theorem cgs_nil {K : PySem.W.Frag} {vs : List Nat} : CGs K vs gNil cmNil := fun us us' ρ σ H u x Q rs ru e hQ => by
  cases u with
  | nil => cases e; exact ⟨ru, hQ _ rs rfl⟩
  | cons _ _ => cases e
theorem cgs_cons {K : PySem.W.Frag} {vs : List Nat} {g : TG} {gm : CM} {gs : TGs} {gms : CMs} (h1 : CG K vs g gm) (h2 : CGs K vs gs gms) : CGs K vs (gCons g gs) (cmCons gm gms) := fun us us' ρ σ H u x Q rs ru e hQ => by
  cases u with
  | nil => cases e
  | cons w l =>
    obtain ⟨v, t, rfl, q1, q2⟩ := ru
    have e : (gm w us).bind (gms l) = some us' := e
    cases e1 : gm w us with
    | none => rw [e1] at e; cases e
    | some us1 =>
      rw [e1] at e
      exact ⟨v, t, rfl, h1 us us1 ρ σ H w v _ rs q1 e1 fun σ' rs' hw => h2 us1 us' ρ σ' H l t Q rs' q2 e fun σ2 rs2 hw2 => hQ σ2 rs2 (hw2.trans hw)⟩
theorem cg_tup {K : PySem.W.Frag} {vs : List Nat} {gs : TGs} {gms : CMs} {n : Nat} (h : CGs K vs gs gms) : CG K vs (gTup K n gs) (cmTup n gms) := fun us us' ρ σ H u x Q rs ru e hQ => by
  cases u with
  | tup l =>
    obtain ⟨b, ws, rfl, ht, hl⟩ := ru
    have e : cond (Nat.beq l.length n) (gms l us) none = some us' := e
    cases hn : Nat.beq l.length n with
    | false => rw [hn] at e; cases e
    | true =>
      rw [hn] at e
      exact ⟨b, ws, rfl, .inl (.inl ht), by rw [hl.length]; exact Nat.eq_of_beq_eq_true hn, h us us' ρ σ H l ws Q rs hl e hQ⟩
  | _ => cases e
/-! ### the loop of one clause -/
def etYes : Evt := fun _ h => .ok true h
abbrev MU := Sl → Hq → Res Unit
def loopC (gi : GI) (gm : CM) (t : Evt) (bd : MU) (us0 : Sl) : Nat → Nat → Hq → Res Unit
  | 0, _, _ => .bad
  | f + 1, i, h => match gi.at_ i h with
    | none => .bad
    | some none => .ok () h
    | some (some u) => match gm u us0 with
      | none => .bad
      | some us1 => match t us1 h with
        | .ok k h2 => match cond k (bd us1 h2) (.ok () h2) with
          | .ok _ h3 => loopC gi gm t bd us0 f (i + 1) h3
          | _ => .bad
        | _ => .bad
def PostU (K : PySem.W.Frag) (cls : Nat → Addr) (ρ : List Addr) (H : Hp) (Q : Hp → Prop) : Res Unit → Prop
  | .ok _ h => ∀ H' ρ', Step ρ H ρ' H' → Rel K cls ρ' h H' → Q H'
  | _ => False
theorem PostU.step {K : PySem.W.Frag} {cls : Nat → Addr} {ρ ρ' : List Addr} {H H' : Hp} {Q : Hp → Prop} (s : Step ρ H ρ' H') : ∀ {r : Res Unit}, PostU K cls ρ H Q r → PostU K cls ρ' H' Q r
  | .ok _ _, p => fun H2 ρ2 t => p H2 ρ2 (s.trans t)
  | .exc _ _, p => p
  | .bad, p => p
abbrev W0 : WX := fun _ _ _ _ => False
/-- the tests of a clause -/
abbrev SIfs (X : Cx) (cls : Nat → Addr) (ifs : List Expr) (t : Evt) : Prop := PTs X ifs (tT X.K cls W0 t)
theorem sifs_nil {X : Cx} {cls : Nat → Addr} : SIfs X cls [] etYes := ⟨fun pins s σ H Q I hw => pts_nil.run pins s σ H Q I (by
  obtain ⟨us, h, ρ, a, p⟩ := hw
  exact p.ok (v := true) a.rel rfl)⟩
theorem sifs_one {X : Cx} {cls : Nat → Addr} {c : Expr} {t : Evt} (h : ST X cls W0 c t) : SIfs X cls [c] t := pts_one h
/-- HandS's loop of one clause, in one word -/
abbrev CLoop (J : It) (g : TG) (tt : TT) (B : L2.St → Hp → (Hp → Prop) → Prop) (vs : List Nat) (σ : L2.St) (Hs : Hp) (Qd : Hp → Prop) : Prop := ∃ W : Nat → Nat → Hp → Prop, (∃ m, W 0 m Hs) ∧ ∀ i m H, W i m H →
  (J.stop i H ∧ Qd H) ∨ (J.go i H ∧ ∃ Nx : Hp → Prop, (∀ H', Nx H' → ∃ m', m' < m ∧ W (i + 1) m' H') ∧ ∀ x H', J.yld i H x H' → g x (wipe σ vs) H' fun σ2 H2 => wipe σ2 vs = wipe σ vs ∧ tt σ2 H2 fun b H3 =>
    if b = true then B σ2 H3 Nx else Nx H3)
theorem cloop {K : PySem.W.Frag} {cls : Nat → Addr} {ρ : List Addr} {us : Sl} {h : Hq} {J : It} {gi : GI} {g : TG} {gm : CM} {t : Evt} {bd : MU} {B : L2.St → Hp → (Hp → Prop) → Prop} {vs : List Nat} {σ : L2.St} {H : Hp} {Qd : Hp → Prop}
    (ri : RI K cls ρ H gi J) (hg : CG K vs g gm)
    (hB : ∀ us1 σ1 h1 ρ1 H1 Nx, Step ρ H ρ1 H1 → At K cls ρ1 us1 h1 σ1 H1 → PostU K cls ρ1 H1 Nx (bd us1 h1) → B σ1 H1 Nx)
    (at_ : At K cls ρ us h σ H) {f : Nat} (p : PostU K cls ρ H Qd (loopC gi gm t bd (wipeU us vs) f 0 h)) : CLoop J g (tT K cls W0 t) B vs σ H Qd := by
  refine ⟨fun i m H' => ∃ h' ρ', Step ρ H ρ' H' ∧ Rel K cls ρ' h' H' ∧ PostU K cls ρ' H' Qd (loopC gi gm t bd (wipeU us vs) m i h'), ⟨f, h, ρ, Step.refl, at_.rel, p⟩, ?_⟩
  rintro i m H2 ⟨h2, ρ2, s2, r2, p2⟩
  cases m with
  | zero => exact p2.elim
  | succ m =>
    have z := ri i ρ2 h2 H2 s2 r2
    unfold loopC at p2
    cases ea : gi.at_ i h2 with
    | none => rw [ea] at p2; exact p2.elim
    | some r =>
      cases r with
      | none => rw [ea] at p2; exact .inl ⟨z.1 ea, p2 H2 ρ2 Step.refl r2⟩
      | some u =>
        rw [ea] at p2
        obtain ⟨go, y⟩ := z.2 u ea
        refine .inr ⟨go, fun H' => ∃ h' ρ', Step ρ H ρ' H' ∧ Rel K cls ρ' h' H' ∧ PostU K cls ρ' H' Qd (loopC gi gm t bd (wipeU us vs) m (i + 1) h'), fun H' w => ⟨m, Nat.lt_succ_self m, w⟩, fun x H3 hy => ?_⟩
        obtain ⟨s3, r3, qx⟩ := y x H3 hy
        cases eg : gm u (wipeU us vs) with
        | none => simp only [eg] at p2; exact p2.elim
        | some us1 =>
          simp only [eg] at p2
          refine hg _ us1 ρ2 _ H3 u x _ (RS.wipe (at_.sl.mono at_.rel (s2.trans s3))) qx eg fun σ4 rs4 hw => ⟨by rw [hw, wipe_idem], us1, h2, ρ2, ⟨r3, rs4⟩, ?_⟩
          cases et : t us1 h2 with
          | bad => simp only [et] at p2; exact p2.elim
          | exc _ _ => simp only [et] at p2; exact p2.elim
          | ok k h5 =>
            simp only [et] at p2
            intro b H5 ρ5 s5 r5 qb
            have qb : k = b := qb
            subst qb
            have sx := s2.trans (s3.trans s5)
            have at5 : At K cls ρ5 us1 h5 σ4 H5 := ⟨r5, rs4.mono r3 s5⟩
            cases k with
            | false =>
              rw [if_neg Bool.false_ne_true]
              exact ⟨h5, ρ5, sx, r5, PostU.step (s3.trans s5) p2⟩
            | true =>
              rw [if_pos rfl]
              refine hB us1 σ4 h5 ρ5 H5 _ sx at5 ?_
              simp only [cond_true] at p2
              cases eb : bd us1 h5 with
              | bad => simp only [eb] at p2; exact p2.elim
              | exc _ _ => simp only [eb] at p2; exact p2.elim
              | ok _ h6 =>
                simp only [eb] at p2
                exact fun H6 ρ6 s6 r6 => ⟨h6, ρ6, sx.trans s6, r6, PostU.step (s3.trans (s5.trans s6)) p2⟩
/-! ### list comprehensions -/
section
variable {X : Cx} {cls : Nat → Addr} {W : WX}
/-- the list at n grows -/
def appAt (n : Nat) (y : U) (h : Hq) : Res Unit := match h[n]? with
  | some (.lst acc) => cond (Nat.blt acc.length 16777216) (.ok () (h.set n (.lst (acc ++ [y])))) .bad
  | _ => .bad
def bdApp (me : Ev) (n : Nat) : MU := fun us h => (me us h).bind fun y h1 => appAt n y h1
theorem RUl.snoc {K : PySem.W.Frag} {ρ : List Addr} {H : Hp} {l : List U} {vs : List V} {u : U} {v : V} (q : RUl K ρ H l vs) (r : RU K ρ H u v) : RUl K ρ H (l ++ [u]) (vs ++ [v]) := RUl.append q ⟨v, [], rfl, r, rfl⟩
theorem bdApp_ok {K : PySem.W.Frag} {me : Ev} {n : Nat} {D : Addr} {us1 : Sl} {σ1 : L2.St} {h1 : Hq} {ρ1 : List Addr} {H1 : Hp} {Nx : Hp → Prop} (a : At K cls ρ1 us1 h1 σ1 H1) (hD : ρ1[n]? = some D) (p : PostU K cls ρ1 H1 Nx (bdApp me n us1 h1)) :
    tE K cls W0 me σ1 H1 fun y H4 => ∃ acc, H4 D = some (.lst acc) ∧ acc.length < sizeLine ∧ Nx (upd H4 D (.lst (acc ++ [y]))) := by
  refine ⟨us1, h1, ρ1, a, ?_⟩
  unfold bdApp at p
  cases em : me us1 h1 with
  | bad => rw [em] at p; exact p.elim
  | exc _ _ => rw [em] at p; exact p.elim
  | ok u h2 =>
    rw [em] at p
    intro v H2 ρ2 s2 r2 q2
    have p2 : PostU K cls ρ2 H2 Nx (appAt n u h2) := PostU.step s2 p
    unfold appAt at p2
    have hD2 := s2.get hD
    cases eh : h2[n]? with
    | none => simp only [eh] at p2; exact p2.elim
    | some o =>
      have z := r2.at_ n o D eh hD2
      cases o with
      | lst acc =>
        obtain ⟨vs, z1, z2⟩ := z
        simp only [eh] at p2
        cases hb : Nat.blt acc.length 16777216 with
        | false => rw [hb] at p2; exact p2.elim
        | true =>
          rw [hb] at p2
          refine ⟨vs, z1, by rw [z2.length]; exact Nat.le_of_ble_eq_true hb, ?_⟩
          obtain ⟨r3, s3⟩ := r2.put (o := .lst (vs ++ [v])) (u := .lst (acc ++ [u])) hD2 (fun ob w e => by rw [z1] at e; cases e) fun st => ⟨_, upd_same, RUl.snoc (RUl.mono r2 st z2) (RU.mono r2 st q2)⟩
          exact p2 _ ρ2 s3 r3
      | _ => simp only [eh] at p2; exact p2.elim
/-- the new list laid -/
theorem newList {K : PySem.W.Frag} {ρ : List Addr} {h : Hq} {H : Hp} {D : Addr} (r : Rel K cls ρ h H) (hD : H D = none) : Rel K cls (ρ ++ [D]) (h ++ [HU.lst []]) (upd H D (.lst [])) ∧ Step ρ H (ρ ++ [D]) (upd H D (.lst [])) ∧ (ρ ++ [D])[h.length]? = some D := by
  obtain ⟨r2, s2⟩ := r.push (o := .lst []) (u := .lst []) hD ⟨[], upd_same, rfl⟩
  exact ⟨r2, s2, by rw [← r.len]; exact get_last _ _⟩
theorem newDict {K : PySem.W.Frag} {ρ : List Addr} {h : Hq} {H : Hp} {D : Addr} (r : Rel K cls ρ h H) (hD : H D = none) : Rel K cls (ρ ++ [D]) (h ++ [HU.dK []]) (upd H D (.dK [])) ∧ Step ρ H (ρ ++ [D]) (upd H D (.dK [])) ∧ (ρ ++ [D])[h.length]? = some D := by
  obtain ⟨r2, s2⟩ := r.push (o := .dK []) (u := .dK []) hD ⟨[], upd_same, rfl⟩
  exact ⟨r2, s2, by rw [← r.len]; exact get_last _ _⟩
def finR (n : Nat) : Res Unit → Res U
  | .ok _ h => .ok (.ref n) h
  | _ => .bad
def evLc (mi : EvI) (gm : CM) (t : Evt) (me : Ev) (vs : List Nat) : Ev := fun us h => (mi us h).bind fun gi h1 => finR h1.length (loopC gi gm t (bdApp me h1.length) (wipeU us vs) (gi.size + 1) 0 (h1 ++ [HU.lst []]))
/-- second clause -/
def bdIn (mi : EvI) (gm : CM) (t : Evt) (bd : MU) (vs1 : List Nat) : MU := fun us h => (mi us h).bind fun gi h1 => loopC gi gm t bd (wipeU us vs1) (gi.size + 1) 0 h1
def evLc2 (mi : EvI) (gm : CM) (t : Evt) (mi1 : EvI) (gm1 : CM) (t1 : Evt) (me : Ev) (vs vs1 : List Nat) : Ev := fun us h => (mi us h).bind fun gi h1 => finR h1.length (loopC gi gm t (bdIn mi1 gm1 t1 (bdApp me h1.length) vs1) (wipeU us vs) (gi.size + 1) 0 (h1 ++ [HU.lst []]))
theorem RI.step {K : PySem.W.Frag} {ρ ρ' : List Addr} {H H' : Hp} {g : GI} {J : It} (s : Step ρ H ρ' H') (r : RI K cls ρ H g J) : RI K cls ρ' H' g J := fun i ρ2 h2 H2 s2 => r i ρ2 h2 H2 (s.trans s2)
/-- the outer part, common to all -/
theorem comp_core {K : PySem.W.Frag} {mi : EvI} {o0 : HU} {ob0 : HO} {lp : GI → Nat → Sl → Hq → Res Unit} {σ : L2.St} {H : Hp} {Q : VK} {us : Sl} {h : Hq} {ρ : List Addr} (a : At K cls ρ us h σ H)
    (p : Post K cls W (RU K) ρ σ H Q ((mi us h).bind fun gi h1 => finR h1.length (lp gi h1.length us (h1 ++ [o0]))))
    (hnew : ∀ {ρ h H D}, Rel K cls ρ h H → H D = none → Rel K cls (ρ ++ [D]) (h ++ [o0]) (upd H D ob0) ∧ Step ρ H (ρ ++ [D]) (upd H D ob0) ∧ (ρ ++ [D])[h.length]? = some D)
    {C : It → Hp → Addr → Prop}
    (hc : ∀ J gi n D ρ h H, RI K cls ρ H gi J → At K cls ρ us h σ H → ρ[n]? = some D → PostU K cls ρ H (fun H' => Q (.ref D) H') (lp gi n us h) → C J H D) :
    PostI K cls W ρ σ H (fun J H1 => ∀ D, H1 D = none → C J (upd H1 D ob0) D) (mi us h) := by
  cases em : mi us h with
  | bad => rw [em] at p; exact p
  | exc x h1 => rw [em] at p; exact p
  | ok gi h1 =>
    rw [em] at p
    intro J H1 ρ1 s1 r1 ri D hD
    obtain ⟨r2, s2, hn⟩ := hnew r1 hD
    have a2 : At K cls (ρ1 ++ [D]) us (h1 ++ [o0]) σ (upd H1 D ob0) := a.step (s1.trans s2) r2
    refine hc J gi h1.length D _ _ _ (RI.step s2 ri) a2 hn ?_
    have p2 : Post K cls W (RU K) (ρ1 ++ [D]) σ (upd H1 D ob0) Q (finR h1.length (lp gi h1.length us (h1 ++ [o0]))) := Post.step (s1.trans s2) p
    cases el : lp gi h1.length us (h1 ++ [o0]) with
    | bad => rw [el] at p2; exact p2.elim
    | exc x h3 => rw [el] at p2; exact p2.elim
    | ok _ h3 =>
      rw [el] at p2
      exact fun H3 ρ3 s3 r3 => p2 (.ref D) H3 ρ3 s3 r3 ⟨D, s3.get hn, rfl⟩
/-- [e for target in iter if ..] -/
theorem lc_imp {mi : EvI} {gm : CM} {t : Evt} {me : Ev} {g : TG} {vs : List Nat} {K : PySem.W.Frag} (hg : CG K vs g gm) (σ : L2.St) (H : Hp) (Q : VK) (hw : tE K cls W (evLc mi gm t me vs) σ H Q) : tLc (tItr K cls W mi) g (tT K cls W0 t) (tE K cls W0 me) vs σ H Q := by
  obtain ⟨us, h, ρ, a, p⟩ := hw
  refine ⟨us, h, ρ, a, comp_core (o0 := .lst []) (lp := fun gi n us h => loopC gi gm t (bdApp me n) (wipeU us vs) (gi.size + 1) 0 h) a p newList (C := fun J Hs D => CLoop J g (tT K cls W0 t) (fun σ2 H3 Nx => tE K cls W0 me σ2 H3 fun y H4 => ∃ acc, H4 D = some (.lst acc) ∧ acc.length < sizeLine ∧ Nx (upd H4 D (.lst (acc ++ [y])))) vs σ Hs (fun H' => Q (.ref D) H')) fun J gi n D ρ h H ri at_ hn p => ?_⟩
  exact cloop (bd := bdApp me n) (ri := ri) hg (hB := fun us1 σ1 h1 ρ1 H1 Nx s1 a1 p1 => bdApp_ok a1 (s1.get hn) p1) at_ p
theorem PostU.ofI {K : PySem.W.Frag} {ρ : List Addr} {H : Hp} {σ : L2.St} {us : Sl} {h : Hq} {Nx : Hp → Prop} {r : Res GI} {k : GI → Hq → Res Unit} (a : At K cls ρ us h σ H) (p : PostU K cls ρ H Nx (r.bind k)) {R : It → Hp → Prop}
    (hR : ∀ J H1 ρ1 gi h1, Step ρ H ρ1 H1 → At K cls ρ1 us h1 σ H1 → RI K cls ρ1 H1 gi J → PostU K cls ρ1 H1 Nx (k gi h1) → R J H1) : PostI K cls W0 ρ σ H R r := by
  cases r with
  | bad => exact p.elim
  | exc _ _ => exact p.elim
  | ok gi h1 => exact fun J H1 ρ1 s1 r1 ri => hR J H1 ρ1 gi h1 s1 (a.step s1 r1) ri (PostU.step (r := k gi h1) s1 p)
theorem lc2_imp {mi mi1 : EvI} {gm gm1 : CM} {t t1 : Evt} {me : Ev} {g g1 : TG} {vs vs1 : List Nat} {K : PySem.W.Frag} (hg : CG K vs g gm) (hg1 : CG K vs1 g1 gm1) (σ : L2.St) (H : Hp) (Q : VK) (hw : tE K cls W (evLc2 mi gm t mi1 gm1 t1 me vs vs1) σ H Q) :
    tLc2 (tItr K cls W mi) g (tT K cls W0 t) (tItr K cls W0 mi1) g1 (tT K cls W0 t1) (tE K cls W0 me) vs vs1 σ H Q := by
  obtain ⟨us, h, ρ, a, p⟩ := hw
  refine ⟨us, h, ρ, a, comp_core (o0 := .lst []) (lp := fun gi n us h => loopC gi gm t (bdIn mi1 gm1 t1 (bdApp me n) vs1) (wipeU us vs) (gi.size + 1) 0 h) a p newList (C := fun J Hs D => CLoop J g (tT K cls W0 t) (fun σ2 H3 Nx => tItr K cls W0 mi1 σ2 H3 fun J1 H4 => CLoop J1 g1 (tT K cls W0 t1) (fun σ3 H6 Nx1 => tE K cls W0 me σ3 H6 fun y H4 => ∃ acc, H4 D = some (.lst acc) ∧ acc.length < sizeLine ∧ Nx1 (upd H4 D (.lst (acc ++ [y])))) vs1 σ2 H4 Nx) vs σ Hs (fun H' => Q (.ref D) H')) fun J gi n D ρ h H ri at_ hn p => ?_⟩
  refine cloop (bd := bdIn mi1 gm1 t1 (bdApp me n) vs1) (ri := ri) hg (hB := fun us1 σ1 h1 ρ1 H1 Nx s1 a1 p1 => ?_) at_ p
  refine ⟨us1, h1, ρ1, a1, PostU.ofI a1 p1 fun J1 H2 ρ2 gi1 h2 s2 a2 ri1 p2 => ?_⟩
  exact cloop (bd := bdApp me n) (ri := ri1) hg1 (hB := fun us3 σ3 h3 ρ3 H3 Nx s3 a3 p3 => bdApp_ok a3 ((s1.trans (s2.trans s3)).get hn) p3) a2 p2
/-- {k: v for target in iter if ..} -/
def keyOf : U → Option Key
  | .int i => some (.inl i)
  | .str x => some (.inr x)
  | _ => none
theorem keyOf_ru {K : PySem.W.Frag} {ρ : List Addr} {H : Hp} {u : U} {v : V} {k : Key} (q : RU K ρ H u v) (e : keyOf u = some k) : v = kV k := by
  cases u <;> cases e <;> exact q
def keyEq : Key → Key → Bool
  | .inl i, .inl j => decide (i = j)
  | .inr x, .inr y => x.cps.toList == y.cps.toList
  | _, _ => false
theorem strL_inj {x y : Str} (h : x.cps.toList = y.cps.toList) : x = y := by
  cases x with
  | mk a => cases y with
    | mk b =>
      have h : a.toList = b.toList := h
      cases a; cases b; cases h; rfl
theorem strL_beq {x y : Str} : (x.cps.toList == y.cps.toList) = decide (x = y) := by
  by_cases h : x = y
  · subst h; simp
  · rw [decide_eq_false h]
    exact beq_eq_false_iff_ne.mpr fun e => h (strL_inj e)
theorem keyEq_eq : ∀ (a b : Key), keyEq a b = decide (a = b)
  | .inl i, .inl j => (key_ll i j).symm ▸ (by show decide (i = j) = (i == j); by_cases h : i = j <;> simp [h])
  | .inl _, .inr _ => rfl
  | .inr _, .inl _ => rfl
  | .inr x, .inr y => (key_rr x y).symm ▸ strL_beq
/-- a dict with k set -/
def putKU (kvs : List (Key × U)) (k : Key) (v : U) : List (Key × U) := cond (kvs.any fun p => keyEq p.1 k) (kvs.map fun p => (p.1, cond (keyEq p.1 k) v p.2)) (kvs ++ [(k, v)])
def valU : List (Key × U) → Key → Option U
  | [], _ => none
  | p :: r, k => cond (keyEq p.1 k) (some p.2) (valU r k)
theorem valU_imp {K : PySem.W.Frag} {ρ : List Addr} {H : Hp} {k : Key} : ∀ {us : List (Key × U)} {vs : List (Key × V)}, RUp K ρ H us vs → (match valU us k with
  | some u => ∃ v, valV vs k = some v ∧ RU K ρ H u v
  | none => valV vs k = none)
  | [], _, e => by rw [show _ = ([] : List (Key × V)) from e]; exact rfl
  | (j, u) :: us, _, ⟨v, t, e, q, z⟩ => by
    rw [e]
    have ih := valU_imp (k := k) z
    unfold valU
    rw [keyEq_eq]
    by_cases h : j = k
    · rw [decide_eq_true h]
      exact ⟨v, valV_pos h, q⟩
    · rw [decide_eq_false h]
      rw [cond_false]
      cases e2 : valU us k with
      | none => rw [e2] at ih; exact (valV_neg h).trans ih
      | some w => rw [e2] at ih; obtain ⟨x, e3, e4⟩ := ih; exact ⟨x, (valV_neg h).trans e3, e4⟩
theorem RUp.append {κ : Type} {K : PySem.W.Frag} {ρ : List Addr} {H : Hp} : ∀ {l l2 : List (κ × U)} {vs ws : List (κ × V)}, RUp K ρ H l vs → RUp K ρ H l2 ws → RUp K ρ H (l ++ l2) (vs ++ ws)
  | [], _, _, _, e, q => by rw [show _ = ([] : List (κ × V)) from e]; exact q
  | (_, _) :: _, _, _, _, ⟨v, r, e, a, b⟩, q => by rw [e]; exact ⟨v, _, rfl, a, RUp.append b q⟩
theorem any_imp {K : PySem.W.Frag} {ρ : List Addr} {H : Hp} {k : Key} : ∀ {us : List (Key × U)} {vs : List (Key × V)}, RUp K ρ H us vs → (us.any fun p => keyEq p.1 k) = vs.any fun kv => decide (kv.1 = k)
  | [], _, e => by rw [show _ = ([] : List (Key × V)) from e] <;> rfl
  | (j, u) :: us, _, ⟨v, t, e, q, z⟩ => by
    rw [e, List.any_cons, List.any_cons, any_imp z, keyEq_eq]
theorem map_imp {K : PySem.W.Frag} {ρ : List Addr} {H : Hp} {k : Key} {u : U} {v : V} (q0 : RU K ρ H u v) : ∀ {us : List (Key × U)} {vs : List (Key × V)}, RUp K ρ H us vs → RUp K ρ H (us.map fun p => (p.1, cond (keyEq p.1 k) u p.2)) (vs.map fun kv => if kv.1 = k then (kv.1, v) else kv)
  | [], _, e => by rw [show _ = ([] : List (Key × V)) from e] <;> rfl
  | (j, w) :: us, _, ⟨x, t, e, q, z⟩ => by
    rw [e, List.map_cons, List.map_cons]
    have ih := map_imp (k := k) q0 z
    show RUp K ρ H ((j, cond (keyEq j k) u w) :: _) ((if j = k then (j, v) else (j, x)) :: _)
    rw [keyEq_eq]
    by_cases h : j = k
    · rw [if_pos h, decide_eq_true h]; exact ⟨v, _, rfl, q0, ih⟩
    · rw [if_neg h, decide_eq_false h]; exact ⟨x, _, rfl, q, ih⟩
theorem putK_imp {K : PySem.W.Frag} {ρ : List Addr} {H : Hp} {k : Key} {u : U} {v : V} (q0 : RU K ρ H u v) {us : List (Key × U)} {vs : List (Key × V)} (q : RUp K ρ H us vs) : RUp K ρ H (putKU us k u) (putK vs k v) := by
  unfold putKU putK
  rw [any_imp q]
  cases h : vs.any fun kv => decide (kv.1 = k) with
  | true => rw [if_pos rfl]; exact map_imp q0 q
  | false => rw [if_neg Bool.false_ne_true]; exact RUp.append q ⟨v, [], rfl, q0, rfl⟩
/-- d[k] = v, d a dict of the heap -/
def dputU (n : Nat) (k : U) (v : U) (h : Hq) : Res Unit := match h[n]? with
  | some (.dK kvs) => match keyOf k with
    | some kk => cond (Nat.blt kvs.length 16777216) (.ok () (h.set n (.dK (putKU kvs kk v)))) .bad
    | none => .bad
  | _ => .bad
theorem dputU_ok {K : PySem.W.Frag} {ρ : List Addr} {h : Hq} {H : Hp} {n : Nat} {D : Addr} {k v : U} {y z : V} {Q : Hp → Prop} (r : Rel K cls ρ h H) (hD : ρ[n]? = some D) (qk : RU K ρ H k y) (qv : RU K ρ H v z) (p : PostU K cls ρ H Q (dputU n k v h)) :
    ∃ kvs kk, y = kV kk ∧ H D = some (.dK kvs) ∧ kvs.length < sizeLine ∧ Q (upd H D (.dK (putK kvs kk z))) := by
  unfold dputU at p
  cases eh : h[n]? with
  | none => simp only [eh] at p; exact p.elim
  | some o =>
    have q := r.at_ n o D eh hD
    cases o with
    | dK acc =>
      obtain ⟨vs, z1, z2⟩ := q
      simp only [eh] at p
      cases ek : keyOf k with
      | none => simp only [ek] at p; exact p.elim
      | some kk =>
        simp only [ek] at p
        cases hb : Nat.blt acc.length 16777216 with
        | false => rw [hb] at p; exact p.elim
        | true =>
          rw [hb] at p
          refine ⟨vs, kk, keyOf_ru qk ek, z1, by rw [z2.length]; exact Nat.le_of_ble_eq_true hb, ?_⟩
          obtain ⟨r3, s3⟩ := r.put (o := .dK (putK vs kk z)) (u := .dK (putKU acc kk v)) hD (fun ob w e => by rw [z1] at e; cases e) fun st => ⟨_, upd_same, putK_imp (RU.mono r st qv) (RUp.mono r st z2)⟩
          exact p _ ρ s3 r3
    | _ => simp only [eh] at p; exact p.elim
def bdPut (mk me : Ev) (n : Nat) : MU := fun us h => (mk us h).bind fun k h1 => (me us h1).bind fun v h2 => dputU n k v h2
def evDc (mi : EvI) (gm : CM) (t : Evt) (mk me : Ev) (vs : List Nat) : Ev := fun us h => (mi us h).bind fun gi h1 => finR h1.length (loopC gi gm t (bdPut mk me h1.length) (wipeU us vs) (gi.size + 1) 0 (h1 ++ [HU.dK []]))
theorem PostU.of {K : PySem.W.Frag} {ρ : List Addr} {H : Hp} {σ : L2.St} {us : Sl} {h : Hq} {Nx : Hp → Prop} {α β : Type} {Rr : RelT α β} {r : Res α} {k : α → Hq → Res Unit} (a : At K cls ρ us h σ H) (p : PostU K cls ρ H Nx (r.bind k)) {R : β → Hp → Prop}
    (hR : ∀ v H1 ρ1 u h1, Step ρ H ρ1 H1 → At K cls ρ1 us h1 σ H1 → Rr ρ1 H1 u v → PostU K cls ρ1 H1 Nx (k u h1) → R v H1) : Post K cls W0 Rr ρ σ H R r := by
  cases r with
  | bad => exact p.elim
  | exc _ _ => exact p.elim
  | ok u h1 => exact fun v H1 ρ1 s1 r1 q => hR v H1 ρ1 u h1 s1 (a.step s1 r1) q (PostU.step (r := k u h1) s1 p)
theorem dc_imp {mi : EvI} {gm : CM} {t : Evt} {mk me : Ev} {g : TG} {vs : List Nat} {K : PySem.W.Frag} (hg : CG K vs g gm) (σ : L2.St) (H : Hp) (Q : VK) (hw : tE K cls W (evDc mi gm t mk me vs) σ H Q) : tDc (tItr K cls W mi) g (tT K cls W0 t) (tE K cls W0 mk) (tE K cls W0 me) vs σ H Q := by
  obtain ⟨us, h, ρ, a, p⟩ := hw
  refine ⟨us, h, ρ, a, comp_core (o0 := .dK []) (lp := fun gi n us h => loopC gi gm t (bdPut mk me n) (wipeU us vs) (gi.size + 1) 0 h) a p newDict (C := fun J Hs D => CLoop J g (tT K cls W0 t) (fun σ2 H3 Nx => tE K cls W0 mk σ2 H3 fun y H4 => tE K cls W0 me σ2 H4 fun z H5 => ∃ kvs k, y = kV k ∧ H5 D = some (.dK kvs) ∧ kvs.length < sizeLine ∧ Nx (upd H5 D (.dK (putK kvs k z)))) vs σ Hs (fun H' => Q (.ref D) H')) fun J gi n D ρ h H ri at_ hn p => ?_⟩
  refine cloop (bd := bdPut mk me n) (ri := ri) hg (hB := fun us1 σ1 h1 ρ1 H1 Nx s1 a1 p1 => ?_) at_ p
  refine ⟨us1, h1, ρ1, a1, PostU.of (Rr := RU K) a1 p1 fun y H2 ρ2 k h2 s2 a2 qk p2 => ?_⟩
  refine ⟨us1, h2, ρ2, a2, PostU.of (Rr := RU K) a2 p2 fun z H3 ρ3 v h3 s3 a3 qv p3 => ?_⟩
  exact dputU_ok a3.rel ((s1.trans (s2.trans s3)).get hn) (RU.mono a2.rel s3 qk) qv p3
variable {pos spos : Pos} {elt kx tg iter tg1 iter1 : Expr} {ifs ifs1 : List Expr} {scope : Scope} {mi mi1 : EvI} {gm gm1 : CM} {t t1 : Evt} {me mk : Ev} {g g1 : TG}
abbrev Blk (X : Cx) (scope : Scope) (P : Cx → Prop) : Prop := ∀ (s : Shared) (H : Hp) (C : Addr) (cl : List (Str × Addr)) (fp : List Addr), P (X.blk s H scope (compEnvC scope cl C X.env) fp)
theorem se_lc (own : List (Str × Nat)) (hc : X.calm = true) (hN : X.N.Nodup) (hi : SI X cls W tg iter mi) (hg : Blk X scope fun X' => PG X' tg g) (hcg : CG X.K (own.map (·.2)) g gm) (ht : Blk X scope fun X' => SIfs X' cls ifs t) (he : Blk X scope fun X' => SE X' cls W0 elt me)
    (ok : BlkOk X.N X.env.scope scope own := by exact blkOk_by (by decide +kernel)) (hs : ∀ x, foldedSetIterable iter X.env x = pure x := by intro _; rfl) : SE X cls W (.ListComp elt [⟨tg, iter, ifs, 0⟩] scope pos) (evLc mi gm t me (own.map (·.2))) :=
  pe_imp (pe_lc hc hN hi ok hg ht he hs) (lc_imp hcg)
theorem asg_imp {i : Nat} {m : Ev} {te : TE} (hi : ∀ σ H Q, tE X.K cls W m σ H Q → te σ H Q) : ∀ (D : Ends) (σ : L2.St) (H : Hp), tM X.K cls W (mSet i m) D σ H → tAsg te (gName i) D σ H := fun D σ H ⟨us, h, ρ, a, p⟩ => hi σ H _ ⟨us, h, ρ, a, Post.imp (fun x H1 q => by
  obtain ⟨u, h1, ρ1, s1, at1, q1, p1⟩ := q
  exact p1 _ H1 ρ1 Step.refl at1.rel (at1.sl.set q1)) (PostS.bind (R := RU X.K) a p)⟩
theorem ss_setLc {i : Nat} {y : Str} {py : Pos} (own : List (Str × Nat)) (hc : X.calm = true) (hN : X.N.Nodup) (hi : SI X cls W tg iter mi) (hg : Blk X scope fun X' => PG X' tg g) (hcg : CG X.K (own.map (·.2)) g gm) (ht : Blk X scope fun X' => SIfs X' cls ifs t) (he : Blk X scope fun X' => SE X' cls W0 elt me)
    (hy : X.N[i]? = some y := by rfl) (hyl : X.env.scope.names.lookup y = some .local := by rfl) (hsw : swapsWith (.ListComp elt [⟨tg, iter, ifs, 0⟩] scope pos) (some (.Name y py)) spos.line X.env = pure true := by rfl)
    (ok : BlkOk X.N X.env.scope scope own := by exact blkOk_by (by decide +kernel)) (hs : ∀ x, foldedSetIterable iter X.env x = pure x := by intro _; rfl) : SS X cls W (.Assign [.Name y py] (.ListComp elt [⟨tg, iter, ifs, 0⟩] scope pos) spos) (mSet i (evLc mi gm t me (own.map (·.2)))) :=
  ps_imp (ps_setLc hc hN hy hyl hsw hi ok hg ht he hs) (asg_imp (lc_imp hcg))
theorem se_lc2 (own : List (Str × Nat)) (vs1 : List Nat) (hc : X.calm = true) (hN : X.N.Nodup) (hi : SI X cls W tg iter mi) (hg : Blk X scope fun X' => PG X' tg g) (hcg : CG X.K (own.map (·.2)) g gm) (ht : Blk X scope fun X' => SIfs X' cls ifs t)
    (hi1 : Blk X scope fun X' => SI X' cls W0 tg1 iter1 mi1) (hg1 : Blk X scope fun X' => PG X' tg1 g1) (hcg1 : CG X.K vs1 g1 gm1) (ht1 : Blk X scope fun X' => SIfs X' cls ifs1 t1) (he : Blk X scope fun X' => SE X' cls W0 elt me)
    (hv : ∀ i ∈ vs1, i ∈ own.map (·.2) := by decide) (ok : BlkOk X.N X.env.scope scope own := by exact blkOk_by (by decide +kernel)) (hs : ∀ x, foldedSetIterable iter X.env x = pure x := by intro _; rfl) (hs1 : ∀ env x, foldedSetIterable iter1 env x = pure x := by intro _ _; rfl) :
    SE X cls W (.ListComp elt [⟨tg, iter, ifs, 0⟩, ⟨tg1, iter1, ifs1, 0⟩] scope pos) (evLc2 mi gm t mi1 gm1 t1 me (own.map (·.2)) vs1) :=
  pe_imp (pe_lc2 hc hN hi ok hv hg ht hi1 hg1 ht1 he hs hs1) (lc2_imp hcg hcg1)
theorem ss_setLc2 {i : Nat} {y : Str} {py : Pos} (own : List (Str × Nat)) (vs1 : List Nat) (hc : X.calm = true) (hN : X.N.Nodup) (hi : SI X cls W tg iter mi) (hg : Blk X scope fun X' => PG X' tg g) (hcg : CG X.K (own.map (·.2)) g gm) (ht : Blk X scope fun X' => SIfs X' cls ifs t)
    (hi1 : Blk X scope fun X' => SI X' cls W0 tg1 iter1 mi1) (hg1 : Blk X scope fun X' => PG X' tg1 g1) (hcg1 : CG X.K vs1 g1 gm1) (ht1 : Blk X scope fun X' => SIfs X' cls ifs1 t1) (he : Blk X scope fun X' => SE X' cls W0 elt me)
    (hy : X.N[i]? = some y := by rfl) (hyl : X.env.scope.names.lookup y = some .local := by rfl) (hsw : swapsWith (.ListComp elt [⟨tg, iter, ifs, 0⟩, ⟨tg1, iter1, ifs1, 0⟩] scope pos) (some (.Name y py)) spos.line X.env = pure true := by rfl)
    (hv : ∀ i ∈ vs1, i ∈ own.map (·.2) := by decide) (ok : BlkOk X.N X.env.scope scope own := by exact blkOk_by (by decide +kernel)) (hs : ∀ x, foldedSetIterable iter X.env x = pure x := by intro _; rfl) (hs1 : ∀ env x, foldedSetIterable iter1 env x = pure x := by intro _ _; rfl) :
    SS X cls W (.Assign [.Name y py] (.ListComp elt [⟨tg, iter, ifs, 0⟩, ⟨tg1, iter1, ifs1, 0⟩] scope pos) spos) (mSet i (evLc2 mi gm t mi1 gm1 t1 me (own.map (·.2)) vs1)) :=
  ps_imp (ps_setLc2 hc hN hy hyl hsw hi ok hv hg ht hi1 hg1 ht1 he hs hs1) (asg_imp (lc2_imp hcg hcg1))
theorem se_dc (own : List (Str × Nat)) (hc : X.calm = true) (hN : X.N.Nodup) (hi : SI X cls W tg iter mi) (hg : Blk X scope fun X' => PG X' tg g) (hcg : CG X.K (own.map (·.2)) g gm) (ht : Blk X scope fun X' => SIfs X' cls ifs t) (hk : Blk X scope fun X' => SE X' cls W0 kx mk) (he : Blk X scope fun X' => SE X' cls W0 elt me)
    (ok : BlkOk X.N X.env.scope scope own := by exact blkOk_by (by decide +kernel)) (hs : ∀ x, foldedSetIterable iter X.env x = pure x := by intro _; rfl) : SE X cls W (.DictComp kx elt [⟨tg, iter, ifs, 0⟩] scope pos) (evDc mi gm t mk me (own.map (·.2))) :=
  pe_imp (pe_dc hc hN hi ok hg ht hk he hs) (dc_imp hcg)
end

/-! ### locked dicts -/
section
variable {X : Cx} {cls : Nat → Addr} {W : WX}
mutual
theorem RU.mono0 {K : PySem.W.Frag} {ρ ρ' : List Addr} {H H' : Hp} (g : ∀ (n : Nat) (a : Addr), ρ[n]? = some a → ρ'[n]? = some a) (t : ∀ a vs, H a = some (.tup vs) → H' a = some (.tup vs)) (t2 : ∀ a vs, FL K ρ H a vs → FL K ρ' H' a vs) : ∀ {u : U} {v : V}, RU K ρ H u v → RU K ρ' H' u v
  | .non, _, e => e
  | .bl _, _, e => e
  | .int _, _, e => e
  | .str _, _, e => e
  | .ty _, _, e => e
  | .adr _, _, e => e
  | .ref _, _, ⟨a, e, q⟩ => ⟨a, g _ _ e, q⟩
  | .tup _, _, ⟨a, vs, e, s, q⟩ => ⟨a, vs, e, t _ _ s, RUl.mono0 g t t2 q⟩
  | .fls _, _, ⟨a, vs, e, s, q⟩ => ⟨a, vs, e, t2 _ _ s, RUl.mono0 g t t2 q⟩
theorem RUl.mono0 {K : PySem.W.Frag} {ρ ρ' : List Addr} {H H' : Hp} (g : ∀ (n : Nat) (a : Addr), ρ[n]? = some a → ρ'[n]? = some a) (t : ∀ a vs, H a = some (.tup vs) → H' a = some (.tup vs)) (t2 : ∀ a vs, FL K ρ H a vs → FL K ρ' H' a vs) : ∀ {us : List U} {vs : List V}, RUl K ρ H us vs → RUl K ρ' H' us vs
  | [], _, e => e
  | _ :: _, _, ⟨v, r, e, q, z⟩ => ⟨v, r, e, RU.mono0 g t t2 q, RUl.mono0 g t t2 z⟩
end
theorem RUp.mono0 {κ : Type} {K : PySem.W.Frag} {ρ ρ' : List Addr} {H H' : Hp} (g : ∀ (n : Nat) (a : Addr), ρ[n]? = some a → ρ'[n]? = some a) (t : ∀ a vs, H a = some (.tup vs) → H' a = some (.tup vs)) (t2 : ∀ a vs, FL K ρ H a vs → FL K ρ' H' a vs) : ∀ {us : List (κ × U)} {vs : List (κ × V)}, RUp K ρ H us vs → RUp K ρ' H' us vs
  | [], _, e => e
  | (_, _) :: _, _, ⟨v, r, e, q, z⟩ => ⟨v, r, e, RU.mono0 g t t2 q, RUp.mono0 g t t2 z⟩
/-- the locked one written back -/
theorem Rel.unlock {K : PySem.W.Frag} {ρ : List Addr} {h : Hq} {H : Hp} {a : Addr} {n : Nat} {od : Obj} {o : HO} {u : HU} (r : Rel K cls ρ h H) (e : ρ[n]? = some a) (hH : H a = some (.frz od o)) (nt : ∀ xs, o ≠ .tup xs)
    (new : (∀ b vs, H b = some (.tup vs) → upd H a o b = some (.tup vs)) → (∀ b vs, FL K ρ H b vs → FL K ρ (upd H a o) b vs) → RO K cls ρ (upd H a o) u a) : Rel K cls ρ (h.set n u) (upd H a o) := by
  have sq : ∀ b vs, H b = some (.tup vs) → upd H a o b = some (.tup vs) := fun b vs q => by
    rw [upd_ne (fun z => by rw [z, hH] at q; cases q)]; exact q
  have fl : ∀ b vs, FL K ρ H b vs → FL K ρ (upd H a o) b vs := fun b vs q => by
    rcases q with ⟨q, n⟩ | q
    · have nb : b ≠ a := fun z => n (by rw [z]; exact List.mem_of_getElem? e)
      exact .inl ⟨by unfold Rd at q ⊢; rw [upd_ne nb]; exact q, n⟩
    · exact .inr q
  refine ⟨by simp [r.len], r.nd, fun m ob b e1 e2 => ?_⟩
  have hl : n < h.length := by rw [← r.len]; exact (List.getElem?_eq_some_iff.mp e).1
  by_cases hm : m = n
  · subst hm
    rw [HA.set_self hl] at e1; cases e1
    rw [e] at e2; cases e2
    exact new sq fl
  · rw [HA.set_ne (Ne.symm hm)] at e1
    have ne : b ≠ a := by
      rintro rfl
      exact hm ((List.getElem_inj r.nd).mp ((List.getElem?_eq_some_iff.mp e2).2.trans (List.getElem?_eq_some_iff.mp e).2.symm))
    have z := r.at_ m ob b e1 e2
    have g : ∀ (n : Nat) (a : Addr), ρ[n]? = some a → ρ[n]? = some a := fun _ _ h => h
    cases ob with
    | lst l => obtain ⟨vs, z1, z2⟩ := z; exact ⟨vs, by rw [upd_ne ne]; exact z1, RUl.mono0 g sq fl z2⟩
    | frl l =>
      obtain ⟨vs, z1, ⟨ob, z3⟩, z2⟩ := z
      have z3' : upd H a o b = some (.frz ob (.lst vs)) := by rw [upd_ne ne]; exact z3
      exact ⟨vs, .inl (.inr ⟨ob, z3'⟩), ⟨ob, z3'⟩, RUl.mono0 g sq fl z2⟩
    | dK l => obtain ⟨vs, z1, z2⟩ := z; exact ⟨vs, by rw [upd_ne ne]; exact z1, RUp.mono0 g sq fl z2⟩
    | dT l => obtain ⟨vs, z1, z2⟩ := z; exact ⟨vs, by rw [upd_ne ne]; exact z1, RUp.mono0 g sq fl z2⟩
    | fK l => obtain ⟨ob, vs, z1, z2⟩ := z; exact ⟨ob, vs, by rw [upd_ne ne]; exact z1, RUp.mono0 g sq fl z2⟩
    | fT l => obtain ⟨ob, vs, z1, z2⟩ := z; exact ⟨ob, vs, by rw [upd_ne ne]; exact z1, RUp.mono0 g sq fl z2⟩
    | ins c fs => obtain ⟨dx, vs, z1, z2⟩ := z; exact ⟨dx, vs, by rw [upd_ne ne]; exact z1, RUp.mono0 g sq fl z2⟩
theorem Rel.unlock_step {K : PySem.W.Frag} {ρ ρ' : List Addr} {h h' : Hq} {H H' : Hp} {a : Addr} {n : Nat} {od : Obj} {o : HO} {u : HU} (r0 : Rel K cls ρ h H) (e0 : ρ[n]? = some a) (hH0 : H a = some o) (nt : ∀ xs, o ≠ .tup xs) (nf : ∀ ob w, o ≠ .frz ob w)
    (s : Step ρ (upd H a (.frz od o)) ρ' H') (r : Rel K cls ρ' h' H') (new0 : ∀ (ρ1 : List Addr) (H1 : Hp), (∀ (n : Nat) (a : Addr), ρ[n]? = some a → ρ1[n]? = some a) → (∀ b vs, H b = some (.tup vs) → H1 b = some (.tup vs)) → (∀ b vs, FL K ρ H b vs → FL K ρ1 H1 b vs) → H1 a = some o → RO K cls ρ1 H1 u a) :
    Step ρ H ρ' (upd H' a o) ∧ Rel K cls ρ' (h'.set n u) (upd H' a o) ∧ H' a = some (.frz od o) ∧ (∀ b vs, H' b = some (.tup vs) → upd H' a o b = some (.tup vs)) ∧ (∀ b vs, FL K ρ' H' b vs → FL K ρ' (upd H' a o) b vs) := by
  have hH' : H' a = some (.frz od o) := s.frz a od o upd_same
  have sq : ∀ b vs, H' b = some (.tup vs) → upd H' a o b = some (.tup vs) := fun b vs q => by
    rw [upd_ne (fun z => by rw [z, hH'] at q; cases q)]; exact q
  have ha : a ∈ ρ := List.mem_of_getElem? e0
  have e1 := s.get e0
  have fl : ∀ b vs, FL K ρ' H' b vs → FL K ρ' (upd H' a o) b vs := fun b vs q => by
    rcases q with ⟨q, n⟩ | q
    · have nb : b ≠ a := fun z => n (by rw [z]; exact List.mem_of_getElem? e1)
      exact .inl ⟨by unfold Rd at q ⊢; rw [upd_ne nb]; exact q, n⟩
    · exact .inr q
  refine ⟨⟨s.pre, fun b hb hn => ?_, fun b ob q hn => ?_, fun b ob w q => ?_⟩, ?_, hH', sq, fl⟩
  · have z := s.fresh b hb hn
    rw [upd_ne (fun z => hn (by rw [z]; exact ha))] at z; exact z
  · have nb : b ≠ a := fun z => hn (by rw [z]; exact ha)
    rw [upd_ne nb]
    exact s.pres b ob (by rw [upd_ne nb]; exact q) hn
  · have nb : b ≠ a := fun z => by rw [z, hH0] at q; cases q; exact nf _ _ rfl
    rw [upd_ne nb]
    exact s.frz b ob w (by rw [upd_ne nb]; exact q)
  · refine r.unlock e1 hH' nt fun _ _ => new0 ρ' _ (fun n a q => s.get q) (fun b vs q => sq b vs ?_) (fun b vs q => fl b vs ?_) upd_same
    · by_cases hb : b ∈ ρ
      · exact absurd q (r0.notup hb vs)
      · exact s.pres b _ (by rw [upd_ne (fun z => hb (by rw [z]; exact ha))]; exact q) hb
    · refine FL.mono s ?_
      rcases q with ⟨q, n⟩ | q
      · have nb : b ≠ a := fun z => n (by rw [z]; exact ha)
        exact .inl ⟨by unfold Rd at q ⊢; rw [upd_ne nb]; exact q, n⟩
      · exact .inr q
def SRes.unl (n : Nat) (o : HU) : SRes → SRes
  | .nx us h => .nx us (h.set n o)
  | .rt u h => .rt u (h.set n o)
  | .bk us h => .bk us (h.set n o)
  | .ct us h => .ct us (h.set n o)
  | _ => .bad
def Res.unl (n : Nat) (o : HU) : Res U → Res U
  | .ok u h => .ok u (h.set n o)
  | _ => .bad
/-- what a dict is, locked -/
def lockU : HU → Option HU
  | .dK kvs => some (.fK kvs)
  | .dT kvs => some (.fT kvs)
  | _ => none
def lockAt (i : Nat) (us : Sl) (h : Hq) : Option (Nat × HU × HU) := match us[i]? with
  | some (some (.ref n)) => match h[n]? with
    | some o => (lockU o).map fun o' => (n, o, o')
    | none => none
  | _ => none
def mLock (i : Nat) (m : SM) : SM := fun us h => match lockAt i us h with
  | some (n, o, o') => (m us (h.set n o')).unl n o
  | none => .bad
def evLock (i : Nat) (m : Ev) : Ev := fun us h => match lockAt i us h with
  | some (n, o, o') => (m us (h.set n o')).unl n o
  | none => .bad
/-- the lock put on: the new state, and the way back -/
theorem lock_imp {K : PySem.W.Frag} {ρ : List Addr} {us : Sl} {h : Hq} {σ : L2.St} {H : Hp} {i n : Nat} {o o' : HU} (a : At K cls ρ us h σ H) (e : lockAt i us h = some (n, o, o')) :
    ∃ d u, H d = some u ∧ Mut (some u) ∧ ∀ od, At K cls ρ us (h.set n o') σ (upd H d (.frz od u)) ∧ Step ρ H ρ (upd H d (.frz od u)) ∧
      ∀ ρ' h' H', Step ρ (upd H d (.frz od u)) ρ' H' → Rel K cls ρ' h' H' → H' d = some (.frz od u) ∧ Step ρ H ρ' (upd H' d u) ∧ Rel K cls ρ' (h'.set n o) (upd H' d u) ∧ (∀ b vs, H' b = some (.tup vs) → upd H' d u b = some (.tup vs)) ∧ (∀ b vs, FL K ρ' H' b vs → FL K ρ' (upd H' d u) b vs) := by
  unfold lockAt at e
  split at e
  · rename_i m eu
    obtain ⟨v, es, dd, er, rfl⟩ := a.sl.2 i _ eu
    cases eh : h[m]? with
    | none => simp only [eh] at e; cases e
    | some ob =>
      simp only [eh] at e
      have z := a.rel.at_ m ob dd eh er
      cases ob with
      | dK kvs =>
        simp only [lockU, Option.map_some, Option.some.injEq, Prod.mk.injEq] at e
        obtain ⟨rfl, rfl, rfl⟩ := e
        obtain ⟨ws, z1, z2⟩ := z
        refine ⟨dd, .dK ws, z1, True.intro, fun od => ?_⟩
        obtain ⟨r1, s1⟩ := a.rel.put (o := .frz od (.dK ws)) (u := .fK kvs) er (fun ob w q => by rw [z1] at q; cases q) fun st => ⟨od, ws, upd_same, RUp.mono a.rel st z2⟩
        refine ⟨a.step s1 r1, s1, fun ρ' h' H' s' r' => ?_⟩
        obtain ⟨q1, q2, q3, q4, q5⟩ := Rel.unlock_step (u := .dK kvs) a.rel er z1 (fun _ q => nomatch q) (fun _ _ q => nomatch q) s' r' fun ρ1 H1 g sq fl hh => ⟨ws, hh, RUp.mono0 g sq fl z2⟩
        exact ⟨q3, q1, q2, q4, q5⟩
      | dT kvs =>
        simp only [lockU, Option.map_some, Option.some.injEq, Prod.mk.injEq] at e
        obtain ⟨rfl, rfl, rfl⟩ := e
        obtain ⟨ws, z1, z2⟩ := z
        refine ⟨dd, .dT ws, z1, True.intro, fun od => ?_⟩
        obtain ⟨r1, s1⟩ := a.rel.put (o := .frz od (.dT ws)) (u := .fT kvs) er (fun ob w q => by rw [z1] at q; cases q) fun st => ⟨od, ws, upd_same, RUp.mono a.rel st z2⟩
        refine ⟨a.step s1 r1, s1, fun ρ' h' H' s' r' => ?_⟩
        obtain ⟨q1, q2, q3, q4, q5⟩ := Rel.unlock_step (u := .dT kvs) a.rel er z1 (fun _ q => nomatch q) (fun _ _ q => nomatch q) s' r' fun ρ1 H1 g sq fl hh => ⟨ws, hh, RUp.mono0 g sq fl z2⟩
        exact ⟨q3, q1, q2, q4, q5⟩
      | _ => simp only [lockU] at e; cases e
  · cases e
theorem RS.mono0 {K : PySem.W.Frag} {ρ : List Addr} {H H' : Hp} {us : Sl} {σ : L2.St} (t : ∀ a vs, H a = some (.tup vs) → H' a = some (.tup vs)) (t2 : ∀ a vs, FL K ρ H a vs → FL K ρ H' a vs) (q : RS K ρ H us σ) : RS K ρ H' us σ :=
  ⟨q.1, fun i u e => let ⟨v, e1, e2⟩ := q.2 i u e; ⟨v, e1, RU.mono0 (fun _ _ h => h) t t2 e2⟩⟩
theorem ss_lock (i : Nat) {st : Stmt} {m : SM} (hs : SS X cls W st m) : SS X cls W st (mLock i m) := ps_imp (ps_lock hs) fun D σ H ⟨us, h, ρ, a, p⟩ => by
  unfold mLock at p
  cases e : lockAt i us h with
  | none => simp only [e] at p; exact p.elim
  | some t =>
    obtain ⟨n, o, o'⟩ := t
    simp only [e] at p
    obtain ⟨d, u, h1, h2, h3⟩ := lock_imp a e
    refine ⟨d, u, h1, h2, fun od => ?_⟩
    obtain ⟨a1, s1, back⟩ := h3 od
    refine ⟨us, _, ρ, a1, ?_⟩
    cases em : m us (h.set n o') with
    | nx us1 hh =>
      rw [em] at p
      intro σ' H' ρ' s r q
      obtain ⟨b1, b2, b3, b4, b5⟩ := back ρ' hh H' s r
      exact ⟨b1, p σ' _ ρ' b2 b3 (q.mono0 b4 b5)⟩
    | bk us1 hh =>
      rw [em] at p
      intro σ' H' ρ' s r q
      obtain ⟨b1, b2, b3, b4, b5⟩ := back ρ' hh H' s r
      exact ⟨b1, p σ' _ ρ' b2 b3 (q.mono0 b4 b5)⟩
    | ct us1 hh =>
      rw [em] at p
      intro σ' H' ρ' s r q
      obtain ⟨b1, b2, b3, b4, b5⟩ := back ρ' hh H' s r
      exact ⟨b1, p σ' _ ρ' b2 b3 (q.mono0 b4 b5)⟩
    | rt w hh =>
      rw [em] at p
      intro v H' ρ' s r q
      obtain ⟨b1, b2, b3, b4, b5⟩ := back ρ' hh H' s r
      exact ⟨b1, p v _ ρ' b2 b3 (RU.mono0 (fun _ _ h => h) b4 b5 q)⟩
    | exc _ _ _ => rw [em] at p; exact p.elim
    | bad => rw [em] at p; exact p.elim
theorem se_lock (i : Nat) {e : Expr} {m : Ev} (hs : SE X cls W e m) : SE X cls W e (evLock i m) := pe_imp (pe_lock hs) fun σ H Q ⟨us, h, ρ, a, p⟩ => by
  unfold evLock at p
  cases e : lockAt i us h with
  | none => simp only [e] at p; exact p.elim
  | some t =>
    obtain ⟨n, o, o'⟩ := t
    simp only [e] at p
    obtain ⟨d, u, h1, h2, h3⟩ := lock_imp a e
    refine ⟨d, u, h1, h2, fun od => ?_⟩
    obtain ⟨a1, s1, back⟩ := h3 od
    refine ⟨us, _, ρ, a1, ?_⟩
    cases em : m us (h.set n o') with
    | ok w hh =>
      rw [em] at p
      intro v H' ρ' s r q
      obtain ⟨b1, b2, b3, b4, b5⟩ := back ρ' hh H' s r
      exact ⟨b1, p v _ ρ' b2 b3 (RU.mono0 (fun _ _ h => h) b4 b5 q)⟩
    | exc _ _ => rw [em] at p; exact p.elim
    | bad => rw [em] at p; exact p.elim
end
end GG
/-! GSet -/
/-! set(a list of ints), as HandS.SetFor has it of a tuple; sorted(set(..)), len(set(..)) in one -/
namespace L2
open PySem PySem.Spec PyProof.Rows
section
variable {P : Program} {w : World} {A : Around} {E : Value → Shared → Prop} {s : Shared}
/-- the new set, empty -/
abbrev gsObj (w : World) : Obj := { cls := .type "set", dict := none, data := .set #[] 0 (.fresh 0 0 (!w.params.followText "set-order")) }
/-- its __init__ with a list of ints -/
theorem set_init_list {l S : Addr} {items : Array Value} (ns : List Int) {R : Result → Shared → Prop} (hh : A.handled = none) (hS : s.heap.get? S = some (gsObj w)) (hl : s.heap.IsList l items) (hne : l ≠ S) (hit : IntsAre items.toList ns) (hb : ns.length + 1 < scanBound)
    (h : ∀ (h' : Heap) (tk c : Nat), SetR w h' S (fun j => decide (j ∈ ns)) c → c ≤ ns.length → (∀ b o, b ≠ S → s.heap.get? b = some o → h'.get? b = some o) → R (.ok (.ret .none)) { s with heap := h', toks := tk }) :
    wpAny (model P w) A.in1 (Builtin.«set.__init__» ⟨[.ref S, .ref l], []⟩) (fun fin s' => match fin with
      | .done f => R (.ok f) s'
      | .again c' => c'.quiet = true ∧ codeAny (model P w) A c' R s') (fun e s' => R (.error e) s') s := by
  have hisz : items.size = ns.length := by
    have q := IntsAre.length hit
    rw [Array.length_toList] at q
    exact q
  obtain ⟨ol, hol, hcl, nl, hdl⟩ := id hl
  obtain ⟨ocls, odict, odata, oslots⟩ := ol
  simp only at hcl hdl
  subst hcl
  subst hdl
  have hsls := F.sub_list_set
  have hslf := F.sub_list_frozenset
  have hnd : (Value.type "list" == Value.type "dict") = false := by decide
  have hT : s.TypeIs (.ref S) "set" := ⟨_, hS, rfl⟩
  unfold Builtin.«set.__init__» noKeywords Builtin.Frozenset.updateFrom
  generalize hPI : pyIter = PI
  wp_walk
  subst hPI
  refine wpAny_pyIter_list hl ?_
  refine wpAny_bind (wpAny_runValue ?_)
  have hSl : S < s.heap.objs.size := Heap.lt_size hS
  have hlS : l < s.heap.objs.size := Heap.lt_size hol
  have hh3 : A.in1.in1.handled = none := by simp [hh]
  have hSf : S ∉ [s.heap.objs.size, l] := by
    simp only [List.mem_cons, List.mem_singleton, List.not_mem_nil, or_false, not_or]
    exact ⟨Nat.ne_of_lt hSl, Ne.symm hne⟩
  have hval : ∀ (i : Nat) (v : Value), items[i]? = some v → ∃ k t, ns[i]? = some k ∧ v = .int k t := fun i v hv => by
    have hi : i < ns.length := by rw [← hisz]; exact (Array.getElem?_eq_some_iff.mp hv).1
    obtain ⟨t, e⟩ := PyProof.Rows.IntsAre.int_at hit i v (by rw [Array.getElem?_toList]; exact hv)
    refine ⟨ns[i], t, List.getElem?_eq_getElem hi, ?_⟩
    rw [e, List.getD_eq_getElem?_getD, List.getElem?_eq_getElem hi] <;> rfl
  refine set_update_ints ((Walks.list hh3 _ l (Nat.ne_of_lt hlS) items).toS) S hSf ns hisz hb hval (items.size - 0) 0 { s with heap := s.heap.push { cls := .type "list_iterator", data := .fields #[.ref l, .int 0 0] } } (by omega) (Nat.zero_le _)
    ⟨⟨_, Heap.get?_push_size _ rfl, rfl, rfl⟩, (hl.push _)⟩ ?hS0 ?hR
  case hS0 =>
    have hget : (s.heap.push { cls := .type "list_iterator", data := .fields #[.ref l, .int 0 0] }).get? S = some (gsObj w) := Heap.get?_push_of_some _ hS
    exact ⟨0, Nat.le_refl 0, setR_new_at hget⟩
  case hR =>
  intro s' c' hm hc' hS'
  obtain ⟨h', g2, d', tk', os'⟩ := s'
  have eg : g2 = s.gens := hm.gens
  have ed : d' = s.drawn := hm.drawn
  have eo : os' = s.os := hm.os
  subst eg; subst ed; subst eo
  show wpAny _ _ _ _ _ _
  refine wpAny_pure ?_
  show wpAny _ _ (ret Value.none) _ _ _
  rw [hisz] at hc'
  refine wpAny_pure (h h' tk' c' hS' hc' fun b o hb e => hm.heap b o ?_ (Heap.get?_push_of_some _ e))
  simp only [List.mem_cons, List.mem_singleton, List.not_mem_nil, or_false, not_or]
  exact ⟨hb, Nat.ne_of_lt (Heap.lt_size e)⟩
theorem call_set_lstI {l : Addr} {items : Array Value} (ns : List Int) {Q : Value → Shared → Prop} (hh : A.handled = none) (hl : s.heap.IsList l items) (hit : IntsAre items.toList ns) (hb : ns.length + 1 < scanBound)
    (h : ∀ (h' : Heap) (tk c : Nat), SetR w h' s.heap.objs.size (fun j => decide (j ∈ ns)) c → c ≤ ns.length → (∀ b o, s.heap.get? b = some o → h'.get? b = some o) → Q (.ref s.heap.objs.size) { s with heap := h', toks := tk }) :
    wpAny (model P w) A (call (.type "set") [.ref l]) Q E s := by
  obtain ⟨c, tl, hmro⟩ := F.called_set.mro
  have hmade := F.called_set.made
  have hsub := F.called_set.sub
  have h1 := F.called_set.notType
  have h2 := F.called_set.canCreate
  have hct := F.typeCall_set_1 (.ref l)
  have hlS : l < s.heap.objs.size := by obtain ⟨o, ho, _⟩ := hl; exact Heap.lt_size ho
  refine wpAny_call (codeAny_of_tree ?_)
  show wpAny _ _ (callAny (.type "set") _) _ _ _
  refine wpAny_pure ⟨Code.quiet_builtin _ (by decide +kernel), codeAny_builtin F.entry_type_call ?_⟩
  rw [Around.under_plain (weight_type_call_type "set" [.ref l] []) rfl]
  repeat (any_goals (first | assumption | wp_step))
  refine codeAny_mono (code_set_led1 (.ref l) (E := E) (Q₁ := fun obj s₁ => obj = .ref s.heap.objs.size ∧ s₁ = { s with heap := s.heap.push (gsObj w) }) ⟨rfl, rfl⟩) fun r s₁ hr => ?_
  cases r with
  | error e => exact hr
  | ok fl =>
    cases fl with
    | ret obj =>
      obtain ⟨rfl, rfl⟩ := hr
      have hS : (s.heap.push (gsObj w)).get? s.heap.objs.size = some (gsObj w) := Heap.get?_push_size _ rfl
      have hT : Shared.TypeIs { s with heap := s.heap.push (gsObj w) } (.ref s.heap.objs.size) "set" := ⟨_, hS, rfl⟩
      have hli := F.called_set.init.lookup
      have hbi := F.called_set.init.bind (.ref s.heap.objs.size)
      repeat (any_goals (first | assumption | wp_step))
      refine codeAny_mono (codeAny_call_builtin (R := wants (fun r s₂ => r = .none ∧ ∃ h' tk c, s₂ = { s with heap := h', toks := tk } ∧ SetR w h' s.heap.objs.size (fun j => decide (j ∈ ns)) c ∧ c ≤ ns.length ∧
          (∀ b o, s.heap.get? b = some o → h'.get? b = some o)) E) F.called_set.init.plain F.entry_set_init (check_set_init_1 hT ?_)) fun r₂ s₂ hr₂ => ?_
      · refine set_init_list (s := { s with heap := s.heap.push (gsObj w) }) (A := A.in1) ns (by simp [hh]) hS (hl.push _) (Nat.ne_of_lt hlS) hit hb fun h' tk c hS' hc hk => ?_
        exact ⟨rfl, h', tk, c, rfl, hS', hc, fun b o e => hk b o (Nat.ne_of_lt (Heap.lt_size e)) (Heap.get?_push_of_some _ e)⟩
      · cases r₂ with
        | error e => exact hr₂
        | ok fl₂ =>
          cases fl₂ with
          | ret r =>
            obtain ⟨rfl, h', tk, c', rfl, hS', hc', hk'⟩ := hr₂
            repeat (any_goals (first | assumption | wp_step))
            exact h _ _ _ hS' hc' hk'
          | _ => exact hr₂.elim
    | _ => exact hr.elim
end
/-- set(xs), xs a list or a tuple of ints -/
def rSetI (K : PySem.W.Frag) (w : World) : List V → Hp → VK → Prop := fun xs H Q => ∃ (l : Addr) (ns : List Int), xs = [.ref l] ∧ (SqL K H l (ns.map V.int) ∨ SqT K H l (ns.map V.int)) ∧ ns.length ≤ 1000 ∧ ∀ p c, H p = none → c ≤ ns.length → Q (.ref p) (upd H p (SetO w p (fun j => decide (j ∈ ns)) c))
theorem cr_setI {X : Cx} (hc : X.calm = true) : CallR X (.type "set") (rSetI X.K X.w) := by
  intro pins s σ H xs us Q I r h
  obtain ⟨l, ns, rfl, hq, hl, q⟩ := h
  obtain ⟨u, rfl, ru⟩ := r.one
  obtain rfl : u = Value.ref l := ru
  have fin : ∀ (h' : Heap) (tk c : Nat), SetR X.w h' s.heap.objs.size (fun j => decide (j ∈ ns)) c → c ≤ ns.length → (∀ b o, s.heap.get? b = some o → h'.get? b = some o) → EP X pins σ Q (.ref s.heap.objs.size) { s with heap := h', toks := tk } := fun h' tk c R hc k =>
    ⟨.ref s.heap.objs.size, _, I.laid (t' := tk) k (Nat.le_refl _) (setO_new R), rfl, q _ c (I.hok.fresh (Nat.le_refl _)) hc⟩
  have hb : ns.length + 1 < scanBound := by unfold scanBound; omega
  rcases hq with hq | hq
  · obtain ⟨its, rv, pl, hz⟩ := I.list hq
    exact call_set_lstI ns (I.ok.hd hc) pl.isList (by simpa using intsAre_of rv) hb fin
  · obtain ⟨its, rv, pl, hz⟩ := I.tuple hq
    exact call_set_tupI ns (I.ok.hd hc) pl (by simpa using intsAre_of rv) hb fin
/-- len(a set of ints) -/
theorem cr_lenSet {X : Cx} : CallR X (.builtin "len") (fun xs H Q => ∃ a S n, xs = [.ref a] ∧ H a = some (SetO X.w a S n) ∧ ∀ ks : List Int, ks.Nodup → (∀ k, k ∈ ks ↔ S k = true) → ks.length = n → Q (.int (n : Nat)) H) := by
  intro pins s σ H xs us Q I r h
  obtain ⟨a, S, n, rfl, ha, q⟩ := h
  obtain ⟨u, rfl, ru⟩ := r.one
  obtain rfl : u = Value.ref a := ru
  obtain ⟨o, es, ep, t, ho, hx, hd, g, nd, hm, hb, hf, hn, _⟩ := setO_get I ha
  have hlen : es.toList.length = n := by rw [Array.length_toList]; exact hn
  exact call_len_set ho hx hd hf (by unfold scanBound at hb; omega) ⟨.int (n : Nat), H, I.tok _, ⟨_, by rw [hn]⟩, q (es.toList.map keyOf) nd (fun k => (hm k).symm) (by rw [List.length_map]; exact hlen)⟩
end L2
namespace GG
open PySem PySem.Spec PyProof.Rows L2
/-! ### ascending, each once -/
def insI (k : Int) : List Int → List Int
  | [] => [k]
  | x :: r => cond (decide (k < x)) (k :: x :: r) (cond (decide (k = x)) (x :: r) (x :: insI k r))
def ascI (l : List Int) : List Int := l.foldr insI []
theorem mem_insI {k j : Int} : ∀ {l : List Int}, j ∈ insI k l ↔ j = k ∨ j ∈ l
  | [] => by simp [insI]
  | x :: r => by
    unfold insI
    by_cases h1 : k < x
    · rw [decide_eq_true h1]; simp
    · rw [decide_eq_false h1]
      by_cases h2 : k = x
      · rw [decide_eq_true h2]; subst h2; simp
      · rw [decide_eq_false h2]
        show j ∈ x :: insI k r ↔ _
        rw [List.mem_cons, mem_insI, List.mem_cons]
        constructor
        · rintro (h | h | h) <;> simp [h]
        · rintro (h | h | h) <;> simp [h]
theorem insI_sorted {k : Int} : ∀ {l : List Int}, l.Pairwise (· < ·) → (insI k l).Pairwise (· < ·)
  | [], _ => by simp [insI]
  | x :: r, h => by
    obtain ⟨hx, hr⟩ := List.pairwise_cons.mp h
    unfold insI
    by_cases h1 : k < x
    · rw [decide_eq_true h1]
      refine List.pairwise_cons.mpr ⟨fun y hy => ?_, h⟩
      rcases List.mem_cons.mp hy with e | hy
      · rw [e]; exact h1
      · have := hx y hy; omega
    · rw [decide_eq_false h1]
      by_cases h2 : k = x
      · rw [decide_eq_true h2]; exact h
      · rw [decide_eq_false h2]
        refine List.pairwise_cons.mpr ⟨fun y hy => ?_, insI_sorted hr⟩
        rcases mem_insI.mp hy with e | hy
        · rw [e]; omega
        · exact hx y hy
theorem mem_ascI {j : Int} : ∀ {l : List Int}, j ∈ ascI l ↔ j ∈ l
  | [] => by simp [ascI]
  | x :: r => by
    show j ∈ insI x (ascI r) ↔ _
    rw [mem_insI, mem_ascI, List.mem_cons]
theorem ascI_sorted : ∀ (l : List Int), (ascI l).Pairwise (· < ·)
  | [] => List.Pairwise.nil
  | x :: r => insI_sorted (ascI_sorted r)
theorem asc_uniq : ∀ {a b : List Int}, a.Pairwise (· < ·) → b.Pairwise (· < ·) → (∀ k, k ∈ a ↔ k ∈ b) → a = b
  | [], [], _, _, _ => rfl
  | [], y :: b, _, _, h => by have := (h y).mpr (by simp); simp at this
  | x :: a, [], _, _, h => by have := (h x).mp (by simp); simp at this
  | x :: a, y :: b, ha, hb, h => by
    obtain ⟨hx, ha'⟩ := List.pairwise_cons.mp ha
    obtain ⟨hy, hb'⟩ := List.pairwise_cons.mp hb
    have e : x = y := by
      have h1 := (h x).mp (by simp)
      have h2 := (h y).mpr (by simp)
      rcases List.mem_cons.mp h1 with e | h1
      · exact e
      · rcases List.mem_cons.mp h2 with e | h2
        · exact e.symm
        · have := hy x h1; have := hx y h2; omega
    subst e
    rw [asc_uniq ha' hb' fun k => ?_]
    constructor
    · intro hk
      rcases List.mem_cons.mp ((h k).mp (List.mem_cons_of_mem _ hk)) with e | hk'
      · have := hx k hk; omega
      · exact hk'
    · intro hk
      rcases List.mem_cons.mp ((h k).mpr (List.mem_cons_of_mem _ hk)) with e | hk'
      · have := hy k hk; omega
      · exact hk'
theorem lt_nodup {a : List Int} (h : a.Pairwise (· < ·)) : a.Nodup := h.imp fun h => by omega
/-- the ints of a row of values -/
def intsU : List U → Option (List Int)
  | [] => some []
  | .int i :: r => (intsU r).map (i :: ·)
  | _ :: _ => none
theorem intsU_imp {K : PySem.W.Frag} {ρ : List Addr} {H : Hp} : ∀ {l : List U} {vs : List V} {ns : List Int}, intsU l = some ns → RUl K ρ H l vs → vs = ns.map V.int
  | [], _, _, e, q => by cases e; exact q
  | u :: l, vs, ns, e, ⟨v, r, ev, qv, q⟩ => by
    cases u with
    | int i =>
      have e : (intsU l).map (i :: ·) = some ns := e
      rw [Option.map_eq_some_iff] at e
      obtain ⟨ms, e1, rfl⟩ := e
      rw [ev, intsU_imp e1 q, show v = V.int i from qv] <;> rfl
    | _ => cases e
theorem ru_ints {K : PySem.W.Frag} {ρ : List Addr} {H : Hp} : ∀ (ns : List Int), RUl K ρ H (ns.map U.int) (ns.map V.int)
  | [] => rfl
  | _ :: _ => ⟨_, _, rfl, rfl, ru_ints _⟩
section
variable {X : Cx} {cls : Nat → Addr} {W : WX} {pos p p2 q : Pos} {e : Expr} {me : Ev}
/-- the ints of a sequence, not too many -/
def seqInts (b : Nat) (h : Hq) (u : U) : Option (List Int) := match seqU h u with
  | some l => match intsU l with
    | some ns => cond (Nat.blt ns.length b) (some ns) none
    | none => none
  | none => none
theorem seqInts_imp {K : PySem.W.Frag} {ρ : List Addr} {h : Hq} {H : Hp} {u : U} {v : V} {ns : List Int} {b : Nat} (r : Rel K cls ρ h H) (q : RU K ρ H u v) (e : seqInts b h u = some ns) : ns.length < b ∧ ∃ a, v = .ref a ∧ (SqL K H a (ns.map V.int) ∨ SqT K H a (ns.map V.int)) := by
  unfold seqInts at e
  cases e1 : seqU h u with
  | none => rw [e1] at e; cases e
  | some l =>
    simp only [e1] at e
    cases e2 : intsU l with
    | none => rw [e2] at e; cases e
    | some ms =>
      simp only [e2] at e
      cases e3 : Nat.blt ms.length b with
      | false => rw [e3] at e; cases e
      | true =>
        rw [e3] at e; cases e
        obtain ⟨a, vs, rfl, t, ql⟩ := seqU_imp r q e1
        rw [intsU_imp e2 ql] at t
        exact ⟨Nat.le_of_ble_eq_true e3, a, rfl, t.symm⟩
/-- sorted(set(e)) -/
def evSSet (me : Ev) : Ev := fun us h => (me us h).bind fun u h1 => match seqInts 64 h1 u with
  | some ns => .ok (.ref h1.length) (h1 ++ [HU.lst ((ascI ns).map .int)])
  | none => .bad
/-- len(set(e)) -/
def evLSet (me : Ev) : Ev := fun us h => (me us h).bind fun u h1 => match seqInts 1000 h1 u with
  | some ns => .ok (.int ((ascI ns).length : Nat)) h1
  | none => .bad
theorem sset_imp {K : PySem.W.Frag} {w : World} {W : WX} (σ : L2.St) (H : Hp) (Q : VK) (hw : tE K cls W (evSSet me) σ H Q) : tCB (rSortedSet w) (fun σ H Q => tCB (rSetI K w) (tA K cls W (eaCons me eaNil)) σ H fun x H1 => Q [x] H1) σ H Q := by
  obtain ⟨us, h, ρ, a, p⟩ := hw
  refine ⟨us, h, ρ, a, ?_⟩
  unfold evSSet at p
  show Post K cls W (RUl K) ρ σ H _ ((me us h).bind fun u h1 => (eaNil us h1).bind fun l h2 => .ok (u :: l) h2)
  cases em : me us h with
  | bad => rw [em] at p; exact p
  | exc x h1 => rw [em] at p; exact p
  | ok u h1 =>
    rw [em] at p
    intro vs H1 ρ1 s1 r1 ql
    obtain ⟨v, t, rfl, qv, qt⟩ := ql
    obtain rfl : t = [] := qt
    have p1 : Post K cls W (RU K) ρ1 σ H1 Q (match seqInts 64 h1 u with
      | some ns => .ok (.ref h1.length) (h1 ++ [HU.lst ((ascI ns).map .int)])
      | none => .bad) := Post.step s1 p
    cases en : seqInts 64 h1 u with
    | none => rw [en] at p1; exact p1.elim
    | some ns =>
      rw [en] at p1
      obtain ⟨hlt, b, rfl, hq⟩ := seqInts_imp r1 qv en
      refine ⟨b, ns, rfl, hq, by omega, fun p c hp hc => ⟨p, _, c, rfl, upd_same, by omega, fun ms p2 hs hm hl hp2 => ?_⟩⟩
      have em : ms = ascI ns := asc_uniq hs (ascI_sorted ns) fun k => by rw [hm k, mem_ascI]; simp
      subst em
      obtain ⟨r2, s2⟩ := r1.other (o := SetO w p (fun j => decide (j ∈ ns)) c) hp
      obtain ⟨r3, s3⟩ := r2.push (o := .lst ((ascI ns).map V.int)) (u := .lst ((ascI ns).map .int)) hp2 ⟨_, upd_same, ru_ints _⟩
      exact p1 (.ref p2) _ _ (s2.trans s3) r3 ⟨p2, by rw [← r1.len]; exact get_last _ _, rfl⟩
theorem se_sset (hc : X.calm = true) (hm : X.mg "sorted" = none) (hm2 : X.mg "set" = none) (he : SE X cls W e me) (hg : Gl X "sorted" := by rfl) (hg2 : Gl X "set" := by rfl)
    (na : starEach [e] X.env = (false, eval e X.env) :: starEach [] X.env := by rfl) (hpl : (backTo q (starEach [] X.env)).any (·.1) = false := by rfl)
    (na2 : starEach [.Call (.Name "set" p2) [e] [] q] X.env = (false, eval (.Call (.Name "set" p2) [e] [] q) X.env) :: starEach [] X.env := by rfl) (hpl2 : (backTo pos (starEach [] X.env)).any (·.1) = false := by rfl) :
    SE X cls W (.Call (.Name "sorted" p) [.Call (.Name "set" p2) [e] [] q] [] pos) (evSSet me) :=
  pe_imp (pe_callB (cr_sortedSet hc) hg hm (by decide +kernel) (pa_imp (pa_cons (pe_callTy (cr_setI hc) hg2 hm2 (by decide +kernel) (sa_cons he sa_nil na) (by decide) (by decide) na hpl) pa_nil na2) fun σ H Q h => h) (by decide) (by decide) na2 hpl2) sset_imp
theorem lset_imp {K : PySem.W.Frag} {w : World} {W : WX} (σ : L2.St) (H : Hp) (Q : VK) (hw : tE K cls W (evLSet me) σ H Q) :
    tCB (fun xs H Q => ∃ a S n, xs = [.ref a] ∧ H a = some (SetO w a S n) ∧ ∀ ks : List Int, ks.Nodup → (∀ k, k ∈ ks ↔ S k = true) → ks.length = n → Q (.int (n : Nat)) H) (fun σ H Q => tCB (rSetI K w) (tA K cls W (eaCons me eaNil)) σ H fun x H1 => Q [x] H1) σ H Q := by
  obtain ⟨us, h, ρ, a, p⟩ := hw
  refine ⟨us, h, ρ, a, ?_⟩
  unfold evLSet at p
  show Post K cls W (RUl K) ρ σ H _ ((me us h).bind fun u h1 => (eaNil us h1).bind fun l h2 => .ok (u :: l) h2)
  cases em : me us h with
  | bad => rw [em] at p; exact p
  | exc x h1 => rw [em] at p; exact p
  | ok u h1 =>
    rw [em] at p
    intro vs H1 ρ1 s1 r1 ql
    obtain ⟨v, t, rfl, qv, qt⟩ := ql
    obtain rfl : t = [] := qt
    have p1 : Post K cls W (RU K) ρ1 σ H1 Q (match seqInts 1000 h1 u with
      | some ns => .ok (.int ((ascI ns).length : Nat)) h1
      | none => .bad) := Post.step s1 p
    cases en : seqInts 1000 h1 u with
    | none => rw [en] at p1; exact p1.elim
    | some ns =>
      rw [en] at p1
      obtain ⟨hlt, b, rfl, hq⟩ := seqInts_imp r1 qv en
      refine ⟨b, ns, rfl, hq, by omega, fun p c hp hc => ⟨p, _, c, rfl, upd_same, fun ks nd hm hl => ?_⟩⟩
      have e1 : (ascI ns).length = c := by
        rw [← hl]
        exact ((List.perm_ext_iff_of_nodup (lt_nodup (ascI_sorted ns)) nd).mpr fun k => by rw [mem_ascI, hm k]; simp).length_eq
      subst e1
      obtain ⟨r2, s2⟩ := r1.other (o := SetO w p (fun j => decide (j ∈ ns)) (ascI ns).length) hp
      exact p1 (.int ((ascI ns).length : Nat)) _ _ s2 r2 rfl
theorem se_lset (hc : X.calm = true) (hm : X.mg "len" = none) (hm2 : X.mg "set" = none) (he : SE X cls W e me) (hg : Gl X "len" := by rfl) (hg2 : Gl X "set" := by rfl)
    (na : starEach [e] X.env = (false, eval e X.env) :: starEach [] X.env := by rfl) (hpl : (backTo q (starEach [] X.env)).any (·.1) = false := by rfl)
    (na2 : starEach [.Call (.Name "set" p2) [e] [] q] X.env = (false, eval (.Call (.Name "set" p2) [e] [] q) X.env) :: starEach [] X.env := by rfl) (hpl2 : (backTo pos (starEach [] X.env)).any (·.1) = false := by rfl) :
    SE X cls W (.Call (.Name "len" p) [.Call (.Name "set" p2) [e] [] q] [] pos) (evLSet me) :=
  pe_imp (pe_callB cr_lenSet hg hm (by decide +kernel) (pa_imp (pa_cons (pe_callTy (cr_setI hc) hg2 hm2 (by decide +kernel) (sa_cons he sa_nil na) (by decide) (by decide) na hpl) pa_nil na2) fun σ H Q h => h) (by decide) (by decide) na2 hpl2) lset_imp
end
end GG
/-! GSeqEq -/
namespace GGQ
open PySem PySem.SeqAt
open AutoSeq1 (wpAny_loadPart')
open MeetsSeq MeetsSeq2 MeetsSeq3 SeqRoads2
open GQ (FinOf)
section
variable {prog : Program} {w : World} {A : Around} {R : Result → Shared → Prop}
/-- the two lists stand, N items each -/
def Two (l b : Addr) (N : Nat) (s : Shared) (items items2 : Array Value) : Prop := ∃ (n n2 : Nat), s.heap.get? l = some { cls := .type "list", data := .seq items n } ∧ s.heap.get? b = some { cls := .type "list", data := .seq items2 n2 } ∧ items.size = N ∧ items2.size = N
/-- at each turn the two lists are read anew; J i: the i-th two are unequal -/
def ListD (prog : Program) (w : World) (A : Around) (E : Value → Shared → Prop) (l b : Addr) (N : Nat) (I J : Nat → Shared → Prop) : Prop :=
  (∀ i s, I i s → ∃ (items items2 : Array Value), Two l b N s items items2 ∧
    ∀ (h1 : i < items.size) (h2 : i < items2.size), wpAny (model prog w) A.in1 (eqBool items[i] items2[i]) (fun r s' => (r = true ∧ I (i + 1) s') ∨ (r = false ∧ J i s')) E s) ∧
  (∀ i s, J i s → ∃ (items items2 : Array Value), Two l b N s items items2)

theorem eq_loopD (l b : Addr) (N : Nat) (I J : Nat → Shared → Prop) (hl : ListD prog w A (fun e s' => R (.error e) s') l b N I J)
    (fin : ∀ s, I N s → R (.ok (.ret (.bool true))) s) (finJ : ∀ i s, i < N → J i s → R (.ok (.ret (.bool false))) s) (k : Nat) :
    ∀ i : Nat, N - i = k → i ≤ N → ∀ s, I i s →
      wpAny (model prog w) A.in1 (Builtin.«list.__eq__.loop» ⟨[.ref l, .ref b, rawInt i, rawInt 2], []⟩) (FinOf prog w A R) (fun e s' => R (.error e) s') s := by
  induction k with
  | zero =>
    intro i hk hi s h
    obtain ⟨items, items2, ⟨n, n2, hl1, hb1, hs1, hs2⟩, _⟩ := hl.1 _ _ h
    have hi' : i = N := by omega
    have hR : R (.ok (.ret (.bool true))) s := fin s (hi' ▸ h)
    obtain ⟨hp, g, d, tk, os⟩ := s
    wp_walk using wpAny_loadPart' hl1, wpAny_loadPart' hb1
    have hi1 : items[((i : Nat) : Int).toNat]? = none := by simp; omega
    have hi2 : items2[((i : Nat) : Int).toNat]? = none := by simp; omega
    rw [hi1, hi2]
    wp_walk using wpAny_loadPart' hl1, wpAny_loadPart' hb1
    show R (.ok (.ret (.bool (items.size == items2.size)))) _
    rw [hs1, hs2]
    simpa using hR
  | succ k ih =>
    intro i hk hi s h
    obtain ⟨items, items2, ⟨n, n2, hl1, hb1, hs1, hs2⟩, turn⟩ := hl.1 _ _ h
    have hlt : i < items.size := by omega
    have hlt2 : i < items2.size := by omega
    have ht := turn hlt hlt2
    obtain ⟨hp, g, d, tk, os⟩ := s
    wp_walk using wpAny_loadPart' hl1, wpAny_loadPart' hb1
    have hi1 : items[((i : Nat) : Int).toNat]? = some items[i] := by simp [hlt]
    have hi2 : items2[((i : Nat) : Int).toNat]? = some items2[i] := by simp [hlt2]
    have hc : ((i : Int) + 1) = ((i + 1 : Nat) : Int) := by omega
    rw [hi1, hi2]
    refine wpAny_bind (wpAny_mono ht (fun r s2 h2 => ?_) fun _ _ x => x)
    rcases h2 with ⟨hr, h2⟩ | ⟨hr, h2⟩
    · subst hr
      have hrec := ih (i + 1) (by omega) (by omega) s2 h2
      obtain ⟨hp2, g2, d2, tk2, os2⟩ := s2
      wp_walk
      rw [hc]
      exact ⟨plainId_quiet plain_eq_loop _, codeAny_builtin entry_eq_loop (by
        rw [Around.under_plainId plain_eq_loop _]
        exact hrec)⟩
    · subst hr
      have hR := finJ i s2 (by omega) h2
      obtain ⟨it3, it4, m, m2, hl3, hb3, hs3, hs4⟩ := hl.2 _ _ h2
      obtain ⟨hp2, g2, d2, tk2, os2⟩ := s2
      wp_walk using wpAny_loadPart' hl3, wpAny_loadPart' hb3
      have hlt3 : i < it3.size := by omega
      have hlt4 : i < it4.size := by omega
      have hi3 : it3[((i : Nat) : Int).toNat]? = some it3[i] := by simp [hlt3]
      have hi4 : it4[((i : Nat) : Int).toNat]? = some it4[i] := by simp [hlt4]
      rw [hi3, hi4]
      wp_walk
      exact hR
theorem list_eqD (l b : Addr) (N : Nat) (I J : Nat → Shared → Prop) (hl : ListD prog w A (fun e s' => R (.error e) s') l b N I J)
    (fin : ∀ s, I N s → R (.ok (.ret (.bool true))) s) (finJ : ∀ i s, i < N → J i s → R (.ok (.ret (.bool false))) s) {s : Shared} (h : I 0 s) :
    wpAny (model prog w) A.in1 (Builtin.«list.__eq__» ⟨[.ref l, .ref b], []⟩) (FinOf prog w A R) (fun e s' => R (.error e) s') s := by
  obtain ⟨items, items2, ⟨n, n2, hl1, hb1, hs1, hs2⟩, _⟩ := hl.1 _ _ h
  have hrec := eq_loopD (A := A) (R := R) l b N I J hl fin finJ _ 0 rfl (Nat.zero_le _) s h
  obtain ⟨hp, g, d, tk, os⟩ := s
  have f3 := AutoSeq1.sub_list_list
  have hne : ¬ (items.size != items2.size) = true := by simp [hs1, hs2]
  wp_walk using wpAny_loadPart' hl1, wpAny_loadPart' hb1
  exact ⟨plainId_quiet plain_eq_loop _, codeAny_builtin entry_eq_loop (by
    rw [Around.under_plainId plain_eq_loop _]
    exact hrec)⟩
theorem tuple_eqD (l b : Addr) (items items2 : Array Value) (n n2 : Nat) (dd dd2 : Option Addr) (sl sl2 : Array (Option Value)) (I J : Nat → Shared → Prop)
    (turn : ∀ i (h1 : i < items.size) (h2 : i < items2.size) s, I i s → wpAny (model prog w) A.in1 (eqBool items[i] items2[i]) (fun r s' => (r = true ∧ I (i + 1) s') ∨ (r = false ∧ J i s')) (fun e s' => R (.error e) s') s)
    (fin : ∀ s, I (min items.size items2.size) s → R (.ok (.ret (.bool (items.size == items2.size)))) s) (finJ : ∀ i s, i < items.size → i < items2.size → J i s → R (.ok (.ret (.bool false))) s)
    {s : Shared} (hl1 : s.heap.get? l = some { cls := .type "tuple", dict := dd, data := .seq items n, slots := sl }) (hb1 : s.heap.get? b = some { cls := .type "tuple", dict := dd2, data := .seq items2 n2, slots := sl2 }) (h : I 0 s) :
    wpAny (model prog w) A.in1 (Builtin.«tuple.__eq__» ⟨[.ref l, .ref b], []⟩) (FinOf prog w A R) (fun e s' => R (.error e) s') s := by
  have f2 := AutoSeq1.sub_tuple_tuple
  have hZ : (items.toList.zip items2.toList).length = min items.size items2.size := by simp
  have h0 := h
  obtain ⟨hp, g, d, tk, os⟩ := s
  wp_walk using wpAny_loadPart' hl1, wpAny_loadPart' hb1, wpAny_forIn_list _ (fun rest b s' => b.1 = none ∧ ∃ i, rest = (items.toList.zip items2.toList).drop i ∧ i ≤ min items.size items2.size ∧ I i s') _
  case turn =>
    rintro ⟨y, x⟩ rest b s' ⟨hb', i, hz, hi, hI⟩
    have hlt : i < (items.toList.zip items2.toList).length := by
      rcases Nat.lt_or_ge i (items.toList.zip items2.toList).length with h' | h'
      · exact h'
      · rw [List.drop_of_length_le h'] at hz; cases hz
    have h1 : i < items.size := by omega
    have h2 : i < items2.size := by omega
    rw [List.drop_eq_getElem_cons hlt] at hz
    injection hz with hyx hrest
    have hy : y = items[i] := by have := congrArg Prod.fst hyx; simpa using this
    have hx : x = items2[i] := by have := congrArg Prod.snd hyx; simpa using this
    subst hy hx
    refine wpAny_bind (wpAny_mono (turn i h1 h2 s' hI) (fun r s2 q2 => ?_) fun _ _ x => x)
    rcases q2 with ⟨hr, q2⟩ | ⟨hr, q2⟩
    · subst hr
      wp_walk
      exact ⟨rfl, i + 1, hrest, by omega, q2⟩
    · subst hr
      have hR := finJ i s2 h1 h2 q2
      wp_walk
      exact hR
  case fin =>
    rintro ⟨b1, b2⟩ s' ⟨hb', i, hz, hi, hI⟩
    simp only at hb'
    subst hb'
    have hge : min items.size items2.size ≤ i := by
      rcases Nat.lt_or_ge i (items.toList.zip items2.toList).length with h' | h'
      · rw [List.drop_eq_getElem_cons h'] at hz; cases hz
      · exact hZ ▸ h'
    have hi' : i = min items.size items2.size := by omega
    have hR := fin s' (hi' ▸ hI)
    wp_walk
    simpa [Builtin.Tuple.tupleCompareSizes] using hR
  case h =>
    exact ⟨rfl, 0, rfl, Nat.zero_le _, h0⟩

theorem ne_loopD (l b : Addr) (N : Nat) (I J : Nat → Shared → Prop) (hl : ListD prog w A (fun e s' => R (.error e) s') l b N I J)
    (fin : ∀ s, I N s → R (.ok (.ret (.bool false))) s) (finJ : ∀ i s, i < N → J i s → R (.ok (.ret (.bool true))) s) (k : Nat) :
    ∀ i : Nat, N - i = k → i ≤ N → ∀ s, I i s →
      wpAny (model prog w) A.in1 (Builtin.«list.__eq__.loop» ⟨[.ref l, .ref b, rawInt i, rawInt 3], []⟩) (FinOf prog w A R) (fun e s' => R (.error e) s') s := by
  induction k with
  | zero =>
    intro i hk hi s h
    obtain ⟨items, items2, ⟨n, n2, hl1, hb1, hs1, hs2⟩, _⟩ := hl.1 _ _ h
    have hi' : i = N := by omega
    have hR : R (.ok (.ret (.bool false))) s := fin s (hi' ▸ h)
    obtain ⟨hp, g, d, tk, os⟩ := s
    wp_walk using wpAny_loadPart' hl1, wpAny_loadPart' hb1
    have hi1 : items[((i : Nat) : Int).toNat]? = none := by simp; omega
    have hi2 : items2[((i : Nat) : Int).toNat]? = none := by simp; omega
    rw [hi1, hi2]
    wp_walk using wpAny_loadPart' hl1, wpAny_loadPart' hb1
    show R (.ok (.ret (.bool (items.size != items2.size)))) _
    rw [hs1, hs2]
    simpa using hR
  | succ k ih =>
    intro i hk hi s h
    obtain ⟨items, items2, ⟨n, n2, hl1, hb1, hs1, hs2⟩, turn⟩ := hl.1 _ _ h
    have hlt : i < items.size := by omega
    have hlt2 : i < items2.size := by omega
    have ht := turn hlt hlt2
    obtain ⟨hp, g, d, tk, os⟩ := s
    wp_walk using wpAny_loadPart' hl1, wpAny_loadPart' hb1
    have hi1 : items[((i : Nat) : Int).toNat]? = some items[i] := by simp [hlt]
    have hi2 : items2[((i : Nat) : Int).toNat]? = some items2[i] := by simp [hlt2]
    have hc : ((i : Int) + 1) = ((i + 1 : Nat) : Int) := by omega
    rw [hi1, hi2]
    refine wpAny_bind (wpAny_mono ht (fun r s2 h2 => ?_) fun _ _ x => x)
    rcases h2 with ⟨hr, h2⟩ | ⟨hr, h2⟩
    · subst hr
      have hrec := ih (i + 1) (by omega) (by omega) s2 h2
      obtain ⟨hp2, g2, d2, tk2, os2⟩ := s2
      wp_walk
      rw [hc]
      exact ⟨plainId_quiet plain_eq_loop _, codeAny_builtin entry_eq_loop (by
        rw [Around.under_plainId plain_eq_loop _]
        exact hrec)⟩
    · subst hr
      have hR := finJ i s2 (by omega) h2
      obtain ⟨it3, it4, m, m2, hl3, hb3, hs3, hs4⟩ := hl.2 _ _ h2
      obtain ⟨hp2, g2, d2, tk2, os2⟩ := s2
      wp_walk using wpAny_loadPart' hl3, wpAny_loadPart' hb3
      have hlt3 : i < it3.size := by omega
      have hlt4 : i < it4.size := by omega
      have hi3 : it3[((i : Nat) : Int).toNat]? = some it3[i] := by simp [hlt3]
      have hi4 : it4[((i : Nat) : Int).toNat]? = some it4[i] := by simp [hlt4]
      rw [hi3, hi4]
      wp_walk
      exact hR
theorem list_neD (l b : Addr) (N : Nat) (I J : Nat → Shared → Prop) (hl : ListD prog w A (fun e s' => R (.error e) s') l b N I J)
    (fin : ∀ s, I N s → R (.ok (.ret (.bool false))) s) (finJ : ∀ i s, i < N → J i s → R (.ok (.ret (.bool true))) s) {s : Shared} (h : I 0 s) :
    wpAny (model prog w) A.in1 (Builtin.«list.__ne__» ⟨[.ref l, .ref b], []⟩) (FinOf prog w A R) (fun e s' => R (.error e) s') s := by
  obtain ⟨items, items2, ⟨n, n2, hl1, hb1, hs1, hs2⟩, _⟩ := hl.1 _ _ h
  have hrec := ne_loopD (A := A) (R := R) l b N I J hl fin finJ _ 0 rfl (Nat.zero_le _) s h
  obtain ⟨hp, g, d, tk, os⟩ := s
  have f3 := AutoSeq1.sub_list_list
  have hne : ¬ (items.size != items2.size) = true := by simp [hs1, hs2]
  wp_walk using wpAny_loadPart' hl1, wpAny_loadPart' hb1
  exact ⟨plainId_quiet plain_eq_loop _, codeAny_builtin entry_eq_loop (by
    rw [Around.under_plainId plain_eq_loop _]
    exact hrec)⟩
theorem tuple_neD (l b : Addr) (items items2 : Array Value) (n n2 : Nat) (dd dd2 : Option Addr) (sl sl2 : Array (Option Value)) (I J : Nat → Shared → Prop)
    (turn : ∀ i (h1 : i < items.size) (h2 : i < items2.size) s, I i s → wpAny (model prog w) A.in1 (eqBool items[i] items2[i]) (fun r s' => (r = true ∧ I (i + 1) s') ∨ (r = false ∧ J i s')) (fun e s' => R (.error e) s') s)
    (fin : ∀ s, I (min items.size items2.size) s → R (.ok (.ret (.bool (items.size != items2.size)))) s) (finJ : ∀ i s, i < items.size → i < items2.size → J i s → R (.ok (.ret (.bool true))) s)
    {s : Shared} (hl1 : s.heap.get? l = some { cls := .type "tuple", dict := dd, data := .seq items n, slots := sl }) (hb1 : s.heap.get? b = some { cls := .type "tuple", dict := dd2, data := .seq items2 n2, slots := sl2 }) (h : I 0 s) :
    wpAny (model prog w) A.in1 (Builtin.«tuple.__ne__» ⟨[.ref l, .ref b], []⟩) (FinOf prog w A R) (fun e s' => R (.error e) s') s := by
  have f2 := AutoSeq1.sub_tuple_tuple
  have hZ : (items.toList.zip items2.toList).length = min items.size items2.size := by simp
  have h0 := h
  obtain ⟨hp, g, d, tk, os⟩ := s
  wp_walk using wpAny_loadPart' hl1, wpAny_loadPart' hb1, wpAny_forIn_list _ (fun rest b s' => b.1 = none ∧ ∃ i, rest = (items.toList.zip items2.toList).drop i ∧ i ≤ min items.size items2.size ∧ I i s') _
  case turn =>
    rintro ⟨y, x⟩ rest b s' ⟨hb', i, hz, hi, hI⟩
    have hlt : i < (items.toList.zip items2.toList).length := by
      rcases Nat.lt_or_ge i (items.toList.zip items2.toList).length with h' | h'
      · exact h'
      · rw [List.drop_of_length_le h'] at hz; cases hz
    have h1 : i < items.size := by omega
    have h2 : i < items2.size := by omega
    rw [List.drop_eq_getElem_cons hlt] at hz
    injection hz with hyx hrest
    have hy : y = items[i] := by have := congrArg Prod.fst hyx; simpa using this
    have hx : x = items2[i] := by have := congrArg Prod.snd hyx; simpa using this
    subst hy hx
    refine wpAny_bind (wpAny_mono (turn i h1 h2 s' hI) (fun r s2 q2 => ?_) fun _ _ x => x)
    rcases q2 with ⟨hr, q2⟩ | ⟨hr, q2⟩
    · subst hr
      wp_walk
      exact ⟨rfl, i + 1, hrest, by omega, q2⟩
    · subst hr
      have hR := finJ i s2 h1 h2 q2
      wp_walk
      exact hR
  case fin =>
    rintro ⟨b1, b2⟩ s' ⟨hb', i, hz, hi, hI⟩
    simp only at hb'
    subst hb'
    have hge : min items.size items2.size ≤ i := by
      rcases Nat.lt_or_ge i (items.toList.zip items2.toList).length with h' | h'
      · rw [List.drop_eq_getElem_cons h'] at hz; cases hz
      · exact hZ ▸ h'
    have hi' : i = min items.size items2.size := by omega
    have hR := fin s' (hi' ▸ hI)
    wp_walk
    simpa [Builtin.Tuple.tupleCompareSizes] using hR
  case h =>
    exact ⟨rfl, 0, rfl, Nat.zero_le _, h0⟩

/-! ### in -/
theorem contains_loopD (l : Addr) (x : Value) (N : Nat) (I J : Nat → Shared → Prop) (hl : ∀ i s, I i s → ∃ (items : Array Value) (n : Nat), s.heap.get? l = some { cls := .type "list", data := .seq items n } ∧ items.size = N ∧
      ∀ (h1 : i < items.size), wpAny (model prog w) A.in1 (eqBool items[i] x) (fun r s' => (r = false ∧ I (i + 1) s') ∨ (r = true ∧ J i s')) (fun e s' => R (.error e) s') s)
    (fin : ∀ s, I N s → R (.ok (.ret (.bool false))) s) (finJ : ∀ i s, i < N → J i s → R (.ok (.ret (.bool true))) s) (k : Nat) :
    ∀ i : Nat, N - i = k → i ≤ N → ∀ s, I i s →
      wpAny (model prog w) A.in1 (Builtin.«list.__contains__.loop» ⟨[.ref l, x, rawInt i], []⟩) (FinOf prog w A R) (fun e s' => R (.error e) s') s := by
  induction k with
  | zero =>
    intro i hk hi s h
    obtain ⟨items, n, hl1, hs1, _⟩ := hl _ _ h
    have hi' : i = N := by omega
    have hR := fin s (hi' ▸ h)
    obtain ⟨hp, g, d, tk, os⟩ := s
    wp_walk using wpAny_loadPart' hl1
    have hi1 : items[((i : Nat) : Int).toNat]? = none := by simp; omega
    rw [hi1]
    wp_walk
    exact hR
  | succ k ih =>
    intro i hk hi s h
    obtain ⟨items, n, hl1, hs1, turn⟩ := hl _ _ h
    have hlt : i < items.size := by omega
    have ht := turn hlt
    obtain ⟨hp, g, d, tk, os⟩ := s
    wp_walk using wpAny_loadPart' hl1
    have hi1 : items[((i : Nat) : Int).toNat]? = some items[i] := by simp [hlt]
    have hc : ((i : Int) + 1) = ((i + 1 : Nat) : Int) := by omega
    rw [hi1]
    refine wpAny_bind (wpAny_mono ht (fun r s2 h2 => ?_) fun _ _ x => x)
    rcases h2 with ⟨hr, h2⟩ | ⟨hr, h2⟩
    · subst hr
      have hrec := ih (i + 1) (by omega) (by omega) s2 h2
      obtain ⟨hp2, g2, d2, tk2, os2⟩ := s2
      wp_walk
      rw [hc]
      exact ⟨plainId_quiet plain_contains_loop _, codeAny_builtin entry_contains_loop (by
        rw [Around.under_plainId plain_contains_loop _]
        exact hrec)⟩
    · subst hr
      have hR := finJ i s2 (by omega) h2
      wp_walk
      exact hR
theorem list_containsD (l : Addr) (x : Value) (N : Nat) (I J : Nat → Shared → Prop) (hl : ∀ i s, I i s → ∃ (items : Array Value) (n : Nat), s.heap.get? l = some { cls := .type "list", data := .seq items n } ∧ items.size = N ∧
      ∀ (h1 : i < items.size), wpAny (model prog w) A.in1 (eqBool items[i] x) (fun r s' => (r = false ∧ I (i + 1) s') ∨ (r = true ∧ J i s')) (fun e s' => R (.error e) s') s)
    (fin : ∀ s, I N s → R (.ok (.ret (.bool false))) s) (finJ : ∀ i s, i < N → J i s → R (.ok (.ret (.bool true))) s) {s : Shared} (h : I 0 s) :
    wpAny (model prog w) A.in1 (Builtin.«list.__contains__» ⟨[.ref l, x], []⟩) (FinOf prog w A R) (fun e s' => R (.error e) s') s := by
  obtain ⟨items, n, hl1, hs1, _⟩ := hl _ _ h
  have hrec := contains_loopD (A := A) (R := R) l x N I J hl fin finJ _ 0 rfl (Nat.zero_le _) s h
  obtain ⟨hp, g, d, tk, os⟩ := s
  wp_walk using wpAny_loadPart' hl1
  exact ⟨plainId_quiet plain_contains_loop _, codeAny_builtin entry_contains_loop (by
    rw [Around.under_plainId plain_contains_loop _]
    exact hrec)⟩
theorem tuple_containsD (l : Addr) (items : Array Value) (n : Nat) (dd : Option Addr) (sl : Array (Option Value)) (x : Value) (I J : Nat → Shared → Prop)
    (turn : ∀ i (h1 : i < items.size) s, I i s → wpAny (model prog w) A.in1 (eqBool items[i] x) (fun r s' => (r = false ∧ I (i + 1) s') ∨ (r = true ∧ J i s')) (fun e s' => R (.error e) s') s)
    (fin : ∀ s, I items.size s → R (.ok (.ret (.bool false))) s) (finJ : ∀ i s, i < items.size → J i s → R (.ok (.ret (.bool true))) s) {s : Shared}
    (hl1 : s.heap.get? l = some { cls := .type "tuple", dict := dd, data := .seq items n, slots := sl }) (h : I 0 s) :
    wpAny (model prog w) A.in1 (Builtin.«tuple.__contains__» ⟨[.ref l, x], []⟩) (FinOf prog w A R) (fun e s' => R (.error e) s') s := by
  have h0 := h
  obtain ⟨hp, g, d, tk, os⟩ := s
  wp_walk using wpAny_loadPart' hl1, wpAny_forIn_array _ (fun rest b s' => b.1 = none ∧ ∃ i, rest = items.toList.drop i ∧ i ≤ items.size ∧ I i s') _
  case turn =>
    rintro y rest b s' ⟨hb', i, hz, hi, hI⟩
    have hlt : i < items.toList.length := by
      rcases Nat.lt_or_ge i items.toList.length with h' | h'
      · exact h'
      · rw [List.drop_of_length_le h'] at hz; cases hz
    have h1 : i < items.size := by simpa using hlt
    rw [List.drop_eq_getElem_cons hlt] at hz
    injection hz with hyx hrest
    have hy : y = items[i] := by simpa using hyx
    subst hy
    refine wpAny_bind (wpAny_mono (turn i h1 s' hI) (fun r s2 q2 => ?_) fun _ _ x => x)
    rcases q2 with ⟨hr, q2⟩ | ⟨hr, q2⟩
    · subst hr
      wp_walk
      exact ⟨rfl, i + 1, hrest, h1, q2⟩
    · subst hr
      have hR := finJ i s2 h1 q2
      wp_walk
      exact hR
  case fin =>
    rintro ⟨b1, b2⟩ s' ⟨hb', i, hz, hi, hI⟩
    simp only at hb'
    subst hb'
    have hge : items.size ≤ i := by
      rcases Nat.lt_or_ge i items.toList.length with h' | h'
      · rw [List.drop_eq_getElem_cons h'] at hz; cases hz
      · simpa using h'
    have hi' : i = items.size := by omega
    have hR := fin s' (hi' ▸ hI)
    wp_walk
    exact hR
  case h =>
    exact ⟨rfl, 0, by simp, Nat.zero_le _, h0⟩
end
section
variable {prog : Program} {w : World} {A : Around} {E : Value → Shared → Prop} {s : Shared}

theorem rc_list_eqD {l b : Addr} {N : Nat} {Q : Value → Shared → Prop} (hu : A.units < cLine) (I J : Nat → Shared → Prop) (hl : ListD prog w A E l b N I J)
    (fin : ∀ s, I N s → Q (.bool true) s) (finJ : ∀ i s, i < N → J i s → Q (.bool false) s) (h : I 0 s) : wpAny (model prog w) A (richCompare .Eq (.ref l) (.ref b)) Q E s := by
  obtain ⟨items, items2, ⟨n, n2, hl1, hb1, _, _⟩, _⟩ := hl.1 _ _ h
  refine wpAny_richCompare_same_room (op := .Eq) ⟨_, hl1, rfl⟩ ⟨_, hb1, rfl⟩ F.slot_list_eq (GQ.call_here F.slot_list_eq ⟨_, hl1, rfl⟩ F.entry_list_eq (F.args_list_eq_2 _ _) ?_) hu
  exact list_eqD (R := wants (fun v s' => v ≠ .notImplemented ∧ Q v s') E) l b N I J hl (fun s' q => ⟨(fun x => nomatch x), fin s' q⟩) (fun i s' hi q => ⟨(fun x => nomatch x), finJ i s' hi q⟩) h
theorem rc_tup_eqD {l b : Addr} {items items2 : Array Value} {Q : Value → Shared → Prop} (hu : A.units < cLine) (I J : Nat → Shared → Prop)
    (hl : s.heap.IsTuple l items) (hb : s.heap.IsTuple b items2)
    (turn : ∀ i (h1 : i < items.size) (h2 : i < items2.size) s, I i s → wpAny (model prog w) A.in1 (eqBool items[i] items2[i]) (fun r s' => (r = true ∧ I (i + 1) s') ∨ (r = false ∧ J i s')) E s)
    (fin : ∀ s, I (min items.size items2.size) s → Q (.bool (items.size == items2.size)) s) (finJ : ∀ i s, i < items.size → i < items2.size → J i s → Q (.bool false) s) (h : I 0 s) : wpAny (model prog w) A (richCompare .Eq (.ref l) (.ref b)) Q E s := by
  obtain ⟨⟨cls, dd, data, sl⟩, ho, hc, n, hd⟩ := id hl
  obtain ⟨⟨cls2, dd2, data2, sl2⟩, ho2, hc2, n2, hd2⟩ := id hb
  simp only at hc hd hc2 hd2
  subst hc hd hc2 hd2
  refine wpAny_richCompare_same_room (op := .Eq) ⟨_, ho, rfl⟩ ⟨_, ho2, rfl⟩ F.slot_tuple_eq (GQ.call_here F.slot_tuple_eq ⟨_, ho, rfl⟩ F.entry_tuple_eq (F.args_tuple_eq_2 _ _) ?_) hu
  exact tuple_eqD (R := wants (fun v s' => v ≠ .notImplemented ∧ Q v s') E) l b items items2 n n2 dd dd2 sl sl2 I J turn (fun s' q => ⟨(fun x => nomatch x), fin s' q⟩) (fun i s' h1 h2 q => ⟨(fun x => nomatch x), finJ i s' h1 h2 q⟩) ho ho2 h

theorem rc_list_neD {l b : Addr} {N : Nat} {Q : Value → Shared → Prop} (hu : A.units < cLine) (I J : Nat → Shared → Prop) (hl : ListD prog w A E l b N I J)
    (fin : ∀ s, I N s → Q (.bool false) s) (finJ : ∀ i s, i < N → J i s → Q (.bool true) s) (h : I 0 s) : wpAny (model prog w) A (richCompare .NotEq (.ref l) (.ref b)) Q E s := by
  obtain ⟨items, items2, ⟨n, n2, hl1, hb1, _, _⟩, _⟩ := hl.1 _ _ h
  refine wpAny_richCompare_same_room (op := .NotEq) ⟨_, hl1, rfl⟩ ⟨_, hb1, rfl⟩ F.slot_list_ne (GQ.call_here F.slot_list_ne ⟨_, hl1, rfl⟩ F.entry_list_ne (F.args_list_ne_2 _ _) ?_) hu
  exact list_neD (R := wants (fun v s' => v ≠ .notImplemented ∧ Q v s') E) l b N I J hl (fun s' q => ⟨(fun x => nomatch x), fin s' q⟩) (fun i s' hi q => ⟨(fun x => nomatch x), finJ i s' hi q⟩) h
theorem rc_tup_neD {l b : Addr} {items items2 : Array Value} {Q : Value → Shared → Prop} (hu : A.units < cLine) (I J : Nat → Shared → Prop)
    (hl : s.heap.IsTuple l items) (hb : s.heap.IsTuple b items2)
    (turn : ∀ i (h1 : i < items.size) (h2 : i < items2.size) s, I i s → wpAny (model prog w) A.in1 (eqBool items[i] items2[i]) (fun r s' => (r = true ∧ I (i + 1) s') ∨ (r = false ∧ J i s')) E s)
    (fin : ∀ s, I (min items.size items2.size) s → Q (.bool (items.size != items2.size)) s) (finJ : ∀ i s, i < items.size → i < items2.size → J i s → Q (.bool true) s) (h : I 0 s) : wpAny (model prog w) A (richCompare .NotEq (.ref l) (.ref b)) Q E s := by
  obtain ⟨⟨cls, dd, data, sl⟩, ho, hc, n, hd⟩ := id hl
  obtain ⟨⟨cls2, dd2, data2, sl2⟩, ho2, hc2, n2, hd2⟩ := id hb
  simp only at hc hd hc2 hd2
  subst hc hd hc2 hd2
  refine wpAny_richCompare_same_room (op := .NotEq) ⟨_, ho, rfl⟩ ⟨_, ho2, rfl⟩ F.slot_tuple_ne (GQ.call_here F.slot_tuple_ne ⟨_, ho, rfl⟩ F.entry_tuple_ne (F.args_tuple_ne_2 _ _) ?_) hu
  exact tuple_neD (R := wants (fun v s' => v ≠ .notImplemented ∧ Q v s') E) l b items items2 n n2 dd dd2 sl sl2 I J turn (fun s' q => ⟨(fun x => nomatch x), fin s' q⟩) (fun i s' h1 h2 q => ⟨(fun x => nomatch x), finJ i s' h1 h2 q⟩) ho ho2 h

theorem contains_D {c x : Value} {T id : String} {B : Builtin} {neg : Bool} {Q : Value → Shared → Prop} (slot : Slot T "__contains__" id) (hT : s.TypeIs c T) (entry : entryFor table id = some B) (args : argsOk id ⟨[c, x], []⟩)
    (h : wpAny (model prog w) A.in1 (B ⟨[c, x], []⟩) (FinOf prog w A (wants (fun v s' => ∃ b, v = .bool b ∧ Q (.bool (if neg then !b else b)) s') E)) (fun e s' => wants (fun v s' => ∃ b, v = .bool b ∧ Q (.bool (if neg then !b else b)) s') E (.error e) s') s) :
    wpAny (model prog w) A (compareOp (if neg then .NotIn else .In) x c) Q E s := by
  have main : wpAny (model prog w) A (contains c x) (fun b s' => Q (.bool (if neg then !b else b)) s') E s := by
    refine wpAny_contains_slot hT slot (wpAny_mono (GQ.call_here slot hT entry args h) (fun v s' hv => ?_) fun _ _ e => e)
    obtain ⟨b, rfl, hq⟩ := hv
    exact wpAny_truthy_bool hq
  cases neg with
  | false =>
    show wpAny _ A (do return .bool (← contains c x)) Q E s
    exact wpAny_bind (wpAny_mono main (fun b s' hq => wpAny_pure hq) fun _ _ e => e)
  | true =>
    show wpAny _ A (do return .bool (!(← contains c x))) Q E s
    exact wpAny_bind (wpAny_mono main (fun b s' hq => wpAny_pure hq) fun _ _ e => e)
/-- == inside a builtin: the same thing, else by rich comparison -/
theorem eqBool_D {l b : Addr} {Q : Bool → Shared → Prop} (hs : l = b → Q true s) (h : l ≠ b → wpAny (model prog w) A (richCompare .Eq (.ref l) (.ref b)) (fun v s' => ∃ r, v = .bool r ∧ Q r s') E s) : wpAny (model prog w) A (eqBool (.ref l) (.ref b)) Q E s := by
  by_cases hab : l = b
  · subst hab
    exact SeqAt.EqAt.same (A := A) (s := s) (.ref l) prog w E _ (hs rfl)
  · exact GQ.eqBool_refG hab (h hab)
end
end GGQ
/-! GOps -/
namespace GG
open PySem PySem.Spec PyProof.Rows L2
/-! ### values of some shapes -/
section
variable {K : PySem.W.Frag} {cls : Nat → Addr} {ρ : List Addr} {h : Hq} {H : Hp} {u : U} {v : V} {W : WX} {σ : L2.St} {Q : VK}
theorem Post.okI {i : Int} (p : Post K cls W (RU K) ρ σ H Q (.ok (.int i) h)) (r : Rel K cls ρ h H) : Q (.int i) H := p (.int i) H ρ Step.refl r rfl
theorem Post.okB {i : Bool} (p : Post K cls W (RU K) ρ σ H Q (.ok (.bl i) h)) (r : Rel K cls ρ h H) : Q (.bl i) H := p (.bl i) H ρ Step.refl r rfl
theorem Post.okS {i : Str} (p : Post K cls W (RU K) ρ σ H Q (.ok (.str i) h)) (r : Rel K cls ρ h H) : Q (.str i) H := p (.str i) H ρ Step.refl r rfl
theorem Post.okN (p : Post K cls W (RU K) ρ σ H Q (.ok .non h)) (r : Rel K cls ρ h H) : Q .non H := p .non H ρ Step.refl r rfl
def strApp (x y : Str) : Str := ⟨⟨x.cps.toList ++ y.cps.toList⟩⟩
theorem strApp_eq {x y : Str} : strApp x y = x ++ y := by
  apply strL_inj
  show x.cps.toList ++ y.cps.toList = (x.cps ++ y.cps).toList
  rw [Array.toList_append]
def strLen (x : Str) : Nat := x.cps.toList.length
theorem strLen_eq {x : Str} : strLen x = x.length := Array.length_toList
/-- + -/
def fAdd : F2
  | .int i, .int j, h => .ok (.int (i + j)) h
  | .str x, .str y, h => cond (Nat.ble (strLen x + strLen y) 16777216) (.ok (.str (strApp x y)) h) .bad
  | .tup l, .tup l2, h => cond (Nat.ble (l.length + l2.length) 16777216) (.ok (.tup (l ++ l2)) h) .bad
  | .ref n, .ref m, h => match h[n]?, h[m]? with
    | some (.lst l), some (.lst l2) => cond (Nat.ble (l.length + l2.length) 16777216) (.ok (.ref h.length) (h ++ [HU.lst (l ++ l2)])) .bad
    | _, _ => .bad
  | _, _, _ => .bad
def fSub : F2
  | .int i, .int j, h => .ok (.int (i - j)) h
  | _, _, _ => .bad
def mulOk (i : Int) : Bool := decide (-18446744073709551616 < i) && decide (i < 18446744073709551616)
theorem mulOk.of {i : Int} (e : mulOk i = true) : -(2 ^ 64) < i ∧ i < 2 ^ 64 := by
  unfold mulOk at e
  rw [Bool.and_eq_true] at e
  exact ⟨by have := of_decide_eq_true e.1; omega, by have := of_decide_eq_true e.2; omega⟩
def fMul : F2
  | .int i, .int j, h => cond (mulOk i || mulOk j) (.ok (.int (i * j)) h) .bad
  | _, _, _ => .bad
def divOk (j : Int) : Bool := decide (0 < j) && decide (j < 1073741824)
def divOkN (j : Int) : Bool := decide (j < 0) && decide (-1073741824 < j)
def fDiv : F2
  | .int i, .int j, h => cond (divOk j) (.ok (.int (i / j)) h) (cond (divOkN j) (.ok (.int (i.fdiv j)) h) .bad)
  | _, _, _ => .bad
def fMod : F2
  | .int i, .int j, h => cond (decide (0 < j)) (.ok (.int (i % j)) h) (cond (decide (j < 0)) (.ok (.int (i.fmod j)) h) .bad)
  | _, _, _ => .bad
def powOk (i j : Int) : Bool := decide (0 ≤ j) && (decide (j ≤ 1000000) && decide (i.natAbs < 18446744073709551616))
def fPow : F2
  | .int i, .int j, h => cond (powOk i j) (.ok (.int (i ^ j.toNat)) h) .bad
  | _, _, _ => .bad
def fCmp (g : Int → Int → Bool) : F2
  | .int i, .int j, h => .ok (.bl (g i j)) h
  | _, _, _ => .bad
def fIsN (n : Bool) : F2
  | .non, .non, h => .ok (.bl (!n)) h
  | _, .non, h => .ok (.bl n) h
  | _, _, _ => .bad
theorem RU.ne_non (q : RU K ρ H u v) (hu : ∀ z, u ≠ z ∨ z ≠ .non) : v ≠ .non := by
  cases u with
  | non => exact absurd rfl ((hu .non).elim (fun h => (h rfl).elim) id)
  | bl b => rw [show v = .bl b from q]; exact fun z => nomatch z
  | int b => rw [show v = .int b from q]; exact fun z => nomatch z
  | str b => rw [show v = .str b from q]; exact fun z => nomatch z
  | ty b => rw [show v = .ty b from q]; exact fun z => nomatch z
  | adr b => rw [show v = .ref b from q]; exact fun z => nomatch z
  | ref n => obtain ⟨a, _, e⟩ := q; rw [e]; exact fun z => nomatch z
  | tup l => obtain ⟨a, _, e, _⟩ := q; rw [e]; exact fun z => nomatch z
  | fls l => obtain ⟨a, _, e, _⟩ := q; rw [e]; exact fun z => nomatch z
theorem og_int {f : F2} {C : Int → Int → Prop} {g : Int → Int → Int} (hf : ∀ a b h, f a b h ≠ .bad → ∃ i j, a = .int i ∧ b = .int j ∧ C i j ∧ f a b h = .ok (.int (g i j)) h) : OpG K cls f (rI C fun i j => .int (g i j)) := fun W σ ρ h H a b x y Q rel qa qb p => by
  by_cases e : f a b h = .bad
  · rw [e] at p; exact p.elim
  · obtain ⟨i, j, rfl, rfl, c, e2⟩ := hf a b h e
    rw [e2] at p
    exact ⟨i, j, qa, qb, c, p.okI rel⟩
theorem og_cmp {g : Int → Int → Bool} : OpG K cls (fCmp g) (rI0 fun i j => .bl (g i j)) := fun W σ ρ h H a b x y Q rel qa qb p => by
  unfold fCmp at p
  split at p
  · exact ⟨_, _, qa, qb, p.okB rel⟩
  · exact p.elim
end
section
variable {X : Cx} {cls : Nat → Addr} {W : WX} {pos : Pos} {a b e : Expr} {ma mb me : Ev}
theorem ow_sub : OpW X cls W (binaryOp .Sub) fSub := OpW.of op_sub fun W σ ρ h H a b x y Q rel qa qb p => by
  unfold fSub at p
  split at p
  · exact ⟨_, _, qa, qb, p.okI rel⟩
  · exact p.elim
theorem ow_mul : OpW X cls W (binaryOp .Mult) fMul := OpW.of op_mul (og_int fun a b h hb => by
  unfold fMul at hb ⊢
  split at hb
  · rename_i i j
    cases e : (mulOk i || mulOk j) with
    | false => rw [e] at hb; exact absurd rfl hb
    | true =>
      refine ⟨i, j, rfl, rfl, ?_, rfl⟩
      rcases Bool.or_eq_true_iff.mp e with e | e
      · exact .inl (mulOk.of e)
      · exact .inr (mulOk.of e)
  · exact absurd rfl hb)
theorem ow_mod : OpW X cls W (binaryOp .Mod) fMod := fun pins s σ ρ h H a b x y v u Q I rx ry rel qa qb p => by
  unfold fMod at p
  split at p
  · rename_i i j
    cases e : decide (0 < j) with
    | true => rw [e] at p; exact op_mod pins s σ H x y v u Q I rx ry ⟨i, j, qa, qb, of_decide_eq_true e, p.okI rel⟩
    | false =>
      rw [e] at p
      cases e2 : decide (j < 0) with
      | true => rw [e2] at p; exact op_modN pins s σ H x y v u Q I rx ry ⟨i, j, qa, qb, by have := of_decide_eq_true e2; omega, p.okI rel⟩
      | false => rw [e2] at p; exact p.elim
  · exact p.elim
theorem ow_div : OpW X cls W (binaryOp .FloorDiv) fDiv := fun pins s σ ρ h H a b x y v u Q I rx ry rel qa qb p => by
  unfold fDiv at p
  split at p
  · rename_i i j
    cases e : divOk j with
    | true =>
      rw [e] at p
      unfold divOk at e
      rw [Bool.and_eq_true] at e
      exact op_fdiv pins s σ H x y v u Q I rx ry ⟨i, j, qa, qb, ⟨of_decide_eq_true e.1, of_decide_eq_true e.2⟩, p.okI rel⟩
    | false =>
      rw [e] at p
      cases e2 : divOkN j with
      | true =>
        rw [e2] at p
        unfold divOkN at e2
        rw [Bool.and_eq_true] at e2
        have h1 := of_decide_eq_true e2.1
        have h2 := of_decide_eq_true e2.2
        exact op_fdivN pins s σ H x y v u Q I rx ry ⟨i, j, qa, qb, ⟨by omega, by omega⟩, p.okI rel⟩
      | false => rw [e2] at p; exact p.elim
  · exact p.elim
theorem ow_pow : OpW X cls W (binaryOp .Pow) fPow := OpW.of op_pow (og_int fun a b h hb => by
  unfold fPow at hb ⊢
  split at hb
  · rename_i i j
    cases e : powOk i j with
    | false => rw [e] at hb; exact absurd rfl hb
    | true =>
      refine ⟨i, j, rfl, rfl, ?_, rfl⟩
      unfold powOk at e
      rw [Bool.and_eq_true, Bool.and_eq_true] at e
      exact ⟨of_decide_eq_true e.1, of_decide_eq_true e.2.1, by have := of_decide_eq_true e.2.2; omega⟩
  · exact absurd rfl hb)
theorem ow_lt : OpW X cls W (compareOp .Lt) (fCmp fun i j => decide (i < j)) := OpW.of op_lt og_cmp
theorem ow_le : OpW X cls W (compareOp .LtE) (fCmp fun i j => decide (i ≤ j)) := OpW.of op_le og_cmp
theorem ow_gt : OpW X cls W (compareOp .Gt) (fCmp fun i j => decide (j < i)) := OpW.of op_gt og_cmp
theorem ow_ge : OpW X cls W (compareOp .GtE) (fCmp fun i j => decide (j ≤ i)) := OpW.of op_ge og_cmp
theorem isN_bit {K : PySem.W.Frag} {ρ : List Addr} {H : Hp} {u : U} {x : V} {h : Hq} {n : Bool} {w : U} (q : RU K ρ H u x) {y : V} (qy : RU K ρ H w y) (e : fIsN n u w h ≠ .bad) : y = .non ∧ fIsN n u w h = .ok (.bl (if decide (x = .non) then !n else n)) h := by
  cases w with
  | non =>
    refine ⟨qy, ?_⟩
    cases u with
    | non => rw [show x = .non from q]; rfl
    | bl b => rw [show x = .bl b from q]; rfl
    | int b => rw [show x = .int b from q]; rfl
    | str b => rw [show x = .str b from q]; rfl
    | ty b => rw [show x = .ty b from q]; rfl
    | adr b => rw [show x = .ref b from q]; rfl
    | ref n => obtain ⟨a, _, e⟩ := q; rw [e]; rfl
    | tup l => obtain ⟨a, _, e, _⟩ := q; rw [e]; rfl
    | fls l => obtain ⟨a, _, e, _⟩ := q; rw [e]; rfl
  | _ => exact absurd (by cases u <;> rfl) e
theorem ow_is : OpW X cls W (compareOp .Is) (fIsN false) := OpW.of op_isN fun W σ ρ h H a b x y Q rel qa qb p => by
  by_cases e : fIsN false a b h = .bad
  · rw [e] at p; exact p.elim
  · obtain ⟨e1, e2⟩ := isN_bit qa qb e
    rw [e2] at p
    refine ⟨e1, ?_⟩
    have z := p.okB rel
    cases hd : decide (x = .non) <;> rw [hd] at z <;> exact z
theorem ow_isnot : OpW X cls W (compareOp .IsNot) (fIsN true) := OpW.of op_notN fun W σ ρ h H a b x y Q rel qa qb p => by
  by_cases e : fIsN true a b h = .bad
  · rw [e] at p; exact p.elim
  · obtain ⟨e1, e2⟩ := isN_bit qa qb e
    rw [e2] at p
    refine ⟨e1, ?_⟩
    have z := p.okB rel
    cases hd : decide (x = .non) <;> rw [hd] at z <;> exact z
theorem RUl.nil_iff {K : PySem.W.Frag} {ρ : List Addr} {H : Hp} {l : List U} {vs : List V} (q : RUl K ρ H l vs) : vs = [] ↔ l = [] := by
  cases l with
  | nil => rw [show vs = [] from q]; simp
  | cons u l => obtain ⟨v, r, e, _⟩ := q; rw [e]; simp
theorem ow_add : OpW X cls W (binaryOp .Add) fAdd := fun pins s σ ρ h H a b x y v u Q I rx ry rel qa qb p => by
  unfold fAdd at p
  split at p
  · exact op_add pins s σ H x y v u Q I rx ry ⟨_, _, qa, qb, p.okI rel⟩
  · rename_i i j
    cases e : Nat.ble (strLen i + strLen j) 16777216 with
    | false => rw [e] at p; exact p.elim
    | true =>
      rw [e] at p
      refine op_add_str pins s σ H x y v u Q I rx ry ⟨i, j, qa, qb, by rw [← strLen_eq, ← strLen_eq]; exact Nat.le_of_ble_eq_true e, ?_⟩
      rw [← strApp_eq]
      exact p.okS rel
  · rename_i l l2
    cases e : Nat.ble (l.length + l2.length) 16777216 with
    | false => rw [e] at p; exact p.elim
    | true =>
      rw [e] at p
      obtain ⟨aa, xs, rfl, ta, ql⟩ := qa
      obtain ⟨bb, ys, rfl, tb, ql2⟩ := qb
      refine op_catA pins s σ H _ _ v u Q I rx ry ⟨aa, bb, xs, ys, rfl, rfl, .inl (.inl ta), .inl (.inl tb), by rw [ql.length, ql2.length]; exact Nat.le_of_ble_eq_true e, fun z => ?_, fun _ z => ?_, fun _ _ p2 hp => ?_⟩
      · have el : l = [] := ql.nil_iff.mp z
        subst el
        exact p.ok rel ⟨bb, ys, rfl, tb, ql2⟩
      · have el : l2 = [] := ql2.nil_iff.mp z
        subst el
        exact p.ok rel ⟨aa, xs, rfl, ta, by rw [List.append_nil]; exact ql⟩
      · obtain ⟨r2, s2⟩ := rel.other (o := .tup (xs ++ ys)) hp
        exact p (.ref p2) _ ρ s2 r2 ⟨p2, _, rfl, upd_same, RUl.append (RUl.mono rel s2 ql) (RUl.mono rel s2 ql2)⟩
  · rename_i n m
    obtain ⟨aa, ea, rfl⟩ := qa
    obtain ⟨bb, eb, rfl⟩ := qb
    split at p
    · rename_i l l2 e1 e2
      cases e : Nat.ble (l.length + l2.length) 16777216 with
      | false => rw [e] at p; exact p.elim
      | true =>
        rw [e] at p
        obtain ⟨xs, ha, ql⟩ := rel.at_ n _ aa e1 ea
        obtain ⟨ys, hb, ql2⟩ := rel.at_ m _ bb e2 eb
        refine op_cat pins s σ H _ _ v u Q I rx ry ⟨aa, bb, xs, ys, rfl, rfl, ha, hb, by rw [ql.length, ql2.length]; exact Nat.le_of_ble_eq_true e, fun p2 hp => ?_⟩
        obtain ⟨_, s2⟩ := rel.push (u := .dK []) (o := .dK []) hp ⟨[], upd_same, rfl⟩
        have s2' : Step ρ H (ρ ++ [p2]) (upd H p2 (.lst (xs ++ ys))) := ⟨s2.pre, s2.fresh, fun a ob e _ => by rw [upd_ne (ne_of_none e hp)]; exact e, fun a ob u e => by rw [upd_ne (ne_of_none e hp)]; exact e⟩
        obtain ⟨r3, s3⟩ := rel.push (u := .lst (l ++ l2)) (o := .lst (xs ++ ys)) hp ⟨_, upd_same, RUl.append (RUl.mono rel s2' ql) (RUl.mono rel s2' ql2)⟩
        exact p (.ref p2) _ _ s3 r3 ⟨p2, by rw [← rel.len]; exact get_last _ _, rfl⟩
    · exact p.elim
  · exact p.elim
/-! ### -a -/
def evNeg (me : Ev) : Ev := fun us h => (me us h).bind fun u h1 => match u with
  | .int i => .ok (.int (-i)) h1
  | _ => .bad
theorem se_neg (he : SE X cls W e me) : SE X cls W (.UnaryOp .USub e pos) (evNeg me) := pe_imp (pe_un un_neg he) fun σ H Q ⟨us, h, ρ, at_, p⟩ => by
  refine ⟨us, h, ρ, at_, Post.imp (fun x H1 q => ?_) (Post.bind (R := RU X.K) at_ p)⟩
  obtain ⟨u, h1, ρ1, s1, at1, q1, p1⟩ := q
  cases u with
  | int i => exact ⟨i, q1, p1.okI at1.rel⟩
  | _ => exact p1.elim
end
end GG
/-! GBlt -/
namespace GG
open PySem PySem.Spec PyProof.Rows L2
/-! ### calls of built-ins -/
def FnR1 (K : PySem.W.Frag) (cls : Nat → Addr) (r : List V → Hp → VK → Prop) (sem : Fn) : Prop := ∀ (W : WX) (σ : L2.St) (ρ : List Addr) (h : Hq) (H : Hp) (l : List U) (vs : List V) (Q : VK), Rel K cls ρ h H → RUl K ρ H l vs → Post K cls W (RU K) ρ σ H Q (sem l h) → r vs H Q
theorem Cal.of {X : Cx} {cls : Nat → Addr} {W : WX} {f : Value} {r : List V → Hp → VK → Prop} {sem : Fn} (hc : CallR X f r) (hf : FnR1 X.K cls r sem) : Cal X cls W f sem :=
  fun pins s σ H us vs Q l h ρ I rv rel ql p => hc pins s σ H vs us Q I rv (hf W σ ρ h H l vs Q rel ql p)
section
variable {X : Cx} {cls : Nat → Addr} {W : WX} {pos p : Pos} {x : Str} {e : Expr} {es : List Expr} {ma : Eva} {sem : Fn} {id T : String}
theorem se_callB (hm : X.mg x = none) (hv : bootBuiltins x = some (.builtin id)) (cal : Cal X cls W (.builtin id) sem) (ha : SA X cls W (e :: es) ma) (hg : Gl X x := by rfl) (hn : x ≠ "__name__" := by decide) (hdb : (x == ("__debug__" : Str)) = false := by decide)
    (he : starEach (e :: es) X.env = (false, eval e X.env) :: starEach es X.env := by rfl) (hpl : (backTo pos (starEach es X.env)).any (·.1) = false := by rfl) : SE X cls W (.Call (.Name x p) (e :: es) [] pos) (evCall sem ma) := by
  refine ⟨fun pins s σ H Q I ⟨us, h, ρ, at_, p⟩ => ?_⟩
  refine wpAny_Call_Name_kw (ld_blt I hg hm hv ?_ hn hdb)
  exact PyProof.Rows.callWith_builtin1 (thn (ha.run pos pins s σ H _ I ⟨us, h, ρ, at_, Post.bind (R := RUl X.K) at_ p⟩) fun uv s1 ⟨vs, H1, I1, r1, l, h1, ρ1, s1', at1, q1, p1⟩ => cal pins s1 σ H1 uv vs Q l h1 ρ1 I1 r1 at1.rel q1 p1) he hpl
theorem se_callTy (hm : X.mg x = none) (hv : bootBuiltins x = some (.type T)) (cal : Cal X cls W (.type T) sem) (ha : SA X cls W (e :: es) ma) (hg : Gl X x := by rfl) (hn : x ≠ "__name__" := by decide) (hdb : (x == ("__debug__" : Str)) = false := by decide)
    (he : starEach (e :: es) X.env = (false, eval e X.env) :: starEach es X.env := by rfl) (hpl : (backTo pos (starEach es X.env)).any (·.1) = false := by rfl) : SE X cls W (.Call (.Name x p) (e :: es) [] pos) (evCall sem ma) := by
  refine ⟨fun pins s σ H Q I ⟨us, h, ρ, at_, p⟩ => ?_⟩
  refine wpAny_Call_Name_kw (ld_blt I hg hm hv ?_ hn hdb)
  exact PyProof.Rows.callWith_type1 (thn (ha.run pos pins s σ H _ I ⟨us, h, ρ, at_, Post.bind (R := RUl X.K) at_ p⟩) fun uv s1 ⟨vs, H1, I1, r1, l, h1, ρ1, s1', at1, q1, p1⟩ => cal pins s1 σ H1 uv vs Q l h1 ρ1 I1 r1 at1.rel q1 p1) he hpl
/-- a module's name for a built-in function -/
theorem se_callG (hm : X.mg x = some (.builtin id)) (cal : Cal X cls W (.builtin id) sem) (ha : SA X cls W (e :: es) ma) (hg : Gl X x := by rfl) (hdb : (x == ("__debug__" : Str)) = false := by decide)
    (he : starEach (e :: es) X.env = (false, eval e X.env) :: starEach es X.env := by rfl) (hpl : (backTo pos (starEach es X.env)).any (·.1) = false := by rfl) : SE X cls W (.Call (.Name x p) (e :: es) [] pos) (evCall sem ma) := by
  refine ⟨fun pins s σ H Q I ⟨us, h, ρ, at_, p⟩ => ?_⟩
  refine wpAny_Call_Name_kw (ld_glob I hg hm ?_ hdb)
  exact PyProof.Rows.callWith_builtin1 (thn (ha.run pos pins s σ H _ I ⟨us, h, ρ, at_, Post.bind (R := RUl X.K) at_ p⟩) fun uv s1 ⟨vs, H1, I1, r1, l, h1, ρ1, s1', at1, q1, p1⟩ => cal pins s1 σ H1 uv vs Q l h1 ρ1 I1 r1 at1.rel q1 p1) he hpl
/-- a built-in type's name -/
theorem se_bty (hm : X.mg x = none) (hv : bootBuiltins x = some (.type T)) (hg : Gl X x := by rfl) (hn : x ≠ "__name__" := by decide) (hdb : (x == ("__debug__" : Str)) = false := by decide) : SE X cls W (.Name x pos) (evC (.ty T)) :=
  pe_imp (pe_bltn (v := .ty T) hg hm hv rfl hn hdb) fun σ H Q ⟨us, h, ρ, a, p⟩ => p.ok (v := V.ty T) a.rel rfl
end
section
variable {X : Cx} {K : PySem.W.Frag} {cls : Nat → Addr} {W : WX}
/-! ### len -/
def lenU (h : Hq) : U → Option Nat
  | .str x => cond (Nat.ble (strLen x) 16777216) (some (strLen x)) none
  | u => match seqU h u with
    | some l => some l.length
    | none => none
def dlenU (h : Hq) : U → Option Nat
  | .ref n => match h[n]? with
    | some (.dK l) => some l.length
    | some (.fK l) => some l.length
    | _ => none
  | _ => none
def bLen : Fn
  | [u], h => match lenU h u with
    | some n => .ok (.int (n : Nat)) h
    | none => match dlenU h u with
      | some n => .ok (.int (n : Nat)) h
      | none => .bad
  | _, _ => .bad
theorem cal_len : Cal X cls W (.builtin "len") bLen := fun pins s σ H us vs Q l h ρ I rv rel ql p => by
  unfold bLen at p
  split at p
  · rename_i u
    obtain ⟨v, t, rfl, qv, qt⟩ := ql
    obtain rfl : t = [] := qt
    cases e : lenU h u with
    | some n =>
      rw [e] at p
      refine call_len pins s σ H _ us Q I rv ⟨v, n, rfl, ?_, p.okI rel⟩
      by_cases hs : ∃ x, u = .str x
      · obtain ⟨x, rfl⟩ := hs
        have e : cond (Nat.ble (strLen x) 16777216) (some (strLen x)) none = some n := e
        cases hb : Nat.ble (strLen x) 16777216 with
        | false => rw [hb] at e; cases e
        | true =>
          rw [hb] at e; cases e
          rw [show v = .str x from qv]
          exact ⟨by rw [← strLen_eq]; exact Nat.le_of_ble_eq_true hb, strLen_eq⟩
      · have e : (match seqU h u with | some l => some l.length | none => none) = some n := by
          cases u <;> first | exact e | exact absurd ⟨_, rfl⟩ hs
        cases e2 : seqU h u with
        | none => rw [e2] at e; cases e
        | some l =>
          rw [e2] at e; cases e
          obtain ⟨a, ws, rfl, z, q2⟩ := seqU_imp rel qv e2
          rcases z with z | z
          · exact .inr ⟨ws, z, q2.length.symm⟩
          · exact .inl ⟨ws, z, q2.length.symm⟩
    | none =>
      rw [e] at p
      cases e2 : dlenU h u with
      | none => simp only [e2] at p; exact p.elim
      | some n =>
        simp only [e2] at p
        cases u with
        | ref m =>
          obtain ⟨a, ea, rfl⟩ := qv
          unfold dlenU at e2
          obtain ⟨w, rfl, rw'⟩ := vals1 rv
          obtain rfl : w = Value.ref a := rw'
          cases eh : h[m]? with
          | none => simp only [eh] at e2; cases e2
          | some o =>
            have z := rel.at_ m o a eh ea
            cases o with
            | dK kvs =>
              obtain ⟨ws, z1, z2⟩ := z
              simp only [eh] at e2; cases e2
              exact d_len I (.inl z1) fun t s' I' => ⟨.int _, H, I', ⟨t, rfl⟩, by rw [z2.length]; exact p.okI rel⟩
            | fK kvs =>
              obtain ⟨o, ws, z1, z2⟩ := z
              simp only [eh] at e2; cases e2
              exact d_len I (.inr ⟨o, z1⟩) fun t s' I' => ⟨.int _, H, I', ⟨t, rfl⟩, by rw [z2.length]; exact p.okI rel⟩
            | _ => simp only [eh] at e2; cases e2
        | _ => cases e2
  · exact p.elim
/-! ### abs, int, str -/
def bAbs : Fn
  | [.int i], h => .ok (.int (cond (decide (i < 0)) (-i) i)) h
  | _, _ => .bad
theorem cal_abs : Cal X cls W (.builtin "abs") bAbs := Cal.of call_abs fun W σ ρ h H l vs Q rel ql p => by
  unfold bAbs at p
  split at p
  · rename_i i
    obtain ⟨v, t, rfl, qv, qt⟩ := ql
    obtain rfl : t = [] := qt
    refine ⟨i, by rw [show v = .int i from qv], ?_⟩
    have z := p.okI rel
    by_cases hi : i < 0
    · rw [if_pos hi]; rw [decide_eq_true hi] at z; exact z
    · rw [if_neg hi]; rw [decide_eq_false hi] at z; exact z
  · exact p.elim
def digitsV (x : Str) : Option Int := cond (Nat.ble (strLen x) 640) (PySem.intText? x) none
def bInt : Fn
  | [.int i], h => .ok (.int i) h
  | [.bl k], h => .ok (.int (cond k 1 0)) h
  | [.str x], h => match digitsV x with
    | some i => .ok (.int i) h
    | none => .bad
  | _, _ => .bad
theorem cal_int : Cal X cls W (.type "int") bInt := fun pins s σ H us vs Q l h ρ I rv rel ql p => by
  unfold bInt at p
  split at p
  · rename_i i
    obtain ⟨v, t, rfl, qv, qt⟩ := ql
    obtain rfl : t = [] := qt
    exact call_int1 pins s σ H _ us Q I rv (.inl ⟨i, by rw [show v = .int i from qv], p.okI rel⟩)
  · rename_i k
    obtain ⟨v, t, rfl, qv, qt⟩ := ql
    obtain rfl : t = [] := qt
    refine call_int1 pins s σ H _ us Q I rv (.inr ⟨k, by rw [show v = .bl k from qv], ?_⟩)
    cases k <;> exact p.okI rel
  · rename_i x
    obtain ⟨v, t, rfl, qv, qt⟩ := ql
    obtain rfl : t = [] := qt
    cases e : digitsV x with
    | none => rw [e] at p; exact p.elim
    | some i =>
      rw [e] at p
      unfold digitsV at e
      cases hb : Nat.ble (strLen x) 640 with
      | false => rw [hb] at e; cases e
      | true =>
        rw [hb] at e
        exact call_int_str pins s σ H _ us Q I rv ⟨x, i, by rw [show v = .str x from qv], e, by rw [← strLen_eq]; exact Nat.le_of_ble_eq_true hb, p.okI rel⟩
  · exact p.elim
def smallI (i : Int) : Bool := Nat.blt i.natAbs.log2 1920
def bStr : Fn
  | [.int i], h => cond (smallI i) (.ok (.str (toString i)) h) .bad
  | [.str x], h => .ok (.str x) h
  | _, _ => .bad
theorem cal_str : Cal X cls W (.type "str") bStr := fun pins s σ H us vs Q l h ρ I rv rel ql p => by
  unfold bStr at p
  split at p
  · rename_i i
    obtain ⟨v, t, rfl, qv, qt⟩ := ql
    obtain rfl : t = [] := qt
    cases hb : smallI i with
    | false => rw [hb] at p; exact p.elim
    | true =>
      rw [hb] at p
      exact call_str_int pins s σ H _ us Q I rv ⟨i, by rw [show v = .int i from qv], Nat.le_of_ble_eq_true hb, p.okS rel⟩
  · rename_i x
    obtain ⟨v, t, rfl, qv, qt⟩ := ql
    obtain rfl : t = [] := qt
    exact SkE.call_str_str pins s σ H _ us Q I rv ⟨x, by rw [show v = .str x from qv], p.okS rel⟩
  · exact p.elim
/-! ### tuple, list -/
/-- a new list -/
theorem post_newL {ρ : List Addr} {h : Hq} {H : Hp} {l : List U} {ws : List V} {Q : VK} {σ : L2.St} {p2 : Addr} (rel : Rel K cls ρ h H) (ql : RUl K ρ H l ws) (p : Post K cls W (RU K) ρ σ H Q (.ok (.ref h.length) (h ++ [HU.lst l]))) (hp : H p2 = none) : Q (.ref p2) (upd H p2 (.lst ws)) := by
  obtain ⟨_, s2⟩ := rel.push (u := .dK []) (o := .dK []) hp ⟨[], upd_same, rfl⟩
  have s2' : Step ρ H (ρ ++ [p2]) (upd H p2 (.lst ws)) := ⟨s2.pre, s2.fresh, fun a ob e _ => by rw [upd_ne (ne_of_none e hp)]; exact e, fun a ob u e => by rw [upd_ne (ne_of_none e hp)]; exact e⟩
  obtain ⟨r3, s3⟩ := rel.push (u := .lst l) (o := .lst ws) hp ⟨_, upd_same, RUl.mono rel s2' ql⟩
  exact p (.ref p2) _ _ s3 r3 ⟨p2, by rw [← rel.len]; exact get_last _ _, rfl⟩
theorem post_newT {ρ : List Addr} {h : Hq} {H : Hp} {l : List U} {ws : List V} {Q : VK} {σ : L2.St} {p2 : Addr} (rel : Rel K cls ρ h H) (ql : RUl K ρ H l ws) (p : Post K cls W (RU K) ρ σ H Q (.ok (.tup l) h)) (hp : H p2 = none) : Q (.ref p2) (upd H p2 (.tup ws)) := by
  obtain ⟨r2, s2⟩ := rel.other (o := .tup ws) hp
  exact p (.ref p2) _ ρ s2 r2 ⟨p2, _, rfl, upd_same, RUl.mono rel s2 ql⟩
def bList : Fn
  | [u], h => match seqU h u with
    | some l => .ok (.ref h.length) (h ++ [HU.lst l])
    | none => .bad
  | _, _ => .bad
theorem cal_list : Cal X cls W (.type "list") bList := Cal.of call_list_of fun W σ ρ h H l vs Q rel ql p => by
  unfold bList at p
  split at p
  · rename_i u
    obtain ⟨v, t, rfl, qv, qt⟩ := ql
    obtain rfl : t = [] := qt
    cases e : seqU h u with
    | none => rw [e] at p; exact p.elim
    | some l =>
      rw [e] at p
      obtain ⟨a, ws, rfl, z, q2⟩ := seqU_imp rel qv e
      exact ⟨a, ws, rfl, z.symm, fun p2 hp => post_newL rel q2 p hp⟩
  · exact p.elim
def bTuple : Fn
  | [.tup l], h => .ok (.tup l) h
  | [u], h => match seqU h u with
    | some l => .ok (.tup l) h
    | none => .bad
  | _, _ => .bad
theorem cal_tuple : Cal X cls W (.type "tuple") bTuple := Cal.of call_tuple_of fun W σ ρ h H l vs Q rel ql p => by
  unfold bTuple at p
  split at p
  · rename_i l
    obtain ⟨v, t, rfl, qv, qt⟩ := ql
    obtain rfl : t = [] := qt
    obtain ⟨a, ws, rfl, e1, q2⟩ := qv
    exact ⟨a, ws, rfl, .inr ⟨.inl (.inl e1), p.ok rel ⟨a, ws, rfl, e1, q2⟩⟩⟩
  · rename_i u hu
    obtain ⟨v, t, rfl, qv, qt⟩ := ql
    obtain rfl : t = [] := qt
    cases u with
    | tup l => exact absurd rfl (hu l)
    | ref n =>
      obtain ⟨a, ea, rfl⟩ := qv
      cases e : seqU h (.ref n) with
      | none => rw [e] at p; exact p.elim
      | some l =>
        rw [e] at p
        have z : ∃ ws, SqL X.K H a ws ∧ RUl X.K ρ H l ws := by
          unfold seqU at e
          cases eh : h[n]? with
          | none => simp only [eh] at e; cases e
          | some o =>
            have z := rel.at_ n o a eh ea
            cases o with
            | lst l2 => simp only [eh] at e; cases e; obtain ⟨ws, z1, z2⟩ := z; exact ⟨ws, SqL.of z1, z2⟩
            | frl l2 => simp only [eh] at e; cases e; obtain ⟨ws, z1, _, z2⟩ := z; exact ⟨ws, z1, z2⟩
            | _ => simp only [eh] at e; cases e
        obtain ⟨ws, z1, z2⟩ := z
        exact ⟨a, ws, rfl, .inl ⟨z1, fun p2 hp => post_newT rel z2 p hp⟩⟩
    | fls l => obtain ⟨a, vs, rfl, t, q⟩ := qv; exact ⟨a, vs, rfl, .inl ⟨t.sq, fun p2 hp => post_newT rel q p hp⟩⟩
    | _ => exact p.elim
  · exact p.elim
/-! ### sorted: ints, texts -/
def insO (k : Int) : List Int → List Int
  | [] => [k]
  | x :: r => cond (decide (k ≤ x)) (k :: x :: r) (x :: insO k r)
def sortI (l : List Int) : List Int := l.foldr insO []
theorem insO_perm {k : Int} : ∀ (l : List Int), (insO k l).Perm (k :: l)
  | [] => .refl _
  | x :: r => by
    unfold insO
    cases decide (k ≤ x) with
    | true => exact .refl _
    | false => exact (List.Perm.cons x (insO_perm r)).trans (.swap k x r)
theorem sortI_perm : ∀ (l : List Int), (sortI l).Perm l
  | [] => .refl _
  | x :: r => (insO_perm _).trans ((sortI_perm r).cons x)
theorem insO_le {k : Int} : ∀ {l : List Int}, l.Pairwise (· ≤ ·) → (insO k l).Pairwise (· ≤ ·)
  | [], _ => by simp [insO]
  | x :: r, h => by
    obtain ⟨hx, hr⟩ := List.pairwise_cons.mp h
    unfold insO
    by_cases h1 : k ≤ x
    · rw [decide_eq_true h1]
      refine List.pairwise_cons.mpr ⟨fun y hy => ?_, h⟩
      rcases List.mem_cons.mp hy with e | hy
      · rw [e]; exact h1
      · have := hx y hy; omega
    · rw [decide_eq_false h1]
      refine List.pairwise_cons.mpr ⟨fun y hy => ?_, insO_le hr⟩
      rcases List.mem_cons.mp ((insO_perm r).mem_iff.mp hy) with e | hy
      · rw [e]; omega
      · exact hx y hy
theorem sortI_le : ∀ (l : List Int), (sortI l).Pairwise (· ≤ ·)
  | [] => .nil
  | x :: r => insO_le (sortI_le r)
theorem sorted_uniq {a b : List Int} (ha : a.Pairwise (· ≤ ·)) (hb : b.Pairwise (· ≤ ·)) (h : a.Perm b) : a = b := h.eq_of_pairwise (le := (· ≤ ·)) (fun x y _ _ h1 h2 => by have h1 : x ≤ y := h1; have h2 : y ≤ x := h2; omega) ha hb
def bSortI : Fn
  | [u], h => match seqU h u, u with
    | some l, .ref _ => match intsU l with
      | some ns => .ok (.ref h.length) (h ++ [HU.lst ((sortI ns).map .int)])
      | none => .bad
    | _, _ => .bad
  | _, _ => .bad
theorem cal_sortI : Cal X cls W (.builtin "sorted") bSortI := Cal.of cr_sortedI fun W σ ρ h H l vs Q rel ql p => by
  unfold bSortI at p
  split at p
  · rename_i u
    obtain ⟨v, t, rfl, qv, qt⟩ := ql
    obtain rfl : t = [] := qt
    split at p
    · rename_i l n e
      obtain ⟨a, ea, rfl⟩ := qv
      cases e2 : intsU l with
      | none => rw [e2] at p; exact p.elim
      | some ns =>
        rw [e2] at p
        have z : ∃ ws, SqL X.K H a ws ∧ RUl X.K ρ H l ws := by
          unfold seqU at e
          cases eh : h[n]? with
          | none => simp only [eh] at e; cases e
          | some o =>
            have z := rel.at_ n o a eh ea
            cases o with
            | lst l2 => simp only [eh] at e; cases e; obtain ⟨ws, z1, z2⟩ := z; exact ⟨ws, SqL.of z1, z2⟩
            | frl l2 => simp only [eh] at e; cases e; obtain ⟨ws, z1, _, z2⟩ := z; exact ⟨ws, z1, z2⟩
            | _ => simp only [eh] at e; cases e
        obtain ⟨ws, z1, z2⟩ := z
        rw [intsU_imp e2 z2] at z1
        refine ⟨a, ns, rfl, z1, fun ns' p2 hp hs hn => ?_⟩
        have en : ns' = sortI ns := sorted_uniq hs (sortI_le ns) (hp.trans (sortI_perm ns).symm)
        rw [en]
        exact post_newL rel (ru_ints _) p hn
    · exact p.elim
  · exact p.elim
/-! ### all, any of a list of truth values -/
def blsU : List U → Option (List Bool)
  | [] => some []
  | .bl i :: r => (blsU r).map (i :: ·)
  | _ :: _ => none
theorem blsU_imp {ρ : List Addr} {H : Hp} : ∀ {l : List U} {vs : List V} {ns : List Bool}, blsU l = some ns → RUl K ρ H l vs → vs = ns.map V.bl
  | [], _, _, e, q => by cases e; exact q
  | u :: l, vs, ns, e, ⟨v, r, ev, qv, q⟩ => by
    cases u with
    | bl i =>
      have e : (blsU l).map (i :: ·) = some ns := e
      rw [Option.map_eq_some_iff] at e
      obtain ⟨ms, e1, rfl⟩ := e
      rw [ev, blsU_imp e1 q, show v = V.bl i from qv] <;> rfl
    | _ => cases e
def lstU (h : Hq) : U → Option (List U)
  | .fls l => some l
  | .ref n => match h[n]? with
    | some (.lst l) => some l
    | some (.frl l) => some l
    | _ => none
  | _ => none
theorem lstU_imp {ρ : List Addr} {h : Hq} {H : Hp} {u : U} {v : V} {l : List U} (rel : Rel K cls ρ h H) (q : RU K ρ H u v) (e : lstU h u = some l) : ∃ a ws, v = .ref a ∧ SqL K H a ws ∧ RUl K ρ H l ws := by
  cases u with
  | ref n =>
    obtain ⟨a, ea, rfl⟩ := q
    unfold lstU at e
    cases eh : h[n]? with
    | none => simp only [eh] at e; cases e
    | some o =>
      have z := rel.at_ n o a eh ea
      cases o with
      | lst l2 => simp only [eh] at e; cases e; obtain ⟨ws, z1, z2⟩ := z; exact ⟨a, ws, rfl, SqL.of z1, z2⟩
      | frl l2 => simp only [eh] at e; cases e; obtain ⟨ws, z1, _, z2⟩ := z; exact ⟨a, ws, rfl, z1, z2⟩
      | _ => simp only [eh] at e; cases e
  | fls l2 =>
    obtain ⟨a, vs, e1, t, q⟩ := q
    cases e
    exact ⟨a, vs, e1, t.sq, q⟩
  | _ => cases e
def bQuant (f : List Bool → Bool) : Fn
  | [u], h => match lstU h u with
    | some l => match blsU l with
      | some bs => .ok (.bl (f bs)) h
      | none => .bad
    | none => .bad
  | _, _ => .bad
abbrev bAll : Fn := bQuant fun bs => bs.all id
abbrev bAny : Fn := bQuant fun bs => bs.any id
theorem quant_imp {f : List Bool → Bool} : FnR1 K cls (fun vs H Q => ∃ (a : Addr) (bs : List Bool), vs = [V.ref a] ∧ SqL K H a (bs.map V.bl) ∧ Q (.bl (f bs)) H) (bQuant f) := fun W σ ρ h H l vs Q rel ql p => by
  unfold bQuant at p
  split at p
  · rename_i u
    obtain ⟨v, t, rfl, qv, qt⟩ := ql
    obtain rfl : t = [] := qt
    cases e : lstU h u with
    | none => rw [e] at p; exact p.elim
    | some l =>
      simp only [e] at p
      obtain ⟨a, ws, rfl, z1, z2⟩ := lstU_imp rel qv e
      cases e2 : blsU l with
      | none => rw [e2] at p; exact p.elim
      | some bs =>
        rw [e2] at p
        rw [blsU_imp e2 z2] at z1
        exact ⟨a, bs, rfl, z1, p.okB rel⟩
  · exact p.elim
theorem cal_all (hc : X.calm = true) : Cal X cls W (.builtin "all") bAll := Cal.of (cr_all hc) quant_imp
theorem cal_any (hc : X.calm = true) : Cal X cls W (.builtin "any") bAny := Cal.of (cr_any hc) quant_imp
/-! ### gcd -/
def bGcd : Fn
  | [.int a, .int b], h => .ok (.int ((Nat.gcd a.natAbs b.natAbs : Nat) : Int)) h
  | _, _ => .bad
theorem cal_gcd : Cal X cls W (.builtin "math.gcd") bGcd := Cal.of cr_gcd fun W σ ρ h H l vs Q rel ql p => by
  unfold bGcd at p
  split at p
  · obtain ⟨v, r, rfl, qv, v2, r2, rfl, qv2, qr⟩ := ql
    exact ⟨_, _, by rw [show v = _ from qv, show v2 = _ from qv2, show r2 = [] from qr], p.okI rel⟩
  · exact p.elim
/-! ### isinstance -/
/-- a type: a built-in one, the program's n-th class -/
inductive TT where
  | b (n : String) | c (n : Nat)
def ttV (cls : Nat → Addr) : TT → Value
  | .b n => .type n
  | .c n => .ref (cls n)
def tyU (h : Hq) : U → Option TT
  | .non => some (.b "NoneType")
  | .bl _ => some (.b "bool")
  | .int _ => some (.b "int")
  | .str _ => some (.b "str")
  | .tup _ => some (.b "tuple")
  | .ref n => match h[n]? with
    | some (.lst _) => some (.b "list")
    | some (.frl _) => some (.b "list")
    | some (.dK _) => some (.b "dict")
    | some (.dT _) => some (.b "dict")
    | some (.fK _) => some (.b "dict")
    | some (.ins c _) => some (.c c)
    | _ => none
  | _ => none
/-- the classes asked for -/
def clU : U → Option Value
  | .ty n => some (.type n)
  | .adr a => some (.ref a)
  | _ => none
/-- what isinstance asks of a class -/
structure ClsI (K : PySem.W.Frag) (C : Addr) : Prop where
  cl : Cls K C
  ha : PySem.W.findIn K (.ref C) "__class__" = some (some (.builtin "object.__class__"))
  hn : PySem.W.specialIn K (.builtin "object.__class__") "__get__" = some (some (.builtin "getset_descriptor.__get__"))
  htk : PySem.W.takesIn K (.builtin "object.__class__") = some true
  hm : PySem.W.mroIn K C (.type "object") = some true
/-- the answers by a table -/
structure IsiOk (K : PySem.W.Frag) (cls : Nat → Addr) (tbl : TT → U → Option Bool) : Prop where
  ok : ∀ t u b, tbl t u = some b → ∃ c, clU u = some c ∧ PySem.W.kitOne K (ttV cls t) c = some b
  cl : ∀ n u b, tbl (.c n) u = some b → ClsI K (cls n)
def anyT (tbl : TT → U → Option Bool) (t : TT) : List U → Option Bool
  | [] => some false
  | c :: r => match tbl t c with
    | some true => some true
    | some false => anyT tbl t r
    | none => none
def bIsi (tbl : TT → U → Option Bool) : Fn
  | [x, .tup (c0 :: l0)], h => match tyU h x with
    | some t => match anyT tbl t (c0 :: l0) with
      | some b => cond ((c0 :: l0).all fun c => (clU c).isSome) (.ok (.bl b) h) .bad
      | none => .bad
    | none => .bad
  | [x, c], h => match tyU h x with
    | some t => match tbl t c with
      | some b => .ok (.bl b) h
      | none => .bad
    | none => .bad
  | _, _ => .bad
theorem tyU_imp {ρ : List Addr} {h : Hq} {H : Hp} {u : U} {v : V} {t : TT} (rel : Rel K cls ρ h H) (q : RU K ρ H u v) (e : tyU h u = some t) (hc : ∀ n, t = .c n → ClsI K (cls n)) : TyX K H v (ttV cls t) := by
  cases u with
  | non => cases e; rw [show v = .non from q]; exact .base .non
  | bl b => cases e; rw [show v = .bl b from q]; exact .base (.bl b)
  | int b => cases e; rw [show v = .int b from q]; exact .base (.int b)
  | str b => cases e; rw [show v = .str b from q]; exact .base (.str b)
  | tup l => cases e; obtain ⟨a, ws, rfl, e1, _⟩ := q; exact .base (.tup e1)
  | ref n =>
    obtain ⟨a, ea, rfl⟩ := q
    unfold tyU at e
    cases eh : h[n]? with
    | none => simp only [eh] at e; cases e
    | some o =>
      have z := rel.at_ n o a eh ea
      cases o with
      | lst l => simp only [eh] at e; cases e; obtain ⟨ws, z1, _⟩ := z; exact .base (.lst z1)
      | frl l => simp only [eh] at e; cases e; obtain ⟨ws, _, ⟨o, z1⟩, _⟩ := z; exact .base (.frz z1)
      | dK l => simp only [eh] at e; cases e; obtain ⟨ws, z1, _⟩ := z; exact .base (.dK z1)
      | dT l => simp only [eh] at e; cases e; obtain ⟨ws, z1, _⟩ := z; exact .base (.dT z1)
      | fK l => simp only [eh] at e; cases e; obtain ⟨o, ws, z1, _⟩ := z; exact .fDict z1
      | ins c fs =>
        simp only [eh] at e; cases e
        obtain ⟨dx, ws, z1, _⟩ := z
        have k := hc c rfl
        exact .base (.ins z1 k.cl k.ha k.hn k.htk k.hm)
      | _ => simp only [eh] at e; cases e
  | _ => cases e
theorem clU_v {ρ : List Addr} {H : Hp} {u : U} {v : V} {c : Value} (e : clU u = some c) (q : RU K ρ H u v) : ClsV v c := by
  cases u with
  | ty n => cases e; rw [show v = .ty n from q]; exact .ty n
  | adr a => cases e; rw [show v = .ref a from q]; exact .own a
  | _ => cases e
theorem clUs_v {ρ : List Addr} {H : Hp} : ∀ {l : List U} {vs : List V}, (l.all fun c => (clU c).isSome) = true → RUl K ρ H l vs → ∃ cs, Paired ClsV vs cs ∧ l.mapM clU = some cs
  | [], _, _, q => by rw [show _ = ([] : List V) from q]; exact ⟨[], .nil, rfl⟩
  | u :: l, _, h, ⟨v, r, e, qv, q⟩ => by
    rw [List.all_cons, Bool.and_eq_true] at h
    obtain ⟨c, hc⟩ := Option.isSome_iff_exists.mp h.1
    obtain ⟨cs, h1, h2⟩ := clUs_v h.2 q
    rw [e]
    exact ⟨c :: cs, .cons (clU_v hc qv) h1, by simp [List.mapM_cons, hc, h2]⟩
theorem anyT_kit {tbl : TT → U → Option Bool} (ok : IsiOk K cls tbl) {t : TT} : ∀ {l : List U} {cs : List Value} {b : Bool}, l.mapM clU = some cs → anyT tbl t l = some b → PySem.W.kitAny K (ttV cls t) cs = some b
  | [], cs, b, h, e => by cases h; exact e
  | u :: l, cs, b, h, e => by
    simp only [List.mapM_cons, Option.pure_def, Option.bind_eq_bind, Option.bind_eq_some_iff] at h
    obtain ⟨c, hc, ds, hd, h⟩ := h
    cases h
    unfold anyT at e
    unfold PySem.W.kitAny
    cases et : tbl t u with
    | none => rw [et] at e; cases e
    | some k =>
      obtain ⟨c', hc', hk⟩ := ok.ok t u k et
      rw [hc] at hc'; cases hc'
      rw [hk]
      rw [et] at e
      cases k with
      | true => exact e
      | false => exact anyT_kit ok hd e
theorem anyT_cl {tbl : TT → U → Option Bool} (ok : IsiOk K cls tbl) {n : Nat} : ∀ {l : List U} {b : Bool}, anyT tbl (.c n) l = some b → l ≠ [] → ClsI K (cls n)
  | [], _, _, h => absurd rfl h
  | u :: l, b, e, _ => by
    unfold anyT at e
    cases et : tbl (.c n) u with
    | none => rw [et] at e; cases e
    | some k => exact ok.cl n u k et
theorem cal_isi {tbl : TT → U → Option Bool} (ok : IsiOk X.K cls tbl) : Cal X cls W (.builtin "isinstance") (bIsi tbl) := fun pins s σ H us vs Q l h ρ I rv rel ql p => by
  unfold bIsi at p
  split at p
  · rename_i x c0 l0
    obtain ⟨v, r, rfl, qv, v2, r2, rfl, qv2, qr⟩ := ql
    obtain rfl : r2 = [] := qr
    cases et : tyU h x with
    | none => simp only [et] at p; exact p.elim
    | some t =>
      simp only [et] at p
      cases ea : anyT tbl t (c0 :: l0) with
      | none => simp only [ea] at p; exact p.elim
      | some b =>
        simp only [ea] at p
        cases ec : ((c0 :: l0).all fun c => (clU c).isSome) with
        | false => rw [ec] at p; exact p.elim
        | true =>
          rw [ec] at p
          obtain ⟨a, ws, rfl, e1, q2⟩ := qv2
          obtain ⟨cs, h1, h2⟩ := clUs_v ec q2
          exact call_isiT pins s σ H _ us Q I rv ⟨v, a, ws, ttV cls t, cs, b, rfl, e1, h1, tyU_imp rel qv et (fun n e => by subst e; exact anyT_cl ok ea (by simp)), anyT_kit ok h2 ea, p.okB rel⟩
  · rename_i x c _
    obtain ⟨v, r, rfl, qv, v2, r2, rfl, qv2, qr⟩ := ql
    obtain rfl : r2 = [] := qr
    cases et : tyU h x with
    | none => simp only [et] at p; exact p.elim
    | some t =>
      simp only [et] at p
      cases ec : tbl t c with
      | none => simp only [ec] at p; exact p.elim
      | some b =>
        simp only [ec] at p
        obtain ⟨u, e1, e2⟩ := ok.ok t c b ec
        exact call_isi pins s σ H _ us Q I rv ⟨v, v2, ttV cls t, u, b, rfl, clU_v e1 qv2, tyU_imp rel qv et (fun n e => by subst e; exact ok.cl n c b ec), e2, p.okB rel⟩
  · exact p.elim
end
end GG
/-! GIdx -/
namespace L2
open PySem PySem.Spec PyProof.Rows
/-- d[y] as a subscript by values -/
theorem ix_dict {X : Cx} (hu : X.A.units + 1 < cLine) : IxR X (fun x y H Q => ∃ a v, x = .ref a ∧ DGet H a y (some v) ∧ Q v H) := by
  intro value slice pins s σ H x y v u Q I rx ry h hs
  obtain ⟨a, z, rfl, g, q⟩ := h
  obtain rfl : v = Value.ref a := rx
  exact tail_any (ops := [.ref a, u]) (dict_typeIs I g) PySem.F.slot_dict_getitem.lookup (d_getItem hu I g ry fun w' s' I' rw' => ⟨z, H, I', rw', q⟩) hs
/-- text[::-1] -/
theorem rev_picked (x : Str) : ((Builtin.Str.strSliceIndices none none (-1) x.length).filterMap (x.cps[·]?)) = x.cps.toList.reverse := by
  have e : Builtin.Str.strSliceIndices none none (-1) x.length = (List.range x.length).reverse := by rw [picked_rev, PySem.W.krv_range]
  have e2 : (List.range x.length).filterMap (x.cps[·]?) = x.cps.toList := by
    apply List.ext_getElem?
    intro i
    have : (List.range x.length).filterMap (x.cps[·]?) = (List.range x.length).map (fun j => x.cps.getD j 0) := filterMap_get x.cps _ fun j hj => List.mem_range.mp hj
    rw [this, List.getElem?_map]
    by_cases hi : i < x.length
    · rw [List.getElem?_range hi]
      have hi' : i < x.cps.size := hi
      simp [Array.getD, hi']
    · have h1 : (List.range x.length)[i]? = none := List.getElem?_eq_none (by rw [List.length_range]; omega)
      have h2 : x.cps.toList[i]? = none := List.getElem?_eq_none (by rw [Array.length_toList]; show x.length ≤ i; omega)
      rw [h1, h2] <;> rfl
  rw [e, List.filterMap_reverse, e2]
def tRevS (te : TE) : TE := fun σ H Q => te σ H fun x H1 => ∃ z, x = .str z ∧ z.length ≤ sizeLine ∧ Q (.str ⟨⟨z.cps.toList.reverse⟩⟩) H1
theorem pe_revS {X : Cx} {e : Expr} {te : TE} {k : Nat} {p1 p2 p3 pos : Pos} (he : PE X e te) : PE X (.Subscript e (.Slice none none (some (.UnaryOp .USub (.Constant (.int 1) k p1) p2)) p3) pos) (tRevS te) := by
  refine ⟨fun pins s σ H Q I h => ?_⟩
  refine Subscript_ (thn (he.run pins s σ H _ I h) fun v s1 ⟨x, H1, I1, r1, q1⟩ => ?_)
  obtain ⟨z, ex, hz, q⟩ := q1
  subst ex
  obtain ⟨t, rfl⟩ := r1
  have hst : PO X (some (.UnaryOp .USub (.Constant (.int 1) k p1) p2)) (tPart (tUn (rU fun i => .int (-i)) (tC (.int 1)))) := po_some (pe_un un_neg pe_int)
  refine wpAny_Slice (thn (po_none.run pins s1 σ H1 (fun o H2 => o = none ∧ H2 = H1) I1 ⟨rfl, rfl⟩) fun vl s2 ⟨l, H2, I2, pl, el, e2⟩ => ?_)
  subst el e2
  refine thn (po_none.run pins s2 σ H2 (fun o H3 => o = none ∧ H3 = H2) I2 ⟨rfl, rfl⟩) fun vu s3 ⟨u, H3, I3, pu, eu, e3⟩ => ?_
  subst eu e3
  refine thn (hst.run pins s3 σ H3 (fun o H4 => o = some (-1) ∧ H4 = H3) I3 ⟨1, rfl, -1, rfl, rfl, rfl⟩) fun vs s4 ⟨o, H4, I4, ps, eo, e4⟩ => ?_
  subst eo e4
  have I5 : Inv X pins σ H4 { s4 with heap := s4.heap.push { cls := .type "slice", data := .fields #[vl, vu, vs] } } := I4.kept (t' := s4.toks) fun b ob q => Heap.get?_push_of_some _ q
  cases pl
  cases pu
  cases ps with
  | int i tk =>
    show wpAny (model X.prog X.w) X.A (subscriptTail e (.Slice none none (some (.UnaryOp .USub (.Constant (.int 1) k p1) p2)) p3) (.str z t) (.ref s4.heap.objs.size)) (EP X pins σ Q) X.xe { s4 with heap := s4.heap.push { cls := .type "slice", data := .fields #[.none, .none, .int (-1) tk] } }
    refine tail_any (ops := [.ref s4.heap.objs.size, .str z t]) (typeIs_str _ z t) F.slot_str_getitem.lookup ?_ (by with_unfolding_all rfl)
    refine wpAny_getItem_str_slice (l := none) (u := none) (st := some (-1, tk)) ⟨_, Heap.get?_push_size _ rfl, rfl, rfl⟩ rfl ?_
    show Made.post (if ((-1 : Int) == 1 && (Builtin.Str.strSliceIndices none none (-1) z.length).length == z.length) = true then Made.val (.str z t)
      else Made.str ⟨((Builtin.Str.strSliceIndices none none (-1) z.length).filterMap (z.cps[·]?)).toArray⟩) (EP X pins σ Q) _
    rw [if_neg (by simp), rev_picked]
    exact ⟨by show (z.cps.toList.reverse.toArray).size ≤ sizeLine; rw [List.size_toArray, List.length_reverse, Array.length_toList]; exact hz, .str _, H4, I5.tok _, ⟨_, rfl⟩, q⟩
end L2
namespace GG
open PySem PySem.Spec PyProof.Rows L2
section
variable {X : Cx} {K : PySem.W.Frag} {cls : Nat → Addr} {W : WX} {pos p2 pos' : Pos} {a b e o i value : Expr} {ma mb me mo mi mv : Ev} {es : List Expr} {mas : Eva}
/-! ### subscripts -/
theorem RUl.atI {ρ : List Addr} {H : Hp} {l : List U} {vs : List V} {i : Int} {u : U} (q : RUl K ρ H l vs) (e : L2.atI l i = some u) : ∃ v, L2.atI vs i = some v ∧ RU K ρ H u v := by
  unfold L2.atI at e ⊢
  rw [q.length]
  cases hi : ixN l.length i with
  | none => rw [hi] at e; cases e
  | some j =>
    rw [hi] at e
    have e : l[j]? = some u := e
    have z := q.get (i := j)
    rw [e] at z
    obtain ⟨v, e1, e2⟩ := z
    exact ⟨v, e1, e2⟩
def dicU (h : Hq) : U → Option (List (Key × U))
  | .ref n => match h[n]? with
    | some (.dK l) => some l
    | some (.fK l) => some l
    | _ => none
  | _ => none
theorem dicU_imp {ρ : List Addr} {h : Hq} {H : Hp} {u : U} {v : V} {l : List (Key × U)} (rel : Rel K cls ρ h H) (q : RU K ρ H u v) (e : dicU h u = some l) : ∃ a ws, v = .ref a ∧ Rd H a (.dK ws) ∧ RUp K ρ H l ws := by
  cases u with
  | ref n =>
    obtain ⟨a, ea, rfl⟩ := q
    unfold dicU at e
    cases eh : h[n]? with
    | none => simp only [eh] at e; cases e
    | some o =>
      have z := rel.at_ n o a eh ea
      cases o with
      | dK l2 => simp only [eh] at e; cases e; obtain ⟨ws, z1, z2⟩ := z; exact ⟨a, ws, rfl, .inl z1, z2⟩
      | fK l2 => simp only [eh] at e; cases e; obtain ⟨o, ws, z1, z2⟩ := z; exact ⟨a, ws, rfl, .inr ⟨o, z1⟩, z2⟩
      | _ => simp only [eh] at e; cases e
  | _ => cases e
def fIx : F2
  | .str z, .int i, h => cond (Nat.ble (strLen z) 16777216) (match L2.atI z.cps.toList i with
    | some c => .ok (.str ⟨⟨[c]⟩⟩) h
    | none => .bad) .bad
  | u, k, h => match seqU h u, k with
    | some l, .int i => match L2.atI l i with
      | some v => .ok v h
      | none => .bad
    | _, _ => match dicU h u, keyOf k with
      | some l, some kk => match valU l kk with
        | some v => .ok v h
        | none => .bad
      | _, _ => .bad
theorem se_ix (hu : X.A.units + 1 < cLine) (ha : SE X cls W a ma) (hb : SE X cls W b mb) (hs : PlainIx b := by intro _ _; rfl) : SE X cls W (.Subscript a b pos) (evBin fIx ma mb) := by
  refine ⟨fun pins s σ H Q I ⟨us, h, ρ, at_, p⟩ => ?_⟩
  refine Subscript_ (thn (ha.run pins s σ H _ I ⟨us, h, ρ, at_, Post.bind (R := RU X.K) at_ p⟩) fun v s1 ⟨x, H1, I1, rx, u, h1, ρ1, s1', at1, q1, p1⟩ =>
    thn (hb.run pins s1 σ H1 _ I1 ⟨us, h1, ρ1, at1, Post.bind (R := RU X.K) at1 p1⟩) fun v2 s2 ⟨y, H2, I2, ry, w, h2, ρ2, s2', at2, q2, p2⟩ => ?_)
  have q1' := RU.mono at1.rel s2' q1
  unfold fIx at p2
  split at p2
  · rename_i z i hh
    cases hz : Nat.ble (strLen z) 16777216 with
    | false => rw [hz] at p2; exact p2.elim
    | true =>
      simp only [hz, cond_true] at p2
      split at p2
      · rename_i c ec
        refine ix_seq a b pins s2 σ H2 x y v v2 Q I2 rx ry (.inr (.inr ⟨z, i, c, q1', q2, by rw [← strLen_eq]; exact Nat.le_of_ble_eq_true hz, ec, ?_⟩)) (hs _ _)
        exact p2.okS at2.rel
      · exact p2.elim
  · split at p2
    · rename_i l i el _
      split at p2
      · rename_i r er
        obtain ⟨aa, vs, rfl, t, ql⟩ := seqU_imp at2.rel q1' el
        obtain ⟨rv, er1, er2⟩ := ql.atI er
        have z := p2.ok at2.rel er2
        rcases t with t | t
        · exact ix_seq a b pins s2 σ H2 _ y v v2 Q I2 rx ry (.inr (.inl ⟨aa, vs, i, rv, rfl, q2, t, er1, z⟩)) (hs _ _)
        · exact ix_seq a b pins s2 σ H2 _ y v v2 Q I2 rx ry (.inl ⟨aa, vs, i, rv, rfl, q2, t, er1, z⟩) (hs _ _)
      · exact p2.elim
    · split at p2
      · rename_i l kk el ek
        split at p2
        · rename_i r er
          obtain ⟨aa, ws, rfl, hd, ql⟩ := dicU_imp at2.rel q1' el
          have z := valU_imp (k := kk) ql
          rw [er] at z
          obtain ⟨rv, ev1, ev2⟩ := z
          exact ix_dict hu a b pins s2 σ H2 _ y v v2 Q I2 rx ry ⟨aa, rv, rfl, .inl ⟨ws, kk, hd, keyOf_ru q2 ek, ev1.symm⟩, p2.ok at2.rel ev2⟩ (hs _ _)
        · exact p2.elim
      · exact p2.elim
/-! ### slices -/
def cutU {α : Type} (xs : List α) (lo hi : Option Int) : List α := (xs.drop (HT.sIx xs.length 0 lo)).take (HT.sIx xs.length xs.length hi - HT.sIx xs.length 0 lo)
theorem RUl.drop {ρ : List Addr} {H : Hp} : ∀ {l : List U} {vs : List V} {n : Nat}, RUl K ρ H l vs → RUl K ρ H (l.drop n) (vs.drop n)
  | [], _, n, e => by rw [show _ = ([] : List V) from e]; simp only [List.drop_nil]; rfl
  | _ :: _, _, 0, q => q
  | _ :: l, _, n + 1, ⟨v, r, e, _, q⟩ => by rw [e, List.drop_succ_cons, List.drop_succ_cons]; exact RUl.drop q
theorem RUl.take {ρ : List Addr} {H : Hp} : ∀ {l : List U} {vs : List V} {n : Nat}, RUl K ρ H l vs → RUl K ρ H (l.take n) (vs.take n)
  | [], _, n, e => by rw [show _ = ([] : List V) from e]; simp only [List.take_nil]; rfl
  | _ :: _, _, 0, _ => rfl
  | _ :: _, _, n + 1, ⟨v, r, e, a, q⟩ => by rw [e]; exact ⟨v, r.take n, rfl, a, RUl.take q⟩
theorem RUl.cut {ρ : List Addr} {H : Hp} {l : List U} {vs : List V} {lo hi : Option Int} (q : RUl K ρ H l vs) : RUl K ρ H (cutU l lo hi) (cutV vs lo hi) := by
  unfold cutU cutV
  rw [q.length]
  exact (q.drop).take
abbrev EvO := Sl → Hq → Res (Option Int)
def eoN : EvO := fun _ h => .ok none h
def eoS (m : Ev) : EvO := fun us h => (m us h).bind fun u h1 => match u with
  | .int i => .ok (some i) h1
  | _ => .bad
abbrev rEqO : RelT (Option Int) (Option Int) := fun _ _ a b => a = b
abbrev SO (X : Cx) (cls : Nat → Addr) (W : WX) (e : Option Expr) (m : EvO) : Prop := PO X e (tG X.K cls W rEqO m)
theorem po_imp {X : Cx} {e : Option Expr} {t t' : L2.TO} (h : PO X e t) (i : ∀ σ H Q, t' σ H Q → t σ H Q) : PO X e t' := ⟨fun pins s σ H Q I hw => h.run pins s σ H Q I (i σ H Q hw)⟩
theorem so_none : SO X cls W none eoN := po_imp po_none fun σ H Q ⟨us, h, ρ, a, p⟩ => p.ok (v := none) a.rel rfl
theorem so_some (he : SE X cls W e me) : SO X cls W (some e) (eoS me) := po_imp (po_some he) fun σ H Q ⟨us, h, ρ, at_, p⟩ => by
  refine ⟨us, h, ρ, at_, Post.imp (fun x H1 q => ?_) (Post.bind (R := RU X.K) at_ p)⟩
  obtain ⟨u, h1, ρ1, s1, at1, q1, p1⟩ := q
  cases u with
  | int i => exact ⟨i, q1, p1.ok (v := some i) at1.rel rfl⟩
  | _ => exact p1.elim
def fSl (u : U) (lo hi : Option Int) (h : Hq) : Res U := match u with
  | .str z => cond (Nat.ble (strLen z) 16777216) (.ok (.str ⟨⟨cutU z.cps.toList lo hi⟩⟩) h) .bad
  | .tup l => .ok (.tup (cutU l lo hi)) h
  | u => match lstU h u with
    | some l => .ok (.ref h.length) (h ++ [HU.lst (cutU l lo hi)])
    | none => .bad
def evSl (me : Ev) (ml mh : EvO) : Ev := fun us h => (me us h).bind fun u h1 => (ml us h1).bind fun lo h2 => (mh us h2).bind fun hi h3 => fSl u lo hi h3
theorem cutS_eq {z : Str} {lo hi : Option Int} : cutS z lo hi = ⟨⟨cutU z.cps.toList lo hi⟩⟩ := by
  unfold cutS cutU
  rw [Array.length_toList]
  rfl
theorem se_sl {lo hi : Option Expr} {ml mh : EvO} (ha : SE X cls W a ma) (hl : SO X cls W lo ml) (hh : SO X cls W hi mh) : SE X cls W (.Subscript a (.Slice lo hi none p2) pos) (evSl ma ml mh) :=
  pe_imp (pe_slice (sl_list.or (sl_tupA.or sl_str)) ha hl hh) fun σ H Q ⟨us, h, ρ, at_, p⟩ => by
  refine ⟨us, h, ρ, at_, Post.imp (fun x H1 q => ?_) (Post.bind (R := RU X.K) at_ p)⟩
  obtain ⟨u, h1, ρ1, s1, at1, q1, p1⟩ := q
  refine ⟨us, h1, ρ1, at1, Post.imp (fun lo' H2 q => ?_) (Post.bind (R := rEqO) at1 p1)⟩
  obtain ⟨lo, h2, ρ2, s2, at2, q2, p2⟩ := q
  obtain rfl : lo = lo' := q2
  refine ⟨us, h2, ρ2, at2, Post.imp (fun hi' H3 q => ?_) (Post.bind (R := rEqO) at2 p2)⟩
  obtain ⟨hi, h3, ρ3, s3, at3, q3, p3⟩ := q
  obtain rfl : hi = hi' := q3
  have qu := RU.mono at2.rel s3 (RU.mono at1.rel s2 q1)
  unfold fSl at p3
  split at p3
  · rename_i z
    cases hz : Nat.ble (strLen z) 16777216 with
    | false => rw [hz] at p3; exact p3.elim
    | true =>
      rw [hz] at p3
      refine .inr (.inr ⟨z, qu, by rw [← strLen_eq]; exact Nat.le_of_ble_eq_true hz, ?_⟩)
      rw [cutS_eq]
      exact Post.okS p3 at3.rel
  · rename_i l
    obtain ⟨aa, vs, rfl, t, ql⟩ := qu
    refine .inr (.inl ⟨aa, vs, rfl, .inl (.inl t), fun z => ?_, fun _ p hp => post_newT at3.rel ql.cut p3 hp⟩)
    have e : cutU l lo hi = l := by
      unfold cutU
      rw [← ql.length, z.1, z.2, List.drop_zero, Nat.sub_zero, ql.length, List.take_length]
    have p3' : Post X.K cls W (RU X.K) ρ3 σ H3 Q (.ok (.tup l) h3) := by rw [e] at p3; exact p3
    exact p3'.ok at3.rel ⟨aa, vs, rfl, t, ql⟩
  · split at p3
    · rename_i l el
      obtain ⟨aa, ws, rfl, z1, z2⟩ := lstU_imp at3.rel qu el
      exact .inl ⟨aa, ws, rfl, z1, fun p hp => post_newL at3.rel z2.cut p3 hp⟩
    · exact p3.elim
/-- text[::-1] -/
def evRevS (me : Ev) : Ev := fun us h => (me us h).bind fun u h1 => match u with
  | .str z => cond (Nat.ble (strLen z) 16777216) (.ok (.str ⟨⟨z.cps.toList.reverse⟩⟩) h1) .bad
  | _ => .bad
theorem se_revS {k : Nat} {p1 p3 : Pos} (he : SE X cls W e me) : SE X cls W (.Subscript e (.Slice none none (some (.UnaryOp .USub (.Constant (.int 1) k p1) p2)) p3) pos) (evRevS me) := pe_imp (pe_revS he) fun σ H Q ⟨us, h, ρ, at_, p⟩ => by
  refine ⟨us, h, ρ, at_, Post.imp (fun x H1 q => ?_) (Post.bind (R := RU X.K) at_ p)⟩
  obtain ⟨u, h1, ρ1, s1, at1, q1, p1⟩ := q
  cases u with
  | str z =>
    cases hz : Nat.ble (strLen z) 16777216 with
    | false => simp only [hz] at p1; exact p1.elim
    | true =>
      simp only [hz, cond_true] at p1
      exact ⟨z, q1, by rw [← strLen_eq]; exact Nat.le_of_ble_eq_true hz, p1.okS at1.rel⟩
  | _ => exact p1.elim
/-! ### o[i] = v -/
def fPut (o i v : U) (h : Hq) : Res Unit := match o with
  | .ref n => match h[n]? with
    | some (.lst l) => match i with
      | .int k => match ixN l.length k with
        | some j => .ok () (h.set n (.lst (l.set j v)))
        | none => .bad
      | _ => .bad
    | _ => dputU n i v h
  | _ => .bad
theorem RUl.set {ρ : List Addr} {H : Hp} {u : U} {v : V} (q0 : RU K ρ H u v) : ∀ {l : List U} {vs : List V} {j : Nat}, RUl K ρ H l vs → RUl K ρ H (l.set j u) (vs.set j v)
  | [], _, _, e => by rw [show _ = ([] : List V) from e]; rfl
  | _ :: _, _, 0, ⟨x, r, e, _, q⟩ => by rw [e]; exact ⟨v, r, rfl, q0, q⟩
  | _ :: _, _, j + 1, ⟨x, r, e, a, q⟩ => by rw [e]; exact ⟨x, r.set j v, rfl, a, RUl.set q0 q⟩
def tPut (K : PySem.W.Frag) (cls : Nat → Addr) : TSet := fun o i v H Q => ∃ uo ui uv h ρ, Rel K cls ρ h H ∧ RU K ρ H uo o ∧ RU K ρ H ui i ∧ RU K ρ H uv v ∧ PostU K cls ρ H Q (fPut uo ui uv h)
theorem put_ok (hu : X.A.units + 1 < cLine) : PSet X (tPut X.K cls) := fun pins s σ H o i v ov iv u Q I ro ri rv ⟨uo, ui, uv, h, ρ, rel, qo, qi, qv, p⟩ => by
  unfold fPut at p
  split at p
  · rename_i n
    obtain ⟨a, ea, rfl⟩ := qo
    split at p
    · rename_i l el
      split at p
      · rename_i k
        split at p
        · rename_i j ej
          obtain ⟨ws, z1, z2⟩ := rel.at_ n _ a el ea
          refine set_list pins s σ H _ _ _ ov iv u Q I ro ri rv ⟨a, ws, k, j, rfl, qi, z1, by rw [z2.length]; exact ej, ?_⟩
          obtain ⟨r3, s3⟩ := rel.put (o := .lst (ws.set j v)) (u := .lst (l.set j uv)) ea (fun ob w z => by rw [z1] at z; cases z) fun st => ⟨_, upd_same, RUl.set (RU.mono rel st qv) (RUl.mono rel st z2)⟩
          exact p _ ρ s3 r3
        · exact p.elim
      · exact p.elim
    · obtain ⟨kvs, kk, rfl, hd, hl, q⟩ := dputU_ok rel ea qi qv p
      obtain rfl : ov = Value.ref a := ro
      exact d_setItem hu I (DPut.k hd hl) ri rv fun s' I' => ⟨_, I', q⟩
  · exact p.elim
def mPut (mo mi mv : Ev) : SM := fun us h => (mv us h).toS us fun v h1 => (mo us h1).toS us fun o h2 => (mi us h2).toS us fun i h3 => match fPut o i v h3 with
  | .ok _ h4 => .nx us h4
  | _ => .bad
theorem ss_put (hu : X.A.units + 1 < cLine) (ho : SE X cls W o mo) (hi : SE X cls W i mi) (hv : SE X cls W value mv) (hs : swapsWithSole [.Subscript o i pos'] value pos.line X.env = pure false := by rfl) (hw : swappedStores [.Subscript o i pos'] value X.env = pure none := by rfl)
    (h1 : (assignEach [.Subscript o i pos'] X.env).map (·.2) = [assign (.Subscript o i pos') X.env] := by rfl)
    (ha : ∀ v, assign (.Subscript o i pos') X.env v = (do
      let ov ← holding [v] (eval o X.env)
      let iv ← holding [v, ov] (eval i X.env)
      standAt pos'
      holding [v, ov, iv] (setItem ov iv v)
      release [v, ov, iv] []) := by intro _; rfl) : SS X cls W (.Assign [.Subscript o i pos'] value pos) (mPut mo mi mv) := ps_imp (ps_asg hv (pg_sub ho hi (put_ok (cls := cls) hu) ha) hs hw h1) fun D σ H ⟨us, h, ρ, a, p⟩ => by
  refine ⟨us, h, ρ, a, Post.imp (fun z H1 q => ?_) (PostS.bind (R := RU X.K) a p)⟩
  obtain ⟨uv, h1, ρ1, s1, at1, q1, p1⟩ := q
  refine ⟨us, h1, ρ1, at1, Post.imp (fun x H2 q => ?_) (PostS.bind (R := RU X.K) at1 p1)⟩
  obtain ⟨uo, h2, ρ2, s2, at2, q2, p2⟩ := q
  refine ⟨us, h2, ρ2, at2, Post.imp (fun y H3 q => ?_) (PostS.bind (R := RU X.K) at2 p2)⟩
  obtain ⟨ui, h3, ρ3, s3, at3, q3, p3⟩ := q
  refine ⟨uo, ui, uv, h3, ρ3, at3.rel, RU.mono at2.rel s3 q2, q3, RU.mono at2.rel s3 (RU.mono at1.rel s2 q1), ?_⟩
  cases ef : fPut uo ui uv h3 with
  | ok _ h4 =>
    rw [ef] at p3
    exact fun H4 ρ4 s4 r4 => p3 σ H4 ρ4 s4 r4 (at3.sl.mono at3.rel s4)
  | _ => rw [ef] at p3; exact p3.elim
/-! ### methods of built-ins -/
def evBM (chk : Hq → U → Bool) (sem : Fn) (mo : Ev) (ma : Eva) : Ev := fun us h => (mo us h).bind fun u h1 => cond (chk h1 u) ((ma us h1).bind fun l h2 => sem (u :: l) h2) .bad
def isStrU (_ : Hq) : U → Bool
  | .str _ => true
  | _ => false
def isLstU (h : Hq) (u : U) : Bool := (lstU h u).isSome
theorem isStr_ty {ρ : List Addr} {h : Hq} {H : Hp} {u : U} {v : V} (rel : Rel K cls ρ h H) (q : RU K ρ H u v) (e : isStrU h u = true) : tyV K "str" v H := by
  cases u with
  | str z => rw [show v = .str z from q]; rfl
  | _ => cases e
theorem isLst_ty {ρ : List Addr} {h : Hq} {H : Hp} {u : U} {v : V} (rel : Rel K cls ρ h H) (q : RU K ρ H u v) (e : isLstU h u = true) : tyV K "list" v H := by
  obtain ⟨l, el⟩ := Option.isSome_iff_exists.mp (show (lstU h u).isSome = true from e)
  obtain ⟨a, ws, rfl, z1, z2⟩ := lstU_imp rel q el
  exact .inl ⟨rfl, ws, z1⟩
theorem se_bm {T id : String} {name : Str} {apos cpos : Pos} {chk : Hq → U → Bool} {sem : Fn} (pa : PlainAttrs T) (slot : Slot T name id) (hty : typeOf (.builtin id) = pure (.type "method_descriptor")) (hm : Cal X cls W (.builtin id) sem)
    (hchk : ∀ (ρ : List Addr) (h : Hq) (H : Hp) (u : U) (v : V), Rel X.K cls ρ h H → RU X.K ρ H u v → chk h u = true → tyV X.K T v H) (ho : SE X cls W o mo) (ha : SA X cls W (e :: es) mas)
    (hbase : attributeBase o name X.env (eval o X.env) = eval o X.env := by rfl)
    (hfew : ((backTo cpos (starEach (e :: es) X.env)).all (fun x => !x.1) && (backToKw cpos (keywordEach [] X.env)).all (fun x => x.1.isSome)
      && decide ((e :: es).length + ([] : List Keyword).length + (if ([] : List Keyword).isEmpty then 0 else 1) < 30)) = true := by rfl)
    (hline : (apos.endLine == cpos.line) = true := by rfl) (hs : starEach (e :: es) X.env = (false, eval e X.env) :: starEach es X.env := by rfl) (hplain : (backTo cpos (starEach es X.env)).any (·.1) = false := by rfl) :
    SE X cls W (.Call (.Attribute o name apos) (e :: es) [] cpos) (evBM chk sem mo mas) := by
  refine ⟨fun pins s σ H Q I ⟨us, h, ρ, at_, p⟩ => ?_⟩
  refine wpAny_Call_method_late hbase hfew hline rfl (thn (ho.run pins s σ H _ I ⟨us, h, ρ, at_, Post.bind (R := RU X.K) at_ p⟩) fun v s1 ⟨x, H1, I1, r1, u, h1, ρ1, s1', at1, q1, p1⟩ => ?_)
  cases ec : chk h1 u with
  | false => simp only [ec] at p1; exact p1.elim
  | true =>
    simp only [ec, cond_true] at p1
    obtain ⟨t1, t2⟩ := tyV_is I1 r1 (hchk _ _ _ _ _ at1.rel q1 ec)
    refine ⟨T, id, pa, slot, hty, t1, t2, ?_⟩
    have hA := ha.run cpos pins s1 σ H1 _ I1 ⟨us, h1, ρ1, at1, Post.bind (R := RUl X.K) at1 p1⟩
    rw [hs] at hA ⊢
    refine Calls.callWith_builtin (by show (false || (backTo cpos (starEach es X.env)).any (·.1)) = false; rw [hplain] <;> rfl) (Calls.evalArgs_plain ?_)
    exact thn hA fun uv s2 ⟨vs, H2, I2, r2, l, h2, ρ2, s2', at2, q2, p2⟩ => hm pins s2 σ H2 (v :: uv) (x :: vs) Q (u :: l) h2 ρ2 I2 (.cons r1 r2) at2.rel ⟨x, vs, rfl, RU.mono at1.rel s2' q1, q2⟩ p2
theorem Cal.ofM {id : String} {r : V → List V → Hp → VK → Prop} {sem : Fn} (hm : MtR X id r) (hf : FnR1 X.K cls (fun xs H Q => ∃ x t, xs = x :: t ∧ r x t H Q) sem) : Cal X cls W (.builtin id) sem := fun pins s σ H us vs Q l h ρ I rv rel ql p => by
  obtain ⟨x, t, rfl, hr⟩ := hf W σ ρ h H l vs Q rel ql p
  cases rv with
  | cons r1 r2 => exact hm pins s σ H x t _ _ Q I r1 r2 hr
def bAppend : Fn
  | [.ref n, v], h => match h[n]? with
    | some (.lst l) => cond (Nat.blt l.length 16777216) (.ok .non (h.set n (.lst (l ++ [v])))) .bad
    | _ => .bad
  | _, _ => .bad
theorem cal_append : Cal X cls W (.builtin "list.append") bAppend := Cal.ofM mt_append fun W σ ρ h H l vs Q rel ql p => by
  unfold bAppend at p
  split at p
  · rename_i n uv
    obtain ⟨v, r, rfl, qv, v2, r2, rfl, qv2, qr⟩ := ql
    obtain rfl : r2 = [] := qr
    obtain ⟨a, ea, rfl⟩ := qv
    split at p
    · rename_i l el
      cases hb : Nat.blt l.length 16777216 with
      | false => rw [hb] at p; exact p.elim
      | true =>
        rw [hb] at p
        obtain ⟨ws, z1, z2⟩ := rel.at_ n _ a el ea
        refine ⟨_, _, rfl, a, ws, v2, rfl, rfl, z1, by rw [z2.length]; exact Nat.le_of_ble_eq_true hb, ?_⟩
        obtain ⟨r3, s3⟩ := rel.put (o := .lst (ws ++ [v2])) (u := .lst (l ++ [uv])) ea (fun ob w z => by rw [z1] at z; cases z) fun st => ⟨_, upd_same, RUl.snoc (RUl.mono rel st z2) (RU.mono rel st qv2)⟩
        exact p .non _ ρ s3 r3 rfl
    · exact p.elim
  · exact p.elim
def bExtend : Fn
  | [.ref n, .ref m], h => match h[n]?, h[m]? with
    | some (.lst l), some (.lst l2) => cond (Nat.ble (l.length + l2.length) 16777216) (.ok .non (h.set n (.lst (l ++ l2)))) .bad
    | _, _ => .bad
  | _, _ => .bad
theorem cal_extend : Cal X cls W (.builtin "list.extend") bExtend := Cal.ofM mt_extend fun W σ ρ h H l vs Q rel ql p => by
  unfold bExtend at p
  split at p
  · rename_i n m
    obtain ⟨v, r, rfl, qv, v2, r2, rfl, qv2, qr⟩ := ql
    obtain rfl : r2 = [] := qr
    obtain ⟨a, ea, rfl⟩ := qv
    obtain ⟨b, eb, rfl⟩ := qv2
    split at p
    · rename_i l l2 el el2
      cases hb : Nat.ble (l.length + l2.length) 16777216 with
      | false => rw [hb] at p; exact p.elim
      | true =>
        rw [hb] at p
        obtain ⟨ws, z1, z2⟩ := rel.at_ n _ a el ea
        obtain ⟨ws2, y1, y2⟩ := rel.at_ m _ b el2 eb
        refine ⟨_, _, rfl, a, b, ws, ws2, rfl, rfl, z1, y1, by rw [z2.length, y2.length]; exact Nat.le_of_ble_eq_true hb, ?_⟩
        obtain ⟨r3, s3⟩ := rel.put (o := .lst (ws ++ ws2)) (u := .lst (l ++ l2)) ea (fun ob w z => by rw [z1] at z; cases z) fun st => ⟨_, upd_same, RUl.append (RUl.mono rel st z2) (RUl.mono rel st y2)⟩
        exact p .non _ ρ s3 r3 rfl
    · exact p.elim
  · exact p.elim
def strsU : List U → Option (List Str)
  | [] => some []
  | .str i :: r => (strsU r).map (i :: ·)
  | _ :: _ => none
theorem strsU_imp {ρ : List Addr} {H : Hp} : ∀ {l : List U} {vs : List V} {ns : List Str}, strsU l = some ns → RUl K ρ H l vs → vs = ns.map V.str
  | [], _, _, e, q => by cases e; exact q
  | u :: l, vs, ns, e, ⟨v, r, ev, qv, q⟩ => by
    cases u with
    | str i =>
      have e : (strsU l).map (i :: ·) = some ns := e
      rw [Option.map_eq_some_iff] at e
      obtain ⟨ms, e1, rfl⟩ := e
      rw [ev, strsU_imp e1 q, show v = V.str i from qv] <;> rfl
    | _ => cases e
theorem ru_strs {ρ : List Addr} {H : Hp} : ∀ (ns : List Str), RUl K ρ H (ns.map U.str) (ns.map V.str)
  | [] => rfl
  | _ :: _ => ⟨_, _, rfl, rfl, ru_strs _⟩
def bJoin : Fn
  | [.str a, u], h => match seqU h u with
    | some l => match strsU l with
      | some ys => cond (Nat.ble ((ys.map strLen).sum + ys.length * strLen a) 16777216) (.ok (.str (Txt.join a ys)) h) .bad
      | none => .bad
    | none => .bad
  | _, _ => .bad
theorem cal_join : Cal X cls W (.builtin "str.join") bJoin := Cal.ofM mt_join fun W σ ρ h H l vs Q rel ql p => by
  unfold bJoin at p
  split at p
  · rename_i a u
    obtain ⟨v, r, rfl, qv, v2, r2, rfl, qv2, qr⟩ := ql
    obtain rfl : r2 = [] := qr
    cases el : seqU h u with
    | none => rw [el] at p; exact p.elim
    | some l =>
      simp only [el] at p
      cases es : strsU l with
      | none => rw [es] at p; exact p.elim
      | some ys =>
        simp only [es] at p
        cases hb : Nat.ble ((ys.map strLen).sum + ys.length * strLen a) 16777216 with
        | false => rw [hb] at p; exact p.elim
        | true =>
          rw [hb] at p
          obtain ⟨b, ws, rfl, t, ql⟩ := seqU_imp rel qv2 el
          rw [strsU_imp es ql] at t
          refine ⟨v, _, rfl, a, b, ys, qv, rfl, t.symm, ?_, p.okS rel⟩
          have z := Nat.le_of_ble_eq_true hb
          have e1 : ys.map strLen = ys.map (·.length) := List.map_congr_left fun y _ => strLen_eq
          rw [e1, strLen_eq] at z
          exact z
  · exact p.elim
def bCount : Fn
  | [.str a, .str b], h => .ok (.int (Txt.count a b)) h
  | _, _ => .bad
theorem cal_count : Cal X cls W (.builtin "str.count") bCount := Cal.ofM mt_count fun W σ ρ h H l vs Q rel ql p => by
  unfold bCount at p
  split at p
  · obtain ⟨v, r, rfl, qv, v2, r2, rfl, qv2, qr⟩ := ql
    exact ⟨v, _, rfl, _, _, qv, by rw [show v2 = _ from qv2, show r2 = [] from qr], p.okI rel⟩
  · exact p.elim
/-! ### f-strings -/
def evFmt (me : Ev) : Ev := fun us h => (me us h).bind fun u h1 => match u with
  | .str y => cond (Nat.ble (strLen y) 16777216) (.ok (.str y) h1) .bad
  | .int i => cond (smallI i) (.ok (.str (toString i)) h1) .bad
  | _ => .bad
theorem se_fmt (he : SE X cls W e me) : SE X cls W (.FormattedValue e (-1) none pos) (evFmt me) := pe_imp (pe_fmt he) fun σ H Q ⟨us, h, ρ, at_, p⟩ => by
  refine ⟨us, h, ρ, at_, Post.imp (fun x H1 q => ?_) (Post.bind (R := RU X.K) at_ p)⟩
  obtain ⟨u, h1, ρ1, s1, at1, q1, p1⟩ := q
  cases u with
  | str z =>
    cases hz : Nat.ble (strLen z) 16777216 with
    | false => simp only [hz] at p1; exact p1.elim
    | true => simp only [hz, cond_true] at p1; exact .inl ⟨z, q1, by rw [← strLen_eq]; exact Nat.le_of_ble_eq_true hz, p1.okS at1.rel⟩
  | int i =>
    cases hz : smallI i with
    | false => simp only [hz] at p1; exact p1.elim
    | true => simp only [hz, cond_true] at p1; exact .inr ⟨i, q1, Nat.le_of_ble_eq_true hz, p1.okS at1.rel⟩
  | _ => exact p1.elim
inductive SJ (X : Cx) (cls : Nat → Addr) (W : WX) : List Expr → List Ev → Prop where
  | nil : SJ X cls W [] []
  | cons {e : Expr} {m : Ev} {es : List Expr} {ms : List Ev} (h : SE X cls W e m) (r : SJ X cls W es ms) : SJ X cls W (e :: es) (m :: ms)
theorem SJ.pj {es : List Expr} {ms : List Ev} (h : SJ X cls W es ms) : PJ X es (ms.map (tE X.K cls W)) := by
  induction h with
  | nil => exact .nil
  | cons h r ih => exact .cons h ih
def evJs : List Ev → Str → Ev
  | [], acc => fun _ h => .ok (.str acc) h
  | m :: ms, acc => fun us h => (m us h).bind fun u h1 => match u with
    | .str y => cond (Nat.ble (strLen (strApp acc y)) 16777216) (evJs ms (strApp acc y) us h1) .bad
    | _ => .bad
theorem js_imp {us : Sl} {σ : L2.St} {Q : VK} : ∀ (ms : List Ev) (acc : Str) (h : Hq) (ρ : List Addr) (H : Hp), At X.K cls ρ us h σ H → Post X.K cls W (RU X.K) ρ σ H Q (evJs ms acc us h) → tJs (ms.map (tE X.K cls W)) acc σ H fun out H1 => Q (.str out) H1
  | [], acc, h, ρ, H, a, p => Post.okS p a.rel
  | m :: ms, acc, h, ρ, H, a, p => by
    refine ⟨us, h, ρ, a, Post.imp (fun x H1 q => ?_) (Post.bind (R := RU X.K) a p)⟩
    obtain ⟨u, h1, ρ1, s1, at1, q1, p1⟩ := q
    cases u with
    | str y =>
      cases hz : Nat.ble (strLen (strApp acc y)) 16777216 with
      | false => simp only [hz] at p1; exact p1.elim
      | true =>
        simp only [hz, cond_true] at p1
        refine ⟨y, q1, ?_, ?_⟩
        · rw [← strApp_eq, ← strLen_eq]; exact Nat.le_of_ble_eq_true hz
        · rw [← strApp_eq]; exact js_imp ms _ h1 ρ1 H1 at1 p1
    | _ => exact p1.elim
theorem se_joined {v1 v2 : Expr} {rest : List Expr} {ms : List Ev} (h : SJ X cls W (v1 :: v2 :: rest) ms) : SE X cls W (.JoinedStr (v1 :: v2 :: rest) pos) (evJs ms Str.empty) :=
  pe_imp (pe_joined h.pj) fun σ H Q ⟨us, h, ρ, at_, p⟩ => js_imp ms _ h ρ H at_ p
/-! ### name += e -/
def fIadd : F2
  | .int i, .int j, h => .ok (.int (i + j)) h
  | .str x, .str y, h => cond (Nat.ble (strLen x + strLen y) 16777216) (.ok (.str (strApp x y)) h) .bad
  | _, _, _ => .bad
def tIadd (K : PySem.W.Frag) (cls : Nat → Addr) : TIp := fun x y H Q => ∃ a b h ρ, Rel K cls ρ h H ∧ RU K ρ H a x ∧ RU K ρ H b y ∧ Post K cls W0 (RU K) ρ [] H Q (fIadd a b h)
theorem iadd_ok : PIp X .Add (tIadd X.K cls) := fun pins s σ H x y v u Q I rx ry ⟨a, b, h, ρ, rel, qa, qb, p⟩ => by
  unfold fIadd at p
  split at p
  · rename_i i j
    rw [show x = .int i from qa] at rx
    rw [show y = .int j from qb] at ry
    obtain ⟨t, rfl⟩ := rx
    obtain ⟨t', rfl⟩ := ry
    exact iadd_int ⟨.int _, H, I.tok _, ⟨_, rfl⟩, p.okI rel⟩
  · rename_i i j
    cases e : Nat.ble (strLen i + strLen j) 16777216 with
    | false => rw [e] at p; exact p.elim
    | true =>
      rw [e] at p
      refine iop_add_str pins s σ H x y v u Q I rx ry ⟨i, j, qa, qb, by rw [← strLen_eq, ← strLen_eq]; exact Nat.le_of_ble_eq_true e, ?_⟩
      rw [← strApp_eq]
      exact p.okS rel
  · exact p.elim
def mAug (k : Nat) (me : Ev) : SM := fun us h => match us[k]? with
  | some (some a) => (me us h).toS us fun b h1 => match fIadd a b h1 with
    | .ok z h2 => .nx (us.set k (some z)) h2
    | _ => .bad
  | _ => .bad
theorem ss_aug {k : Nat} {x : Str} (hN : X.N.Nodup) (he : SE X cls W e me) (hi : X.N[k]? = some x := by rfl) (hx : Loc X.env.scope x := by first | exact .inl rfl | exact .inr rfl) (hf : X.fn x = true ∨ X.env.scope.names.lookup x = some .local := by first | exact .inl rfl | exact .inr rfl | assumption) :
    SS X cls W (.AugAssign (.Name x pos') .Add e pos) (mAug k me) := ps_imp (ps_aug hN hi hx he iadd_ok hf) fun D σ H ⟨us, h, ρ, a, p⟩ => by
  unfold mAug at p
  split at p
  · rename_i ua eu
    obtain ⟨va, ev, qa⟩ := a.sl.2 k _ eu
    refine ⟨va, ev, us, h, ρ, a, Post.imp (fun z H1 q => ?_) (PostS.bind (R := RU X.K) a p)⟩
    obtain ⟨ub, h1, ρ1, s1, at1, q1, p1⟩ := q
    refine ⟨ua, ub, h1, ρ1, at1.rel, RU.mono a.rel s1 qa, q1, ?_⟩
    cases ef : fIadd ua ub h1 with
    | ok w h2 =>
      rw [ef] at p1
      exact fun v H2 ρ2 s2 r2 q2 => p1 _ H2 ρ2 s2 r2 ((at1.sl.mono at1.rel s2).set q2)
    | _ => rw [ef] at p1; exact p1.elim
  · exact p.elim
end
end GG
/-! GNe -/
/-! a != b for instances whose class has its own __eq__ and no __ne__ -/
namespace PySem.W
open PySem
section
variable {prog : Program} {w : World} {A : Around} {E : Value → Shared → Prop} {s : Shared} {K : Frag} {x C L f : Addr} {h₀ : Heap} {m : Str → Option Value} {ox : Obj} {od : Option Obj} {b tb : Value}
theorem gne_ifBound {M : Model} {args : List Value} {Q : Option Value → Shared → Prop} (X : K.In s.heap) (I : InstAt s.heap x ox C od) (hs : findIn K (.ref C) "__ne__" = some (some (.builtin "object.__ne__")))
    (h : wpAny M A (call (.builtin "object.__ne__") (.ref x :: args)) (fun v => Q (some v)) E s) : wpAny M A (callSpecialIfBound? (.ref x) "__ne__" args) Q E s := by
  simp only [callSpecialIfBound?, bindSpecialIfBound?]
  refine wpAny_holding (wpAny_bind (wpAny_bind (wpAny_bind (I.type.here ((looks_findIn X hs).here ?_)))))
  simp only [F.cmp_object.ne.bind]
  refine wpAny_bind (wpAny_askSetting (wpAny_ite ?_))
  have fin : wpAny M A (call (.builtin "object.__ne__") ([.ref x] ++ args) >>= fun v => pure (some v)) Q E s := wpAny_bind (wpAny_mono h (fun v s' h' => wpAny_pure h') fun _ _ h' => h')
  split
  · exact wpAny_bind (wpAny_pure (wpAny_pure fin))
  · exact wpAny_tryCatch (wpAny_bind (wpAny_pure (wpAny_pure fin)))
theorem gne_body {Q : Fin → Shared → Prop} (X : K.In s.heap) (I : InstAt s.heap x ox C od) (hu : A.units < cLine) (he : findIn K (.ref C) "__eq__" = some (some (.ref f))) (hf : isFn K (.ref f) = true)
    (hcall : wpAny (model prog w) A (call (.ref f) [.ref x, b]) (fun v s' => ∃ k, v = .bool k ∧ Q (.done (.ret (.bool (!k)))) s') E s) : wpAny (model prog w) A (Builtin.«object.__ne__» ⟨[.ref x, b], []⟩) Q E s := by
  unfold Builtin.«object.__ne__»
  repeat (first
    | with_reducible refine wpAny_cRoomFor hu ?_
    | (refine wpAny_bind (m := callSpecialIfBound? (.ref x) (Str.ofString "__eq__") [b])
        (ifBound_K X I he hf (wpAny_mono hcall (fun r s' hr => by
          obtain ⟨k, rfl, hq⟩ := hr
          repeat (first | exact hq | exact wpAny_pure hq | exact wpAny_truthy_bool hq | (refine wpAny_bind (m := truthy (.bool _)) (wpAny_truthy_bool ?_)) | wp_step)) fun _ _ e => e)))
    | wp_step)
theorem gne_K {Q : Value → Shared → Prop} (hu : A.units + 1 < cLine) (F₀ : PyProof.Rows.Fr h₀ L s.heap m) (X₀ : K.In h₀) (I : InstAt s.heap x ox C od) (hb : Looks (model prog w) s.heap (typeOf b) tb) (hn : notFirst K C tb = true)
    (hs : findIn K (.ref C) "__ne__" = some (some (.builtin "object.__ne__"))) (he : findIn K (.ref C) "__eq__" = some (some (.ref f))) (hf : isFn K (.ref f) = true) (hm : mroIn K C (.type "object") = some true)
    (h : wpAny (model prog w) A.in1 (call (.ref f) [.ref x, b]) (fun v s' => ∃ k, v = .bool k ∧ Q (.bool (!k)) s') E s) : wpAny (model prog w) A (richCompare .NotEq (.ref x) b) Q E s := by
  have X := X₀.keeps F₀.keep
  have sub : Looks (model prog w) s.heap (isInstance (.ref x) (.type "object")) true := I.type.andThen (looks_mroIn X hm)
  have one : wpAny (model prog w) A (tryCompare (.ref x) "__ne__" b) (fun r s' => ∃ v, r = some v ∧ Q v s') E s := by
    simp only [tryCompare]
    refine wpAny_bind (gne_ifBound X I hs (wpAny_call (codeAny_call_builtin F.cmp_object.ne.plain F.cmpEntry_ne
      (@check_slot (model prog w) _ _ s "object.__ne__" "object" "__ne__" (.ref x) [b] [] _ F.cmpKind_ne F.cmpSplit_ne sub (F.cmpArgs_ne _ _)
        (gne_body (A := A.in1) X I hu he hf (wpAny_mono h (fun v s' hv => ?_) fun _ _ e => e))))))
    obtain ⟨k, rfl, hq⟩ := hv
    first | exact ⟨k, rfl, wpAny_pure ⟨_, rfl, hq⟩⟩ | exact ⟨k, rfl, wpAny_pure (wpAny_pure ⟨_, rfl, hq⟩)⟩ | exact ⟨k, rfl, _, rfl, hq⟩
  unfold richCompare
  simp only [oneThing_ref]
  refine wpAny_holding (wpAny_bind (wpAny_cRoomFor (Nat.lt_of_succ_lt hu) ?_))
  rw [cmpInfo_NotEq]
  dsimp only
  refine wpAny_bind (I.type.here (wpAny_bind (hb.here ?_)))
  split
  · rename_i q
    have e : subIn K tb (.ref C) = some false := by
      rcases Bool.or_eq_true_iff.mp hn with e | e
      · rw [beq_iff_eq.mp e] at q; simp at q
      · exact beq_iff_eq.mp e
    refine wpAny_bind ((looks_subIn X e).here ?_)
    simp only [Bool.false_eq_true, if_false]
    refine wpAny_bind (wpAny_mono one (fun r s' z => ?_) fun _ _ e => e)
    obtain ⟨v, rfl, hq⟩ := z
    exact wpAny_pure hq
  · refine wpAny_bind (wpAny_pure ?_)
    simp only [Bool.false_eq_true, if_false]
    refine wpAny_bind (wpAny_mono one (fun r s' z => ?_) fun _ _ e => e)
    obtain ⟨v, rfl, hq⟩ := z
    exact wpAny_pure hq
end
end PySem.W
/-! GEq -/
namespace GG
open PySem PySem.Spec PyProof.Rows L2
/-! ### data -/
def optAll {α β : Type} (f : α → Option β) : List α → Option (List β)
  | [] => some []
  | x :: r => match f x with
    | some y => match optAll f r with
      | some l => some (y :: l)
      | none => none
    | none => none
def datU : Nat → Hq → U → Option PyData
  | 0, _, _ => none
  | f + 1, h, u => match u with
    | .non => some .none
    | .bl b => some (.bool b)
    | .int i => some (.int i)
    | .str x => some (.str x)
    | .tup l => (optAll (datU f h) l).map .tuple
    | .ref n => match h[n]? with
      | some (.lst l) => (optAll (datU f h) l).map .list
      | some (.frl l) => (optAll (datU f h) l).map .list
      | _ => none
    | _ => none
section
variable {K : PySem.W.Frag} {cls : Nat → Addr} {ρ : List Addr} {h : Hq} {H : Hp}
theorem optAll_dp {g : U → Option PyData} (hg : ∀ u d v, g u = some d → RU K ρ H u v → Dp K H v d) : ∀ {l : List U} {ds : List PyData} {vs : List V}, optAll g l = some ds → RUl K ρ H l vs → DpAll K H vs ds
  | [], ds, vs, e, q => by cases e; rw [show vs = [] from q]; exact .nil
  | u :: l, ds, vs, e, ⟨v, r, ev, qv, q⟩ => by
    unfold optAll at e
    cases e1 : g u with
    | none => rw [e1] at e; cases e
    | some d =>
      simp only [e1] at e
      cases e2 : optAll g l with
      | none => rw [e2] at e; cases e
      | some es =>
        rw [e2] at e; cases e
        rw [ev]
        exact .cons (hg u d v e1 qv) (optAll_dp hg e2 q)
theorem dat_dp (rel : Rel K cls ρ h H) : ∀ (f : Nat) (u : U) (d : PyData) (v : V), datU f h u = some d → RU K ρ H u v → Dp K H v d
  | 0, _, _, _, e, _ => by cases e
  | f + 1, u, d, v, e, q => by
    cases u with
    | non => cases e; rw [show v = .non from q]; exact .non
    | bl b => cases e; rw [show v = .bl b from q]; exact .bl b
    | int b => cases e; rw [show v = .int b from q]; exact .int b
    | str b => cases e; rw [show v = .str b from q]; exact .str b
    | tup l =>
      have e : (optAll (datU f h) l).map PyData.tuple = some d := e
      rw [Option.map_eq_some_iff] at e
      obtain ⟨ds, e1, rfl⟩ := e
      obtain ⟨a, vs, rfl, t, ql⟩ := q
      exact .tup (.inl (.inl t)) (optAll_dp (dat_dp rel f) e1 ql)
    | ref n =>
      obtain ⟨a, ea, rfl⟩ := q
      have e : (match h[n]? with
        | some (.lst l) => (optAll (datU f h) l).map PyData.list
        | some (.frl l) => (optAll (datU f h) l).map PyData.list
        | _ => none) = some d := e
      cases eh : h[n]? with
      | none => simp only [eh] at e; cases e
      | some o =>
        have z := rel.at_ n o a eh ea
        cases o with
        | lst l =>
          simp only [eh] at e
          rw [Option.map_eq_some_iff] at e
          obtain ⟨ds, e1, rfl⟩ := e
          obtain ⟨vs, z1, z2⟩ := z
          exact .lst (SqL.of z1) (optAll_dp (dat_dp rel f) e1 z2)
        | frl l =>
          simp only [eh] at e
          rw [Option.map_eq_some_iff] at e
          obtain ⟨ds, e1, rfl⟩ := e
          obtain ⟨vs, z1, _, z2⟩ := z
          exact .lst z1 (optAll_dp (dat_dp rel f) e1 z2)
        | _ => simp only [eh] at e; cases e
    | _ => cases e
/-- one thing is read in one way -/
theorem optAll_fun {g g' : U → Option PyData} (hg : ∀ u u' d d' v, g u = some d → g' u' = some d' → RU K ρ H u v → RU K ρ H u' v → d = d') : ∀ {l l' : List U} {ds ds' : List PyData} {vs : List V}, optAll g l = some ds → optAll g' l' = some ds' → RUl K ρ H l vs → RUl K ρ H l' vs → ds = ds'
  | [], [], ds, ds', vs, e, e', q, q' => by cases e; cases e'; rfl
  | [], _ :: _, ds, ds', vs, e, e', q, q' => by
    rw [show vs = [] from q] at q'
    obtain ⟨_, _, z, _⟩ := q'
    cases z
  | _ :: _, [], ds, ds', vs, e, e', q, q' => by
    rw [show vs = [] from q'] at q
    obtain ⟨_, _, z, _⟩ := q
    cases z
  | u :: l, u' :: l', ds, ds', vs, e, e', ⟨v, r, ev, qv, q⟩, ⟨v', r', ev', qv', q'⟩ => by
    rw [ev] at ev'; cases ev'
    unfold optAll at e e'
    cases e1 : g u with
    | none => rw [e1] at e; cases e
    | some d =>
      cases e1' : g' u' with
      | none => rw [e1'] at e'; cases e'
      | some d' =>
        simp only [e1] at e
        simp only [e1'] at e'
        cases e2 : optAll g l with
        | none => rw [e2] at e; cases e
        | some es =>
          cases e2' : optAll g' l' with
          | none => rw [e2'] at e'; cases e'
          | some es' =>
            rw [e2] at e; cases e
            rw [e2'] at e'; cases e'
            rw [hg u u' d d' v e1 e1' qv qv', optAll_fun hg e2 e2' q q']
theorem dat_fun (rel : Rel K cls ρ h H) : ∀ (f g : Nat) (u u' : U) (d d' : PyData) (v : V), datU f h u = some d → datU g h u' = some d' → RU K ρ H u v → RU K ρ H u' v → d = d'
  | 0, _, _, _, _, _, _, e, _, _, _ => by cases e
  | _ + 1, 0, _, _, _, _, _, _, e, _, _ => by cases e
  | f + 1, g + 1, u, u', d, d', v, e, e', q, q' => by
    cases u with
    | non =>
      cases e
      rw [show v = V.non from q] at q'
      cases u' with
      | non => cases e'; rfl
      | bl b' => exact nomatch (show V.non = V.bl b' from q')
      | int b' => exact nomatch (show V.non = V.int b' from q')
      | str b' => exact nomatch (show V.non = V.str b' from q')
      | tup l' => obtain ⟨_, _, z, _⟩ := q'; cases z
      | fls l' => obtain ⟨_, _, z, _⟩ := q'; cases z
      | ref n => obtain ⟨_, _, z⟩ := q'; cases z
      | _ => cases e'
    | bl b =>
      cases e
      rw [show v = V.bl b from q] at q'
      cases u' with
      | non => exact nomatch (show V.bl b = V.non from q')
      | bl b' => cases (show V.bl b = V.bl b' from q'); cases e'; rfl
      | int b' => exact nomatch (show V.bl b = V.int b' from q')
      | str b' => exact nomatch (show V.bl b = V.str b' from q')
      | tup l' => obtain ⟨_, _, z, _⟩ := q'; cases z
      | fls l' => obtain ⟨_, _, z, _⟩ := q'; cases z
      | ref n => obtain ⟨_, _, z⟩ := q'; cases z
      | _ => cases e'
    | int b =>
      cases e
      rw [show v = V.int b from q] at q'
      cases u' with
      | non => exact nomatch (show V.int b = V.non from q')
      | bl b' => exact nomatch (show V.int b = V.bl b' from q')
      | int b' => cases (show V.int b = V.int b' from q'); cases e'; rfl
      | str b' => exact nomatch (show V.int b = V.str b' from q')
      | tup l' => obtain ⟨_, _, z, _⟩ := q'; cases z
      | fls l' => obtain ⟨_, _, z, _⟩ := q'; cases z
      | ref n => obtain ⟨_, _, z⟩ := q'; cases z
      | _ => cases e'
    | str b =>
      cases e
      rw [show v = V.str b from q] at q'
      cases u' with
      | non => exact nomatch (show V.str b = V.non from q')
      | bl b' => exact nomatch (show V.str b = V.bl b' from q')
      | int b' => exact nomatch (show V.str b = V.int b' from q')
      | str b' => cases (show V.str b = V.str b' from q'); cases e'; rfl
      | tup l' => obtain ⟨_, _, z, _⟩ := q'; cases z
      | fls l' => obtain ⟨_, _, z, _⟩ := q'; cases z
      | ref n => obtain ⟨_, _, z⟩ := q'; cases z
      | _ => cases e'
    | tup l =>
      have e : (optAll (datU f h) l).map PyData.tuple = some d := e
      rw [Option.map_eq_some_iff] at e
      obtain ⟨ds, e1, rfl⟩ := e
      obtain ⟨a, vs, rfl, t, ql⟩ := q
      cases u' with
      | tup l' =>
        have e' : (optAll (datU g h) l').map PyData.tuple = some d' := e'
        rw [Option.map_eq_some_iff] at e'
        obtain ⟨ds', e1', rfl⟩ := e'
        obtain ⟨a', vs', ez, t', ql'⟩ := q'
        cases ez
        have t2 := t.symm.trans t'
        cases t2
        rw [optAll_fun (dat_fun rel f g) e1 e1' ql ql']
      | ref n =>
        obtain ⟨a', ea, ez⟩ := q'
        cases ez
        exact absurd t (rel.notup (List.mem_of_getElem? ea) vs)
      | non => exact nomatch (show V.ref a = _ from q')
      | bl b => exact nomatch (show V.ref a = _ from q')
      | int b => exact nomatch (show V.ref a = _ from q')
      | str b => exact nomatch (show V.ref a = _ from q')
      | _ => cases e'
    | ref n =>
      obtain ⟨a, ea, rfl⟩ := q
      cases u' with
      | ref m =>
        obtain ⟨a', ea', ez⟩ := q'
        cases ez
        have en : n = m := (List.getElem_inj rel.nd).mp ((List.getElem?_eq_some_iff.mp ea).2.trans (List.getElem?_eq_some_iff.mp ea').2.symm)
        subst en
        have e : (match h[n]? with
          | some (.lst l) => (optAll (datU f h) l).map PyData.list
          | some (.frl l) => (optAll (datU f h) l).map PyData.list
          | _ => none) = some d := e
        have e' : (match h[n]? with
          | some (.lst l) => (optAll (datU g h) l).map PyData.list
          | some (.frl l) => (optAll (datU g h) l).map PyData.list
          | _ => none) = some d' := e'
        cases eh : h[n]? with
        | none => simp only [eh] at e; cases e
        | some o =>
          have z := rel.at_ n o a eh ea
          cases o with
          | lst l =>
            simp only [eh] at e e'
            rw [Option.map_eq_some_iff] at e e'
            obtain ⟨ds, e1, rfl⟩ := e
            obtain ⟨ds', e1', rfl⟩ := e'
            obtain ⟨vs, z1, z2⟩ := z
            rw [optAll_fun (dat_fun rel f g) e1 e1' z2 z2]
          | frl l =>
            simp only [eh] at e e'
            rw [Option.map_eq_some_iff] at e e'
            obtain ⟨ds, e1, rfl⟩ := e
            obtain ⟨ds', e1', rfl⟩ := e'
            obtain ⟨vs, z1, _, z2⟩ := z
            rw [optAll_fun (dat_fun rel f g) e1 e1' z2 z2]
          | _ => simp only [eh] at e; cases e
      | tup l =>
        obtain ⟨a', vs, ez, t, _⟩ := q'
        cases ez
        exact absurd t (rel.notup (List.mem_of_getElem? ea) vs)
      | non => exact nomatch (show V.ref a = _ from q')
      | bl b => exact nomatch (show V.ref a = _ from q')
      | int b => exact nomatch (show V.ref a = _ from q')
      | str b => exact nomatch (show V.ref a = _ from q')
      | _ => cases e'
    | _ => cases e
end
/-! ### equality with own __eq__ -/
abbrev FB := U → U → Hq → Res Bool
def seqT (ev : FB) : List U → List U → Hq → Res Bool
  | x :: xs, y :: ys, h => match ev x y h with
    | .ok true h1 => seqT ev xs ys h1
    | .ok false h1 => .ok false h1
    | _ => .bad
  | [], [], h => .ok true h
  | _, _, h => .ok false h
def twoL (n m N : Nat) (h : Hq) : Option (List U × List U) := match h[n]?, h[m]? with
  | some (.lst l), some (.lst l2) => cond (Nat.beq l.length N && Nat.beq l2.length N) (some (l, l2)) none
  | _, _ => none
def seqL (ev : FB) (n m N : Nat) : Nat → Nat → Hq → Res Bool
  | 0, _, h => match twoL n m N h with
    | some _ => .ok true h
    | none => .bad
  | k + 1, i, h => match twoL n m N h with
    | some (l, l2) => match l[i]?, l2[i]? with
      | some x, some y => match ev x y h with
        | .ok true h1 => seqL ev n m N k (i + 1) h1
        | .ok false h1 => match twoL n m N h1 with
          | some _ => .ok false h1
          | none => .bad
        | _ => .bad
      | _, _ => .bad
    | none => .bad
/-- the same object, or as r says -/
def orSame (r : FB) : FB := fun a b h => match a, b with
  | .ref n, .ref m => cond (Nat.beq n m) (.ok true h) (r a b h)
  | _, _ => r a b h
def boolR : Res U → Res Bool
  | .ok (.bl k) h => .ok k h
  | _ => .bad
def rcU (eqs : Nat → Option Fn) : Nat → FB
  | 0, _, _, _ => .bad
  | f + 1, a, b, h => match datU (f + 1) h a, datU (f + 1) h b with
    | some d, some e => cond (SeqAt.shaped d && SeqAt.shaped e) (.ok (PyData.eqv d e) h) .bad
    | _, _ => match a, b with
      | .tup l, .tup l2 => seqT (orSame (rcU eqs f)) l l2 h
      | .ref n, .ref m => match h[n]?, h[m]? with
        | some (.ins c _), some (.ins c' _) => cond (Nat.beq c c') (match eqs c with
          | some sem => boolR (sem [a, b] h)
          | none => .bad) .bad
        | some (.lst l), some (.lst l2) => cond (Nat.beq l.length l2.length) (seqL (orSame (rcU eqs f)) n m l.length l.length 0 h) (.ok false h)
        | _, _ => .bad
      | _, _ => .bad
abbrev eqU (eqs : Nat → Option Fn) (f : Nat) : FB := orSame (rcU eqs f)
theorem orSame_self {r : FB} {n : Nat} {h : Hq} : orSame r (.ref n) (.ref n) h = .ok true h := by
  show cond (Nat.beq n n) (.ok true h) (r (.ref n) (.ref n) h) = .ok true h
  rw [show Nat.beq n n = true from Nat.beq_refl n] <;> rfl
section
variable {X : Cx} {cls : Nat → Addr}
theorem canLay_fun {d : PyData} (h : SeqAt.shaped d = true) : PyData.eqv d d = true := SeqAt.eqv_refl d (SeqAt.canLay_of_shaped h)
/-- the same thing on both sides -/
theorem seqT_same {K : PySem.W.Frag} {ρ : List Addr} {h : Hq} {H : Hp} {ev : FB} (hev : ∀ a b v, RU K ρ H a v → RU K ρ H b v → ev a b h = .ok true h ∨ ev a b h = .bad) : ∀ {l l' : List U} {vs : List V}, RUl K ρ H l vs → RUl K ρ H l' vs → seqT ev l l' h = .ok true h ∨ seqT ev l l' h = .bad
  | [], [], _, _, _ => .inl rfl
  | [], _ :: _, vs, q, q' => by
    rw [show vs = [] from q] at q'
    obtain ⟨_, _, z, _⟩ := q'
    cases z
  | _ :: _, [], vs, q, q' => by
    rw [show vs = [] from q'] at q
    obtain ⟨_, _, z, _⟩ := q
    cases z
  | u :: l, u' :: l', vs, ⟨v, r, ev1, qv, q⟩, ⟨v', r', ev2, qv', q'⟩ => by
    rw [ev1] at ev2; cases ev2
    unfold seqT
    rcases hev u u' v qv qv' with e | e
    · rw [e]; exact seqT_same hev q q'
    · rw [e]; exact .inr rfl
theorem same_ok {K : PySem.W.Frag} {ρ : List Addr} {h : Hq} {H : Hp} {eqs : Nat → Option Fn} (rel : Rel K cls ρ h H) : ∀ (f : Nat) (a b : U) (v : V), RU K ρ H a v → RU K ρ H b v → eqU eqs f a b h = .ok true h ∨ eqU eqs f a b h = .bad := by
  intro f
  induction f with
  | zero =>
    intro a b v qa qb
    unfold eqU
    cases a <;> cases b <;> try exact .inr rfl
    rename_i n m
    obtain ⟨x, ea, rfl⟩ := qa
    obtain ⟨y, eb, ez⟩ := qb
    cases ez
    have en : n = m := (List.getElem_inj rel.nd).mp ((List.getElem?_eq_some_iff.mp ea).2.trans (List.getElem?_eq_some_iff.mp eb).2.symm)
    subst en
    exact .inl orSame_self
  | succ f ih =>
    intro a b v qa qb
    by_cases hr : ∃ n m, a = .ref n ∧ b = .ref m
    · obtain ⟨n, m, rfl, rfl⟩ := hr
      obtain ⟨x, ea, rfl⟩ := qa
      obtain ⟨y, eb, ez⟩ := qb
      cases ez
      have en : n = m := (List.getElem_inj rel.nd).mp ((List.getElem?_eq_some_iff.mp ea).2.trans (List.getElem?_eq_some_iff.mp eb).2.symm)
      subst en
      exact .inl orSame_self
    · have e0 : eqU eqs (f + 1) a b h = rcU eqs (f + 1) a b h := by
        unfold eqU orSame
        cases a <;> cases b <;> first | rfl | exact absurd ⟨_, _, rfl, rfl⟩ hr
      rw [e0]
      unfold rcU
      split
      · rename_i d e hd he
        have z := dat_fun rel _ _ a b d e v hd he qa qb
        subst z
        cases hs : SeqAt.shaped d with
        | true =>
          refine .inl ?_
          rw [Bool.and_true, cond_true, canLay_fun hs]
        | false => exact .inr rfl
      · split
        · obtain ⟨x, vs, rfl, t, ql⟩ := qa
          obtain ⟨y, ws, ez, t', ql'⟩ := qb
          cases ez
          cases t.symm.trans t'
          exact seqT_same (fun a b v => ih a b v) ql ql'
        · exact absurd ⟨_, _, rfl, rfl⟩ hr
        · exact .inr rfl
/-- what is known of the classes with an own __eq__ -/
structure EqOk (X : Cx) (cls : Nat → Addr) (k : Nat) (eqs : Nat → Option Fn) : Prop where
  ok : ∀ c sem, eqs c = some sem → ∃ f, PySem.W.findIn X.K (.ref (cls c)) "__eq__" = some (some (.ref f)) ∧ PySem.W.isFn X.K (.ref f) = true ∧ FnG X.prog X.w X.K X.mg X.base cls k f sem ∧
    PySem.W.findIn X.K (.ref (cls c)) "__ne__" = some (some (.builtin "object.__ne__")) ∧ PySem.W.mroIn X.K (cls c) (.type "object") = some true
/-- a def called from within a built-in, no exception let out -/
theorem call_below {k : Nat} {f : Addr} {sem : Fn} {A : Around} (F : FnG X.prog X.w X.K X.mg X.base cls k f sem) (sb : Sub X k A) {pins : List (Addr × Obj)} {s : Shared} {σ : L2.St} {H : Hp} {us : List Value} {vs : List V} {l : List U} {h : Hq} {ρ : List Addr} {Q : VK}
    (I : Inv X pins σ H s) (rv : Vals vs us) (rel : Rel X.K cls ρ h H) (ql : RUl X.K ρ H l vs) (p : Post X.K cls W0 (RU X.K) ρ σ H Q (sem l h)) : wpAny (model X.prog X.w) A (call (.ref f) us) (EP X pins σ Q) X.xe s := by
  have e0 : Env0 X.prog X.w X.K X.mg X.base A X.stack s H := by
    have e := I.env0
    exact ⟨by rw [sb.fr]; exact e.frames, e.mod, e.bs, e.bsz, e.funs, e.frf, e.hok, e.bare⟩
  have p' : Post X.K cls (fun c d _ H' => (fun _ _ _ => False : XK) c d H') (RU X.K) ρ [] H Q (sem l h) := by
    cases e : sem l h with
    | ok u h' => rw [e] at p; exact p
    | exc x h' => rw [e] at p; exact fun c d H' ρ' s r q => p c d H' ρ' s r q
    | bad => rw [e] at p; exact p.elim
  refine wpAny_call (codeAny_mono (F A X.stack s H us vs Q (fun _ _ _ => False) sb.room e0 rv ⟨l, h, ρ, rel, ql, p'⟩) fun r s' hq => ?_)
  cases r with
  | error er => exact False.elim (passL (X := X.nox) pins σ H s er s' (I.wish _) hq)
  | ok fl =>
    cases fl with
    | ret u => exact I.after hq
    | next => exact False.elim hq
    | brk => exact False.elim hq
    | cont => exact False.elim hq
/-- the two judgements -/
def EqW (X : Cx) (cls : Nat → Addr) (n : Nat) (ev : FB) : Prop := ∀ (A : Around) (pins : List (Addr × Obj)) (s : Shared) (σ : L2.St) (H : Hp) (ρ : List Addr) (h : Hq) (a b : U) (x y : V) (u v : Value) (Q : Bool → Hp → Prop), Sub X n A → Inv X pins σ H s → RelV x u → RelV y v → Rel X.K cls ρ h H → RU X.K ρ H a x → RU X.K ρ H b y →
  Post X.K cls W0 rT ρ σ H Q (ev a b h) → wpAny (model X.prog X.w) A (eqBool u v) (fun r s' => ∃ H', Inv X pins σ H' s' ∧ Q r H') X.xe s
def RcW (X : Cx) (cls : Nat → Addr) (n : Nat) (neg : Bool) (ev : FB) : Prop := ∀ (A : Around) (pins : List (Addr × Obj)) (s : Shared) (σ : L2.St) (H : Hp) (ρ : List Addr) (h : Hq) (a b : U) (x y : V) (u v : Value) (Q : Bool → Hp → Prop), Sub X n A → Inv X pins σ H s → RelV x u → RelV y v → Rel X.K cls ρ h H → RU X.K ρ H a x → RU X.K ρ H b y →
  Post X.K cls W0 rT ρ σ H Q (ev a b h) → wpAny (model X.prog X.w) A (richCompare (if neg then .NotEq else .Eq) u v) (fun r s' => ∃ k H', r = .bool (if neg then !k else k) ∧ Inv X pins σ H' s' ∧ Q k H') X.xe s
theorem SqT.ofT {K : PySem.W.Frag} {H : Hp} {a : Addr} {xs : List V} (h : H a = some (.tup xs)) : SqT K H a xs := .inl (.inl h)

theorem rcE_data {A : Around} {pins : List (Addr × Obj)} {s : Shared} {σ : L2.St} {H : Hp} {ρ : List Addr} {h : Hq} {a b : U} {x y : V} {u v : Value} {Q : Bool → Hp → Prop} {d e : PyData} {f : Nat} (hu : A.units + 64 < cLine) (I : Inv X pins σ H s) (rx : RelV x u) (ry : RelV y v) (rel : Rel X.K cls ρ h H) (qa : RU X.K ρ H a x) (qb : RU X.K ρ H b y)
    (ha : datU f h a = some d) (hb : datU f h b = some e) (sd : SeqAt.shaped d = true) (se : SeqAt.shaped e = true) (p : Q (PyData.eqv d e) H) : wpAny (model X.prog X.w) A (richCompare .Eq u v) (fun r s' => ∃ k H', r = .bool (k) ∧ Inv X pins σ H' s' ∧ Q k H') X.xe s := by
  obtain ⟨as, r1⟩ := Dp.reads I d x u (dat_dp rel f a d x ha qa) rx
  obtain ⟨bs, r2⟩ := Dp.reads I e y v (dat_dp rel f b e y hb qb) ry
  exact SeqAt.compareEq_shaped r1 r2 sd se hu ⟨_, H, rfl, I, p⟩
theorem rcE_step {eqs : Nat → Option Fn} {k n f : Nat} (ok : EqOk X cls k eqs) (hk : k + 1 ≤ n) (ev : EqW X cls n (eqU eqs f)) (A : Around) (pins : List (Addr × Obj)) (s : Shared) (σ : L2.St) (H : Hp) (ρ : List Addr) (h : Hq) (a b : U) (x y : V) (u v : Value) (Q : Bool → Hp → Prop) (sb : Sub X (n + 1) A) (I : Inv X pins σ H s) (rx : RelV x u) (ry : RelV y v) (rel : Rel X.K cls ρ h H) (qa : RU X.K ρ H a x) (qb : RU X.K ρ H b y)
    (p : Post X.K cls W0 rT ρ σ H Q (rcU eqs (f + 1) a b h)) : wpAny (model X.prog X.w) A (richCompare .Eq u v) (fun r s' => ∃ k H', r = .bool (k) ∧ Inv X pins σ H' s' ∧ Q k H') X.xe s := by
  have hun := sb.room.un
  unfold rcU at p
  split at p
  · rename_i d e hd he
    cases hs : (SeqAt.shaped d && SeqAt.shaped e) with
    | false => rw [hs] at p; exact p.elim
    | true =>
      rw [hs] at p
      rw [Bool.and_eq_true] at hs
      exact rcE_data (by omega) I rx ry rel qa qb hd he hs.1 hs.2 (p.ok (v := PyData.eqv d e) rel rfl)
  · split at p
    · rename_i l l2 _
      obtain ⟨aa, xs, rfl, ta, ql⟩ := qa
      obtain ⟨bb, ys, rfl, tb, ql2⟩ := qb
      obtain rfl : u = Value.ref aa := rx
      obtain rfl : v = Value.ref bb := ry
      obtain ⟨its, r1, p1, _⟩ := I.tuple (SqT.ofT ta)
      obtain ⟨its2, r2, p2, _⟩ := I.tuple (SqT.ofT tb)
      have n1 : its.toArray.size = l.length := by rw [List.size_toArray, ← r1.length, ql.length]
      have n2 : its2.toArray.size = l2.length := by rw [List.size_toArray, ← r2.length, ql2.length]
      refine GGQ.rc_tup_eqD (by omega) (fun i s' => ∃ h' ρ' H', Inv X pins σ H' s' ∧ Step ρ H ρ' H' ∧ Rel X.K cls ρ' h' H' ∧ Post X.K cls W0 rT ρ' σ H' Q (seqT (eqU eqs f) (l.drop i) (l2.drop i) h')) (fun i s' => ∃ H', Inv X pins σ H' s' ∧ Q false H') p1 p2
        (fun i h1 h2 s1 ⟨h', ρ', H', I', s', r', p'⟩ => ?_) (fun s1 ⟨h', ρ', H', I', s', r', p'⟩ => ?_) (fun i s1 _ _ ⟨H', I', q'⟩ => ⟨false, H', rfl, I', q'⟩) ⟨h, ρ, H, I, Step.refl, rel, p⟩
      · have k1 : i < l.length := by omega
        have k2 : i < l2.length := by omega
        rw [List.drop_eq_getElem_cons k1, List.drop_eq_getElem_cons k2] at p'
        have z1 := ql.get (i := i)
        have z2 := ql2.get (i := i)
        rw [List.getElem?_eq_getElem k1] at z1
        rw [List.getElem?_eq_getElem k2] at z2
        obtain ⟨v1, e1, w1⟩ := z1
        obtain ⟨v2, e2, w2⟩ := z2
        obtain ⟨u1, g1, y1⟩ := r1.get e1
        obtain ⟨u2, g2, y2⟩ := r2.get e2
        have b1 : its.toArray[i] = u1 := by have := (List.getElem?_eq_some_iff.mp g1).2; simpa using this
        have b2 : its2.toArray[i] = u2 := by have := (List.getElem?_eq_some_iff.mp g2).2; simpa using this
        rw [b1, b2]
        refine wpAny_mono (ev A.in1 pins s1 σ H' ρ' h' _ _ v1 v2 u1 u2 (fun r H1 => ∃ h1 ρ1, Step ρ' H' ρ1 H1 ∧ Rel X.K cls ρ1 h1 H1 ∧ ((r = true ∧ Post X.K cls W0 rT ρ1 σ H1 Q (seqT (eqU eqs f) (l.drop (i + 1)) (l2.drop (i + 1)) h1)) ∨ (r = false ∧ Q false H1))) sb.in1 I' y1 y2 r' (RU.mono rel s' w1) (RU.mono rel s' w2) ?_) (fun r s2 z => ?_) fun _ _ z => z
        · unfold seqT at p'
          cases em : eqU eqs f l[i] l2[i] h' with
          | bad => rw [em] at p'; exact p'.elim
          | exc _ _ => rw [em] at p'; exact p'.elim
          | ok k h1 =>
            rw [em] at p'
            intro r H1 ρ1 s1 r1 er
            obtain rfl : k = r := er
            refine ⟨h1, ρ1, s1, r1, ?_⟩
            cases k with
            | true => exact .inl ⟨rfl, Post.step s1 p'⟩
            | false => exact .inr ⟨rfl, p' false H1 ρ1 s1 r1 rfl⟩
        · obtain ⟨H1, I1, h1, ρ1, s1, r1, z⟩ := z
          rcases z with ⟨er, z⟩ | ⟨er, z⟩
          · exact .inl ⟨er, h1, ρ1, H1, I1, s'.trans s1, r1, z⟩
          · exact .inr ⟨er, H1, I1, z⟩
      · have fin : seqT (eqU eqs f) (l.drop (min its.toArray.size its2.toArray.size)) (l2.drop (min its.toArray.size its2.toArray.size)) h' = .ok (its.toArray.size == its2.toArray.size) h' := by
          rw [n1, n2]
          rcases Nat.lt_trichotomy l.length l2.length with hl | hl | hl
          · rw [Nat.min_eq_left (Nat.le_of_lt hl), List.drop_length, List.drop_eq_getElem_cons hl, show (l.length == l2.length) = false from beq_eq_false_iff_ne.mpr (Nat.ne_of_lt hl)] <;> rfl
          · rw [hl, Nat.min_self, ← hl, List.drop_length, hl, List.drop_length] <;> simp [seqT]
          · rw [Nat.min_eq_right (Nat.le_of_lt hl), List.drop_length, List.drop_eq_getElem_cons hl, show (l.length == l2.length) = false from beq_eq_false_iff_ne.mpr (Nat.ne_of_gt hl)] <;> rfl
        rw [fin] at p'
        exact ⟨_, H', by first | rfl | simp [bne], I', p' _ H' ρ' Step.refl r' rfl⟩
    · rename_i n m _
      obtain ⟨aa, ea, rfl⟩ := qa
      obtain ⟨bb, eb, rfl⟩ := qb
      obtain rfl : u = Value.ref aa := rx
      obtain rfl : v = Value.ref bb := ry
      split at p
      · rename_i c fs c' fs' e1 e2
        cases hc : Nat.beq c c' with
        | false => rw [hc] at p; exact p.elim
        | true =>
          rw [hc, cond_true] at p
          obtain rfl : c = c' := Nat.eq_of_beq_eq_true hc
          split at p
          · rename_i sem es
            obtain ⟨g, o1, o2, o3, o4, o5⟩ := ok.ok c sem es
            obtain ⟨dx, ws, z1, z2⟩ := rel.at_ n _ aa e1 ea
            obtain ⟨dy, ws', y1, y2⟩ := rel.at_ m _ bb e2 eb
            obtain ⟨mA, J, _⟩ := ins_get I.hok z1
            obtain ⟨mB, J', _⟩ := ins_get I.hok y1
            obtain ⟨od, J, _⟩ := J.look
            obtain ⟨od', J', _⟩ := J'.look
            obtain ⟨mm, hF⟩ := I.fr
            have pb : Post X.K cls W0 (RU X.K) ρ σ H (fun z H' => ∃ k, z = .bl k ∧ Q k H') (sem [.ref n, .ref m] h) := by
              unfold boolR at p
              split at p
              · rename_i k h' em
                rw [em]
                exact fun z H' ρ' s' r' ez => ⟨k, ez, p k H' ρ' s' r' rfl⟩
              · exact p.elim
            have qab : RUl X.K ρ H [.ref n, .ref m] [.ref aa, .ref bb] := ⟨_, _, rfl, ⟨aa, ea, rfl⟩, _, _, rfl, ⟨bb, eb, rfl⟩, rfl⟩
            have rv : Vals [V.ref aa, V.ref bb] [Value.ref aa, Value.ref bb] := .cons rfl (.cons rfl .nil)
            refine PySem.W.cmp_K (op := .Eq) (tb := .ref (cls c)) (by omega) hF I.ok.mod.kin J J'.type (by simp [PySem.W.notFirst]) o1 o2 ?_
            refine wpAny_mono (call_below o3 (sb.mono (by omega)) I rv rel qab pb) (fun w s' z => ?_) fun _ _ z => z
            obtain ⟨z', H', I', rz, k, ez, qz⟩ := z
            subst ez
            cases rz
            exact ⟨k, H', rfl, I', qz⟩
          · exact p.elim
      · rename_i l l2 e1 e2
        obtain ⟨xs, z1, ql⟩ := rel.at_ n _ aa e1 ea
        obtain ⟨ys, y1, ql2⟩ := rel.at_ m _ bb e2 eb
        cases hl : Nat.beq l.length l2.length with
        | false =>
          rw [hl] at p
          obtain ⟨its, r1, p1, _⟩ := I.list (SqL.of z1)
          obtain ⟨its2, r2, p2, _⟩ := I.list (SqL.of y1)
          have hne : (its.toArray.size != its2.toArray.size) = true := by
            rw [List.size_toArray, List.size_toArray, ← r1.length, ← r2.length, ql.length, ql2.length]
            exact bne_iff_ne.mpr (Nat.ne_of_beq_eq_false hl)
          exact SeqAt.RcAt.lists_lengths p1.isList p2.isList hne (by omega) X.prog X.w _ _ ⟨false, H, rfl, I, p false H ρ Step.refl rel rfl⟩
        | true =>
          rw [hl, cond_true] at p
          have hll : l.length = l2.length := Nat.eq_of_beq_eq_true hl
          have two : ∀ (h' : Hq) (ρ' : List Addr) (H' : Hp) (s' : Shared) (N : Nat) (q : List U × List U), Inv X pins σ H' s' → Step ρ H ρ' H' → Rel X.K cls ρ' h' H' → twoL n m N h' = some q → ∃ xs ys its its2, H' aa = some (.lst xs) ∧ H' bb = some (.lst ys) ∧ RUl X.K ρ' H' q.1 xs ∧ RUl X.K ρ' H' q.2 ys ∧ Vals xs its ∧ Vals ys its2 ∧ GGQ.Two aa bb N s' its.toArray its2.toArray := fun h' ρ' H' s' N q I' st r' e => by
            unfold twoL at e
            split at e
            · rename_i ll ll2 f1 f2
              cases hb : (Nat.beq ll.length N && Nat.beq ll2.length N) with
              | false => rw [hb] at e; cases e
              | true =>
                rw [hb] at e; cases e
                rw [Bool.and_eq_true] at hb
                obtain ⟨vs, w1, w2⟩ := r'.at_ n _ aa f1 (st.get ea)
                obtain ⟨vs', x1, x2⟩ := r'.at_ m _ bb f2 (st.get eb)
                obtain ⟨_, its, n1, r1, g1⟩ := I'.hok aa _ w1
                obtain ⟨_, its2, n2, r2, g2⟩ := I'.hok bb _ x1
                exact ⟨vs, vs', its, its2, w1, x1, w2, x2, r1, r2, n1, n2, g1, g2, by rw [List.size_toArray, ← r1.length, w2.length]; exact Nat.eq_of_beq_eq_true hb.1, by rw [List.size_toArray, ← r2.length, x2.length]; exact Nat.eq_of_beq_eq_true hb.2⟩
            · cases e
          refine GGQ.rc_list_eqD (N := l.length) (by omega) (fun i s' => i ≤ l.length ∧ ∃ h' ρ' H', Inv X pins σ H' s' ∧ Step ρ H ρ' H' ∧ Rel X.K cls ρ' h' H' ∧ Post X.K cls W0 rT ρ' σ H' Q (seqL (eqU eqs f) n m l.length (l.length - i) i h'))
            (fun i s' => ∃ h' ρ' H', Inv X pins σ H' s' ∧ Step ρ H ρ' H' ∧ Rel X.K cls ρ' h' H' ∧ (∃ q, twoL n m l.length h' = some q) ∧ Q false H')
            ⟨fun i s1 ⟨hi, h', ρ', H', I', s', r', p'⟩ => ?_, fun i s1 ⟨h', ρ', H', I', s', r', ⟨q, e⟩, q'⟩ => ?_⟩ (fun s1 ⟨hi, h', ρ', H', I', s', r', p'⟩ => ?_) (fun i s1 _ ⟨h', ρ', H', I', s', r', _, q'⟩ => ⟨false, H', rfl, I', q'⟩) ⟨Nat.zero_le _, h, ρ, H, I, Step.refl, rel, p⟩
          · cases et : twoL n m l.length h' with
            | none =>
              exfalso
              cases hk' : l.length - i with
              | zero => rw [hk'] at p'; unfold seqL at p'; rw [et] at p'; exact p'
              | succ k' => rw [hk'] at p'; unfold seqL at p'; rw [et] at p'; exact p'
            | some q =>
              obtain ⟨xs', ys', its, its2, t1, t2, t3, t4, t5, t6, t7⟩ := two h' ρ' H' s1 _ q I' s' r' et
              refine ⟨_, _, t7, fun h1 h2 => ?_⟩
              have k0 : its.toArray.size = l.length := by obtain ⟨_, _, _, _, z, _⟩ := t7; exact z
              have k0' : its2.toArray.size = l.length := by obtain ⟨_, _, _, _, _, z⟩ := t7; exact z
              have k1 : i < q.1.length := by rw [← t3.length, t5.length]; simpa using h1
              have k2 : i < q.2.length := by rw [← t4.length, t6.length]; simpa using h2
              have ek : l.length - i = (l.length - (i + 1)) + 1 := by omega
              rw [ek] at p'
              unfold seqL at p'
              simp only [et] at p'
              have zz1 := t3.get (i := i)
              have zz2 := t4.get (i := i)
              rw [List.getElem?_eq_getElem k1] at zz1 p'
              rw [List.getElem?_eq_getElem k2] at zz2 p'
              simp only at p'
              obtain ⟨v1, e1', w1⟩ := zz1
              obtain ⟨v2, e2', w2⟩ := zz2
              obtain ⟨u1, g1, y1'⟩ := t5.get e1'
              obtain ⟨u2, g2, y2'⟩ := t6.get e2'
              have b1 : its.toArray[i] = u1 := by have := (List.getElem?_eq_some_iff.mp g1).2; simpa using this
              have b2 : its2.toArray[i] = u2 := by have := (List.getElem?_eq_some_iff.mp g2).2; simpa using this
              rw [b1, b2]
              refine wpAny_mono (ev A.in1 pins s1 σ H' ρ' h' _ _ v1 v2 u1 u2 (fun r H1 => ∃ h1 ρ1, Step ρ' H' ρ1 H1 ∧ Rel X.K cls ρ1 h1 H1 ∧ ((r = true ∧ Post X.K cls W0 rT ρ1 σ H1 Q (seqL (eqU eqs f) n m l.length (l.length - (i + 1)) (i + 1) h1)) ∨ (r = false ∧ (∃ q, twoL n m l.length h1 = some q) ∧ Q false H1))) sb.in1 I' y1' y2' r' w1 w2 ?_) (fun r s2 z => ?_) fun _ _ z => z
              · cases em : eqU eqs f q.1[i] q.2[i] h' with
                | bad => rw [em] at p'; exact p'.elim
                | exc _ _ => rw [em] at p'; exact p'.elim
                | ok k h1 =>
                  rw [em] at p'
                  intro r H1 ρ1 s1 r1 er
                  obtain rfl : k = r := er
                  refine ⟨h1, ρ1, s1, r1, ?_⟩
                  cases k with
                  | true => exact .inl ⟨rfl, Post.step s1 p'⟩
                  | false =>
                    simp only at p'
                    cases et2 : twoL n m l.length h1 with
                    | none => rw [et2] at p'; exact p'.elim
                    | some q2 => rw [et2] at p'; exact .inr ⟨rfl, ⟨q2, rfl⟩, p' false H1 ρ1 s1 r1 rfl⟩
              · obtain ⟨H1, I1, h1, ρ1, s1, r1, z⟩ := z
                rcases z with ⟨er, z⟩ | ⟨er, tq, z⟩
                · exact .inl ⟨er, by omega, h1, ρ1, H1, I1, s'.trans s1, r1, z⟩
                · exact .inr ⟨er, h1, ρ1, H1, I1, s'.trans s1, r1, tq, z⟩
          · obtain ⟨xs', ys', its, its2, t1, t2, t3, t4, t5, t6, t7⟩ := two h' ρ' H' s1 _ q I' s' r' e
            exact ⟨_, _, t7⟩
          · rw [Nat.sub_self] at p'
            unfold seqL at p'
            cases et : twoL n m l.length h' with
            | none => rw [et] at p'; exact p'.elim
            | some q => rw [et] at p'; exact ⟨true, H', rfl, I', p' true H' ρ' Step.refl r' rfl⟩
      · exact p.elim
    · exact p.elim

theorem rcN_data {A : Around} {pins : List (Addr × Obj)} {s : Shared} {σ : L2.St} {H : Hp} {ρ : List Addr} {h : Hq} {a b : U} {x y : V} {u v : Value} {Q : Bool → Hp → Prop} {d e : PyData} {f : Nat} (hu : A.units + 64 < cLine) (I : Inv X pins σ H s) (rx : RelV x u) (ry : RelV y v) (rel : Rel X.K cls ρ h H) (qa : RU X.K ρ H a x) (qb : RU X.K ρ H b y)
    (ha : datU f h a = some d) (hb : datU f h b = some e) (sd : SeqAt.shaped d = true) (se : SeqAt.shaped e = true) (p : Q (PyData.eqv d e) H) : wpAny (model X.prog X.w) A (richCompare .NotEq u v) (fun r s' => ∃ k H', r = .bool (!k) ∧ Inv X pins σ H' s' ∧ Q k H') X.xe s := by
  obtain ⟨as, r1⟩ := Dp.reads I d x u (dat_dp rel f a d x ha qa) rx
  obtain ⟨bs, r2⟩ := Dp.reads I e y v (dat_dp rel f b e y hb qb) ry
  exact SeqAt.compareNe_shaped r1 r2 sd se hu ⟨_, H, rfl, I, p⟩
theorem rcN_step {eqs : Nat → Option Fn} {k n f : Nat} (ok : EqOk X cls k eqs) (hk : k + 1 ≤ n) (ev : EqW X cls n (eqU eqs f)) (A : Around) (pins : List (Addr × Obj)) (s : Shared) (σ : L2.St) (H : Hp) (ρ : List Addr) (h : Hq) (a b : U) (x y : V) (u v : Value) (Q : Bool → Hp → Prop) (sb : Sub X (n + 1) A) (I : Inv X pins σ H s) (rx : RelV x u) (ry : RelV y v) (rel : Rel X.K cls ρ h H) (qa : RU X.K ρ H a x) (qb : RU X.K ρ H b y)
    (p : Post X.K cls W0 rT ρ σ H Q (rcU eqs (f + 1) a b h)) : wpAny (model X.prog X.w) A (richCompare .NotEq u v) (fun r s' => ∃ k H', r = .bool (!k) ∧ Inv X pins σ H' s' ∧ Q k H') X.xe s := by
  have hun := sb.room.un
  unfold rcU at p
  split at p
  · rename_i d e hd he
    cases hs : (SeqAt.shaped d && SeqAt.shaped e) with
    | false => rw [hs] at p; exact p.elim
    | true =>
      rw [hs] at p
      rw [Bool.and_eq_true] at hs
      exact rcN_data (by omega) I rx ry rel qa qb hd he hs.1 hs.2 (p.ok (v := PyData.eqv d e) rel rfl)
  · split at p
    · rename_i l l2 _
      obtain ⟨aa, xs, rfl, ta, ql⟩ := qa
      obtain ⟨bb, ys, rfl, tb, ql2⟩ := qb
      obtain rfl : u = Value.ref aa := rx
      obtain rfl : v = Value.ref bb := ry
      obtain ⟨its, r1, p1, _⟩ := I.tuple (SqT.ofT ta)
      obtain ⟨its2, r2, p2, _⟩ := I.tuple (SqT.ofT tb)
      have n1 : its.toArray.size = l.length := by rw [List.size_toArray, ← r1.length, ql.length]
      have n2 : its2.toArray.size = l2.length := by rw [List.size_toArray, ← r2.length, ql2.length]
      refine GGQ.rc_tup_neD (by omega) (fun i s' => ∃ h' ρ' H', Inv X pins σ H' s' ∧ Step ρ H ρ' H' ∧ Rel X.K cls ρ' h' H' ∧ Post X.K cls W0 rT ρ' σ H' Q (seqT (eqU eqs f) (l.drop i) (l2.drop i) h')) (fun i s' => ∃ H', Inv X pins σ H' s' ∧ Q false H') p1 p2
        (fun i h1 h2 s1 ⟨h', ρ', H', I', s', r', p'⟩ => ?_) (fun s1 ⟨h', ρ', H', I', s', r', p'⟩ => ?_) (fun i s1 _ _ ⟨H', I', q'⟩ => ⟨false, H', rfl, I', q'⟩) ⟨h, ρ, H, I, Step.refl, rel, p⟩
      · have k1 : i < l.length := by omega
        have k2 : i < l2.length := by omega
        rw [List.drop_eq_getElem_cons k1, List.drop_eq_getElem_cons k2] at p'
        have z1 := ql.get (i := i)
        have z2 := ql2.get (i := i)
        rw [List.getElem?_eq_getElem k1] at z1
        rw [List.getElem?_eq_getElem k2] at z2
        obtain ⟨v1, e1, w1⟩ := z1
        obtain ⟨v2, e2, w2⟩ := z2
        obtain ⟨u1, g1, y1⟩ := r1.get e1
        obtain ⟨u2, g2, y2⟩ := r2.get e2
        have b1 : its.toArray[i] = u1 := by have := (List.getElem?_eq_some_iff.mp g1).2; simpa using this
        have b2 : its2.toArray[i] = u2 := by have := (List.getElem?_eq_some_iff.mp g2).2; simpa using this
        rw [b1, b2]
        refine wpAny_mono (ev A.in1 pins s1 σ H' ρ' h' _ _ v1 v2 u1 u2 (fun r H1 => ∃ h1 ρ1, Step ρ' H' ρ1 H1 ∧ Rel X.K cls ρ1 h1 H1 ∧ ((r = true ∧ Post X.K cls W0 rT ρ1 σ H1 Q (seqT (eqU eqs f) (l.drop (i + 1)) (l2.drop (i + 1)) h1)) ∨ (r = false ∧ Q false H1))) sb.in1 I' y1 y2 r' (RU.mono rel s' w1) (RU.mono rel s' w2) ?_) (fun r s2 z => ?_) fun _ _ z => z
        · unfold seqT at p'
          cases em : eqU eqs f l[i] l2[i] h' with
          | bad => rw [em] at p'; exact p'.elim
          | exc _ _ => rw [em] at p'; exact p'.elim
          | ok k h1 =>
            rw [em] at p'
            intro r H1 ρ1 s1 r1 er
            obtain rfl : k = r := er
            refine ⟨h1, ρ1, s1, r1, ?_⟩
            cases k with
            | true => exact .inl ⟨rfl, Post.step s1 p'⟩
            | false => exact .inr ⟨rfl, p' false H1 ρ1 s1 r1 rfl⟩
        · obtain ⟨H1, I1, h1, ρ1, s1, r1, z⟩ := z
          rcases z with ⟨er, z⟩ | ⟨er, z⟩
          · exact .inl ⟨er, h1, ρ1, H1, I1, s'.trans s1, r1, z⟩
          · exact .inr ⟨er, H1, I1, z⟩
      · have fin : seqT (eqU eqs f) (l.drop (min its.toArray.size its2.toArray.size)) (l2.drop (min its.toArray.size its2.toArray.size)) h' = .ok (its.toArray.size == its2.toArray.size) h' := by
          rw [n1, n2]
          rcases Nat.lt_trichotomy l.length l2.length with hl | hl | hl
          · rw [Nat.min_eq_left (Nat.le_of_lt hl), List.drop_length, List.drop_eq_getElem_cons hl, show (l.length == l2.length) = false from beq_eq_false_iff_ne.mpr (Nat.ne_of_lt hl)] <;> rfl
          · rw [hl, Nat.min_self, ← hl, List.drop_length, hl, List.drop_length] <;> simp [seqT]
          · rw [Nat.min_eq_right (Nat.le_of_lt hl), List.drop_length, List.drop_eq_getElem_cons hl, show (l.length == l2.length) = false from beq_eq_false_iff_ne.mpr (Nat.ne_of_gt hl)] <;> rfl
        rw [fin] at p'
        exact ⟨_, H', by first | rfl | simp [bne], I', p' _ H' ρ' Step.refl r' rfl⟩
    · rename_i n m _
      obtain ⟨aa, ea, rfl⟩ := qa
      obtain ⟨bb, eb, rfl⟩ := qb
      obtain rfl : u = Value.ref aa := rx
      obtain rfl : v = Value.ref bb := ry
      split at p
      · rename_i c fs c' fs' e1 e2
        cases hc : Nat.beq c c' with
        | false => rw [hc] at p; exact p.elim
        | true =>
          rw [hc, cond_true] at p
          obtain rfl : c = c' := Nat.eq_of_beq_eq_true hc
          split at p
          · rename_i sem es
            obtain ⟨g, o1, o2, o3, o4, o5⟩ := ok.ok c sem es
            obtain ⟨dx, ws, z1, z2⟩ := rel.at_ n _ aa e1 ea
            obtain ⟨dy, ws', y1, y2⟩ := rel.at_ m _ bb e2 eb
            obtain ⟨mA, J, _⟩ := ins_get I.hok z1
            obtain ⟨mB, J', _⟩ := ins_get I.hok y1
            obtain ⟨od, J, _⟩ := J.look
            obtain ⟨od', J', _⟩ := J'.look
            obtain ⟨mm, hF⟩ := I.fr
            have pb : Post X.K cls W0 (RU X.K) ρ σ H (fun z H' => ∃ k, z = .bl k ∧ Q k H') (sem [.ref n, .ref m] h) := by
              unfold boolR at p
              split at p
              · rename_i k h' em
                rw [em]
                exact fun z H' ρ' s' r' ez => ⟨k, ez, p k H' ρ' s' r' rfl⟩
              · exact p.elim
            have qab : RUl X.K ρ H [.ref n, .ref m] [.ref aa, .ref bb] := ⟨_, _, rfl, ⟨aa, ea, rfl⟩, _, _, rfl, ⟨bb, eb, rfl⟩, rfl⟩
            have rv : Vals [V.ref aa, V.ref bb] [Value.ref aa, Value.ref bb] := .cons rfl (.cons rfl .nil)
            refine PySem.W.gne_K (tb := .ref (cls c)) (by omega) hF I.ok.mod.kin J J'.type (by simp [PySem.W.notFirst]) o4 o1 o2 o5 ?_
            refine wpAny_mono (call_below o3 (sb.in1.mono (by omega)) I rv rel qab pb) (fun w s' z => ?_) fun _ _ z => z
            obtain ⟨z', H', I', rz, k, ez, qz⟩ := z
            subst ez
            cases rz
            exact ⟨k, rfl, k, H', rfl, I', qz⟩
          · exact p.elim
      · rename_i l l2 e1 e2
        obtain ⟨xs, z1, ql⟩ := rel.at_ n _ aa e1 ea
        obtain ⟨ys, y1, ql2⟩ := rel.at_ m _ bb e2 eb
        cases hl : Nat.beq l.length l2.length with
        | false =>
          rw [hl] at p
          obtain ⟨its, r1, p1, _⟩ := I.list (SqL.of z1)
          obtain ⟨its2, r2, p2, _⟩ := I.list (SqL.of y1)
          have hne : (its.toArray.size != its2.toArray.size) = true := by
            rw [List.size_toArray, List.size_toArray, ← r1.length, ← r2.length, ql.length, ql2.length]
            exact bne_iff_ne.mpr (Nat.ne_of_beq_eq_false hl)
          exact SeqAt.RcNeAt.lists_lengths p1.isList p2.isList hne (by omega) X.prog X.w _ _ ⟨false, H, rfl, I, p false H ρ Step.refl rel rfl⟩
        | true =>
          rw [hl, cond_true] at p
          have hll : l.length = l2.length := Nat.eq_of_beq_eq_true hl
          have two : ∀ (h' : Hq) (ρ' : List Addr) (H' : Hp) (s' : Shared) (N : Nat) (q : List U × List U), Inv X pins σ H' s' → Step ρ H ρ' H' → Rel X.K cls ρ' h' H' → twoL n m N h' = some q → ∃ xs ys its its2, H' aa = some (.lst xs) ∧ H' bb = some (.lst ys) ∧ RUl X.K ρ' H' q.1 xs ∧ RUl X.K ρ' H' q.2 ys ∧ Vals xs its ∧ Vals ys its2 ∧ GGQ.Two aa bb N s' its.toArray its2.toArray := fun h' ρ' H' s' N q I' st r' e => by
            unfold twoL at e
            split at e
            · rename_i ll ll2 f1 f2
              cases hb : (Nat.beq ll.length N && Nat.beq ll2.length N) with
              | false => rw [hb] at e; cases e
              | true =>
                rw [hb] at e; cases e
                rw [Bool.and_eq_true] at hb
                obtain ⟨vs, w1, w2⟩ := r'.at_ n _ aa f1 (st.get ea)
                obtain ⟨vs', x1, x2⟩ := r'.at_ m _ bb f2 (st.get eb)
                obtain ⟨_, its, n1, r1, g1⟩ := I'.hok aa _ w1
                obtain ⟨_, its2, n2, r2, g2⟩ := I'.hok bb _ x1
                exact ⟨vs, vs', its, its2, w1, x1, w2, x2, r1, r2, n1, n2, g1, g2, by rw [List.size_toArray, ← r1.length, w2.length]; exact Nat.eq_of_beq_eq_true hb.1, by rw [List.size_toArray, ← r2.length, x2.length]; exact Nat.eq_of_beq_eq_true hb.2⟩
            · cases e
          refine GGQ.rc_list_neD (N := l.length) (by omega) (fun i s' => i ≤ l.length ∧ ∃ h' ρ' H', Inv X pins σ H' s' ∧ Step ρ H ρ' H' ∧ Rel X.K cls ρ' h' H' ∧ Post X.K cls W0 rT ρ' σ H' Q (seqL (eqU eqs f) n m l.length (l.length - i) i h'))
            (fun i s' => ∃ h' ρ' H', Inv X pins σ H' s' ∧ Step ρ H ρ' H' ∧ Rel X.K cls ρ' h' H' ∧ (∃ q, twoL n m l.length h' = some q) ∧ Q false H')
            ⟨fun i s1 ⟨hi, h', ρ', H', I', s', r', p'⟩ => ?_, fun i s1 ⟨h', ρ', H', I', s', r', ⟨q, e⟩, q'⟩ => ?_⟩ (fun s1 ⟨hi, h', ρ', H', I', s', r', p'⟩ => ?_) (fun i s1 _ ⟨h', ρ', H', I', s', r', _, q'⟩ => ⟨false, H', rfl, I', q'⟩) ⟨Nat.zero_le _, h, ρ, H, I, Step.refl, rel, p⟩
          · cases et : twoL n m l.length h' with
            | none =>
              exfalso
              cases hk' : l.length - i with
              | zero => rw [hk'] at p'; unfold seqL at p'; rw [et] at p'; exact p'
              | succ k' => rw [hk'] at p'; unfold seqL at p'; rw [et] at p'; exact p'
            | some q =>
              obtain ⟨xs', ys', its, its2, t1, t2, t3, t4, t5, t6, t7⟩ := two h' ρ' H' s1 _ q I' s' r' et
              refine ⟨_, _, t7, fun h1 h2 => ?_⟩
              have k0 : its.toArray.size = l.length := by obtain ⟨_, _, _, _, z, _⟩ := t7; exact z
              have k0' : its2.toArray.size = l.length := by obtain ⟨_, _, _, _, _, z⟩ := t7; exact z
              have k1 : i < q.1.length := by rw [← t3.length, t5.length]; simpa using h1
              have k2 : i < q.2.length := by rw [← t4.length, t6.length]; simpa using h2
              have ek : l.length - i = (l.length - (i + 1)) + 1 := by omega
              rw [ek] at p'
              unfold seqL at p'
              simp only [et] at p'
              have zz1 := t3.get (i := i)
              have zz2 := t4.get (i := i)
              rw [List.getElem?_eq_getElem k1] at zz1 p'
              rw [List.getElem?_eq_getElem k2] at zz2 p'
              simp only at p'
              obtain ⟨v1, e1', w1⟩ := zz1
              obtain ⟨v2, e2', w2⟩ := zz2
              obtain ⟨u1, g1, y1'⟩ := t5.get e1'
              obtain ⟨u2, g2, y2'⟩ := t6.get e2'
              have b1 : its.toArray[i] = u1 := by have := (List.getElem?_eq_some_iff.mp g1).2; simpa using this
              have b2 : its2.toArray[i] = u2 := by have := (List.getElem?_eq_some_iff.mp g2).2; simpa using this
              rw [b1, b2]
              refine wpAny_mono (ev A.in1 pins s1 σ H' ρ' h' _ _ v1 v2 u1 u2 (fun r H1 => ∃ h1 ρ1, Step ρ' H' ρ1 H1 ∧ Rel X.K cls ρ1 h1 H1 ∧ ((r = true ∧ Post X.K cls W0 rT ρ1 σ H1 Q (seqL (eqU eqs f) n m l.length (l.length - (i + 1)) (i + 1) h1)) ∨ (r = false ∧ (∃ q, twoL n m l.length h1 = some q) ∧ Q false H1))) sb.in1 I' y1' y2' r' w1 w2 ?_) (fun r s2 z => ?_) fun _ _ z => z
              · cases em : eqU eqs f q.1[i] q.2[i] h' with
                | bad => rw [em] at p'; exact p'.elim
                | exc _ _ => rw [em] at p'; exact p'.elim
                | ok k h1 =>
                  rw [em] at p'
                  intro r H1 ρ1 s1 r1 er
                  obtain rfl : k = r := er
                  refine ⟨h1, ρ1, s1, r1, ?_⟩
                  cases k with
                  | true => exact .inl ⟨rfl, Post.step s1 p'⟩
                  | false =>
                    simp only at p'
                    cases et2 : twoL n m l.length h1 with
                    | none => rw [et2] at p'; exact p'.elim
                    | some q2 => rw [et2] at p'; exact .inr ⟨rfl, ⟨q2, rfl⟩, p' false H1 ρ1 s1 r1 rfl⟩
              · obtain ⟨H1, I1, h1, ρ1, s1, r1, z⟩ := z
                rcases z with ⟨er, z⟩ | ⟨er, tq, z⟩
                · exact .inl ⟨er, by omega, h1, ρ1, H1, I1, s'.trans s1, r1, z⟩
                · exact .inr ⟨er, h1, ρ1, H1, I1, s'.trans s1, r1, tq, z⟩
          · obtain ⟨xs', ys', its, its2, t1, t2, t3, t4, t5, t6, t7⟩ := two h' ρ' H' s1 _ q I' s' r' e
            exact ⟨_, _, t7⟩
          · rw [Nat.sub_self] at p'
            unfold seqL at p'
            cases et : twoL n m l.length h' with
            | none => rw [et] at p'; exact p'.elim
            | some q => rw [et] at p'; exact ⟨true, H', rfl, I', p' true H' ρ' Step.refl r' rfl⟩
      · exact p.elim
    · exact p.elim
end
end GG
/-! GIn -/
namespace GG
open PySem PySem.Spec PyProof.Rows L2
section
variable {X : Cx} {cls : Nat → Addr} {W : WX} {eqs : Nat → Option Fn} {k : Nat}
/-- == inside a built-in, from the rich comparison -/
theorem eqW_of {n f : Nat} (hn : 0 < n) (rc : ∀ (A : Around) (pins : List (Addr × Obj)) (s : Shared) (σ : L2.St) (H : Hp) (ρ : List Addr) (h : Hq) (a b : U) (x y : V) (u v : Value) (Q : Bool → Hp → Prop), Sub X n A → Inv X pins σ H s → RelV x u → RelV y v → Rel X.K cls ρ h H → RU X.K ρ H a x → RU X.K ρ H b y →
    Post X.K cls W0 rT ρ σ H Q (rcU eqs f a b h) → wpAny (model X.prog X.w) A (richCompare .Eq u v) (fun r s' => ∃ k H', r = .bool k ∧ Inv X pins σ H' s' ∧ Q k H') X.xe s) : EqW X cls n (eqU eqs f) := by
  intro A pins s σ H ρ h a b x y u v Q sb I rx ry rel qa qb p
  have refs : ∀ (c d : Addr), x = .ref c → y = .ref d → (eqU eqs f a b h = rcU eqs f a b h ∨ ∃ n m, a = .ref n ∧ b = .ref m) → wpAny (model X.prog X.w) A (eqBool u v) (fun r s' => ∃ H', Inv X pins σ H' s' ∧ Q r H') X.xe s := fun c d ex ey hab => by
    subst ex ey
    obtain rfl : u = Value.ref c := rx
    obtain rfl : v = Value.ref d := ry
    refine GGQ.eqBool_D (fun e => ?_) fun ne => ?_
    · subst e
      rcases same_ok rel f a b (.ref c) qa qb with e | e
      · rw [e] at p; exact ⟨H, I, p true H ρ Step.refl rel rfl⟩
      · rw [e] at p; exact p.elim
    · have e : eqU eqs f a b h = rcU eqs f a b h := by
        rcases hab with e | ⟨n, m, rfl, rfl⟩
        · exact e
        · obtain ⟨c', ec, ez⟩ := qa
          cases ez
          obtain ⟨d', ed, ez⟩ := qb
          cases ez
          have hnm : Nat.beq n m = false := by
            cases hb : Nat.beq n m with
            | false => rfl
            | true =>
              have := Nat.eq_of_beq_eq_true hb
              subst this
              rw [ec] at ed; cases ed
              exact absurd rfl ne
          show cond (Nat.beq n m) (.ok true h) (rcU eqs f (.ref n) (.ref m) h) = _
          rw [hnm] <;> rfl
      rw [e] at p
      refine wpAny_mono (rc A pins s σ H ρ h a b (.ref c) (.ref d) _ _ Q sb I rfl rfl rel qa qb p) (fun r s' z => ?_) fun _ _ z => z
      obtain ⟨k, H', er, I', q⟩ := z
      exact ⟨k, er, H', I', q⟩
  by_cases hr : ∃ n m, a = .ref n ∧ b = .ref m
  · obtain ⟨n, m, rfl, rfl⟩ := hr
    obtain ⟨c, ec, ex⟩ := id qa
    obtain ⟨d, ed, ey⟩ := id qb
    exact refs c d ex ey (.inr ⟨n, m, rfl, rfl⟩)
  · have e0 : eqU eqs f a b h = rcU eqs f a b h := by
      unfold eqU orSame
      cases a <;> cases b <;> first | rfl | exact absurd ⟨_, _, rfl, rfl⟩ hr
    have p0 := p
    rw [e0] at p0
    cases f with
    | zero => exact p0.elim
    | succ f =>
      unfold rcU at p0
      split at p0
      · rename_i d e hd he
        cases hs : (SeqAt.shaped d && SeqAt.shaped e) with
        | false => rw [hs] at p0; exact p0.elim
        | true =>
          rw [hs] at p0
          rw [Bool.and_eq_true] at hs
          obtain ⟨as, r1⟩ := Dp.reads I d x u (dat_dp rel _ a d x hd qa) rx
          obtain ⟨bs, r2⟩ := Dp.reads I e y v (dat_dp rel _ b e y he qb) ry
          have hun := sb.room.un
          exact SeqAt.eqAt_reads d e A s u v as bs r1 r2 (SeqAt.canLay_of_shaped hs.1) (SeqAt.canLay_of_shaped hs.2) (SeqAt.room_of_shaped hs.1 (by omega)) X.prog X.w _ _ ⟨H, I, p0.ok (v := PyData.eqv d e) rel rfl⟩
      · split at p0
        · obtain ⟨aa, xs, ex, _⟩ := id qa
          obtain ⟨bb, ys, ey, _⟩ := id qb
          exact refs aa bb ex ey (.inl e0)
        · exact absurd ⟨_, _, rfl, rfl⟩ hr
        · exact p0.elim
theorem eqW_all (ok : EqOk X cls k eqs) : ∀ f, EqW X cls (k + 1 + f) (eqU eqs f)
  | 0 => eqW_of (by omega) fun A pins s σ H ρ h a b x y u v Q sb I rx ry rel qa qb p => p.elim
  | f + 1 => eqW_of (by omega) fun A pins s σ H ρ h a b x y u v Q sb I rx ry rel qa qb p => rcE_step ok (n := k + 1 + f) (by omega) (eqW_all ok f) A pins s σ H ρ h a b x y u v Q sb I rx ry rel qa qb p
def toU (neg : Bool) : Res Bool → Res U
  | .ok b h => .ok (.bl (xor neg b)) h
  | _ => .bad
def fEq (eqs : Nat → Option Fn) (f : Nat) : F2 := fun a b h => toU false (rcU eqs f a b h)
def fNe (eqs : Nat → Option Fn) (f : Nat) : F2 := fun a b h => toU true (rcU eqs f a b h)
theorem toU_post {K : PySem.W.Frag} {ρ : List Addr} {σ : L2.St} {H : Hp} {Q : VK} {neg : Bool} {r : Res Bool} (p : Post K cls W (RU K) ρ σ H Q (toU neg r)) : Post K cls W0 rT ρ σ H (fun b H' => Q (.bl (xor neg b)) H') r := by
  cases r with
  | ok b h => exact fun b' H' ρ' s r e => by have e : b = b' := e; subst e; exact p (.bl (xor neg b)) H' ρ' s r rfl
  | exc _ _ => exact p.elim
  | bad => exact p
theorem ow_eq {f : Nat} (ok : EqOk X cls k eqs) (hr : Room (k + 2 + f) X.A) : OpW X cls W (compareOp .Eq) (fEq eqs (f + 1)) := fun pins s σ ρ h H a b x y u v Q I rx ry rel qa qb p => by
  show wpAny (model X.prog X.w) X.A (richCompare .Eq u v) (EP X pins σ Q) X.xe s
  refine wpAny_mono (rcE_step ok (n := k + 1 + f) (by omega) (eqW_all ok f) X.A pins s σ H ρ h a b x y u v _ ⟨(show Room (k + 1 + f + 1) X.A from by rw [show k + 1 + f + 1 = k + 2 + f by omega]; exact hr), rfl⟩ I rx ry rel qa qb (toU_post p)) (fun r s' z => ?_) fun _ _ z => z
  obtain ⟨b, H', er, I', q⟩ := z
  subst er
  rw [Bool.false_xor] at q
  exact ⟨.bl b, H', I', rfl, q⟩
theorem ow_ne {f : Nat} (ok : EqOk X cls k eqs) (hr : Room (k + 2 + f) X.A) : OpW X cls W (compareOp .NotEq) (fNe eqs (f + 1)) := fun pins s σ ρ h H a b x y u v Q I rx ry rel qa qb p => by
  show wpAny (model X.prog X.w) X.A (richCompare .NotEq u v) (EP X pins σ Q) X.xe s
  refine wpAny_mono (rcN_step ok (n := k + 1 + f) (by omega) (eqW_all ok f) X.A pins s σ H ρ h a b x y u v _ ⟨(show Room (k + 1 + f + 1) X.A from by rw [show k + 1 + f + 1 = k + 2 + f by omega]; exact hr), rfl⟩ I rx ry rel qa qb (toU_post p)) (fun r s' z => ?_) fun _ _ z => z
  obtain ⟨b, H', er, I', q⟩ := z
  subst er
  rw [Bool.true_xor] at q
  exact ⟨.bl (!b), H', I', rfl, q⟩
/-! ### in -/
def tupIn (ev : FB) (x : U) : List U → Hq → Res Bool
  | [], h => .ok false h
  | y :: r, h => match ev y x h with
    | .ok true h1 => .ok true h1
    | .ok false h1 => tupIn ev x r h1
    | _ => .bad
def oneL (n N : Nat) (h : Hq) : Option (List U) := match h[n]? with
  | some (.lst l) => cond (Nat.beq l.length N) (some l) none
  | _ => none
def lstIn (ev : FB) (x : U) (n N : Nat) : Nat → Nat → Hq → Res Bool
  | 0, _, h => match oneL n N h with
    | some _ => .ok false h
    | none => .bad
  | k + 1, i, h => match oneL n N h with
    | some l => match l[i]? with
      | some y => match ev y x h with
        | .ok true h1 => .ok true h1
        | .ok false h1 => lstIn ev x n N k (i + 1) h1
        | _ => .bad
      | none => .bad
    | none => .bad
def inU (ev : FB) (x c : U) (h : Hq) : Res Bool := match c with
  | .str z => match x with
    | .str y => .ok (!(Builtin.Str.occurrences z y 0 z.length 1).isEmpty) h
    | _ => .bad
  | .tup l => tupIn ev x l h
  | .ref n => match h[n]? with
    | some (.lst l) => lstIn ev x n l.length l.length 0 h
    | _ => match dicU h c, keyOf x with
      | some l, some kk => .ok (valU l kk).isSome h
      | _, _ => .bad
  | _ => .bad
def fIn (eqs : Nat → Option Fn) (f : Nat) : F2 := fun a b h => toU false (inU (eqU eqs f) a b h)
def fNotIn (eqs : Nat → Option Fn) (f : Nat) : F2 := fun a b h => toU true (inU (eqU eqs f) a b h)
theorem in_ok {f : Nat} {neg : Bool} (ok : EqOk X cls k eqs) (hr : Room (k + 2 + f) X.A) {pins : List (Addr × Obj)} {s : Shared} {σ : L2.St} {ρ : List Addr} {h : Hq} {H : Hp} {a b : U} {x y : V} {u v : Value} {Q : Bool → Hp → Prop} (I : Inv X pins σ H s) (rx : RelV x u) (ry : RelV y v) (rel : Rel X.K cls ρ h H) (qa : RU X.K ρ H a x) (qb : RU X.K ρ H b y)
    (p : Post X.K cls W0 rT ρ σ H Q (inU (eqU eqs f) a b h)) : wpAny (model X.prog X.w) X.A (compareOp (if neg then .NotIn else .In) u v) (fun r s' => ∃ k H', r = .bool (if neg then !k else k) ∧ Inv X pins σ H' s' ∧ Q k H') X.xe s := by
  have hun := hr.un
  have ev := eqW_all ok f
  have sb : Sub X (k + 1 + f) X.A.in1 := ⟨(show Room (k + 1 + f + 1) X.A from by rw [show k + 1 + f + 1 = k + 2 + f by omega]; exact hr).in1, rfl⟩
  unfold inU at p
  split at p
  · rename_i z
    split at p
    · rename_i w
      rw [show x = .str w from qa] at rx
      rw [show y = .str z from qb] at ry
      have q := p.ok (v := !(Builtin.Str.occurrences z w 0 z.length 1).isEmpty) rel rfl
      cases neg with
      | false =>
        refine wpAny_mono (op_in_str pins s σ H (.str w) (.str z) u v (fun r H' => ∃ k, r = .bl k ∧ Q k H') I rx ry ⟨w, z, rfl, rfl, _, rfl, q⟩) (fun r s' ⟨r', H', I', rr, k, e, q⟩ => ?_) fun _ _ z => z
        subst e
        cases rr
        exact ⟨k, H', rfl, I', q⟩
      | true =>
        refine wpAny_mono (op_notin_str pins s σ H (.str w) (.str z) u v (fun r H' => ∃ k, r = .bl (!k) ∧ Q k H') I rx ry ⟨w, z, rfl, rfl, _, rfl, q⟩) (fun r s' ⟨r', H', I', rr, k, e, q⟩ => ?_) fun _ _ z => z
        subst e
        cases rr
        exact ⟨k, H', rfl, I', q⟩
    · exact p.elim
  · rename_i l
    obtain ⟨bb, ys, rfl, tb, ql⟩ := qb
    obtain rfl : v = Value.ref bb := ry
    obtain ⟨its, r1, p1, _⟩ := I.tuple (SqT.ofT tb)
    obtain ⟨⟨ocls, dd, data, sl⟩, ho, hc, n0, hd⟩ := id p1
    simp only at hc hd
    subst hc hd
    have n1 : its.toArray.size = l.length := by rw [List.size_toArray, ← r1.length, ql.length]
    refine GGQ.contains_D (neg := neg) F.slot_tuple_contains ⟨_, ho, rfl⟩ F.entry_tuple_contains (F.args_tuple_contains_2 _ _) ?_
    refine GGQ.tuple_containsD bb its.toArray n0 dd sl u (fun i s' => ∃ h' ρ' H', Inv X pins σ H' s' ∧ Step ρ H ρ' H' ∧ Rel X.K cls ρ' h' H' ∧ Post X.K cls W0 rT ρ' σ H' Q (tupIn (eqU eqs f) a (l.drop i) h')) (fun i s' => ∃ H', Inv X pins σ H' s' ∧ Q true H')
      (fun i h1 s1 ⟨h', ρ', H', I', s', r', p'⟩ => ?_) (fun s1 ⟨h', ρ', H', I', s', r', p'⟩ => ?_) (fun i s1 _ ⟨H', I', q'⟩ => ⟨true, rfl, true, H', rfl, I', q'⟩) ho ⟨h, ρ, H, I, Step.refl, rel, p⟩
    · have k1 : i < l.length := by omega
      rw [List.drop_eq_getElem_cons k1] at p'
      have z1 := ql.get (i := i)
      rw [List.getElem?_eq_getElem k1] at z1
      obtain ⟨v1, e1, w1⟩ := z1
      obtain ⟨u1, g1, y1⟩ := r1.get e1
      have b1 : its.toArray[i] = u1 := by have := (List.getElem?_eq_some_iff.mp g1).2; simpa using this
      rw [b1]
      refine wpAny_mono (ev X.A.in1 pins s1 σ H' ρ' h' _ _ v1 x u1 u (fun r H1 => ∃ h1 ρ1, Step ρ' H' ρ1 H1 ∧ Rel X.K cls ρ1 h1 H1 ∧ ((r = false ∧ Post X.K cls W0 rT ρ1 σ H1 Q (tupIn (eqU eqs f) a (l.drop (i + 1)) h1)) ∨ (r = true ∧ Q true H1))) sb I' y1 rx r' (RU.mono rel s' w1) (RU.mono rel s' qa) ?_) (fun r s2 z => ?_) fun _ _ z => z
      · unfold tupIn at p'
        cases em : eqU eqs f l[i] a h' with
        | bad => rw [em] at p'; exact p'.elim
        | exc _ _ => rw [em] at p'; exact p'.elim
        | ok k h1 =>
          rw [em] at p'
          intro r H1 ρ1 s1 r1 er
          obtain rfl : k = r := er
          refine ⟨h1, ρ1, s1, r1, ?_⟩
          cases k with
          | false => exact .inl ⟨rfl, Post.step s1 p'⟩
          | true => exact .inr ⟨rfl, p' true H1 ρ1 s1 r1 rfl⟩
      · obtain ⟨H1, I1, h1, ρ1, s1, r1, z⟩ := z
        rcases z with ⟨er, z⟩ | ⟨er, z⟩
        · exact .inl ⟨er, h1, ρ1, H1, I1, s'.trans s1, r1, z⟩
        · exact .inr ⟨er, H1, I1, z⟩
    · rw [n1, List.drop_length] at p'
      exact ⟨false, rfl, false, H', rfl, I', p' false H' ρ' Step.refl r' rfl⟩
  · rename_i n
    obtain ⟨bb, eb, rfl⟩ := qb
    obtain rfl : v = Value.ref bb := ry
    split at p
    · rename_i l el
      obtain ⟨ys, z1, ql⟩ := rel.at_ n _ bb el eb
      have one : ∀ (h' : Hq) (ρ' : List Addr) (H' : Hp) (s' : Shared) (N : Nat) (q : List U), Inv X pins σ H' s' → Step ρ H ρ' H' → Rel X.K cls ρ' h' H' → oneL n N h' = some q → ∃ xs its n0, RUl X.K ρ' H' q xs ∧ Vals xs its ∧ s'.heap.get? bb = some { cls := .type "list", data := .seq its.toArray n0 } ∧ its.toArray.size = N := fun h' ρ' H' s' N q I' st r' e => by
        unfold oneL at e
        split at e
        · rename_i ll f1
          cases hb : Nat.beq ll.length N with
          | false => rw [hb] at e; cases e
          | true =>
            rw [hb] at e; cases e
            obtain ⟨vs, w1, w2⟩ := r'.at_ n _ bb f1 (st.get eb)
            obtain ⟨_, its, n1, r1, g1⟩ := I'.hok bb _ w1
            exact ⟨vs, its, n1, w2, r1, g1, by rw [List.size_toArray, ← r1.length, w2.length]; exact Nat.eq_of_beq_eq_true hb⟩
        · cases e
      obtain ⟨z0, its0, n00, r0, g0⟩ := I.hok bb _ z1
      refine GGQ.contains_D (neg := neg) F.slot_list_contains ⟨_, g0, rfl⟩ F.entry_list_contains (F.args_list_contains_2 _ _) ?_
      refine GGQ.list_containsD bb u l.length (fun i s' => i ≤ l.length ∧ ∃ h' ρ' H', Inv X pins σ H' s' ∧ Step ρ H ρ' H' ∧ Rel X.K cls ρ' h' H' ∧ Post X.K cls W0 rT ρ' σ H' Q (lstIn (eqU eqs f) a n l.length (l.length - i) i h')) (fun i s' => ∃ H', Inv X pins σ H' s' ∧ Q true H')
        (fun i s1 ⟨hi, h', ρ', H', I', s', r', p'⟩ => ?_) (fun s1 ⟨hi, h', ρ', H', I', s', r', p'⟩ => ?_) (fun i s1 _ ⟨H', I', q'⟩ => ⟨true, rfl, true, H', rfl, I', q'⟩) ⟨Nat.zero_le _, h, ρ, H, I, Step.refl, rel, p⟩
      · cases et : oneL n l.length h' with
        | none =>
          exfalso
          cases hk' : l.length - i with
          | zero => rw [hk'] at p'; unfold lstIn at p'; rw [et] at p'; exact p'
          | succ k' => rw [hk'] at p'; unfold lstIn at p'; rw [et] at p'; exact p'
        | some q =>
          obtain ⟨xs', its, n0, t3, t5, g1, k0⟩ := one h' ρ' H' s1 _ q I' s' r' et
          refine ⟨its.toArray, n0, g1, k0, fun h1 => ?_⟩
          have k1 : i < q.length := by rw [← t3.length, t5.length]; simpa using h1
          have ek : l.length - i = (l.length - (i + 1)) + 1 := by omega
          rw [ek] at p'
          unfold lstIn at p'
          simp only [et] at p'
          have zz1 := t3.get (i := i)
          rw [List.getElem?_eq_getElem k1] at zz1 p'
          simp only at p'
          obtain ⟨v1, e1', w1⟩ := zz1
          obtain ⟨u1, g1, y1'⟩ := t5.get e1'
          have b1 : its.toArray[i] = u1 := by have := (List.getElem?_eq_some_iff.mp g1).2; simpa using this
          rw [b1]
          refine wpAny_mono (ev X.A.in1 pins s1 σ H' ρ' h' _ _ v1 x u1 u (fun r H1 => ∃ h1 ρ1, Step ρ' H' ρ1 H1 ∧ Rel X.K cls ρ1 h1 H1 ∧ ((r = false ∧ Post X.K cls W0 rT ρ1 σ H1 Q (lstIn (eqU eqs f) a n l.length (l.length - (i + 1)) (i + 1) h1)) ∨ (r = true ∧ Q true H1))) sb I' y1' rx r' w1 (RU.mono rel s' qa) ?_) (fun r s2 z => ?_) fun _ _ z => z
          · cases em : eqU eqs f q[i] a h' with
            | bad => rw [em] at p'; exact p'.elim
            | exc _ _ => rw [em] at p'; exact p'.elim
            | ok k h1 =>
              rw [em] at p'
              intro r H1 ρ1 s1 r1 er
              obtain rfl : k = r := er
              refine ⟨h1, ρ1, s1, r1, ?_⟩
              cases k with
              | false => exact .inl ⟨rfl, Post.step s1 p'⟩
              | true => exact .inr ⟨rfl, p' true H1 ρ1 s1 r1 rfl⟩
          · obtain ⟨H1, I1, h1, ρ1, s1, r1, z⟩ := z
            rcases z with ⟨er, z⟩ | ⟨er, z⟩
            · exact .inl ⟨er, by omega, h1, ρ1, H1, I1, s'.trans s1, r1, z⟩
            · exact .inr ⟨er, H1, I1, z⟩
      · rw [Nat.sub_self] at p'
        unfold lstIn at p'
        cases et : oneL n l.length h' with
        | none => rw [et] at p'; exact p'.elim
        | some q => rw [et] at p'; exact ⟨false, rfl, false, H', rfl, I', p' false H' ρ' Step.refl r' rfl⟩
    · split at p
      · rename_i l kk el ek
        have qref : RU X.K ρ H (.ref n) (.ref bb) := ⟨bb, eb, rfl⟩
        obtain ⟨aa, ws, ez, hd, ql⟩ := dicU_imp rel qref el
        cases ez
        have zz := valU_imp (k := kk) ql
        have eo : (valV ws kk).isSome = (valU l kk).isSome := by
          cases ev : valU l kk with
          | none => rw [ev] at zz; rw [zz] <;> rfl
          | some w => rw [ev] at zz; obtain ⟨_, z1, _⟩ := zz; rw [z1] <;> rfl
        have q := p.ok (v := (valU l kk).isSome) rel rfl
        have g : DGet H bb x (valV ws kk) := .inl ⟨ws, kk, hd, keyOf_ru qa ek, rfl⟩
        cases neg with
        | false => exact d_in (by omega) I g rx fun s3 I3 => ⟨_, H, rfl, I3, by rw [← eo] at q; exact q⟩
        | true => exact d_notIn (by omega) I g rx fun s3 I3 => ⟨_, H, rfl, I3, by rw [← eo] at q; exact q⟩
      · exact p.elim
  · exact p.elim
theorem ow_in {f : Nat} (ok : EqOk X cls k eqs) (hr : Room (k + 2 + f) X.A) : OpW X cls W (compareOp .In) (fIn eqs f) := fun pins s σ ρ h H a b x y u v Q I rx ry rel qa qb p => by
  refine wpAny_mono (in_ok (neg := false) ok hr I rx ry rel qa qb (toU_post p)) (fun r s' z => ?_) fun _ _ z => z
  obtain ⟨b, H', er, I', q⟩ := z
  subst er
  rw [Bool.false_xor] at q
  exact ⟨.bl b, H', I', rfl, q⟩
theorem ow_notin {f : Nat} (ok : EqOk X cls k eqs) (hr : Room (k + 2 + f) X.A) : OpW X cls W (compareOp .NotIn) (fNotIn eqs f) := fun pins s σ ρ h H a b x y u v Q I rx ry rel qa qb p => by
  refine wpAny_mono (in_ok (neg := true) ok hr I rx ry rel qa qb (toU_post p)) (fun r s' z => ?_) fun _ _ z => z
  obtain ⟨b, H', er, I', q⟩ := z
  subst er
  rw [Bool.true_xor] at q
  exact ⟨.bl (!b), H', I', rfl, q⟩
/-! ### own <, <=, >, >= of instances of one class -/
def fOwn (c : Nat) (sem : Fn) : F2 := fun a b h => match insU h a, insU h b with
  | some (_, c1, _), some (_, c2, _) => cond (Nat.beq c1 c && Nat.beq c2 c) (sem [a, b] h) .bad
  | _, _ => .bad
theorem ow_own {op : CmpOp} {c n : Nat} {f : Addr} {sem : Fn} (hop : ∀ a b, compareOp op a b = richCompare op a b) (hs : PySem.W.findIn X.K (.ref (cls c)) (cmpInfo op).2.1 = some (some (.ref f))) (hf : PySem.W.isFn X.K (.ref f) = true) (F : FnG X.prog X.w X.K X.mg X.base cls n f sem) (hr : Room n X.A) (tk : Takes X W) :
    OpW X cls W (compareOp op) (fOwn c sem) := fun pins s σ ρ h H a b x y u v Q I rx ry rel qa qb p => by
  unfold fOwn at p
  split at p
  · rename_i n1 c1 fs1 n2 c2 fs2 e1 e2
    cases hc : (Nat.beq c1 c && Nat.beq c2 c) with
    | false => rw [hc] at p; exact p.elim
    | true =>
      rw [hc, cond_true] at p
      rw [Bool.and_eq_true] at hc
      obtain rfl : c1 = c := Nat.eq_of_beq_eq_true hc.1
      obtain rfl : c2 = c1 := Nat.eq_of_beq_eq_true hc.2
      obtain ⟨aa, dx, ws, eu, eh, er, rfl, z1, z2⟩ := insU_imp rel qa e1
      obtain ⟨bb, dy, ws', eu', eh', er', rfl, y1, y2⟩ := insU_imp rel qb e2
      obtain rfl : u = Value.ref aa := rx
      obtain rfl : v = Value.ref bb := ry
      obtain ⟨mA, J, _⟩ := ins_get I.hok z1
      obtain ⟨mB, J', _⟩ := ins_get I.hok y1
      obtain ⟨od, J, _⟩ := J.look
      obtain ⟨od', J', _⟩ := J'.look
      obtain ⟨mm, hF⟩ := I.fr
      rw [hop]
      refine PySem.W.cmp_K (op := op) (tb := .ref (cls c2)) hr.units0 hF I.ok.mod.kin J J'.type (by simp [PySem.W.notFirst]) hs hf ?_
      refine wpAny_mono (cal_fn F hr tk pins s σ H [.ref aa, .ref bb] [.ref aa, .ref bb] Q [a, b] h ρ I (.cons rfl (.cons rfl .nil)) rel ⟨_, _, rfl, qa, _, _, rfl, qb, rfl⟩ p) (fun w s' z => ?_) fun _ _ z => z
      obtain ⟨z', H', I', rz, qz⟩ := z
      exact SlX.cmpback rz ⟨z', H', I', rz, qz⟩
  · exact p.elim
end
end GG
/-! GFun -/
namespace GG
open PySem PySem.Spec PyProof.Rows L2
/-! ### a def's meaning from its body's -/
def endS : SRes → Res U
  | .rt u h => .ok u h
  | .nx _ h => .ok .non h
  | .exc x _ h => .exc x h
  | _ => .bad
/-- np parameters, d more slots -/
def semB (np d : Nat) (m : SM) : Fn := fun l h => cond (Nat.beq l.length np) (endS (m (l.map some ++ List.replicate d none) h)) .bad
section
variable {P : Program} {w : World} {K : PySem.W.Frag} {mg : Str → Option Value} {base : Heap} {cls : Nat → Addr} {x qual : Str} {params : Arguments} {body : List Stmt} {scope : Scope} {dvs : List V} {kws : List (Str × V)} {f : Addr} {fd : FuncData} {N ps : List Str} {k : Nat} {m : SM}
theorem rs_start {ρ : List Addr} {H : Hp} {d : Nat} {l : List U} {vs : List V} (q : RUl K ρ H l vs) (hN : N.length - vs.length = d) : RS K ρ H (l.map some ++ List.replicate d none) (L2.start N vs) := by
  unfold L2.start
  rw [hN]
  refine ⟨by simp [q.length], fun i u e => ?_⟩
  by_cases hi : i < l.length
  · rw [List.getElem?_append_left (by simpa using hi), List.getElem?_map] at e
    have z := q.get (i := i)
    rw [List.getElem?_eq_getElem hi] at z e
    cases e
    obtain ⟨v, e1, e2⟩ := z
    have hv : i < vs.length := by rw [q.length]; exact hi
    exact ⟨v, by rw [List.getElem?_append_left (by simpa using hv), List.getElem?_map, e1] <;> rfl, e2⟩
  · rw [List.getElem?_append_right (by simpa using Nat.le_of_not_lt hi)] at e
    rw [List.getElem?_replicate] at e
    split at e <;> cases e
theorem endS_post {ρ : List Addr} {H : Hp} {Q : VK} {E : XK} {r : SRes} (p : Post K cls (fun c d _ H' => E c d H') (RU K) ρ [] H Q (endS r)) : PostS K cls (fun c d _ H' => E c d H') ρ H { nx := fun _ H' => Q .non H', rt := Q } r := by
  cases r with
  | nx us h => exact fun σ' H' ρ' s r q => p .non H' ρ' s r rfl
  | rt u h => exact p
  | bk us h => exact p.elim
  | ct us h => exact p.elim
  | exc x us h => exact fun c d σ' H' ρ' s r q e => p c d H' ρ' s r e
  | bad => exact p
abbrev CxF (P : Program) (w : World) (K : PySem.W.Frag) (mg : Str → Option Value) (base : Heap) (N : List Str) (qual : Str) (scope : Scope) (f : Addr) (cdv : Value) (A : Around) (outer : List Env) (s : Shared) (H : Hp) (E : XK) : Cx := cxOf (L2.CX P w) P w K mg base N qual scope f cdv A outer s H E
theorem semB_imp {d : Nat} (hN : N.length = ps.length + d) {vs : List V} {H : Hp} {Q : VK} {E : XK} (h : spG K cls (semB ps.length d m) vs H Q E) : vs.length = ps.length ∧ tM K cls (fun c d _ H' => E c d H') m { nx := fun _ H' => Q .non H', rt := Q } (L2.start N vs) H := by
  obtain ⟨l, h, ρ, rel, ql, p⟩ := h
  unfold semB at p
  cases hb : Nat.beq l.length ps.length with
  | false => rw [hb] at p; exact p.elim
  | true =>
    rw [hb] at p
    have hl : vs.length = ps.length := by rw [ql.length]; exact Nat.eq_of_beq_eq_true hb
    exact ⟨hl, _, h, ρ, ⟨rel, rs_start ql (by rw [hN, hl]; omega)⟩, endS_post p⟩
theorem fn_body {d : Nat} (F : FunD K x qual params body scope dvs kws f fd) (S : FnScope N ps scope) (hN : N.length = ps.length + d)
    (hb : ∀ (cdv : Value) (A : Around) (outer : List Env) (s : Shared) (H : Hp) (E : XK), Room k (A.deeper (envOfC qual scope s.heap.objs.size f cdv)) → SSs (CxF P w K mg base N qual scope f cdv A outer s H E) cls (fun c d _ H' => E c d H') body m) :
    FnOk P w K mg base (L2.CX P w) (k + 1) f fd ps (spG K cls (semB ps.length d m)) :=
  F.ok S (fun vs H Q E h => (semB_imp hN h).1) fun cdv A outer s H vs Q E hr h => ⟨_, hb cdv A outer s H E hr, (semB_imp hN h).2⟩
theorem fnG_all {sem : Fn} (F : FnOk P w K mg base (L2.CX P w) k f fd ps (spG K cls sem)) (b : Binds K fd ps []) : FnG P w K mg base cls k f sem := (FnOk.raw F b .nil).imp fun vs H Q E h => by rw [List.append_nil]; exact h
theorem fnG_dfl {sem : Fn} {dvs : List V} (F : FnOk P w K mg base (L2.CX P w) k f fd ps (spG K cls sem)) (b : ∃ ds, Vals dvs ds ∧ Binds K fd ps ds) (dU : List U) (hd : ∀ (ρ : List Addr) (H : Hp), RUl K ρ H dU dvs) : FnG P w K mg base cls k f (fun l h => sem (l ++ dU) h) := by
  obtain ⟨ds, h1, h2⟩ := b
  exact (FnOk.raw F h2 h1).imp fun vs H Q E ⟨l, h, ρ, rel, ql, p⟩ => ⟨l ++ dU, h, ρ, rel, RUl.append ql (hd ρ H), p⟩
theorem fnG_or {sem1 sem2 : Fn} (c : List U → Bool) (F1 : FnG P w K mg base cls k f sem1) (F2 : FnG P w K mg base cls k f sem2) : FnG P w K mg base cls k f (fun l h => cond (c l) (sem1 l h) (sem2 l h)) := by
  intro A outer s H us vs Q E hr e0 r ⟨l, h, ρ, rel, ql, p⟩
  have p : Post K cls (fun c d _ H' => E c d H') (RU K) ρ [] H Q (cond (c l) (sem1 l h) (sem2 l h)) := p
  cases hc : c l with
  | true => rw [hc] at p; exact F1 A outer s H us vs Q E hr e0 r ⟨l, h, ρ, rel, ql, p⟩
  | false => rw [hc] at p; exact F2 A outer s H us vs Q E hr e0 r ⟨l, h, ρ, rel, ql, p⟩
/-- def f(a, .., *r) -/
def starS (np : Nat) (sem : Fn) : Fn := fun l h => cond (Nat.ble np l.length && Nat.ble l.length 16777216) (sem (l.take np ++ [.tup (l.drop np)]) h) .bad
theorem RUl.dropK {ρ : List Addr} {H : Hp} : ∀ {l : List U} {vs : List V} (n : Nat), RUl K ρ H l vs → RUl K ρ H (l.drop n) (vs.drop n) := fun n q => RUl.drop q
theorem fn_starG {pv : Str} {d : Nat} (F : FunD K x qual params body scope [] kws f fd) (S : FnScope N (ps ++ [pv]) scope) (hN : N.length = (ps ++ [pv]).length + d)
    (hbind : ∀ (kV doc pm : Value) (an : Option Addr) (cdv ct : Value) (us rest : List Value), us.length = ps.length → bindArgs (PySem.W.fnOf x qual params body scope .none kV doc pm an cdv ct) ⟨us ++ rest, []⟩ = (newTuple rest >>= fun t => pure (ps.zip us ++ [(pv, t)])))
    (hb : ∀ (cdv : Value) (A : Around) (outer : List Env) (s : Shared) (H : Hp) (E : XK), Room k (A.deeper (envOfC qual scope s.heap.objs.size f cdv)) → SSs (CxF P w K mg base N qual scope f cdv A outer s H E) cls (fun c d _ H' => E c d H') body m) :
    FnG P w K mg base cls (k + 1) f (starS ps.length (semB (ps ++ [pv]).length d m)) := by
  obtain ⟨oc, od, dV, kV, doc, pm, an, cdv, ct, osl, rfl, lk, hcd, hD, _⟩ := F.ex
  have hD : dV = .none := by
    rcases hD with ⟨_, e⟩ | ⟨e, _⟩
    · exact e
    · exact absurd rfl e
  subst hD
  refine (StX.fn_star (CX := L2.CX P w) (ps := ps) (pv := pv) (sp := fun vs H Q E => spG K cls (semB (ps ++ [pv]).length d m) vs H Q E) lk hcd S StX.cxUp (fun us rest hl => hbind kV doc pm an cdv ct us rest hl) fun A outer s H vs Q E hr h => ⟨_, hb cdv A outer s H E hr, (semB_imp hN h).2⟩).imp fun vs H Q E ⟨l, h, ρ, rel, ql, p⟩ => ?_
  unfold starS at p
  cases hc : (Nat.ble ps.length l.length && Nat.ble l.length 16777216) with
  | false => rw [hc] at p; exact p.elim
  | true =>
    rw [hc, cond_true] at p
    rw [Bool.and_eq_true] at hc
    have h1 := Nat.le_of_ble_eq_true hc.1
    have h2 := Nat.le_of_ble_eq_true hc.2
    refine ⟨vs.take ps.length, vs.drop ps.length, (List.take_append_drop _ _).symm, by rw [List.length_take, ql.length]; omega, by rw [List.length_drop, ql.length, sizeLine_eq]; omega, fun b hb' => ?_⟩
    obtain ⟨r2, s2⟩ := rel.other (o := .tup (vs.drop ps.length)) hb'
    have qt : RUl K ρ (upd H b (.tup (vs.drop ps.length))) [.tup (l.drop ps.length)] [V.ref b] := ⟨V.ref b, [], rfl, ⟨b, _, rfl, upd_same, RUl.mono rel s2 (RUl.drop ql)⟩, rfl⟩
    exact ⟨_, h, ρ, r2, RUl.append (RUl.mono rel s2 (RUl.take ql)) qt, Post.step s2 p⟩
/-- a better meaning -/
theorem fnG_imp {sem sem' : Fn} (F : FnG P w K mg base cls k f sem) (h : ∀ (W : WX) (ρ : List Addr) (l : List U) (hq : Hq) (H : Hp) (Q : VK), Rel K cls ρ hq H → Post K cls W (RU K) ρ [] H Q (sem' l hq) → (∃ vs, RUl K ρ H l vs) → ∃ (l2 : List U) (h2 : Hq) (ρ2 : List Addr), Rel K cls ρ2 h2 H ∧ (∀ vs, RUl K ρ H l vs → RUl K ρ2 H l2 vs) ∧ Post K cls W (RU K) ρ2 [] H Q (sem l2 h2)) : FnG P w K mg base cls k f sem' :=
  FnR.imp F fun vs H Q E ⟨l, hq, ρ, rel, ql, p⟩ => by
    obtain ⟨l2, h2, ρ2, r2, q2, p2⟩ := h _ ρ l hq H Q rel p ⟨vs, ql⟩
    exact ⟨l2, h2, ρ2, r2, q2 vs ql, p2⟩
end
end GG
/-! GPar -/
namespace GG
open PySem PySem.Spec PyProof.Rows L2
section
variable {X : Cx} {cls : Nat → Addr} {W : WX} {pos : Pos}
def mPar2 (i j : Nat) (ma : Eva) : SM := fun us h => (ma us h).toS us fun l h1 => match l with
  | [u, v] => .nx ((us.set i (some u)).set j (some v)) h1
  | _ => .bad
def mPar3 (i j k : Nat) (ma : Eva) : SM := fun us h => (ma us h).toS us fun l h1 => match l with
  | [u, v, w] => .nx (((us.set i (some u)).set j (some v)).set k (some w)) h1
  | _ => .bad
theorem ss_par2 {i j : Nat} {x y : Str} {a b : Expr} {ma : Eva} {px py pt : Pos} {kt k2 pt2} (hc : X.calm = true) (hN : X.N.Nodup) (ha : SA X cls W [a, b] ma) (hi : X.N[i]? = some x := by rfl) (hj : X.N[j]? = some y := by rfl) (hij : i ≠ j := by decide)
    (hx : X.env.scope.names.lookup x = some .local := by rfl) (hy : X.env.scope.names.lookup y = some .local := by rfl)
    (hw : swappedStores [.Tuple [.Name x px, .Name y py] kt pt] (.Tuple [a, b] k2 pt2) X.env = pure (some [x, y]) := by rfl) (hs : swapsWithSole [.Tuple [.Name x px, .Name y py] kt pt] (.Tuple [a, b] k2 pt2) pos.line X.env = pure false := by rfl) :
    SS X cls W (.Assign [.Tuple [.Name x px, .Name y py] kt pt] (.Tuple [a, b] k2 pt2) pos) (mPar2 i j ma) := ps_imp (ps_par hc hN hi hj hij hx hy ha hw hs) fun D σ H ⟨us, h, ρ, at_, p⟩ => by
  refine ⟨us, h, ρ, at_, Post.imp (fun vs H1 q => ?_) (PostS.bind (R := RUl X.K) at_ p)⟩
  obtain ⟨l, h1, ρ1, s1, at1, ql, p1⟩ := q
  split at p1
  · obtain ⟨v, r, rfl, qv, v2, r2, rfl, qv2, qr⟩ := ql
    obtain rfl : r2 = [] := qr
    exact ⟨v, v2, rfl, p1 _ H1 ρ1 Step.refl at1.rel ((at1.sl.set qv).set qv2)⟩
  · exact p1.elim
theorem ss_par3 {i j k : Nat} {x y z : Str} {a b c : Expr} {ma : Eva} {px py pz pt : Pos} {kt k2 pt2} (hc : X.calm = true) (hN : X.N.Nodup) (ha : SA X cls W [a, b, c] ma) (hi : X.N[i]? = some x := by rfl) (hj : X.N[j]? = some y := by rfl) (hl : X.N[k]? = some z := by rfl) (hij : i ≠ j := by decide) (hik : i ≠ k := by decide) (hjk : j ≠ k := by decide)
    (hx : X.env.scope.names.lookup x = some .local := by rfl) (hy : X.env.scope.names.lookup y = some .local := by rfl) (hz : X.env.scope.names.lookup z = some .local := by rfl)
    (hw : swappedStores [.Tuple [.Name x px, .Name y py, .Name z pz] kt pt] (.Tuple [a, b, c] k2 pt2) X.env = pure (some [x, y, z]) := by rfl) (hs : swapsWithSole [.Tuple [.Name x px, .Name y py, .Name z pz] kt pt] (.Tuple [a, b, c] k2 pt2) pos.line X.env = pure false := by rfl) :
    SS X cls W (.Assign [.Tuple [.Name x px, .Name y py, .Name z pz] kt pt] (.Tuple [a, b, c] k2 pt2) pos) (mPar3 i j k ma) := ps_imp (ps_par3 hc hN hi hj hl hij hik hjk hx hy hz ha hw hs) fun D σ H ⟨us, h, ρ, at_, p⟩ => by
  refine ⟨us, h, ρ, at_, Post.imp (fun vs H1 q => ?_) (PostS.bind (R := RUl X.K) at_ p)⟩
  obtain ⟨l, h1, ρ1, s1, at1, ql, p1⟩ := q
  split at p1
  · obtain ⟨v, r, rfl, qv, v2, r2, rfl, qv2, v3, r3, rfl, qv3, qr⟩ := ql
    obtain rfl : r3 = [] := qr
    exact ⟨v, v2, v3, rfl, p1 _ H1 ρ1 Step.refl at1.rel (((at1.sl.set qv).set qv2).set qv3)⟩
  · exact p1.elim
def evDnew : Ev := fun _ h => .ok (.ref h.length) (h ++ [HU.dK []])
theorem se_dnew : SE X cls W (.Dict [] [] pos) evDnew := pe_imp pe_dnewK fun σ H Q ⟨us, h, ρ, at_, p⟩ => fun b hb => by
  obtain ⟨r2, s2, hn⟩ := newDict at_.rel hb
  exact p (.ref b) _ _ s2 r2 ⟨b, hn, rfl⟩
end
end GG
/-! GSpec -/
namespace PySem.W
open PySem PySem.Calls
theorem glen_K {prog : Program} {w : World} {A : Around} {E : Value → Shared → Prop} {s : Shared} {K : Frag} {x C f : Addr} {ox : Obj} {od : Option Obj} {Q : Value → Shared → Prop} (X : K.In s.heap) (I : InstAt s.heap x ox C od)
    (hs : findIn K (.ref C) "__len__" = some (some (.ref f))) (hf : isFn K (.ref f) = true)
    (hcall : wpAny (model prog w) A.in1 (call (.ref f) [.ref x]) (fun r s' => ∃ n u, r = .int n u ∧ 0 ≤ n ∧ n < 2 ^ 63 ∧ Q (.int n s'.toks) { s' with toks := s'.toks + 1 }) E s) : wpAny (model prog w) A (call (.builtin "len") [.ref x]) Q E s := by
  refine Calls.call_function_entry kind_len plain_len entry_len (args_len1 _) ?_
  unfold Builtin.«len»
  refine wpAny_bind (m := oneArg "len" _) (wpAny_pure ?_)
  refine wpAny_bind (m := callSpecial? (.ref x) (Str.ofString "__len__")) (special_fn X I hs (beq_iff_eq.mp hf) (wpAny_mono hcall (fun r s' hr => ?_) fun _ _ y => y))
  obtain ⟨n, u, rfl, h0, h1, hq⟩ := hr
  refine wpAny_bind (wpAny_holding (wpAny_pure ?_))
  refine wpAny_bind (wpAny_letGo ?_)
  show wpAny _ _ (if n < 0 then _ else _) _ _ _
  rw [if_neg (by omega)]
  show wpAny _ _ (if n ≥ 2 ^ 63 then _ else _) _ _ _
  rw [if_neg (by omega)]
  exact wpAny_bind (wpAny_mkInt (wpAny_pure ⟨_, rfl, hq⟩))
end PySem.W
namespace GG
open PySem PySem.Spec PyProof.Rows L2
/-! ### sorted of a list of texts -/
section
variable {X : Cx} {cls : Nat → Addr} {W : WX} {K : PySem.W.Frag}
def strLe (a b : Str) : Bool := !ltCps b.cps.toList a.cps.toList
theorem strLe_iff {a b : Str} : strLe a b = true ↔ a.cps.toList ≤ b.cps.toList := by
  unfold strLe
  rw [ltCps_eq, Bool.not_eq_true', decide_eq_false_iff_not]
  exact Iff.rfl
theorem strLe_anti {a b : Str} (h1 : strLe a b = true) (h2 : strLe b a = true) : a = b := strL_inj (List.le_antisymm (strLe_iff.mp h1) (strLe_iff.mp h2))
theorem strLe_trans {a b c : Str} (h1 : strLe a b = true) (h2 : strLe b c = true) : strLe a c = true := strLe_iff.mpr (List.le_trans (strLe_iff.mp h1) (strLe_iff.mp h2))
theorem strLe_total (a b : Str) : strLe a b = true ∨ strLe b a = true := (List.le_total a.cps.toList b.cps.toList).imp strLe_iff.mpr strLe_iff.mpr
def insS (x : Str) : List Str → List Str
  | [] => [x]
  | y :: r => cond (strLe x y) (x :: y :: r) (y :: insS x r)
def sortS : List Str → List Str
  | [] => []
  | x :: r => insS x (sortS r)
theorem insS_perm (x : Str) : ∀ l, (insS x l).Perm (x :: l)
  | [] => .refl _
  | y :: r => by
    unfold insS
    cases strLe x y with
    | true => exact .refl _
    | false => exact ((insS_perm x r).cons y).trans (.swap x y r)
theorem sortS_perm : ∀ l : List Str, (sortS l).Perm l
  | [] => .refl _
  | x :: r => (insS_perm x _).trans ((sortS_perm r).cons x)
theorem insS_le {x : Str} : ∀ {l : List Str}, l.Pairwise (fun a b => strLe a b = true) → (insS x l).Pairwise (fun a b => strLe a b = true)
  | [], _ => by simp [insS]
  | y :: r, h => by
    unfold insS
    obtain ⟨h1, h2⟩ := List.pairwise_cons.mp h
    cases hb : strLe x y with
    | true => exact List.pairwise_cons.mpr ⟨fun z hz => by
        rcases List.mem_cons.mp hz with e | hz
        · rw [e]; exact hb
        · exact strLe_trans hb (h1 z hz), h⟩
    | false =>
      refine List.pairwise_cons.mpr ⟨fun z hz => ?_, insS_le h2⟩
      rcases List.mem_cons.mp ((insS_perm x r).mem_iff.mp hz) with e | hz
      · rw [e]
        rcases strLe_total x y with q | q
        · rw [q] at hb; cases hb
        · exact q
      · exact h1 z hz
theorem sortS_le : ∀ l : List Str, (sortS l).Pairwise (fun a b => strLe a b = true)
  | [] => .nil
  | x :: r => insS_le (sortS_le r)
theorem risingS_le : ∀ {l : List Str} {p : Str}, risingS p l = true → (p :: l).Pairwise (fun a b => strLe a b = true)
  | [], _, _ => by simp
  | x :: r, p, h => by
    have h : (!ltCps x.cps.toList p.cps.toList && risingS x r) = true := h
    rw [Bool.and_eq_true] at h
    have ih := risingS_le h.2
    refine List.pairwise_cons.mpr ⟨fun z hz => ?_, ih⟩
    have h1 : strLe p x = true := h.1
    rcases List.mem_cons.mp hz with e | hz
    · rw [e]; exact h1
    · exact strLe_trans h1 ((List.pairwise_cons.mp ih).1 z hz)
theorem sortedS_le : ∀ {l : List Str}, sortedS l = true → l.Pairwise (fun a b => strLe a b = true)
  | [], _ => .nil
  | _ :: _, h => risingS_le h
theorem sortedS_uniq {a b : List Str} (ha : sortedS a = true) (h : a.Perm b) : a = sortS b :=
  (h.trans (sortS_perm b).symm).eq_of_pairwise (le := fun a b => strLe a b = true) (fun x y _ _ h1 h2 => strLe_anti h1 h2) (sortedS_le ha) (sortS_le b)
def bSortS : Fn
  | [u], h => match lstU h u with
    | some l => match strsU l with
      | some ns => cond (Nat.blt ns.length 64) (.ok (.ref h.length) (h ++ [HU.lst ((sortS ns).map .str)])) .bad
      | none => .bad
    | none => .bad
  | _, _ => .bad
theorem ru_strsL {ρ : List Addr} {H : Hp} : ∀ (l : List Str), RUl K ρ H (l.map .str) (l.map V.str)
  | [] => rfl
  | x :: l => ⟨V.str x, _, rfl, rfl, ru_strsL l⟩
theorem cal_sortS : Cal X cls W (.builtin "sorted") bSortS := Cal.of cr_sortedS fun W σ ρ h H l vs Q rel ql p => by
  unfold bSortS at p
  split at p
  · rename_i u
    obtain ⟨v, t, rfl, qv, qt⟩ := ql
    obtain rfl : t = [] := qt
    cases e : lstU h u with
    | none => rw [e] at p; exact p.elim
    | some l =>
      simp only [e] at p
      obtain ⟨a, ws, rfl, z1, z2⟩ := lstU_imp rel qv e
      cases e2 : strsU l with
      | none => rw [e2] at p; exact p.elim
      | some ns =>
        simp only [e2] at p
        rw [strsU_imp e2 z2] at z1
        cases hb : Nat.blt ns.length 64 with
        | false => rw [hb] at p; exact p.elim
        | true =>
          rw [hb, cond_true] at p
          refine ⟨a, ns, rfl, z1, Nat.le_of_ble_eq_true hb, fun ys p2 hp hs hn => ?_⟩
          rw [sortedS_uniq hs hp]
          exact post_newL rel (ru_strsL _) p hn
  · exact p.elim
end
/-! ### own ~x, own len -/
section
variable {X : Cx} {cls : Nat → Addr} {W : WX} {K : PySem.W.Frag}
def evOwn1 (c : Nat) (sem : Fn) (me : Ev) : Ev := fun us h => (me us h).bind fun u h1 => match insU h1 u with
  | some (_, c1, _) => cond (Nat.beq c1 c) (sem [u] h1) .bad
  | none => .bad
theorem se_inv {c n : Nat} {f : Addr} {sem : Fn} {e : Expr} {me : Ev} {pos : Pos} (hs : PySem.W.findIn X.K (.ref (cls c)) "__invert__" = some (some (.ref f))) (hf : PySem.W.isFn X.K (.ref f) = true) (F : FnG X.prog X.w X.K X.mg X.base cls n f sem) (hr : Room n X.A) (tk : Takes X W) (he : SE X cls W e me) :
    SE X cls W (.UnaryOp .Invert e pos) (evOwn1 c sem me) := by
  refine ⟨fun pins s σ H Q I ⟨us, h, ρ, at_, p⟩ => ?_⟩
  refine UnaryOp_ (thn (he.run pins s σ H _ I ⟨us, h, ρ, at_, Post.bind (R := RU X.K) at_ p⟩) fun uv s1 ⟨x, H1, I1, r1, u, h1, ρ1, s1', at1, q1, p1⟩ => ?_)
  cases e1 : insU h1 u with
  | none => rw [e1] at p1; exact p1.elim
  | some z =>
    obtain ⟨m, c1, fs⟩ := z
    rw [e1] at p1
    replace p1 : Post X.K cls W (RU X.K) ρ1 σ H1 Q (cond (Nat.beq c1 c) (sem [u] h1) .bad) := p1
    cases hc : Nat.beq c1 c with
    | false => rw [hc] at p1; exact p1.elim
    | true =>
      rw [hc, cond_true] at p1
      obtain rfl : c1 = c := Nat.eq_of_beq_eq_true hc
      obtain ⟨aa, dx, ws, eu, eh, er, rfl, z1, z2⟩ := insU_imp at1.rel q1 e1
      obtain rfl : uv = Value.ref aa := r1
      obtain ⟨mA, J, _⟩ := ins_get I1.hok z1
      obtain ⟨od, J, _⟩ := J.look
      obtain ⟨mm, hF⟩ := I1.fr
      exact PySem.W.ksp_inv hF I1.ok.mod.kin J hs hf (cal_fn F hr tk pins s1 σ H1 [.ref aa] [.ref aa] Q [u] h1 ρ1 I1 (.cons rfl .nil) at1.rel ⟨_, _, rfl, q1, rfl⟩ p1)
def bOwnLen (c : Nat) (sem : Fn) : Fn
  | [u], h => match insU h u with
    | some (_, c1, _) => cond (Nat.beq c1 c) (match sem [u] h with
      | .ok (.int n) h1 => cond (decide (0 ≤ n) && decide (n < 9223372036854775808)) (.ok (.int n) h1) .bad
      | _ => .bad) .bad
    | none => .bad
  | _, _ => .bad
theorem cal_ownlen {c n : Nat} {f : Addr} {sem : Fn} (hs : PySem.W.findIn X.K (.ref (cls c)) "__len__" = some (some (.ref f))) (hf : PySem.W.isFn X.K (.ref f) = true) (F : FnG X.prog X.w X.K X.mg X.base cls n f sem) (hr : Room (n + 1) X.A) :
    Cal X cls W (.builtin "len") (bOwnLen c sem) := fun pins s σ H us vs Q l h ρ I rv rel ql p => by
  unfold bOwnLen at p
  split at p
  · rename_i u
    obtain ⟨v, t, rfl, qv, qt⟩ := ql
    obtain rfl : t = [] := qt
    cases e1 : insU h u with
    | none => rw [e1] at p; exact p.elim
    | some z =>
      obtain ⟨m, c1, fs⟩ := z
      simp only [e1] at p
      cases hc : Nat.beq c1 c with
      | false => rw [hc] at p; exact p.elim
      | true =>
        rw [hc, cond_true] at p
        obtain rfl : c1 = c := Nat.eq_of_beq_eq_true hc
        obtain ⟨aa, dx, ws, eu, eh, er, rfl, z1, z2⟩ := insU_imp rel qv e1
        obtain rfl := Vals.ref1 rv
        obtain ⟨mA, J, _⟩ := ins_get I.hok z1
        obtain ⟨od, J, _⟩ := J.look
        obtain ⟨mm, hF⟩ := I.fr
        have X' := I.ok.mod.kin.keeps hF.keep
        refine PySem.W.glen_K X' J hs hf ?_
        cases e2 : sem [u] h with
        | bad => rw [e2] at p; exact p.elim
        | exc x h1 => rw [e2] at p; exact p.elim
        | ok y h1 =>
          rw [e2] at p
          cases y with
          | int i =>
            have p : Post X.K cls W (RU X.K) ρ σ H Q (cond (decide (0 ≤ i) && decide (i < 9223372036854775808)) (.ok (.int i) h1) .bad) := p
            cases hb : (decide (0 ≤ i) && decide (i < 9223372036854775808)) with
            | false => rw [hb] at p; exact p.elim
            | true =>
              rw [hb, cond_true] at p
              rw [Bool.and_eq_true, decide_eq_true_eq, decide_eq_true_eq] at hb
              have sb : Sub X n X.A.in1 := ⟨⟨hr.hd, by have := hr.dp; show X.A.depth + 3 * n + 5 < _; omega, by have := hr.un; show X.A.units + 1 + 16 * n + 200 < _; omega⟩, rfl⟩
              refine wpAny_mono (call_below F sb (us := [Value.ref aa]) (vs := [V.ref aa]) (l := [u]) I (.cons rfl .nil) rel ⟨_, _, rfl, qv, rfl⟩ (Q := fun v H' => ∃ k, v = V.int k ∧ 0 ≤ k ∧ k < 9223372036854775808 ∧ Q (.int k) H') (by rw [e2]; exact fun v H' ρ' st r q => ⟨i, q, hb.1, hb.2, by rw [show V.int i = v from q.symm]; exact p v H' ρ' st r q⟩)) (fun r s' z => ?_) fun _ _ z => z
              obtain ⟨v, H', I', rz, k, rfl, h0, h1', q⟩ := z
              obtain ⟨t, rfl⟩ := rz
              exact ⟨k, t, rfl, h0, by omega, .int k, H', I'.tok _, ⟨_, rfl⟩, q⟩
          | _ => exact p.elim
  · exact p.elim
end
/-! ### dict(pairs), the keys tuples -/
section
variable {X : Cx} {cls : Nat → Addr} {W : WX} {K : PySem.W.Frag}
def mergeT (kvs more : List (List Key × V)) : List (List Key × V) := more.foldl (fun acc kv => putK acc kv.1 kv.2) kvs
theorem ktMerge {H : Hp} {more : List (List Key × V)} {ps : List (List Key × Addr × Value)} (t : KT H more ps) : ∀ {kvs : List (List Key × V)} {xs : List (List Key × Addr × Value)}, KT H kvs xs → KT H (mergeT kvs more) (storedAllH xs ps) := by
  induction t with
  | nil => intro kvs xs q; exact q
  | @cons a b l1 l2 h t ih =>
    intro kvs xs q
    obtain ⟨e, hb, rv⟩ := h
    show KT H (mergeT (putK kvs a.1 a.2) l1) (storedAllH (storedH xs b.1 b.2.1 b.2.2) l2)
    rw [← e]
    exact ih (q.put a.1 hb rv)
theorem length_mergeT : ∀ (more : List (List Key × V)) (kvs : List (List Key × V)), (mergeT kvs more).length ≤ kvs.length + more.length
  | [], kvs => Nat.le_refl _
  | p :: r, kvs => by
    have h1 := length_mergeT r (putK kvs p.1 p.2)
    have h2 := length_putK kvs p.1 p.2
    rw [List.length_cons]
    show (mergeT (putK kvs p.1 p.2) r).length ≤ _
    omega
abbrev PairT (H : Hp) (p : Addr) (kv : List Key × V) : Prop := ∃ b, H p = some (.tup [V.ref b, kv.2]) ∧ H b = some (.tup (kv.1.map kV))
theorem pairsT_of {pins : List (Addr × Obj)} {σ : L2.St} {H : Hp} {s : Shared} (I : Inv X pins σ H s) : ∀ {ps : List Addr} {kvs : List (List Key × V)}, Paired (PairT H) ps kvs →
    ∃ prs : List (List Key × Addr × Value), KT H kvs prs ∧ prs.length = ps.length ∧ ∀ (j : Nat) (q : List Key × Addr × Value), prs[j]? = some q → ∃ p, ps[j]? = some p ∧ PairAt s.heap p (.ref q.2.1) q.2.2
  | _, _, .nil => ⟨[], .nil, rfl, fun j q e => by simp at e⟩
  | _, _, .cons (a := p) (b := kv) ⟨b, h1, h2⟩ t => by
    obtain ⟨prs, r, hl, hp⟩ := pairsT_of I t
    obtain ⟨its, rv, ht, _⟩ := I.tuple (.inl (.inl h1))
    obtain ⟨u, y, ei, ru, ry⟩ := vals2 rv
    obtain rfl : u = Value.ref b := ru
    subst ei
    refine ⟨(kv.1, b, y) :: prs, .cons ⟨rfl, h2, ry⟩ r, by rw [List.length_cons, List.length_cons, hl], fun j q e => ?_⟩
    cases j with
    | zero =>
      have e' : (kv.1, b, y) = q := Option.some.inj e
      subst e'
      exact ⟨p, rfl, .inl ht⟩
    | succ j =>
      obtain ⟨p', e1, e2⟩ := hp j q (by simpa using e)
      exact ⟨p', by simpa using e1, e2⟩
theorem call_dictPT (hcalm : X.calm = true) (hu : X.A.units + 2 < cLine) : CallR X (.type "dict") (fun xs H Q => ∃ (a : Addr) (ps : List Addr) (kvs : List (List Key × V)), xs = [.ref a] ∧ SqL X.K H a (ps.map V.ref) ∧ Paired (PairT H) ps kvs ∧
    ∀ p, H p = none → Q (.ref p) (upd H p (.dT (mergeT [] kvs)))) := by
  intro pins s σ H xs us Q I r q
  obtain ⟨a, ps, kvs, ex, hq, hp, q⟩ := q
  subst ex
  obtain ⟨u, eu, rx⟩ := vals1 r
  subst eu
  cases rx
  obtain ⟨its, rv, pl, hz⟩ := I.list hq
  have ei := refs_at rv
  subst ei
  rw [List.length_map] at hz
  obtain ⟨prs, rel, hl, hpr⟩ := pairsT_of I hp
  have hkey : ∀ x ∈ prs, (tupleKind (mixKind X.prog X.w)).is s.heap x.1 x.2.1 := by
    have all : ∀ {l : List (List Key × V)} {m : List (List Key × Addr × Value)}, KT H l m → ∀ x ∈ m, (tupleKind (mixKind X.prog X.w)).is s.heap x.1 x.2.1 := by
      intro l m q
      induction q with
      | nil => intro x hx; exact nomatch hx
      | @cons p q ps qs hq t ih =>
        intro x hx
        rcases List.mem_cons.mp hx with e | hx
        · subst e
          exact key_of I.hok (by rw [← hq.1]; exact hq.2.1)
        · exact ih x hx
    exact all rel
  refine call_dict_pairsH (knd := tupleKind (mixKind X.prog X.w)) (ps := prs) (PairArg.list a (ps.map Value.ref).toArray (fun j => ps.getD j 0) (prs.map fun x => (Value.ref x.2.1, x.2.2))) (I.ok.hd hcalm) (tupleKind_room_in1 hu) ⟨pl, ?_, ?_⟩ ⟨?_, ?_⟩ ?_ ?_ fun h' tk hd' k => ?_
  · simp [hl]
  · intro j k v e
    rw [List.getElem?_map, Option.map_eq_some_iff] at e
    obtain ⟨x, e1, e2⟩ := e
    cases e2
    obtain ⟨p, e3, e4⟩ := hpr j x e1
    have eg : (fun j => ps.getD j 0) j = p := by show ps.getD j 0 = p; rw [List.getD_eq_getElem?_getD, e3]; rfl
    rw [eg]
    exact ⟨by simp [e3], e4⟩
  · rw [List.length_map]
  · intro i key v e
    have e : (prs.map fun x => (Value.ref x.2.1, x.2.2))[i]? = some (key, v) := e
    rw [List.getElem?_map, Option.map_eq_some_iff] at e
    obtain ⟨x, e1, e2⟩ := e
    cases e2
    exact ⟨x.1, x.2.1, e1, rfl⟩
  · intro h' hk x hx
    obtain ⟨o, its, n, h1, h2, h3, h4⟩ := hkey x hx
    exact ⟨o, its, n, hk _ _ (Nat.ne_of_lt (Heap.lt_size h1)) (by simp) h1, h2, h3, h4⟩
  · rw [List.length_map, hl]; exact hz
  · have hm : (s.heap.objs.size == sysModules) = false := beq_eq_false_iff_ne.mpr (Nat.ne_of_gt I.big)
    have hlen : (mergeT [] kvs).length ≤ sizeLine := by
      refine Nat.le_trans (length_mergeT kvs []) ?_
      rw [List.length_nil, Nat.zero_add, Paired.length rel, hl]
      exact hz
    have ht : ∀ b ys, H b = some (.tup ys) → upd H s.heap.objs.size (.dT (mergeT [] kvs)) b = some (.tup ys) := fun b ys e => by rw [upd_ne (ne_of_none e (I.hok.fresh (Nat.le_refl _)))]; exact e
    have R := KT.keeps (ktMerge rel .nil) ht
    obtain ⟨o, es, ep, h1, h2, h3, h4, _, h5⟩ := hd'
    exact ⟨.ref s.heap.objs.size, upd H s.heap.objs.size (.dT (mergeT [] kvs)), I.laid (t' := tk) (fun b o e => k b o (by simp) e) (Nat.le_refl _) (show ObjOk X.prog X.w _ _ _ (.dT (mergeT [] kvs)) from ⟨hlen, hm, _, R, o, es, ep, h1, h2, h3, h4, h5⟩), rfl, q _ (I.hok.fresh (Nat.le_refl _))⟩
end
section
variable {X : Cx} {cls : Nat → Addr} {W : WX} {K : PySem.W.Frag}
def keysEq : List Key → List Key → Bool
  | [], [] => true
  | a :: r, b :: t => keyEq a b && keysEq r t
  | _, _ => false
theorem keysEq_eq : ∀ (a b : List Key), keysEq a b = decide (a = b)
  | [], [] => by simp [keysEq]
  | [], _ :: _ => by simp [keysEq]
  | _ :: _, [] => by simp [keysEq]
  | a :: r, b :: t => by
    unfold keysEq
    rw [keyEq_eq, keysEq_eq r t]
    by_cases h1 : a = b <;> by_cases h2 : r = t <;> simp [h1, h2]
def keysU : List U → Option (List Key)
  | [] => some []
  | u :: r => match keyOf u with
    | some k => (keysU r).map (k :: ·)
    | none => none
theorem keysU_imp {ρ : List Addr} {H : Hp} : ∀ {l : List U} {vs : List V} {ks : List Key}, keysU l = some ks → RUl K ρ H l vs → vs = ks.map kV
  | [], vs, ks, e, q => by cases e; exact q
  | u :: l, vs, ks, e, ⟨v, r, ev, qv, q⟩ => by
    unfold keysU at e
    cases e1 : keyOf u with
    | none => rw [e1] at e; cases e
    | some k =>
      rw [e1] at e
      have e : (keysU l).map (k :: ·) = some ks := e
      rw [Option.map_eq_some_iff] at e
      obtain ⟨ms, e2, rfl⟩ := e
      rw [ev, keysU_imp e2 q, keyOf_ru qv e1] <;> rfl
def pairTU : U → Option (List Key × U)
  | .tup [.tup kl, v] => (keysU kl).map fun ks => (ks, v)
  | _ => none
def pairsTU : List U → Option (List (List Key × U))
  | [] => some []
  | u :: r => match pairTU u with
    | some k => (pairsTU r).map (k :: ·)
    | none => none
theorem pairTU_imp {ρ : List Addr} {H : Hp} {u : U} {v : V} {kv : List Key × U} (e : pairTU u = some kv) (q : RU K ρ H u v) : ∃ p y, v = .ref p ∧ PairT H p (kv.1, y) ∧ RU K ρ H kv.2 y := by
  unfold pairTU at e
  split at e
  · rename_i kl w
    rw [Option.map_eq_some_iff] at e
    obtain ⟨ks, e1, rfl⟩ := e
    obtain ⟨a, ws, rfl, h1, x, t, rfl, ⟨b, ws2, rfl, h2, q2⟩, y, t2, rfl, qy, qt⟩ := q
    obtain rfl : t2 = [] := qt
    rw [keysU_imp e1 q2] at h2
    exact ⟨a, y, rfl, ⟨b, h1, h2⟩, qy⟩
  · cases e
theorem pairsTU_imp {ρ : List Addr} {H : Hp} : ∀ {l : List U} {vs : List V} {kvs : List (List Key × U)}, pairsTU l = some kvs → RUl K ρ H l vs → ∃ ps kvs', vs = ps.map V.ref ∧ Paired (PairT H) ps kvs' ∧ RUp K ρ H kvs kvs'
  | [], vs, kvs, e, q => by cases e; exact ⟨[], [], q, .nil, rfl⟩
  | u :: l, vs, kvs, e, ⟨v, r, ev, qv, q⟩ => by
    unfold pairsTU at e
    cases e1 : pairTU u with
    | none => rw [e1] at e; cases e
    | some k =>
      rw [e1] at e
      have e : (pairsTU l).map (k :: ·) = some kvs := e
      rw [Option.map_eq_some_iff] at e
      obtain ⟨ms, e2, rfl⟩ := e
      obtain ⟨p, y, rfl, pt, qy⟩ := pairTU_imp e1 qv
      obtain ⟨ps, kvs', rfl, hp, qk⟩ := pairsTU_imp e2 q
      exact ⟨p :: ps, (k.1, y) :: kvs', ev, .cons pt hp, y, kvs', rfl, qy, qk⟩
def putTU (kvs : List (List Key × U)) (k : List Key) (v : U) : List (List Key × U) := cond (kvs.any fun p => keysEq p.1 k) (kvs.map fun p => (p.1, cond (keysEq p.1 k) v p.2)) (kvs ++ [(k, v)])
def mergeTU : List (List Key × U) → List (List Key × U) → List (List Key × U)
  | kvs, [] => kvs
  | kvs, p :: r => mergeTU (putTU kvs p.1 p.2) r
theorem anyT_imp {ρ : List Addr} {H : Hp} {k : List Key} : ∀ {us : List (List Key × U)} {vs : List (List Key × V)}, RUp K ρ H us vs → (us.any fun p => keysEq p.1 k) = vs.any fun kv => decide (kv.1 = k)
  | [], _, e => by rw [show _ = ([] : List (List Key × V)) from e] <;> rfl
  | (j, u) :: us, _, ⟨v, t, e, q, z⟩ => by
    rw [e, List.any_cons, List.any_cons, anyT_imp z, keysEq_eq]
theorem mapT_imp {ρ : List Addr} {H : Hp} {k : List Key} {u : U} {v : V} (q0 : RU K ρ H u v) : ∀ {us : List (List Key × U)} {vs : List (List Key × V)}, RUp K ρ H us vs → RUp K ρ H (us.map fun p => (p.1, cond (keysEq p.1 k) u p.2)) (vs.map fun kv => if kv.1 = k then (kv.1, v) else kv)
  | [], _, e => by rw [show _ = ([] : List (List Key × V)) from e] <;> rfl
  | (j, w) :: us, _, ⟨x, t, e, q, z⟩ => by
    rw [e, List.map_cons, List.map_cons]
    have ih := mapT_imp (k := k) q0 z
    show RUp K ρ H ((j, cond (keysEq j k) u w) :: _) ((if j = k then (j, v) else (j, x)) :: _)
    rw [keysEq_eq]
    by_cases h : j = k
    · rw [if_pos h, decide_eq_true h]; exact ⟨v, _, rfl, q0, ih⟩
    · rw [if_neg h, decide_eq_false h]; exact ⟨x, _, rfl, q, ih⟩
theorem putT_imp {ρ : List Addr} {H : Hp} {k : List Key} {u : U} {v : V} (q0 : RU K ρ H u v) {us : List (List Key × U)} {vs : List (List Key × V)} (q : RUp K ρ H us vs) : RUp K ρ H (putTU us k u) (putK vs k v) := by
  unfold putTU putK
  rw [anyT_imp q]
  cases h : vs.any fun kv => decide (kv.1 = k) with
  | true => rw [if_pos rfl]; exact mapT_imp q0 q
  | false => rw [if_neg Bool.false_ne_true]; exact RUp.append q ⟨v, [], rfl, q0, rfl⟩
theorem mergeT_imp {ρ : List Addr} {H : Hp} : ∀ {ms : List (List Key × U)} {ms' : List (List Key × V)} {us : List (List Key × U)} {vs : List (List Key × V)}, RUp K ρ H ms ms' → RUp K ρ H us vs → RUp K ρ H (mergeTU us ms) (mergeT vs ms')
  | [], ms', us, vs, e, q => by rw [show ms' = [] from e]; exact q
  | (j, w) :: ms, _, us, vs, ⟨x, t, e, q1, z⟩, q => by
    rw [e]
    exact mergeT_imp (ms := ms) (ms' := t) (us := putTU us j w) (vs := putK vs j x) z (putT_imp q1 q)
def bDictT : Fn
  | [u], h => match lstU h u with
    | some l => match pairsTU l with
      | some kvs => .ok (.ref h.length) (h ++ [HU.dT (mergeTU [] kvs)])
      | none => .bad
    | none => .bad
  | _, _ => .bad
theorem cal_dictT (hcalm : X.calm = true) (hu : X.A.units + 2 < cLine) : Cal X cls W (.type "dict") bDictT := Cal.of (call_dictPT hcalm hu) fun W σ ρ h H l vs Q rel ql p => by
  unfold bDictT at p
  split at p
  · rename_i u
    obtain ⟨v, t, rfl, qv, qt⟩ := ql
    obtain rfl : t = [] := qt
    cases e : lstU h u with
    | none => rw [e] at p; exact p.elim
    | some l =>
      simp only [e] at p
      obtain ⟨a, ws, rfl, z1, z2⟩ := lstU_imp rel qv e
      cases e2 : pairsTU l with
      | none => rw [e2] at p; exact p.elim
      | some kvs =>
        simp only [e2] at p
        obtain ⟨ps, kvs', rfl, hp, qk⟩ := pairsTU_imp e2 z2
        refine ⟨a, ps, kvs', rfl, z1, hp, fun p2 hn => ?_⟩
        obtain ⟨_, s2⟩ := rel.push (u := .dK []) (o := .dK []) hn ⟨[], upd_same, rfl⟩
        have s2' : Step ρ H (ρ ++ [p2]) (upd H p2 (.dT (mergeT [] kvs'))) := ⟨s2.pre, s2.fresh, fun a ob e _ => by rw [upd_ne (ne_of_none e hn)]; exact e, fun a ob u e => by rw [upd_ne (ne_of_none e hn)]; exact e⟩
        obtain ⟨r3, s3⟩ := rel.push (u := .dT (mergeTU [] kvs)) (o := .dT (mergeT [] kvs')) hn ⟨_, upd_same, mergeT_imp (RUp.mono rel s2' qk) rfl⟩
        exact p (.ref p2) _ _ s3 r3 ⟨p2, by rw [← rel.len]; exact get_last _ _, rfl⟩
  · exact p.elim
end
/-! ### tuple(range(a, b)), list(range(..)) -/
section
variable {X : Cx} {cls : Nat → Addr} {W : WX} {K : PySem.W.Frag} {ea eb : Expr} {ma mb : Ev} {p pos p2 pos2 : Pos}
def intsFrom (a : Int) : Nat → List U
  | 0 => []
  | n + 1 => .int a :: intsFrom (a + 1) n
def rgB (a b : Int) : Bool := decide (0 ≤ a) && decide (a ≤ 16777216) && (decide (0 ≤ b) && decide (b ≤ 16777216))
theorem rgB_ok {a b : Int} (h : rgB a b = true) : RgOk a b := by
  unfold rgB at h
  rw [Bool.and_eq_true, Bool.and_eq_true, Bool.and_eq_true, decide_eq_true_eq, decide_eq_true_eq, decide_eq_true_eq, decide_eq_true_eq] at h
  exact RgOk.of_le h.1.1 h.2.2 h.1.2 h.2.1
theorem ru_from {ρ : List Addr} {H : Hp} : ∀ (n : Nat) (a : Int) (o : Nat), RUl K ρ H (intsFrom (a + (o : Nat)) n) ((List.range n).map fun i => V.int (a + ((i + o : Nat) : Nat)))
  | 0, _, _ => rfl
  | n + 1, a, o => by
    rw [List.range_succ_eq_map, List.map_cons, List.map_map]
    refine ⟨V.int (a + (o : Nat)), _, by rw [Nat.zero_add], rfl, ?_⟩
    have z := ru_from (ρ := ρ) (H := H) n a (o + 1)
    rw [show a + ((o : Nat) : Int) + 1 = a + ((o + 1 : Nat) : Int) by omega]
    refine cast ?_ z
    congr 1
    refine List.map_congr_left fun i _ => ?_
    show V.int (a + ((i + (o + 1) : Nat) : Int)) = V.int (a + ((i + 1 + o : Nat) : Int))
    rw [show i + (o + 1) = i + 1 + o by omega]
theorem ru_rg {ρ : List Addr} {H : Hp} (a b : Int) : RUl K ρ H (intsFrom a (b - a).toNat) (rgV a b) := by
  have z := ru_from (K := K) (ρ := ρ) (H := H) (b - a).toNat a 0
  rw [show a + ((0 : Nat) : Int) = a by omega] at z
  exact z
def evRg2 (mk : List U → Hq → Res U) (ma mb : Ev) : Ev := fun us h => (ma us h).bind fun x h1 => (mb us h1).bind fun y h2 => match x, y with
  | .int a, .int b => cond (rgB a b) (mk (intsFrom a (b - a).toNat) h2) .bad
  | _, _ => .bad
def evRg1 (mk : List U → Hq → Res U) (ma : Ev) : Ev := fun us h => (ma us h).bind fun y h2 => match y with
  | .int b => cond (rgB 0 b) (mk (intsFrom 0 (b - 0).toNat) h2) .bad
  | _ => .bad
def mkT (l : List U) (h : Hq) : Res U := .ok (.tup l) h
def mkL (l : List U) (h : Hq) : Res U := .ok (.ref h.length) (h ++ [HU.lst l])
theorem rg2_imp {mk : List U → Hq → Res U} {T : Int → Int → Hp → VK → Prop} {σ : L2.St} {H : Hp} {Q : VK} (hT : ∀ (ρ : List Addr) (h : Hq) (H : Hp) (a b : Int), Rel X.K cls ρ h H → RgOk a b → Post X.K cls W (RU X.K) ρ σ H Q (mk (intsFrom a (b - a).toNat) h) → T a b H Q) (hw : tE X.K cls W (evRg2 mk ma mb) σ H Q) :
    tRg2 (tE X.K cls W ma) (tE X.K cls W mb) σ H fun a b H1 => T a b H1 Q := by
  obtain ⟨us, h, ρ, at_, p⟩ := hw
  refine ⟨us, h, ρ, at_, Post.imp (fun x H1 q => ?_) (Post.bind (R := RU X.K) at_ p)⟩
  obtain ⟨u, h1, ρ1, s1, at1, q1, p1⟩ := q
  refine ⟨us, h1, ρ1, at1, Post.imp (fun y H2 q => ?_) (Post.bind (R := RU X.K) at1 p1)⟩
  obtain ⟨v, h2, ρ2, s2, at2, q2, p2⟩ := q
  split at p2
  · rename_i a b
    cases hb : rgB a b with
    | false => rw [hb] at p2; exact p2.elim
    | true =>
      rw [hb, cond_true] at p2
      exact ⟨a, b, q1, q2, hT ρ2 h2 H2 a b at2.rel (rgB_ok hb) p2⟩
  · exact p2.elim
theorem rg1_imp {mk : List U → Hq → Res U} {T : Int → Int → Hp → VK → Prop} {σ : L2.St} {H : Hp} {Q : VK} (hT : ∀ (ρ : List Addr) (h : Hq) (H : Hp) (a b : Int), Rel X.K cls ρ h H → RgOk a b → Post X.K cls W (RU X.K) ρ σ H Q (mk (intsFrom a (b - a).toNat) h) → T a b H Q) (hw : tE X.K cls W (evRg1 mk ma) σ H Q) :
    tRg1 (tE X.K cls W ma) σ H fun a b H1 => T a b H1 Q := by
  obtain ⟨us, h, ρ, at_, p⟩ := hw
  refine ⟨us, h, ρ, at_, Post.imp (fun x H1 q => ?_) (Post.bind (R := RU X.K) at_ p)⟩
  obtain ⟨u, h1, ρ1, s1, at1, q1, p1⟩ := q
  split at p1
  · rename_i b
    cases hb : rgB 0 b with
    | false => rw [hb] at p1; exact p1.elim
    | true =>
      rw [hb, cond_true] at p1
      exact ⟨b, q1, hT ρ1 h1 H1 0 b at1.rel (rgB_ok hb) p1⟩
  · exact p1.elim
theorem se_tupRg2 (hc : X.calm = true) (hm : X.mg "tuple" = none) (hmr : X.mg "range" = none) (ha : SE X cls W ea ma) (hb : SE X cls W eb mb) (hg : Gl X "tuple" := by rfl) (hgr : Gl X "range" := by rfl)
    (na : starEach [ea, eb] X.env = (false, eval ea X.env) :: starEach [eb] X.env := by rfl) (nb : starEach [eb] X.env = (false, eval eb X.env) :: starEach [] X.env := by rfl) (hp : (backTo pos2 (starEach [eb] X.env)).any (·.1) = false := by rfl)
    (ne : starEach [.Call (.Name "range" p2) [ea, eb] [] pos2] X.env = (false, eval (.Call (.Name "range" p2) [ea, eb] [] pos2) X.env) :: starEach [] X.env := by rfl) :
    SE X cls W (.Call (.Name "tuple" p) [.Call (.Name "range" p2) [ea, eb] [] pos2] [] pos) (evRg2 mkT ma mb) :=
  pe_imp (pe_tupRg hc hg hm (prg_2 hgr hmr ha hb na nb hp) ne) fun σ H Q hw => rg2_imp (T := fun a b H1 Q => RgOk a b ∧ ∀ q, H1 q = none → Q (.ref q) (upd H1 q (.tup (rgV a b)))) (fun ρ h H a b rel ok p => ⟨ok, fun q hq => post_newT rel (ru_rg a b) p hq⟩) hw
theorem se_lstRg2 (hc : X.calm = true) (hm : X.mg "list" = none) (hmr : X.mg "range" = none) (ha : SE X cls W ea ma) (hb : SE X cls W eb mb) (hg : Gl X "list" := by rfl) (hgr : Gl X "range" := by rfl)
    (na : starEach [ea, eb] X.env = (false, eval ea X.env) :: starEach [eb] X.env := by rfl) (nb : starEach [eb] X.env = (false, eval eb X.env) :: starEach [] X.env := by rfl) (hp : (backTo pos2 (starEach [eb] X.env)).any (·.1) = false := by rfl)
    (ne : starEach [.Call (.Name "range" p2) [ea, eb] [] pos2] X.env = (false, eval (.Call (.Name "range" p2) [ea, eb] [] pos2) X.env) :: starEach [] X.env := by rfl) :
    SE X cls W (.Call (.Name "list" p) [.Call (.Name "range" p2) [ea, eb] [] pos2] [] pos) (evRg2 mkL ma mb) :=
  pe_imp (pe_listRg hc hg hm (prg_2 hgr hmr ha hb na nb hp) ne) fun σ H Q hw => rg2_imp (T := fun a b H1 Q => RgOk a b ∧ ∀ q, H1 q = none → Q (.ref q) (upd H1 q (.lst (rgV a b)))) (fun ρ h H a b rel ok p => ⟨ok, fun q hq => post_newL rel (ru_rg a b) p hq⟩) hw
theorem se_lstRg1 (hc : X.calm = true) (hm : X.mg "list" = none) (hmr : X.mg "range" = none) (ha : SE X cls W ea ma) (hg : Gl X "list" := by rfl) (hgr : Gl X "range" := by rfl)
    (na : starEach [ea] X.env = (false, eval ea X.env) :: starEach [] X.env := by rfl)
    (ne : starEach [.Call (.Name "range" p2) [ea] [] pos2] X.env = (false, eval (.Call (.Name "range" p2) [ea] [] pos2) X.env) :: starEach [] X.env := by rfl) :
    SE X cls W (.Call (.Name "list" p) [.Call (.Name "range" p2) [ea] [] pos2] [] pos) (evRg1 mkL ma) :=
  pe_imp (pe_listRg hc hg hm (prg_1 hgr hmr ha na) ne) fun σ H Q hw => rg1_imp (T := fun a b H1 Q => RgOk a b ∧ ∀ q, H1 q = none → Q (.ref q) (upd H1 q (.lst (rgV a b)))) (fun ρ h H a b rel ok p => ⟨ok, fun q hq => post_newL rel (ru_rg a b) p hq⟩) hw
theorem se_tupRg1 (hc : X.calm = true) (hm : X.mg "tuple" = none) (hmr : X.mg "range" = none) (ha : SE X cls W ea ma) (hg : Gl X "tuple" := by rfl) (hgr : Gl X "range" := by rfl)
    (na : starEach [ea] X.env = (false, eval ea X.env) :: starEach [] X.env := by rfl)
    (ne : starEach [.Call (.Name "range" p2) [ea] [] pos2] X.env = (false, eval (.Call (.Name "range" p2) [ea] [] pos2) X.env) :: starEach [] X.env := by rfl) :
    SE X cls W (.Call (.Name "tuple" p) [.Call (.Name "range" p2) [ea] [] pos2] [] pos) (evRg1 mkT ma) :=
  pe_imp (pe_tupRg hc hg hm (prg_1 hgr hmr ha na) ne) fun σ H Q hw => rg1_imp (T := fun a b H1 Q => RgOk a b ∧ ∀ q, H1 q = none → Q (.ref q) (upd H1 q (.tup (rgV a b)))) (fun ρ h H a b rel ok p => ⟨ok, fun q hq => post_newT rel (ru_rg a b) p hq⟩) hw
end
end GG
/-! GIter -/
namespace GG
open PySem PySem.Spec PyProof.Rows L2
/-! ### iter(t), t a tuple -/
theorem tup_next_end {prog : Program} {w : World} {A : Around} {E : Value → Shared → Prop} {s : Shared} {it t : Addr} {i : Nat} {items : Array Value} {Q : Option Value → Shared → Prop} (hh : A.handled = none)
    (hit : IsTupIter s.heap it t i) (ht : IsTup s.heap t items) (hx : items[i]? = none)
    (hQ : ∀ h', (∀ b o, b ≠ it → s.heap.get? b = some o → h'.get? b = some o) → (∃ o, h'.get? it = some o) → Q none { s with heap := h' }) : wpAny (model prog w) A (pyNext (.ref it)) Q E s := by
  obtain ⟨o, ho, hc, hd⟩ := id hit
  obtain ⟨ol, hol, _, nl, hdl⟩ := ht
  unfold pyNext
  refine wpAny_bind (wpAny_attempt (wpAny_callSpecial?_slot (name := Str.ofString "__next__") hit.typeIs slot_tupleiter_next
    (wpAny_call_entry slot_tupleiter_next hit.typeIs entry_tupleiter_next ?_ (args_tupleiter_next _))))
  show wpAny _ _ (field (.ref it) 0 >>= _) _ _ s
  refine wpAny_bind (wpAny_field ho hd (x := .ref t) rfl ?_)
  show wpAny _ _ (if (Value.ref t == Value.none) = true then _ else _) _ _ s
  rw [if_neg (show ¬ ((Value.ref t == Value.none) = true) from Bool.false_ne_true)]
  show wpAny _ _ (field (.ref it) 1 >>= _) _ _ s
  refine wpAny_bind (wpAny_field ho hd (x := .int i 0) rfl ?_)
  show wpAny _ _ (seqItems? (.ref t) >>= _) _ _ s
  refine wpAny_bind (wpAny_seqItems hol hdl ?_)
  simp only [Int.toNat_natCast, hx]
  refine wpAny_bind (wpAny_rule (wpAny_bind (wpAny_setField ho hd (by simp) ?_)))
  show wpAny _ _ (newExc (.type "StopIteration") [] >>= _) _ _ _
  refine wpAny_bind ?_
  simp only [newExc, newTuple]
  refine wpAny_bind (wpAny_newObj_type ?_ (by size_fits))
  refine wpAny_bind (m := firstArgMember _ _) (wpAny_of_eq (a := Value.none) (by first | rfl | (simp only [firstArgMember]; rfl)) ?_)
  refine wpAny_newObj_type ?_ (by size_fits)
  simp only [raiseNew]
  refine wpAny_bind (wpAny_handled ?_)
  first | rw [show A.in1.handled = none from hh] | rw [hh]
  refine wpAny_bind (wpAny_pure (wpAny_throw ?_))
  refine wpAny_bind (wpAny_isInstance (T := "StopIteration") (b := true) ⟨_, Heap.get?_push_size _ rfl, rfl⟩ PySem.isSubtype_stop ?_)
  refine wpAny_pure (hQ _ (((Heap.SameBut.update ..).extBut.push _).push _) ?_)
  exact ⟨_, Heap.get?_push_of_some _ (Heap.get?_push_of_some _ (Heap.get?_update_self _ ho (Obj.isFreed_of_fields (Obj.data_mapFields hd _))))⟩
abbrev tiObj (t : Addr) (i : Nat) : Obj := { cls := .type "tuple_iterator", data := .fields #[.ref t, .int i 0] }
def TiO (t it : Addr) (i : Nat) : HO := .ext fun h => IsTupIter h it t i
def TiE (it : Addr) : HO := .ext fun h => ∃ o, h.get? it = some o
section
variable {X : Cx} {cls : Nat → Addr} {W : WX} {pins : List (Addr × Obj)} {σ : L2.St} {H : Hp} {s : Shared}
theorem tiO_ok {P : Program} {w : World} {H : Hp} {h : Heap} {t it : Addr} {i : Nat} (e : IsTupIter h it t i) : ObjOk P w H h it (TiO t it i) := ⟨e, ⟨_, e.choose_spec.1⟩, fun h1 h2 q k => by
  obtain ⟨o, h1, h2, h3⟩ := q
  exact ⟨o, k _ h1, h2, h3⟩⟩
theorem tiE_ok {P : Program} {w : World} {H : Hp} {h : Heap} {it : Addr} (e : ∃ o, h.get? it = some o) : ObjOk P w H h it (TiE it) := ⟨e, e, fun h1 h2 q k => ⟨_, k _ q.choose_spec⟩⟩
theorem tiO_get {t it : Addr} {i : Nat} (I : Inv X pins σ H s) (e : H it = some (TiO t it i)) : IsTupIter s.heap it t i := (I.hok it _ e).1
theorem call_iterT : CallR X (.builtin "iter") (fun xs H Q => ∃ (t : Addr) (zs : List V), xs = [.ref t] ∧ H t = some (.tup zs) ∧ ∀ it, H it = none → Q (.ref it) (upd H it (TiO t it 0))) := by
  intro pins s σ H xs us Q I r h
  obtain ⟨t, zs, rfl, hq, q⟩ := h
  obtain rfl := Vals.ref1 r
  obtain ⟨its, rv, ht, hz⟩ := I.tuple (.inl (.inl hq))
  refine Calls.call_function_entry (by decide +kernel) (by decide +kernel) PySem.W.kdk_entry_iter (PySem.W.kdk_args_iter _) ?_
  unfold Builtin.«iter»
  refine wpAny_bind (m := someArgs "iter" 1 2 _) (wpAny_of_eq (a := [Value.ref t]) (by first | rfl | kernel_rfl!) ?_)
  show wpAny _ _ (pyIter (.ref t) >>= _) _ _ _
  refine wpAny_bind (iter_tuple ht ?_)
  exact wpAny_pure ⟨_, rfl, .ref s.heap.objs.size, _, I.laid (t' := s.toks) (fun b u e => Heap.get?_push_of_some _ e) (Nat.le_refl _) (tiO_ok ⟨_, Heap.get?_push_size _ rfl, rfl, rfl⟩), rfl, q _ (I.hok.fresh (Nat.le_refl _))⟩
/-- def __iter__(self): return iter(self.f) -/
def spIter (C : Addr) (fld : Str) : Sp := fun vs H Q E => ∃ a dx fs t zs, vs = [V.ref a] ∧ H a = some (.ins C dx fs) ∧ fs.lookup fld = some (V.ref t) ∧ H t = some (.tup zs) ∧ ∀ it, H it = none → Q (.ref it) (upd H it (TiO t it 0))
end
section
variable {P : Program} {w : World} {K : PySem.W.Frag} {mg : Str → Option Value} {base : Heap} {qual x fld : Str} {params : Arguments} {body : List Stmt} {scope : Scope} {f C : Addr} {fd : FuncData} {p p1 p2 p3 p4 : Pos}
theorem fn_iter (D : FunD K "__iter__" qual params body scope [] [] f fd) (S : FnScope [x] [x] scope) (hC : Cls K C) (hN : NoAttr K C fld) (hm : mg "iter" = none) (hb : bootBuiltins "iter" = some (.builtin "iter"))
    (eb : body = [.Return (some (.Call (.Name "iter" p) [.Attribute (.Name x p1) fld p2] [] p3)) p4]) (hg : scope.names.lookup ("iter" : Str) = some .globalImplicit) (hv : scope.names.lookup x = some .local) (hd : (x == ("__debug__" : Str)) = false) (hcd : (x == ("__classdict__" : Str)) = false)
    (hbind : ∀ (kV doc pm : Value) (an : Option Addr) (cdv ct : Value) (us : List Value), us.length = [x].length → bindArgs (PySem.W.fnOf "__iter__" qual params body scope .none kV doc pm an cdv ct) ⟨us, []⟩ = pure ([x].zip us)) :
    FnR P w K mg base (L2.CX P w) 1 f (spIter C fld) := by
  have F : FnOk P w K mg base (L2.CX P w) 1 f fd [x] (spIter C fld) := D.ok (k := 0) S (fun vs H Q E h => by obtain ⟨a, dx, fs, t, zs, rfl, _⟩ := h; rfl) fun cdv A outer s H vs Q E hr h => by
    subst eb
    obtain ⟨a, dx, fs, t, zs, rfl, h1, h2, h3, h4⟩ := h
    refine ⟨_, pss_one (ps_ret (pe_callB call_iterT hg hm hb (pa_cons (pe_fld (pe_var (i := 0) rfl (.inl hv) hd hcd) rfl) pa_nil))), ?_⟩
    exact ⟨V.ref a, rfl, a, C, dx, fs, V.ref t, rfl, h1, hC, hN, h2, t, zs, rfl, h3, h4⟩
  exact (FnOk.raw F (D.bindsN hbind) .nil).imp fun vs H Q E h => by rw [List.append_nil]; exact h
end
/-! ### list(o), o an instance with __iter__ and __len__ -/
theorem upd4 {H : Hp} {it q : Addr} {a b c d : HO} (ne : it ≠ q) : upd (upd (upd (upd H it a) q b) it c) q d = upd (upd H it c) q d := by
  funext x
  unfold upd
  by_cases h1 : x = q
  · rw [if_pos h1, if_pos h1]
  · by_cases h2 : x = it
    · rw [if_neg h1, if_pos h2, if_neg h1, if_pos h2]
    · rw [if_neg h1, if_neg h2, if_neg h1, if_neg h2, if_neg h1, if_neg h2]
section
variable {X : Cx} {cls : Nat → Addr} {W : WX} {pins : List (Addr × Obj)} {σ : L2.St} {s : Shared}
theorem tup_loop {H : Hp} {t it q : Addr} {zs : List V} {A1 : Around} {Rs : Result → Shared → Prop} (hcalm : A1.handled = none) (ne : it ≠ q) (net : t ≠ it) (neq : t ≠ q) (ht : H t = some (.tup zs)) (hz : zs.length ≤ sizeLine) (hdone : ∀ s, Inv X pins σ (upd (upd H it (TiE it)) q (.lst zs)) s → Rs (.ok (.ret .none)) s) :
    ∀ (m i : Nat) (s : Shared), i + m = zs.length → Inv X pins σ (upd (upd H it (TiO t it i)) q (.lst (zs.take i))) s → codeAny (model X.prog X.w) A1 (.builtin "list.extend.loop" ⟨[.ref q, .ref it, .none], []⟩) Rs s := by
  intro m
  induction m with
  | zero =>
    intro i s hi I
    refine codeAny_builtin PySem.F.entry_extend_loop ?_
    rw [Around.under_plainId PySem.F.plain_extend_loop _]
    show wpAny _ A1.in1 (pyNext (.ref it) >>= _) _ _ s
    have e1 : upd (upd H it (TiO t it i)) q (.lst (zs.take i)) it = some (TiO t it i) := by rw [upd_ne ne, upd_same]
    have e2 : upd (upd H it (TiO t it i)) q (.lst (zs.take i)) t = some (.tup zs) := by rw [upd_ne neq, upd_ne net]; exact ht
    obtain ⟨its, rv, hT, _⟩ := I.tuple (.inl (.inl e2))
    refine wpAny_bind (tup_next_end hcalm (tiO_get I e1) hT (by rw [List.getElem?_toArray]; exact rv.none_of (List.getElem?_eq_none (by omega))) fun h' k ho => ?_)
    have I2 := I.write (x := it) (e := it) (o := TiE it) (h' := h') (t' := s.toks) (by rw [e1]; exact True.intro) (.inl rfl) k ho (tiE_ok ho)
    refine wpAny_pure (hdone _ ?_)
    have eH : upd (upd (upd H it (TiO t it i)) q (.lst (zs.take i))) it (TiE it) = upd (upd H it (TiE it)) q (.lst zs) := by
      rw [List.take_of_length_le (by omega)]
      funext x
      unfold upd
      by_cases h1 : x = q
      · have h2 : ¬ x = it := fun e => ne (e ▸ h1)
        rw [if_neg h2, if_pos h1, if_pos h1]
      · by_cases h2 : x = it
        · rw [if_pos h2, if_neg h1, if_pos h2]
        · rw [if_neg h2, if_neg h1, if_neg h2, if_neg h1, if_neg h2]
    rw [← eH]
    exact I2
  | succ m ih =>
    intro i s hi I
    refine codeAny_builtin PySem.F.entry_extend_loop ?_
    rw [Around.under_plainId PySem.F.plain_extend_loop _]
    show wpAny _ A1.in1 (pyNext (.ref it) >>= _) _ _ s
    have e1 : upd (upd H it (TiO t it i)) q (.lst (zs.take i)) it = some (TiO t it i) := by rw [upd_ne ne, upd_same]
    have e2 : upd (upd H it (TiO t it i)) q (.lst (zs.take i)) t = some (.tup zs) := by rw [upd_ne neq, upd_ne net]; exact ht
    obtain ⟨its, rv, hT, _⟩ := I.tuple (.inl (.inl e2))
    have hv : zs[i]? = some zs[i] := List.getElem?_eq_getElem (by omega)
    obtain ⟨u, hu, ru⟩ := rv.get hv
    refine wpAny_bind (next_tuple_item (tiO_get I e1) hT (by rw [List.getElem?_toArray]; exact hu) fun h' hi' sb => ?_)
    have I2 := I.write (x := it) (e := it) (o := TiO t it (i + 1)) (h' := h') (t' := s.toks) (by rw [e1]; exact True.intro) (.inl rfl) (fun b o nb z => (sb.2 b nb).trans z) ⟨_, hi'.choose_spec.1⟩ (tiO_ok hi')
    have e3 : upd (upd (upd H it (TiO t it i)) q (.lst (zs.take i))) it (TiO t it (i + 1)) q = some (.lst (zs.take i)) := by rw [upd_ne ne.symm, upd_same]
    obtain ⟨z, its2, k2, r2, hl2, e4⟩ := I2.lstM e3
    show wpAny _ A1.in1 (updateSeq q (·.push u) >>= _) _ _ _
    have hlen : (zs.take i).length = i := by rw [List.length_take]; omega
    have hl3 : its2.length = i := by rw [← r2.length]; exact hlen
    refine wpAny_bind (wpAny_updateSeq e4 rfl (wpAny_pure ⟨plainId_quiet PySem.F.plain_extend_loop _, ?_⟩) (by rw [List.size_toArray]; omega) (by show (its2.toArray.push u).size ≤ sizeLine + 1; rw [Array.size_push, List.size_toArray]; omega))
    have I3 := I2.lset (its' := its2 ++ [u]) (ys := zs.take i ++ [zs[i]]) (t' := s.toks) e3 e4 (f := (·.push u)) (by simp) (r2.append (.cons ru .nil)) (by rw [List.length_append, List.length_singleton, hlen]; omega)
    rw [upd4 ne] at I3
    rw [show zs.take i ++ [zs[i]] = zs.take (i + 1) from (List.take_succ_eq_append_getElem (by omega)).symm] at I3
    exact ih (i + 1) _ (by omega) I3
theorem Rel.notnone {ρ : List Addr} {h : Hq} {H : Hp} {K : PySem.W.Frag} (r : Rel K cls ρ h H) {a : Addr} (ha : H a = none) : a ∉ ρ := fun hm => by
  obtain ⟨n, hn⟩ := List.mem_iff_getElem?.mp hm
  have hl : n < h.length := by rw [← r.len]; exact (List.getElem?_eq_some_iff.mp hn).1
  have z := r.at_ n _ a (HA.getEq hl) hn
  cases q : h[n] with
  | lst l => rw [q] at z; obtain ⟨vs, z, _⟩ := z; rw [ha] at z; cases z
  | frl l => rw [q] at z; obtain ⟨vs, _, ⟨o, z⟩, _⟩ := z; rw [ha] at z; cases z
  | dK l => rw [q] at z; obtain ⟨vs, z, _⟩ := z; rw [ha] at z; cases z
  | dT l => rw [q] at z; obtain ⟨vs, z, _⟩ := z; rw [ha] at z; cases z
  | fK l => rw [q] at z; obtain ⟨o, vs, z, _⟩ := z; rw [ha] at z; cases z
  | fT l => rw [q] at z; obtain ⟨o, vs, z, _⟩ := z; rw [ha] at z; cases z
  | ins c l => rw [q] at z; obtain ⟨dx, vs, z, _⟩ := z; rw [ha] at z; cases z
theorem Rel.updX {ρ : List Addr} {h : Hq} {H : Hp} {K : PySem.W.Frag} {a : Addr} {φ : Heap → Prop} {o : HO} (r : Rel K cls ρ h H) (ha : a ∉ ρ) (e : H a = some (.ext φ)) : Rel K cls ρ h (upd H a o) := by
  have sq : ∀ b vs, H b = some (.tup vs) → upd H a o b = some (.tup vs) := fun b vs q => by
    rw [upd_ne (fun z => by rw [z, e] at q; cases q)]; exact q
  have fl : ∀ b vs, FL K ρ H b vs → FL K ρ (upd H a o) b vs := fun b vs q => by
    rcases q with ⟨q, n⟩ | q
    · refine .inl ⟨?_, n⟩
      rcases q with q | ⟨ob, q⟩
      · exact .inl (by rw [upd_ne (fun z => by rw [z, e] at q; cases q)]; exact q)
      · exact .inr ⟨ob, by rw [upd_ne (fun z => by rw [z, e] at q; cases q)]; exact q⟩
    · exact .inr q
  refine ⟨r.len, r.nd, fun m ob b e1 e2 => ?_⟩
  have ne : b ≠ a := fun z => ha (by rw [← z]; exact List.mem_of_getElem? e2)
  have z := r.at_ m ob b e1 e2
  have g : ∀ (n : Nat) (a : Addr), ρ[n]? = some a → ρ[n]? = some a := fun _ _ h => h
  cases ob with
  | lst l => obtain ⟨vs, z1, z2⟩ := z; exact ⟨vs, by rw [upd_ne ne]; exact z1, RUl.mono0 g sq fl z2⟩
  | frl l =>
    obtain ⟨vs, z1, ⟨ob, z3⟩, z2⟩ := z
    have z3' : upd H a o b = some (.frz ob (.lst vs)) := by rw [upd_ne ne]; exact z3
    exact ⟨vs, .inl (.inr ⟨ob, z3'⟩), ⟨ob, z3'⟩, RUl.mono0 g sq fl z2⟩
  | dK l => obtain ⟨vs, z1, z2⟩ := z; exact ⟨vs, by rw [upd_ne ne]; exact z1, RUp.mono0 g sq fl z2⟩
  | dT l => obtain ⟨vs, z1, z2⟩ := z; exact ⟨vs, by rw [upd_ne ne]; exact z1, RUp.mono0 g sq fl z2⟩
  | fK l => obtain ⟨ob, vs, z1, z2⟩ := z; exact ⟨ob, vs, by rw [upd_ne ne]; exact z1, RUp.mono0 g sq fl z2⟩
  | fT l => obtain ⟨ob, vs, z1, z2⟩ := z; exact ⟨ob, vs, by rw [upd_ne ne]; exact z1, RUp.mono0 g sq fl z2⟩
  | ins c fs => obtain ⟨dx, vs, z1, z2⟩ := z; exact ⟨dx, vs, by rw [upd_ne ne]; exact z1, RUp.mono0 g sq fl z2⟩
def isNilL : HU → Bool
  | .lst [] => true
  | _ => false
def bOwnList (c : Nat) (sem : Fn) (fld : Str) : Fn
  | [u], h => match insU h u with
    | some (_, c1, fs) => cond (Nat.beq c1 c) (match fs.lookup fld with
      | some (.tup l) => match sem [u] (h ++ [HU.lst []]) with
        | .ok (.int n) h1 => match h1[h.length]? with
          | some (.lst []) => cond (decide (0 ≤ n) && (decide (n ≤ 16777216) && Nat.ble l.length 16777216)) (.ok (.ref h.length) (h1.set h.length (.lst l))) .bad
          | _ => .bad
        | _ => .bad
      | _ => .bad) .bad
    | none => .bad
  | _, _ => .bad
theorem FnR.below {k : Nat} {f : Addr} {sp : Sp} {A : Around} (F : FnR X.prog X.w X.K X.mg X.base (L2.CX X.prog X.w) k f sp) (sb : Sub X k A) {H : Hp} {us : List Value} {vs : List V} {Q : VK} {EE : Value → Shared → Prop}
    (I : Inv X pins σ H s) (rv : Vals vs us) (p : sp vs H Q (fun _ _ _ => False)) : wpAny (model X.prog X.w) A (call (.ref f) us) (EP X pins σ Q) EE s := by
  have e0 : Env0 X.prog X.w X.K X.mg X.base A X.stack s H := by
    have e := I.env0
    exact ⟨by rw [sb.fr]; exact e.frames, e.mod, e.bs, e.bsz, e.funs, e.frf, e.hok, e.bare⟩
  refine wpAny_call (codeAny_mono (F A X.stack s H us vs Q (fun _ _ _ => False) sb.room e0 rv p) fun r s' hq => ?_)
  cases r with
  | error er => exact False.elim (passL (X := X.nox) pins σ H s er s' (I.wish _) hq)
  | ok fl =>
    cases fl with
    | ret u => exact I.after hq
    | next => exact False.elim hq
    | brk => exact False.elim hq
    | cont => exact False.elim hq
theorem cal_ownlist {c n : Nat} {fi fl : Addr} {sem : Fn} {fld : Str} (hcalm : X.calm = true) (hi : PySem.W.findIn X.K (.ref (cls c)) "__iter__" = some (some (.ref fi))) (hiF : PySem.W.isFn X.K (.ref fi) = true) (FI : FnR X.prog X.w X.K X.mg X.base (L2.CX X.prog X.w) 1 fi (spIter (cls c) fld))
    (hs : PySem.W.findIn X.K (.ref (cls c)) "__len__" = some (some (.ref fl))) (hf : PySem.W.isFn X.K (.ref fl) = true) (FL : FnG X.prog X.w X.K X.mg X.base cls n fl sem) (hr : Room (n + 4) X.A) :
    Cal X cls W (.type "list") (bOwnList c sem fld) := fun pins s σ H us vs Q l h ρ I rv rel ql p => by
  unfold bOwnList at p
  split at p
  · rename_i u
    obtain ⟨v, t0, rfl, qv, qt⟩ := ql
    obtain rfl : t0 = [] := qt
    cases e1 : insU h u with
    | none => rw [e1] at p; exact p.elim
    | some z =>
      obtain ⟨m, c1, fs⟩ := z
      simp only [e1] at p
      cases hc : Nat.beq c1 c with
      | false => rw [hc] at p; exact p.elim
      | true =>
        rw [hc, cond_true] at p
        obtain rfl : c1 = c := Nat.eq_of_beq_eq_true hc
        obtain ⟨a, dx, ws, eu, eh, er, rfl, ha, z2⟩ := insU_imp rel qv e1
        obtain rfl := Vals.ref1 rv
        have z3 := RUp.lookup (f := fld) z2
        cases e3 : fs.lookup fld with
        | none => simp only [e3] at p; exact p.elim
        | some w =>
          simp only [e3] at p z3
          obtain ⟨v3, l3, q3⟩ := z3
          cases w with
          | tup l =>
            obtain ⟨t, zs, rfl, ht, qz⟩ := q3
            cases e2 : sem [u] (h ++ [HU.lst []]) with
            | bad => simp only [e2] at p; exact p.elim
            | exc x h1 => simp only [e2] at p; exact p.elim
            | ok y h1 =>
              cases y with
              | int i =>
                simp only [e2] at p
                split at p
                · rename_i eq1
                  cases hb : (decide (0 ≤ i) && (decide (i ≤ 16777216) && Nat.ble l.length 16777216)) with
                  | false => rw [hb] at p; exact p.elim
                  | true =>
                  rw [hb, cond_true] at p
                  rw [Bool.and_eq_true, Bool.and_eq_true, decide_eq_true_eq, decide_eq_true_eq] at hb
                  have sb : Sub X (n + 2) X.A.in1.in1 := Sub.in1 (Sub.in1 (⟨hr, rfl⟩ : Sub X (n + 4) X.A))
                  have sbl : Sub X n X.A.in1.in1.in1 := (Sub.in1 (n := n) (sb.mono (by omega)))
                  refine callType_codes (Q₁ := fun obj s₁ => obj = .ref s.heap.objs.size ∧ s₁ = { s with heap := s.heap.push { cls := .type "list", data := .seq #[] } }) PySem.F.called_list (PySem.F.typeCall_list_1 _) PySem.F.entry_list_init
                    (code_list_new _ ⟨rfl, rfl⟩) fun obj s₁ h₁ => ?_
                  obtain ⟨rfl, rfl⟩ := h₁
                  have hS : (s.heap.push { cls := .type "list", data := .seq #[] }).get? s.heap.objs.size = some { cls := .type "list", data := .seq #[] } := Heap.get?_push_size _ rfl
                  refine ⟨⟨_, hS, rfl⟩, PySem.F.args_list_init_2 _ _, ?_⟩
                  generalize eq0 : s.heap.objs.size = q at *
                  have fr : H q = none := by rw [← eq0]; exact I.hok.fresh (Nat.le_refl _)
                  have I1 : Inv X pins σ (upd H q (.lst [])) { s with heap := s.heap.push { cls := .type "list", data := .seq #[] } } := by rw [← eq0]; exact I.lnew (its := []) (t' := s.toks) .nil (Nat.zero_le _)
                  show wpAny _ _ (do let old ← Builtin.List.listItems (.ref q); Builtin.List.listUpdate (.ref q) (fun _ => #[]); letGo old.toList.reverse; Builtin.List.listExtendWith (.ref q) (.ref a) .none) _ _ _
                  refine wpAny_bind ?_
                  unfold Builtin.List.listItems
                  refine wpAny_bind (wpAny_seqItems hS rfl (wpAny_pure ?_))
                  show wpAny _ _ (updateSeq q (fun _ => #[]) >>= fun _ => letGo (#[] : Array Value).toList.reverse >>= fun _ => Builtin.List.listExtendWith (.ref q) (.ref a) .none) _ _ _
                  refine wpAny_bind (wpAny_updateSeq hS rfl ?_)
                  have I2 := I1.lset (f := fun _ => #[]) (its := []) (its' := []) (ys := []) (t' := s.toks) upd_same hS rfl .nil (Nat.zero_le _)
                  rw [upd_upd] at I2
                  refine wpAny_bind (wpAny_letGo ?_)
                  have ha2 : upd H q (.lst []) a = some (.ins (cls c1) dx ws) := by rw [upd_ne (ne_of_none ha fr)]; exact ha
                  obtain ⟨r2, s2⟩ := rel.push (u := .lst []) (o := .lst []) fr ⟨[], upd_same, rfl⟩
                  have hne : q ≠ a := (ne_of_none ha fr).symm
                  obtain ⟨mA, J, _⟩ := ins_get I2.hok ha2
                  obtain ⟨od, J, _⟩ := J.look
                  obtain ⟨m0, hF⟩ := I2.fr
                  unfold Builtin.List.listExtendWith
                  refine wpAny_bind (J.type.here ?_)
                  have h1e : Builtin.List.listSameRef (.ref q) (.ref a) = false := by simp [Builtin.List.listSameRef, hne]
                  have h2e : (Value.ref (cls c1) == Value.type "list") = false := rfl
                  have h3e : (Value.ref (cls c1) == Value.type "tuple") = false := rfl
                  simp only [h1e, h2e, h3e, Bool.or_false, Bool.false_eq_true, if_false]
                  refine wpAny_bind (PySem.W.owit_iter hF I2.ok.mod.kin J hi hiF ?_)
                  refine wpAny_mono (FnR.below FI (sb.mono (by omega)) (us := [Value.ref a]) (vs := [V.ref a]) (Q := fun v H' => ∃ it, v = .ref it ∧ upd H q (.lst []) it = none ∧ H' = upd (upd H q (.lst [])) it (TiO t it 0)) I2 (.cons rfl .nil)
                    ⟨a, dx, ws, t, zs, rfl, ha2, l3, by rw [upd_ne (ne_of_none ht fr)]; exact ht, fun it hit => ⟨it, rfl, hit, rfl⟩⟩) (fun uv s3 hv => ?_) fun _ _ e => e
                  obtain ⟨v4, H3, I3, rv4, it, rfl, hit, rfl⟩ := hv
                  obtain rfl : uv = Value.ref it := rv4
                  obtain ⟨r3, s3'⟩ := r2.other (o := TiO t it 0) hit
                  have neit : it ≠ q := fun e => by rw [e, upd_same] at hit; cases hit
                  unfold PySem.W.OwitIt
                  refine wpAny_bind (wpAny_typeOf (T := "tuple_iterator") (tiO_get I3 upd_same).typeIs ?_)
                  refine wpAny_of_eq slot_tupleiter_next.lookup ?_
                  have ha3 : upd (upd H q (.lst [])) it (TiO t it 0) a = some (.ins (cls c1) dx ws) := by rw [upd_ne (ne_of_none ha2 hit)]; exact ha2
                  obtain ⟨mA', J', _⟩ := ins_get I3.hok ha3
                  obtain ⟨od', J', _⟩ := J'.look
                  obtain ⟨m1, hF'⟩ := I3.fr
                  have X' := I3.ok.mod.kin.keeps hF'.keep
                  have st2 := s2.trans s3'
                  refine wpAny_bind (wpAny_holding ?_)
                  unfold Builtin.List.listLengthHint
                  refine wpAny_bind (wpAny_bind (J'.type.here ((PySem.W.looks_findIn X' hs).here ?_)))
                  refine PySem.W.KFB.if_not rfl ?_
                  refine PySem.W.KFB.if_so rfl ?_
                  refine wpAny_bind (wpAny_rule ?_)
                  refine wpAny_bind (wpAny_attempt (PySem.W.glen_K X' J' hs hf ?_))
                  have e5 : (ρ ++ [q])[h.length]? = some q := by rw [← rel.len]; exact get_last _ _
                  refine wpAny_mono (FnR.below FL sbl (us := [Value.ref a]) (vs := [V.ref a]) (EE := fun _ _ => False) I3 (.cons rfl .nil) (Q := fun v H' => ∃ k, v = V.int k ∧ 0 ≤ k ∧ k ≤ 16777216 ∧ ∃ ρ4, Step (ρ ++ [q]) (upd (upd H q (.lst [])) it (TiO t it 0)) ρ4 H' ∧ Rel X.K cls ρ4 h1 H')
                    ⟨[u], _, _, r3, ⟨_, _, rfl, RU.mono rel st2 qv, rfl⟩, by rw [e2]; exact fun v H' ρ' st r q => ⟨i, q, hb.1, hb.2.1, ρ', st, r⟩⟩) (fun r s4 z => ?_) fun _ _ z => z.elim
                  obtain ⟨v5, H4, I4, rz, k, rfl, h0, hk, ρ4, st4, r4⟩ := z
                  obtain ⟨tk, rfl⟩ := rz
                  refine ⟨k, tk, rfl, h0, by omega, ?_⟩
                  have nq : q ∉ ρ := Rel.notnone rel fr
                  have nit : it ∉ ρ ++ [q] := Rel.notnone r2 hit
                  have hH0it : H it = none := by rw [upd_ne neit] at hit; exact hit
                  have S4 : Step ρ H ρ4 H4 := s2.trans (s3'.trans st4)
                  have e6 : ρ4[h.length]? = some q := st4.get e5
                  obtain ⟨vs6, hq4, qv6⟩ := r4.at_ _ _ _ eq1 e6
                  have hq4 : H4 q = some (.lst []) := by rw [hq4, show vs6 = [] from qv6]
                  have hit4 : H4 it = some (TiO t it 0) := st4.pres it _ upd_same nit
                  have net : t ≠ it := ne_of_none ht hH0it
                  have neq : t ≠ q := ne_of_none ht fr
                  have ht4 : H4 t = some (.tup zs) := S4.pres t _ ht fun hm => rel.notup hm zs ht
                  have hzl : zs.length ≤ sizeLine := by rw [qz.length, sizeLine_eq]; exact Nat.le_of_ble_eq_true hb.2.2
                  have eH4 : upd (upd H4 it (TiO t it 0)) q (.lst (zs.take 0)) = H4 := by
                    rw [List.take_zero]
                    funext x
                    unfold upd
                    by_cases h1x : x = q
                    · rw [if_pos h1x, h1x, hq4]
                    · by_cases h2x : x = it
                      · rw [if_neg h1x, if_pos h2x, h2x, hit4]
                      · rw [if_neg h1x, if_neg h2x]
                  have nit4 : it ∉ ρ4 := fun hm => by
                    have z := st4.fresh it hm nit
                    rw [upd_same] at z; cases z
                  have hfin : Q (.ref q) (upd (upd H4 it (TiE it)) q (.lst zs)) := by
                    have SF : Step ρ H ρ4 (upd (upd H4 it (TiE it)) q (.lst zs)) := ⟨S4.pre, S4.fresh, fun b o e n => by
                        rw [upd_ne (fun z => by rw [z, fr] at e; cases e), upd_ne (fun z => by rw [z, hH0it] at e; cases e)]; exact S4.pres b o e n, fun b o w e => by
                        rw [upd_ne (fun z => by rw [z, fr] at e; cases e), upd_ne (fun z => by rw [z, hH0it] at e; cases e)]; exact S4.frz b o w e⟩
                    have r5 := Rel.updX (o := TiE it) r4 nit4 hit4
                    have hq5 : upd H4 it (TiE it) q = some (.lst []) := by rw [upd_ne neit.symm]; exact hq4
                    obtain ⟨r6, s6⟩ := r5.put (o := .lst zs) (u := .lst l) e6 (fun ob w e => by rw [hq5] at e; cases e) fun _ => ⟨zs, upd_same, RUl.mono rel SF qz⟩
                    exact p (.ref q) _ ρ4 SF r6 ⟨q, e6, rfl⟩
                  have done : ∀ s, Inv X pins σ (upd (upd H4 it (TiE it)) q (.lst zs)) s → wants (fun r s₂ => r = .none ∧ EP X pins σ Q (.ref q) s₂) X.xe (.ok (.ret .none)) s := fun s I5 => ⟨rfl, .ref q, _, I5, rfl, hfin⟩
                  show wpAny _ _ (if Builtin.List.listTooLong k.toNat = true then _ else _) _ _ _
                  rw [if_neg (by unfold Builtin.List.listTooLong; simp only [decide_eq_true_eq, gt_iff_lt]; rw [sizeLine_eq]; omega)]
                  refine wpAny_pure ?_
                  rw [← eH4] at I4
                  replace I4 := I4.tok (s4.toks + 1)
                  have hh : X.A.in1.handled = none := hr.hd
                  have lq : upd (upd H4 it (TiO t it 0)) q (.lst (zs.take 0)) q = some (.lst []) := by rw [upd_same, List.take_zero]
                  refine wpAny_ite_split (fun _ => ?_) (fun _ => wpAny_pure ⟨plainId_quiet PySem.F.plain_extend_loop _, tup_loop hh neit net neq ht4 hzl done zs.length 0 _ (by omega) I4⟩)
                  refine wpAny_bind (wpAny_rule ?_)
                  refine wpAny_bind ?_
                  show wpAny _ _ (updateSeq q (·.push .none) >>= fun _ => updateSeq q (·.pop)) _ _ _
                  obtain ⟨z, its, kk, r3', hl3, e3'⟩ := I4.lstM lq
                  cases r3'
                  refine wpAny_bind (wpAny_updateSeq e3' rfl ?_)
                  have I5 := I4.lset (f := (·.push Value.none)) (its' := [Value.none]) (ys := [.non]) (t' := s4.toks + 1) lq e3' (by simp) (.cons rfl .nil) (by rw [List.length_singleton, sizeLine_eq]; decide)
                  obtain ⟨z4, its4, k4, r4', hl4, e4⟩ := I5.lstM upd_same
                  obtain ⟨u4, rfl, ru4⟩ := r4'.one
                  refine wpAny_updateSeq e4 rfl ?_ (by show 1 ≤ sizeLine; rw [sizeLine_eq]; decide) (by show 0 ≤ sizeLine + 1; exact Nat.zero_le _)
                  have I6 := I5.lset (f := (·.pop)) (its := [u4]) (its' := []) (ys := []) (t' := s4.toks + 1) upd_same e4 (by rfl) .nil (Nat.zero_le _)
                  rw [upd_upd, upd_upd] at I6
                  refine wpAny_pure ⟨plainId_quiet PySem.F.plain_extend_loop _, tup_loop hh neit net neq ht4 hzl done zs.length 0 _ (by omega) ?_⟩
                  rw [List.take_zero]
                  exact I6
                · exact p.elim
              | _ => simp only [e2] at p; exact p.elim
          | _ => exact p.elim
  · exact p.elim
end
end GG
/-! GKw -/
namespace GG
open PySem PySem.Spec PyProof.Rows L2
/-! ### calls with keywords -/
abbrev SK (X : Cx) (cls : Nat → Addr) (W : WX) (kws : List Keyword) (m : Eva) : Prop := PK X kws (tA X.K cls W m)
section
variable {X : Cx} {cls : Nat → Addr} {W : WX} {pos p apos kpos : Pos} {x m : Str} {e o : Expr} {es : List Expr} {kws : List Keyword} {me mo : Ev} {ma mk : Eva} {sem : Fn} {f C : Addr} {k n : Nat} {nm : Option Str} {fd : FuncData} {ps ks : List Str}
theorem pk_imp {t t' : TA} (h : PK X kws t) (i : ∀ σ H Q, t' σ H Q → t σ H Q) : PK X kws t' := ⟨fun pos pins s σ H Q I q => h.run pos pins s σ H Q I (i _ _ _ q)⟩
theorem sk_nil : SK X cls W [] eaNil := pk_imp pk_nil fun σ H Q ⟨us, h, ρ, a, p⟩ => p.ok (v := []) a.rel rfl
theorem sk_cons (he : SE X cls W e me) (ha : SK X cls W kws mk) : SK X cls W (⟨nm, e, kpos⟩ :: kws) (eaCons me mk) := pk_imp (pk_cons he ha) fun σ H Q ⟨us, h, ρ, at_, p⟩ => by
  refine ⟨us, h, ρ, at_, Post.imp (fun x H1 q => ?_) (Post.bind (R := RU X.K) at_ p)⟩
  obtain ⟨u, h1, ρ1, s1, at1, q1, p1⟩ := q
  refine ⟨us, h1, ρ1, at1, Post.imp (fun y H2 q => ?_) (Post.bind (R := RUl X.K) at1 p1)⟩
  obtain ⟨w, h2, ρ2, s2, at2, q2, p2⟩ := q
  exact p2.ok (v := x :: y) at2.rel ⟨x, y, rfl, RU.mono at1.rel s2 q1, q2⟩
/-- positional defaults, keywords -/
theorem FunD.kbinds1 {K : PySem.W.Frag} {x qual : Str} {params : Arguments} {body : List Stmt} {scope : Scope} {dvs : List V} {kws : List (Str × V)} {f : Addr} {fd : FuncData} {ps : List Str} (F : FunD K x qual params body scope dvs kws f fd) (n : Nat) (ks : List Str) (g : {α : Type} → List α → List α → List α → List α) (hd : dvs ≠ [])
    (hrel : ∀ {vs ds zs : List V} {us its ws : List Value}, Vals vs us → Vals ds its → Vals zs ws → Vals (g vs ds zs) (g us its ws))
    (h : ∀ (T : Addr) (kV doc pm : Value) (an : Option Addr) (cdv ct : Value) (us its ws : List Value), us.length = n → its.length = dvs.length → ws.length = ks.length →
      ∃ k, bindArgs (PySem.W.fnOf x qual params body scope (.ref T) kV doc pm an cdv ct) ⟨us, ks.zip ws⟩ = seqItems? (.ref T) >>= k ∧ k (some its.toArray) = pure (ps.zip (g us its ws))) :
    ∃ its : List Value, KBn K fd ps n ks (fun us ws => g us its ws) (fun vs zs => g vs dvs zs) := by
  obtain ⟨oc, od, dV, kV, doc, pm, an, cdv, ct, osl, rfl, lk, hcd, hD, hK⟩ := F.ex
  rcases hD with ⟨e, _⟩ | ⟨_, T, o, its, m, rfl, lT, oT, rT⟩
  · exact absurd e hd
  · refine ⟨its, ⟨fun s us ws X l1 l2 => ?_, fun r1 r2 => hrel r1 rT r2⟩⟩
    obtain ⟨k, e1, e2⟩ := h T kV doc pm an cdv ct us its ws l1 rT.length.symm l2
    refine BindsTo.of_looks fun M => ?_
    rw [e1]
    exact looks_items X lT oT (.of_pure e2)
theorem FunD.kbindsN {K : PySem.W.Frag} {x qual : Str} {params : Arguments} {body : List Stmt} {scope : Scope} {kws : List (Str × V)} {f : Addr} {fd : FuncData} {ps : List Str} (F : FunD K x qual params body scope [] kws f fd) (n : Nat) (ks : List Str) (g : {α : Type} → List α → List α → List α)
    (hrel : ∀ {vs zs : List V} {us ws : List Value}, Vals vs us → Vals zs ws → Vals (g vs zs) (g us ws))
    (h : ∀ (kV doc pm : Value) (an : Option Addr) (cdv ct : Value) (us ws : List Value), us.length = n → ws.length = ks.length → bindArgs (PySem.W.fnOf x qual params body scope .none kV doc pm an cdv ct) ⟨us, ks.zip ws⟩ = pure (ps.zip (g us ws))) :
    KBn K fd ps n ks (fun us ws => g us ws) (fun vs zs => g vs zs) := by
  obtain ⟨oc, od, dV, kV, doc, pm, an, cdv, ct, osl, rfl, lk, hcd, hD, hK⟩ := F.ex
  rcases hD with ⟨_, rfl⟩ | ⟨e, _⟩
  · exact ⟨fun s us ws X l1 l2 => BindsTo.of_eq (h kV doc pm an cdv ct us ws l1 l2), fun r1 r2 => hrel r1 r2⟩
  · exact absurd rfl e
def nth1 {α : Type} (l : List α) (j : Nat) : List α := (l.drop j).take 1
theorem vals_take : ∀ {vs : List V} {us : List Value} (n : Nat), Vals vs us → Vals (vs.take n) (us.take n)
  | _, _, 0, _ => by rw [List.take_zero, List.take_zero]; exact .nil
  | _, _, n + 1, .nil => .nil
  | _, _, n + 1, .cons a b => .cons a (vals_take n b)
theorem vals_nth {vs : List V} {us : List Value} (j : Nat) (r : Vals vs us) : Vals (nth1 vs j) (nth1 us j) := vals_take 1 (r.drop j)
theorem rul_nth {K : PySem.W.Frag} {ρ : List Addr} {H : Hp} {l : List U} {vs : List V} (j : Nat) (q : RUl K ρ H l vs) : RUl K ρ H (nth1 l j) (nth1 vs j) := RUl.take (RUl.drop q)
variable {g : List Value → List Value → List Value} {gV : List V → List V → List V}
theorem run_spK {pins : List (Addr × Obj)} {σ : L2.St} {H : Hp} {s : Shared} {Q : VK} {us ws : List Value} {vs zs : List V} {l : List U} {h : Hq} {ρ : List Addr} (F : FnOk X.prog X.w X.K X.mg X.base (L2.CX X.prog X.w) k f fd ps (spG X.K cls sem)) (hr : Room k X.A) (hb : KBn X.K fd ps n ks g gV) (tk : Takes X W)
    (I : Inv X pins σ H s) (r : Vals vs us) (rz : Vals zs ws) (l1 : vs.length = n) (l2 : zs.length = ks.length) (rel : Rel X.K cls ρ h H) (ql : RUl X.K ρ H l (gV vs zs)) (p : Post X.K cls W (RU X.K) ρ σ H Q (sem l h)) : wpAny (model X.prog X.w) X.A (call (.ref f) us (ks.zip ws)) (EP X pins σ Q) X.xe s := by
  have r2 := hb.rel r rz
  refine wpAny_call (codeAny_mono (F.run X.A X.stack s H ⟨us, ks.zip ws⟩ (g us ws) (gV vs zs) Q (WE W σ) hr I.env0 (hb.to s us ws I.kIn (r.length.symm.trans l1) (rz.length.symm.trans l2)) r2 ⟨l, h, ρ, rel, ql, p.wish⟩) fun r s' hq => ?_)
  cases r with
  | error e => exact passAt tk σ pins H s e s' I hq
  | ok fl =>
    cases fl with
    | ret u => exact I.after hq
    | next => exact False.elim hq
    | brk => exact False.elim hq
    | cont => exact False.elim hq
def evCallK (sem : Fn) (n m : Nat) (g : List U → List U → List U) (ma mk : Eva) : Ev := fun us h => (ma us h).bind fun l h1 => (mk us h1).bind fun z h2 => cond (Nat.beq l.length n && Nat.beq z.length m) (sem (g l z) h2) .bad
theorem se_callK0 {gU : List U → List U → List U} (F : FnOk X.prog X.w X.K X.mg X.base (L2.CX X.prog X.w) k f fd ps (spG X.K cls sem)) (hr : Room k X.A) (tk : Takes X W) (hk : PySem.W.keepIn X.K (.ref f) = true) (hm : X.mg x = some (.ref f)) (hb : KBn X.K fd ps 0 ks g gV)
    (hU : ∀ (ρ : List Addr) (H : Hp) (z : List U) (zs : List V), z.length = ks.length → RUl X.K ρ H z zs → RUl X.K ρ H (gU [] z) (gV [] zs)) (hkw : SK X cls W kws mk) (hg : Gl X x := by rfl)
    (hall : (backToKw pos (keywordEach kws X.env)).all (·.1.isSome) = true := by rfl) (hks : (backToKw pos (keywordEach kws X.env)).filterMap (·.1) = ks := by rfl) (hdb : (x == ("__debug__" : Str)) = false := by decide)
    (hpl : ((backTo pos (starEach [] X.env)).any (·.1) || (backToKw pos (keywordEach kws X.env)).any (·.1.isNone)) = false := by rfl) :
    SE X cls W (.Call (.Name x p) [] kws pos) (evCallK sem 0 ks.length gU eaNil mk) := by
  refine ⟨fun pins s σ H Q I ⟨us, h, ρ, at_, p⟩ => ?_⟩
  refine wpAny_Call_Name_kw (ld_glob I hg hm ?_ hdb)
  refine PySem.W.callWith_KW0 (h₀ := X.base) I.ok.mod.kin hk hall ?_ hpl
  have p : Post X.K cls W (RU X.K) ρ σ H Q ((mk us h).bind fun z h2 => cond (Nat.beq ([] : List U).length 0 && Nat.beq z.length ks.length) (sem (gU [] z) h2) .bad) := p
  refine thn (hkw.run pos pins s σ H _ I ⟨us, h, ρ, at_, Post.bind (R := RUl X.K) at_ p⟩) fun ws s2 ⟨zs, H2, I2, rz, z, h2, ρ2, st2, at2, q2, p2⟩ => ⟨I2.kIn, ?_⟩
  rw [hks]
  cases hc : (Nat.beq ([] : List U).length 0 && Nat.beq z.length ks.length) with
  | false => rw [hc] at p2; exact p2.elim
  | true =>
    rw [hc, cond_true] at p2
    rw [Bool.and_eq_true] at hc
    have lz := Nat.eq_of_beq_eq_true hc.2
    exact run_spK (us := []) (vs := []) F hr hb tk I2 .nil rz rfl (q2.length.trans lz) at2.rel (hU ρ2 H2 z zs lz q2) p2
theorem se_callK {gU : List U → List U → List U} (F : FnOk X.prog X.w X.K X.mg X.base (L2.CX X.prog X.w) k f fd ps (spG X.K cls sem)) (hr : Room k X.A) (tk : Takes X W) (hk : PySem.W.keepIn X.K (.ref f) = true) (hm : X.mg x = some (.ref f)) (hb : KBn X.K fd ps n ks g gV)
    (hU : ∀ (ρ : List Addr) (H : Hp) (l z : List U) (vs zs : List V), l.length = n → z.length = ks.length → RUl X.K ρ H l vs → RUl X.K ρ H z zs → RUl X.K ρ H (gU l z) (gV vs zs)) (ha : SA X cls W (e :: es) ma) (hkw : SK X cls W kws mk) (hg : Gl X x := by rfl)
    (hall : (backToKw pos (keywordEach kws X.env)).all (·.1.isSome) = true := by rfl) (hks : (backToKw pos (keywordEach kws X.env)).filterMap (·.1) = ks := by rfl) (hdb : (x == ("__debug__" : Str)) = false := by decide)
    (he : starEach (e :: es) X.env = (false, eval e X.env) :: starEach es X.env := by rfl) (hpl : ((backTo pos (starEach (e :: es) X.env)).any (·.1) || (backToKw pos (keywordEach kws X.env)).any (·.1.isNone)) = false := by rfl) :
    SE X cls W (.Call (.Name x p) (e :: es) kws pos) (evCallK sem n ks.length gU ma mk) := by
  refine ⟨fun pins s σ H Q I ⟨us, h, ρ, at_, p⟩ => ?_⟩
  refine wpAny_Call_Name_kw (ld_glob I hg hm ?_ hdb)
  refine PySem.W.callWith_KW (h₀ := X.base) I.ok.mod.kin hk hall (thn (ha.run pos pins s σ H _ I ⟨us, h, ρ, at_, Post.bind (R := RUl X.K) at_ p⟩) fun uv s1 ⟨vs, H1, I1, r, l, h1, ρ1, st1, at1, q1, p1⟩ => ?_) hpl he
  refine thn (hkw.run pos pins s1 σ H1 _ I1 ⟨us, h1, ρ1, at1, Post.bind (R := RUl X.K) at1 p1⟩) fun ws s2 ⟨zs, H2, I2, rz, z, h2, ρ2, st2, at2, q2, p2⟩ => ⟨I2.kIn, ?_⟩
  rw [hks]
  cases hc : (Nat.beq l.length n && Nat.beq z.length ks.length) with
  | false => rw [hc] at p2; exact p2.elim
  | true =>
    rw [hc, cond_true] at p2
    rw [Bool.and_eq_true] at hc
    have ll := Nat.eq_of_beq_eq_true hc.1
    have lz := Nat.eq_of_beq_eq_true hc.2
    exact run_spK F hr hb tk I2 r rz (q1.length.trans ll) (q2.length.trans lz) at2.rel (hU ρ2 H2 l z vs zs ll lz (RUl.mono at1.rel st2 q1) q2) p2
end
end GG
/-! GSup -/
namespace GG
open PySem PySem.Spec PyProof.Rows L2 NdefX
/-! ### a def whose first statement says super().m(..) -/
structure SupD (P : Program) (K : PySem.W.Frag) (F : NF) (f cc D : Addr) : Prop where
  lk : ∃ oc od doc pm ct osl, K.lookup f = some ⟨oc, od, .func (F.fd doc pm ct), osl⟩
  code : PySem.W.codeIn K (.ref F.c) F.qual = true
  file : ∃ (vs : Array Value) (ccl : Value) (cdd : Option Addr) (ccs : Array (Option Value)) (file : Str) (tf : Tok), K.lookup F.c = some ⟨ccl, cdd, .fields vs, ccs⟩ ∧ vs[2]? = some (.str file tf) ∧ ((P.main.file : Str) == file) = true
  cell : ∃ (cl : Value) (cld : Option Addr) (csl : Array (Option Value)), K.lookup cc = some ⟨cl, cld, .cell (some (.ref D)), csl⟩
  cl : F.cl = [(("__class__" : Str), cc)]
  cls : ∃ cd, PySem.W.clsIn K D = some cd
  top : (P.main.scope.names.lookup ("super" : Str)).isSome = false
  opq : PySem.W.nsIn K cStatics "thirdparty.any" = some none
/-- where super() leads from an instance of the class at C -/
structure SupM (K : PySem.W.Frag) (C D g : Addr) (m : Str) : Prop where
  sub : PySem.W.mroIn K C (.ref D) = some true
  at_ : PySem.W.ks_superIn K C D m = some (some (.ref g))
  ty : PySem.W.typeIn K (.ref g) = some (.type "function")
  fi : PySem.W.fnIn K g = true
def supSem (cs : List Nat) (np d : Nat) (D : Addr) (ma : Eva) (semI : Fn) (mr : SM) : Fn := fun l h => cond (Nat.beq l.length np) (match l with
  | [] => .bad
  | u :: _ => match insU h u with
    | none => .bad
    | some (_, c, _) => cond (cs.any (Nat.beq c)) ((ma (l.map some ++ some (.adr D) :: List.replicate d none) h).bind fun args h1 => (semI (u :: args) h1).bind fun _ h2 => endS (mr (l.map some ++ some (.adr D) :: List.replicate d none) h2)) .bad) .bad
section
variable {P : Program} {w : World} {K : PySem.W.Frag} {mg : Str → Option Value} {base : Heap} {cls : Nat → Addr} {F : NF} {f g cc D : Addr} {N ps : List Str} {k d : Nat} {ma : Eva} {mr : SM} {semI : Fn} {cs : List Nat} {m : Str} {e : Expr} {es : List Expr} {rest : List Stmt} {p0 p1 p2 p3 p4 : Pos} {ar : Arg}
abbrev CxS (P : Program) (w : World) (K : PySem.W.Frag) (mg : Str → Option Value) (base : Heap) (N : List Str) (F : NF) (f : Addr) (A : Around) (outer : List Env) (s : Shared) (H : Hp) (E : XK) : Cx := ncx (L2.CX P w) P w K mg base N F f A outer s H E
theorem Post.sig {α β : Type} {R : RelT α β} {E : XK} {ρ : List Addr} {σ σ' : L2.St} {H : Hp} {Q : β → Hp → Prop} : ∀ {r : Res α}, Post K cls (fun c d _ H' => E c d H') R ρ σ H Q r → Post K cls (fun c d _ H' => E c d H') R ρ σ' H Q r
  | .ok _ _, p => p
  | .exc _ _, p => p
  | .bad, p => p
theorem rs_startS {ρ : List Addr} {H : Hp} {l : List U} {vs : List V} (q : RUl K ρ H l vs) (hN : N.length - vs.length - 1 = d) : RS K ρ H (l.map some ++ some (.adr D) :: List.replicate d none) (startF N vs [some (V.ref D)]) := by
  unfold startF
  rw [show ([some (V.ref D)] : List (Option V)).length = 1 from rfl, hN]
  refine ⟨by simp [q.length], fun i u e => ?_⟩
  by_cases hi : i < l.length
  · rw [List.getElem?_append_left (by simpa using hi), List.getElem?_map] at e
    have z := q.get (i := i)
    rw [List.getElem?_eq_getElem hi] at z e
    cases e
    obtain ⟨v, e1, e2⟩ := z
    have hv : i < vs.length := by rw [q.length]; exact hi
    exact ⟨v, by rw [List.getElem?_append_left (by simpa using hv), List.getElem?_map, e1] <;> rfl, e2⟩
  · rw [List.getElem?_append_right (by simpa using Nat.le_of_not_lt hi)] at e
    rw [List.getElem?_append_right (by simp [q.length]; omega)]
    rw [List.length_map] at e
    rw [List.length_map, q.length]
    cases hj : i - l.length with
    | zero =>
      rw [hj] at e
      obtain rfl : U.adr D = u := by simpa using e
      exact ⟨.ref D, rfl, rfl⟩
    | succ j =>
      rw [hj, List.getElem?_cons_succ, List.getElem?_replicate] at e
      split at e <;> cases e
theorem fn_supG (S : NScope N ps ["__class__"] F.scope) (hN : N.length = ps.length + 1 + d) (dd : SupD P K F f cc D)
    (hbody : F.body = .Expr (.Call (.Attribute (.Call (.Name "super" p0) [] [] p1) m p2) (e :: es) [] p3) p4 :: rest)
    (hp : (F.params.posonlyargs ++ F.params.args).head? = some ar) (har : ps.head? = some ar.arg)
    (hb : ∀ (doc pm ctv : Value) (us : List Value), us.length = ps.length → bindArgs (F.fd doc pm ctv) ⟨us, []⟩ = pure (ps.zip us))
    (hsup : ∀ c ∈ cs, SupM K (cls c) D g m) (hg : FnG P w K mg base cls k g semI) (hks : F.scope.names.lookup ("super" : Str) = some .globalImplicit) (hm0 : mg "super" = none)
    (hargs : ∀ (A : Around) (outer : List Env) (s : Shared) (H : Hp) (E : XK), Room k (A.deeper (envF F f s.heap.objs.size)) → SA (CxS P w K mg base N F f A outer s H E) cls (fun c d _ H' => E c d H') (e :: es) ma)
    (hrest : ∀ (A : Around) (outer : List Env) (s : Shared) (H : Hp) (E : XK), Room k (A.deeper (envF F f s.heap.objs.size)) → SSs (CxS P w K mg base N F f A outer s H E) cls (fun c d _ H' => E c d H') rest mr)
    {pl : Env → Sem Bool} (hmc : (m == ("__class__" : Str)) = false := by decide)
    (he : ∀ env, starEach (e :: es) env = (false, eval e env) :: starEach es env := by exact fun _ => rfl) (hpl : ∀ env, (backTo p3 (starEach es env)).any (·.1) = false := by exact fun _ => rfl)
    (hev : ∀ env, eval (.Call (.Attribute (.Call (.Name "super" p0) [] [] p1) m p2) (e :: es) [] p3) env = (do
      let ov ← attributeBase (.Call (.Name "super" p0) [] [] p1) m env (eval (.Call (.Name "super" p0) [] [] p1) env)
      standAt p2.atName
      let (f, first) ← holding [ov] (getMethod ov m (pl env))
      callWith p3 f first (backTo p3 (starEach (e :: es) env)) []) := by exact fun _ => rfl)
    (hi : ∀ L, interactive (envF F f L) = false := by exact fun _ => rfl) (hsw : ∀ L, swapsWith (.Call (.Attribute (.Call (.Name "super" p0) [] [] p1) m p2) (e :: es) [] p3) none p4.line (envF F f L) = pure false := by exact fun _ => rfl) :
    FnG P w K mg base cls (k + 1) f (supSem cs ps.length d D ma semI mr) := by
  intro A outer s H us vs Q E hr e0 r ⟨l, h, ρ, rel, ql, p⟩
  unfold supSem at p
  cases hbq : Nat.beq l.length ps.length with
  | false => rw [hbq] at p; exact p.elim
  | true =>
  rw [hbq, cond_true] at p
  have hl : vs.length = ps.length := by rw [ql.length]; exact Nat.eq_of_beq_eq_true hbq
  cases l with
  | nil => exact p.elim
  | cons u0 l' =>
  obtain ⟨x0, vs', hvs, q0, ql'⟩ := id ql
  simp only at p
  cases hin : insU h u0 with
  | none => rw [hin] at p; exact p.elim
  | some t =>
  obtain ⟨n0, c0, fs0⟩ := t
  rw [hin] at p
  simp only at p
  cases hcs : cs.any (Nat.beq c0) with
  | false => rw [hcs] at p; exact p.elim
  | true =>
  rw [hcs, cond_true] at p
  obtain ⟨a, dx, ws, rfl, _, _, rfl, hia, _⟩ := insU_imp rel q0 hin
  have hc0 : c0 ∈ cs := by
    obtain ⟨c1, h1, h2⟩ := List.any_eq_true.mp hcs
    rw [Nat.eq_of_beq_eq_true h2]; exact h1
  have SM0 := hsup c0 hc0
  have KX : K.In s.heap := e0.mod.kin.keeps fun b o e => (e0.bs b o e).1
  have lim : s.heap.NoLimit := e0.mod.nolimit.keeps fun b o e => (e0.bs b o e).1
  obtain ⟨oc, od, doc, pm, ct, osl, lk⟩ := dd.lk
  obtain ⟨cl, cld, csl, hcell⟩ := dd.cell
  obtain ⟨fvs, ccl, cdd, ccs, file, tf, hcode, hvs2, hfile⟩ := dd.file
  obtain ⟨cdD, hcdD⟩ := dd.cls
  have C : CellsAt F.cl ["__class__"] [some (V.ref D)] s.heap H := by
    rw [dd.cl]
    have hy : ∀ y c, ([(("__class__" : Str), cc)] : List (Str × Addr)).lookup y = some c → y = "__class__" ∧ c = cc := fun y c hy => by
      have := PySem.mem_of_lookup hy
      rw [List.mem_singleton] at this
      cases this
      exact ⟨rfl, rfl⟩
    refine ⟨rfl, fun y c hc => ?_, fun x y c h1 h2 => by rw [(hy x c h1).1, (hy y c h2).1], fun i y hi => ?_⟩
    · obtain ⟨_, rfl⟩ := hy y c hc
      exact ⟨(e0.bs _ _ (e0.mod.kin _ _ hcell)).2, _, _, KX _ _ hcell, rfl⟩
    · cases i with
      | zero =>
        obtain rfl : ("__class__" : Str) = y := by simpa using hi
        refine ⟨cc, by rfl, fun v hv => ?_⟩
        obtain rfl : V.ref D = v := by simpa using hv
        exact ⟨.ref D, rfl, _, KX _ _ hcell, rfl⟩
      | succ i => simp at hi
  refine ks_codeAny_call_defAt (fd := F.fd doc pm ct) (body := F.body) (binds := ps.zip us) hr.depth (KX _ _ lk) rfl lim (PySem.W.codeRec_of KX dd.code) rfl (BindsTo.of_eq (hb doc pm ct us (by rw [← r.length]; exact hl))) S.nocell (fun ⟨n, _⟩ hy => S.par n (List.of_mem_zip hy).1) (fun h₁ hns kp => ?_) S.co S.gen S.kind
  have I : Inv (CxS P w K mg base N F f A outer s H E) [] (startF N vs [some (V.ref D)]) H { s with heap := h₁, toks := s.toks + (ps.zip us).length } := inv_startN S hr.hd e0 hl r C hns kp
  have hrd : Room k (A.deeper (envF F f s.heap.objs.size)) := hr.deeper _
  have tk : Takes (CxS P w K mg base N F f A outer s H E) (fun c d _ H' => E c d H') := takes_of rfl rfl rfl rfl
  have fin : ∀ {σ' : L2.St} {H' : Hp} {v : V} {u : Value} {s' : Shared}, Inv (CxS P w K mg base N F f A outer s H E) [] σ' H' s' → L2.RelV v u → Q v H' → CE outer P w H s Q u s' :=
    fun {σ' H' v u s'} J rv q => ⟨v, H', J.os, J.bare, J.base, J.hok, rv, q⟩
  have hat : At K cls ρ ((U.ref n0 :: l').map some ++ some (.adr D) :: List.replicate d none) h (startF N vs [some (V.ref D)]) H := ⟨rel, rs_startS ql (by rw [hN, hl]; omega)⟩
  show PySem.wpAt (model P w) (A.deeper (envF F f s.heap.objs.size)) (.func F.body (envF F f s.heap.objs.size)) (execs F.body (envF F f s.heap.objs.size)) _ (CxS P w K mg base N F f A outer s H E).xe _
  generalize hbe : F.body = bd
  rw [hbe] at hbody
  subst hbody
  refine ks_wpAt_execs_cons (ks_wpAt_Expr_any (ks_wpAt_MethodCall (pl := pl _) ?_ (hev _)) (hi _) (hsw _))
  have XK : K.In h₁ := KX.keeps kp
  refine ks_wpAt_super_base (env := envF F f s.heap.objs.size) (fd := F.fd doc pm ct) (cc := F.c) (f := f) hks (S.frk _ (by simp)) hmc rfl (XK _ _ lk) rfl hp rfl (XK _ _ hcode) rfl hvs2 hfile dd.top ?_
  obtain ⟨mb, hb1, hb2⟩ := I.mod.blt
  refine PySem.W.ks_loadName_global S.kind hks (Calls.loadGlobal_builtin (env := envF F f s.heap.objs.size) (I.mod.glob.keeps I.bk) hm0 (hb1.keeps I.bk) ((hb2 "super" (by decide)).trans (by decide +kernel)) ⟨rfl, ?_⟩)
  refine wpAny_loadName_free (c := cc) (v := .ref D) S.kind (S.frk _ (by simp)) (by show F.cl.lookup _ = _; rw [dd.cl]; rfl) ⟨_, XK _ _ hcell, rfl⟩ ?_
  subst hvs
  obtain ⟨u1, hu1, ru1⟩ := r.get (i := 0) (x := V.ref a) rfl
  obtain rfl : u1 = Value.ref a := ru1
  have ndP : ps.Nodup := by
    have q := S.nd.sublist (List.take_sublist (ps.length + 1) N)
    rw [show ps.length + 1 = ps.length + ([("__class__" : Str)]).length from rfl, S.pre] at q
    exact (List.nodup_append.mp q).1
  have hp0 : ps[0]? = some ar.arg := by rw [← har, List.head?_eq_getElem?]
  refine wpAny_loadName_local S.kind (S.par _ (List.mem_of_getElem? hp0)) hns (zip_look ndP hp0 hu1) ?_
  obtain ⟨oD, hD1, hD2⟩ : ∃ oD, h₁.get? D = some oD ∧ oD.data = .cls cdD := by
    unfold PySem.W.clsIn at hcdD
    split at hcdD
    · rename_i c d cd' sl ho
      cases hcdD
      exact ⟨_, XK _ _ ho, rfl⟩
    · cases hcdD
  obtain ⟨mA, O, _, _, _, _⟩ := ins_get I.hok hia
  have hobj := O.obj
  refine ks_wpAny_isType_cls hD1 hD2 ⟨rfl, ?_⟩
  refine ks_wpAny_call_super (oD := oD) (cdD := cdD) (ox := PySem.W.instObj (cls c0) dx) (C := cls c0) hD1 hD2 hobj rfl (fun c z => nomatch z) (PySem.W.looks_mroIn XK SM0.sub) (fun h' eso kk => ?_)
  have I1 := ClX.pin_new (t' := s.toks + (ps.zip us).length) I kk (Nat.le_refl _) eso (fun v z => nomatch z)
  have XK' : K.In h' := XK.keeps kk
  have hm := SM0.at_
  cases hcd0 : PySem.W.clsIn K (cls c0) with
  | none => unfold PySem.W.ks_superIn at hm; rw [hcd0] at hm; cases hm
  | some cd0 =>
  unfold PySem.W.ks_superIn at hm
  rw [hcd0] at hm
  obtain ⟨of, hof, hofc⟩ : ∃ of, h'.get? g = some of ∧ of.cls = .type "function" := by
    have ht' : (K.lookup g).map (·.cls) = some (.type "function") := SM0.ty
    cases z : K.lookup g with
    | none => rw [z] at ht'; cases ht'
    | some of => rw [z] at ht'; exact ⟨of, XK' _ _ z, Option.some.inj ht'⟩
  have hxC : a ≠ cls c0 := by
    intro hz
    unfold PySem.W.clsIn at hcd0
    split at hcd0
    · rename_i c d cd' sl ho
      have z := XK _ _ ho
      rw [← hz, hobj] at z
      cases z
    · cases hcd0
  refine ks_wpAny_getMethod_super (f := g) (of := of) eso (PySem.W.looks_opaque XK' dd.opq) (l₀ := cd0.mro) ?_ rfl XK' hm hof hofc hxC hmc ?_
  · exact fun A Q E s k q => wpAny_bind ((PySem.W.looks_clsIn XK' hcd0) A _ E s k (wpAny_pure q))
  have I2 := ClX.met_new (g := g) (C := a) I1
  have p' := Post.sig (σ' := startF N (.ref a :: vs') [some (V.ref D)]) p
  refine ClX.callwith_cm I2 (ClX.base_none I1 (Nat.le_refl _)) SM0.fi (thn ((hargs A outer s H E hrd).run p3 _ _ _ H _ I2 ⟨_, h, ρ, hat, Post.bind (R := RUl K) hat p'⟩) fun uv s3 ⟨vs2, H2, I3, rv, l2, h2, ρ2, s2', at2, ql2, p2⟩ => ⟨⟨ClX.pin_at I3, I3.kIn⟩, ?_⟩) (he _) (hpl _)
  have at20 : At K cls ρ2 ([] : Sl) h2 ([] : L2.St) H2 := ⟨at2.rel, rfl, fun i u e => by simp at e⟩
  have p20 := Post.sig (σ' := ([] : L2.St)) p2
  refine thn (ClX.run_cm hg hrd (passes_call tk fun _ _ _ _ h => h) I3 rv ⟨U.ref n0 :: l2, h2, ρ2, at2.rel, ⟨_, _, rfl, RU.mono rel s2' q0, ql2⟩, Post.bind (R := RU K) at20 p20⟩) fun v4 s4 h4 => ?_
  obtain ⟨y, H3, I4, ry, u3, h3, ρ3, s3', at3, _, p3'⟩ := h4
  refine PySem.wpAt_of_wpAny (wpAny_mono ((hrest A outer s H E hrd).run [] s4 _ H3 _ (ClX.unpin I4) ⟨_, h3, ρ3, ⟨at3.rel, hat.sl.mono rel (s2'.trans s3')⟩, endS_post p3'⟩) (fun fl s' hs => ?_) fun e s' hs => hs)
  cases fl with
  | ret u =>
    obtain ⟨v, σ', H', J, rv, q⟩ := hs
    exact fin J rv q
  | next =>
    obtain ⟨σ', H', J, q⟩ := hs
    exact fin (v := V.non) (u := Value.none) J rfl q
  | brk =>
    obtain ⟨_, _, _, q⟩ := hs
    exact False.elim q
  | cont =>
    obtain ⟨_, _, _, q⟩ := hs
    exact False.elim q
theorem FnG.up {i j : Nat} {f : Addr} {sem : Fn} (F : FnG P w K mg base cls i f sem) (h : i ≤ j) : FnG P w K mg base cls j f sem := fun A outer s H us vs Q E hr => F A outer s H us vs Q E (hr.mono h)
end
end GG
/-! GIsi -/
namespace GG
open PySem PySem.Spec PyProof.Rows L2
/-! ### isinstance by a table: built-in types by numbers, the program's classes by their places -/
def tyc (s : String) : Nat := cond (decide (s = "int")) 1 (cond (decide (s = "bool")) 2 (cond (decide (s = "str")) 3 (cond (decide (s = "list")) 4 (cond (decide (s = "tuple")) 5 (cond (decide (s = "dict")) 6 (cond (decide (s = "NoneType")) 7 0))))))
theorem tyc_mem {s : String} (h : Nat.beq (tyc s) 0 = false) : s ∈ tyN := by
  unfold tyc at h
  unfold tyN
  by_cases h1 : s = "int"; · simp [h1]
  by_cases h2 : s = "bool"; · simp [h2]
  by_cases h3 : s = "str"; · simp [h3]
  by_cases h4 : s = "list"; · simp [h4]
  by_cases h5 : s = "tuple"; · simp [h5]
  by_cases h6 : s = "dict"; · simp [h6]
  by_cases h7 : s = "NoneType"; · simp [h7]
  rw [decide_eq_false h1, decide_eq_false h2, decide_eq_false h3, decide_eq_false h4, decide_eq_false h5, decide_eq_false h6, decide_eq_false h7] at h
  cases h
def tyB (m n : String) : Bool := Nat.beq (tyc m) (tyc n) || (Nat.beq (tyc m) 2 && Nat.beq (tyc n) 1)
theorem tyB_ok : (tyN.all fun m => tyN.all fun n => decide (kitB m n = some (tyB m n))) = true := by decide +kernel
def clsIx (cls : Nat → Addr) (a : Addr) : Nat → Option Nat
  | 0 => none
  | n + 1 => cond (Nat.beq (cls n) a) (some n) (clsIx cls a n)
theorem clsIx_ok {cls : Nat → Addr} {a : Addr} : ∀ {n j : Nat}, clsIx cls a n = some j → j < n ∧ a = cls j
  | 0, j, e => nomatch e
  | n + 1, j, e => by
    unfold clsIx at e
    cases h : Nat.beq (cls n) a with
    | true => rw [h] at e; cases e; exact ⟨Nat.lt_succ_self _, (Nat.eq_of_beq_eq_true h).symm⟩
    | false =>
      rw [h] at e
      obtain ⟨h1, h2⟩ := clsIx_ok (n := n) e
      exact ⟨Nat.lt_succ_of_lt h1, h2⟩
/-- nc classes, sub i j: the i-th is the j-th or below it -/
def tblG (nc : Nat) (sub : Nat → Nat → Bool) (cls : Nat → Addr) (t : TT) (u : U) : Option Bool := match t, u with
  | .b m, .ty n => cond (Nat.beq (tyc m) 0 || Nat.beq (tyc n) 0) none (some (tyB m n))
  | .c i, .ty n => cond (Nat.ble nc i || Nat.beq (tyc n) 0) none (some false)
  | .b m, .adr a => cond (Nat.beq (tyc m) 0) none (match clsIx cls a nc with
    | some _ => some false
    | none => none)
  | .c i, .adr a => cond (Nat.ble nc i) none (match clsIx cls a nc with
    | some j => some (sub i j)
    | none => none)
  | _, _ => none
theorem allN_ok {n : Nat} {p : Nat → Bool} (h : allN n p = true) {i : Nat} (hi : i < n) : p i = true := List.all_eq_true.mp h i (List.mem_range.mpr hi)
theorem ba {a b : Bool} (h : (a && b) = true) : a = true ∧ b = true := Bool.and_eq_true_iff.mp h
theorem clsB_ok {K : PySem.W.Frag} {C : Addr} (c : clsB K C = true) : Cls K C := by
  obtain ⟨c1, c⟩ := ba c
  obtain ⟨c2, c⟩ := ba c
  obtain ⟨c3, c4⟩ := ba c
  exact ⟨c1, c2, c3, of_decide_eq_true c4⟩
theorem clsIB_ok {K : PySem.W.Frag} {C : Addr} (c : clsIB K C = true) : ClsI K C := by
  obtain ⟨c1, c⟩ := ba c
  obtain ⟨c2, c⟩ := ba c
  obtain ⟨c3, c⟩ := ba c
  obtain ⟨c4, c5⟩ := ba c
  exact ⟨clsB_ok c1, of_decide_eq_true c2, of_decide_eq_true c3, of_decide_eq_true c4, of_decide_eq_true c5⟩
theorem isiB_ok {K : PySem.W.Frag} {nc : Nat} {sub : Nat → Nat → Bool} {cls : Nat → Addr} (c : isiB K nc sub cls = true) : IsiOk K cls (tblG nc sub cls) := by
  obtain ⟨c1, c⟩ := ba c
  obtain ⟨c2, c⟩ := ba c
  obtain ⟨c3, c4⟩ := ba c
  have hle : ∀ {i : Nat}, Nat.ble nc i = false → i < nc := fun {i} h => by
    by_cases q : nc ≤ i
    · rw [Nat.ble_eq_true_of_le q] at h; cases h
    · omega
  refine ⟨fun t u b e => ?_, fun n u b e => ?_⟩
  · cases t with
    | b m =>
      cases u with
      | ty n =>
        simp only [tblG] at e
        cases hz : (Nat.beq (tyc m) 0 || Nat.beq (tyc n) 0) with
        | true => rw [hz] at e; cases e
        | false =>
          rw [hz] at e
          cases e
          rw [Bool.or_eq_false_iff] at hz
          have z := List.all_eq_true.mp (List.all_eq_true.mp tyB_ok m (tyc_mem hz.1)) n (tyc_mem hz.2)
          exact ⟨_, rfl, kit_ty (of_decide_eq_true z)⟩
      | adr a =>
        simp only [tblG] at e
        cases hz : Nat.beq (tyc m) 0 with
        | true => rw [hz] at e; cases e
        | false =>
          rw [hz] at e
          cases hj : clsIx cls a nc with
          | none => rw [hj] at e; cases e
          | some j =>
            rw [hj] at e
            cases e
            obtain ⟨h1, rfl⟩ := clsIx_ok hj
            exact ⟨_, rfl, of_decide_eq_true (List.all_eq_true.mp (allN_ok c3 h1) m (tyc_mem hz))⟩
      | _ => cases e
    | c i =>
      cases u with
      | ty n =>
        simp only [tblG] at e
        cases hz : (Nat.ble nc i || Nat.beq (tyc n) 0) with
        | true => rw [hz] at e; cases e
        | false =>
          rw [hz] at e
          cases e
          rw [Bool.or_eq_false_iff] at hz
          exact ⟨_, rfl, of_decide_eq_true (List.all_eq_true.mp (allN_ok c2 (hle hz.1)) n (tyc_mem hz.2))⟩
      | adr a =>
        simp only [tblG] at e
        cases hz : Nat.ble nc i with
        | true => rw [hz] at e; cases e
        | false =>
          rw [hz] at e
          cases hj : clsIx cls a nc with
          | none => rw [hj] at e; cases e
          | some j =>
            rw [hj] at e
            cases e
            obtain ⟨h1, rfl⟩ := clsIx_ok hj
            exact ⟨_, rfl, of_decide_eq_true (allN_ok (allN_ok c4 (hle hz)) h1)⟩
      | _ => cases e
  · refine clsIB_ok (allN_ok c1 ?_)
    cases u with
    | ty m =>
      simp only [tblG] at e
      cases hz : (Nat.ble nc n || Nat.beq (tyc m) 0) with
      | true => rw [hz] at e; cases e
      | false => rw [Bool.or_eq_false_iff] at hz; exact hle hz.1
    | adr a =>
      simp only [tblG] at e
      cases hz : Nat.ble nc n with
      | true => rw [hz] at e; cases e
      | false => exact hle hz
    | _ => cases e
end GG
/-! GPen -/
namespace GG
open PySem PySem.Spec PyProof.Rows L2
/-! ### what a meaning gives, by rules -/
def Sat {α : Type} (r : Res α) (Q : α → Hq → Prop) : Prop := match r with
  | .ok a h => Q a h
  | _ => False
def SatS (r : SRes) (N : Sl → Hq → Prop) (R : U → Hq → Prop) : Prop := match r with
  | .nx us h => N us h
  | .rt u h => R u h
  | _ => False
section
variable {α β : Type} {us : Sl} {h : Hq} {Q : U → Hq → Prop} {Qb : Bool → Hq → Prop} {Ql : List U → Hq → Prop} {N : Sl → Hq → Prop} {R : U → Hq → Prop} {ma mb mo mi mv me : Ev} {t t2 : Evt} {ea : Eva} {f : F2} {sem : Fn} {m m2 : SM} {i : Nat} {u v : U}
theorem Sat.bind {r : Res α} {k : α → Hq → Res β} {Q : β → Hq → Prop} (s : Sat r fun a h1 => Sat (k a h1) Q) : Sat (r.bind k) Q := by cases r <;> exact s
theorem Sat.imp {r : Res α} {Q Q' : α → Hq → Prop} (s : Sat r Q) (i : ∀ a h1, Q a h1 → Q' a h1) : Sat r Q' := by
  cases r with
  | ok a h1 => exact i _ _ s
  | _ => exact s
theorem Sat.ok {a : α} {Q : α → Hq → Prop} (q : Q a h) : Sat (Res.ok a h) Q := q
theorem Sat.ex {r : Res α} {Q : α → Hq → Prop} (s : Sat r Q) : ∃ a h1, r = .ok a h1 ∧ Q a h1 := by
  cases r with
  | ok a h1 => exact ⟨a, h1, rfl, s⟩
  | _ => exact s.elim
theorem wp_var (e : us[i]? = some (some u)) (q : Q u h) : Sat (evVar i us h) Q := by
  unfold evVar
  rw [e]; exact q
theorem wp_c (q : Q u h) : Sat (evC u us h) Q := q
theorem wp_bin (s : Sat (ma us h) fun x h1 => Sat (mb us h1) fun y h2 => Sat (f x y h2) Q) : Sat (evBin f ma mb us h) Q := Sat.bind (s.imp fun _ _ z => Sat.bind z)
theorem wp_call (s : Sat (ea us h) fun l h1 => Sat (sem l h1) Q) : Sat (evCall sem ea us h) Q := Sat.bind s
theorem wp_nil (q : Ql [] h) : Sat (eaNil us h) Ql := q
theorem wp_cons (s : Sat (me us h) fun u h1 => Sat (ea us h1) fun l h2 => Ql (u :: l) h2) : Sat (eaCons me ea us h) Ql := Sat.bind (s.imp fun _ _ z => Sat.bind (z.imp fun _ _ q => q))
theorem wp_lst (s : Sat (ea us h) fun l h1 => szOk l.length = true ∧ Q (.ref h1.length) (h1 ++ [HU.lst l])) : Sat (evLst ea us h) Q := Sat.bind (s.imp fun l h1 z => by
  show Sat (cond (szOk l.length) _ _) Q
  rw [z.1]; exact z.2)
theorem wt_b (s : Sat (me us h) fun u h1 => ∃ k, u = .bl k ∧ Qb k h1) : Sat (evB me us h) Qb := Sat.bind (s.imp fun u h1 ⟨k, e, q⟩ => by rw [e]; exact q)
theorem wt_not (s : Sat (t us h) fun k h1 => Qb (!k) h1) : Sat (etNot t us h) Qb := Sat.bind s
theorem wt_and (s : Sat (t us h) fun k h1 => cond k (Sat (t2 us h1) Qb) (Qb false h1)) : Sat (etAnd t t2 us h) Qb := Sat.bind (s.imp fun k h1 z => by cases k <;> exact z)
theorem wt_or (s : Sat (t us h) fun k h1 => cond k (Qb true h1) (Sat (t2 us h1) Qb)) : Sat (etOr t t2 us h) Qb := Sat.bind (s.imp fun k h1 z => by cases k <;> exact z)
theorem SatS.imp {r : SRes} {N N' : Sl → Hq → Prop} {R R' : U → Hq → Prop} (s : SatS r N R) (i : ∀ a h1, N a h1 → N' a h1) (j : ∀ a h1, R a h1 → R' a h1) : SatS r N' R' := by
  cases r with
  | nx a h1 => exact i _ _ s
  | rt a h1 => exact j _ _ s
  | _ => exact s
theorem SatS.toS {r : Res α} {k : α → Hq → SRes} (s : Sat r fun a h1 => SatS (k a h1) N R) : SatS (r.toS us k) N R := by cases r <;> exact s
theorem ws_seq (s : SatS (m us h) (fun us1 h1 => SatS (m2 us1 h1) N R) R) : SatS (mSeq m m2 us h) N R := by
  show SatS ((m us h).seq m2) N R
  cases e : m us h <;> (rw [e] at s; exact s)
theorem ws_set (s : Sat (me us h) fun u h1 => N (us.set i (some u)) h1) : SatS (mSet i me us h) N R := SatS.toS s
theorem ws_ret (s : Sat (me us h) R) : SatS (mRet me us h) N R := SatS.toS s
theorem ws_skip (q : N us h) : SatS (mSkip us h) N R := q
theorem ws_if (s : Sat (t us h) fun k h1 => cond k (SatS (m us h1) N R) (SatS (m2 us h1) N R)) : SatS (mIf t m m2 us h) N R := SatS.toS (s.imp fun k h1 z => by cases k <;> exact z)
theorem ws_put (s : Sat (mv us h) fun v h1 => Sat (mo us h1) fun o h2 => Sat (mi us h2) fun i h3 => Sat (fPut o i v h3) fun _ h4 => N us h4) : SatS (mPut mo mi mv us h) N R :=
  SatS.toS (s.imp fun v h1 z => SatS.toS (z.imp fun o h2 z => SatS.toS (z.imp fun i h3 z => by
    show SatS (match fPut o i v h3 with | .ok _ h4 => .nx us h4 | _ => .bad) N R
    cases e : fPut o i v h3 <;> (rw [e] at z; exact z))))
theorem sat_semB {np d : Nat} {l : List U} (hl : l.length = np) (s : SatS (m (l.map some ++ List.replicate d none) h) (fun _ h1 => Q .non h1) Q) : Sat (semB np d m l h) Q := by
  unfold semB
  rw [hl, show Nat.beq np np = true from Nat.beq_refl np, cond_true]
  cases e : m (l.map some ++ List.replicate d none) h <;> (rw [e] at s; exact s)
theorem fx_lst {n : Nat} {l : List U} {k : Nat} (e : h[n]? = some (.lst l)) (e2 : l[k]? = some u) (q : Q u h) : Sat (fIx (.ref n) (.int (k : Nat)) h) Q := by
  have hs : seqU h (.ref n) = some l := by
    unfold seqU
    simp only [e]
  have hk := (List.getElem?_eq_some_iff.mp e2).1
  have z : L2.atI l (k : Nat) = some u := by
    unfold L2.atI L2.ixN
    rw [if_pos (by omega), if_pos (by omega)]
    exact e2
  show Sat (match seqU h (.ref n), U.int (k : Nat) with
    | some l, .int i => match L2.atI l i with
      | some v => Res.ok v h
      | none => .bad
    | _, _ => _) Q
  rw [hs]
  show Sat (match L2.atI l (k : Nat) with | some v => Res.ok v h | none => .bad) Q
  rw [z]; exact q
theorem fput_lst {n : Nat} {l : List U} {k : Nat} {Q : Unit → Hq → Prop} (e : h[n]? = some (.lst l)) (hk : k < l.length) (q : Q () (h.set n (.lst (l.set k v)))) : Sat (fPut (.ref n) (.int (k : Nat)) v h) Q := by
  unfold fPut
  simp only [e]
  have z : L2.ixN l.length (k : Nat) = some k := by
    unfold L2.ixN
    rw [if_pos (by omega), if_pos (by omega)]; rfl
  rw [z]; exact q
end
/-! ### the pen -/
structure Pen (h : Hq) (p c : Nat) (cells : List Int) (lap gr : Int) : Prop where
  at_ : h[p]? = some (.lst [.ref c, .int lap, .int gr])
  cs : h[c]? = some (.lst (cells.map .int))
  ne : p ≠ c
  lap0 : 0 ≤ lap
  gr0 : 0 ≤ gr
/-- nothing but p's cell is changed -/
structure But (p : Nat) (h h' : Hq) : Prop where
  len : h.length ≤ h'.length
  at_ : ∀ m o, m ≠ p → h[m]? = some o → h'[m]? = some o
theorem But.refl {p : Nat} {h : Hq} : But p h h := ⟨Nat.le_refl _, fun _ _ _ e => e⟩
theorem But.trans {p : Nat} {h h1 h2 : Hq} (a : But p h h1) (b : But p h1 h2) : But p h h2 := ⟨Nat.le_trans a.len b.len, fun m o n e => b.at_ m o n (a.at_ m o n e)⟩
theorem But.set {p : Nat} {h : Hq} {o : HU} : But p h (h.set p o) := ⟨Nat.le_refl _, fun m o n e => by rw [HA.set_ne (Ne.symm n)]; exact e⟩
theorem But.push {p : Nat} {h : Hq} {o : HU} : But p h (h ++ [o]) := ⟨by simp, fun m o n e => by rw [HA.push_lt (HA.lt_of_get e)]; exact e⟩
theorem Pen.set {h : Hq} {p c : Nat} {cells : List Int} {lap gr lap' gr' : Int} (P : Pen h p c cells lap gr) (h1 : 0 ≤ lap') (h2 : 0 ≤ gr') : Pen (h.set p (.lst [.ref c, .int lap', .int gr'])) p c cells lap' gr' :=
  ⟨HA.set_self (HA.lt_of_get P.at_), by rw [HA.set_ne P.ne]; exact P.cs, P.ne, h1, h2⟩
theorem Pen.push {h : Hq} {p c : Nat} {cells : List Int} {lap gr : Int} {o : HU} (P : Pen h p c cells lap gr) : Pen (h ++ [o]) p c cells lap gr :=
  ⟨by rw [HA.push_lt (HA.lt_of_get P.at_)]; exact P.at_, by rw [HA.push_lt (HA.lt_of_get P.cs)]; exact P.cs, P.ne, P.lap0, P.gr0⟩
theorem datU_ints {f : Nat} {h : Hq} : ∀ {l : List Int}, optAll (datU (f + 1) h) (l.map .int) = some (l.map PyData.int)
  | [] => rfl
  | i :: l => by
    simp only [List.map_cons, optAll, datU_ints (l := l), show datU (f + 1) h (.int i) = some (PyData.int i) from rfl]
theorem lay_ints : ∀ {l : List Int}, PyData.canLayAll0 (l.map PyData.int) = true
  | [] => by rw [List.map_nil, PyData.canLayAll0]
  | i :: l => by rw [List.map_cons, PyData.canLayAll0, lay_ints, PyData.canLay0]; rfl
theorem depth_ints : ∀ {l : List Int}, PyData.depthAll (l.map PyData.int) = 0
  | [] => by rw [List.map_nil, PyData.depthAll]
  | i :: l => by rw [List.map_cons, PyData.depthAll, depth_ints, PyData.depth]; rfl
theorem shaped_ints {l : List Int} : SeqAt.shaped (.list (l.map PyData.int)) = true := by
  unfold SeqAt.shaped
  rw [PyData.canLay0, lay_ints, PyData.depth, depth_ints]; rfl
theorem eqv_nil {l : List Int} : PyData.eqv (.list (l.map PyData.int)) (.list []) = l.isEmpty := by
  rw [PyData.eqv]
  cases l with
  | nil => rw [List.map_nil, PyData.eqvAll]; rfl
  | cons i l => rw [List.map_cons, PyData.eqvAll] <;> simp
section
variable {h : Hq} {p c n : Nat} {cells : List Int} {lap gr many : Int} {Q : U → Hq → Prop}
theorem ne_nil {f : Nat} (e : h[c]? = some (.lst (cells.map .int))) (e2 : h[n]? = some (.lst [])) (q : Q (.bl (!cells.isEmpty)) h) : Sat (fNe (fun _ => none) (f + 2) (.ref c) (.ref n) h) Q := by
  have d1 : datU (f + 2) h (.ref c) = some (.list (cells.map PyData.int)) := by
    rw [datU]
    simp only [e]
    rw [datU_ints]; rfl
  have d2 : datU (f + 2) h (.ref n) = some (.list []) := by
    rw [datU]
    simp only [e2, optAll]; rfl
  have hs : SeqAt.shaped (.list []) = true := shaped_ints (l := [])
  unfold fNe rcU
  simp only [d1, d2, shaped_ints, hs, eqv_nil, Bool.and_self, cond_true]
  show Q (.bl (xor true cells.isEmpty)) h
  rw [Bool.true_xor]; exact q
/-- what draws, its numbers apart -/
def mDrawG : SM :=
 (mIf (etAnd (evB (evBin (fCmp fun i j => decide (i < j)) (evVar 3) (evCall bLen (eaCons (evBin fIx (evVar 0) (evC (.int 0))) eaNil)))) (evB (evBin (fCmp fun i j => decide (j ≤ i)) (evCall bAbs (eaCons (evVar 4) eaNil)) (evBin fPow (evC (.int 10)) (evC (.int 18))))))
 (mSeq (mSet 5 (evBin fAdd (evBin fMul (evC (.int 2)) (evBin fSub (evCall bAbs (eaCons (evVar 4) eaNil)) (evBin fPow (evC (.int 10)) (evC (.int 18))))) (evCall bInt (eaCons (evBin (fCmp fun i j => decide (i < j)) (evVar 4) (evC (.int 0))) eaNil))))
 (mSeq (mPut (evVar 0) (evC (.int 2)) (evBin fDiv (evCall bInt (eaCons (evVar 5) eaNil)) (evVar 1)))
 (mRet (evBin fMod (evCall bInt (eaCons (evVar 5) eaNil)) (evVar 1)))))
 mSkip)
def mDrawT (q1 a1 b1 q2 a2 c2 d2 q3 : Int) : SM :=
 (mSeq (mSet 6 (evBin fMod (evCall bInt (eaCons (evBin fPow (evBin fAdd (evBin fAdd (evBin fMod (evCall bInt (eaCons (evVar 4) eaNil)) (evC (.int q1))) (evBin fMul (evC (.int a1)) (evVar 3))) (evC (.int b1))) (evC (.int 5))) eaNil)) (evC (.int q2))))
 (mSeq (mSet 6 (evBin fMod (evCall bInt (eaCons (evBin fPow (evBin fAdd (evBin fAdd (evBin fMul (evVar 6) (evBin fAdd (evBin fMul (evC (.int 2)) (evVar 3)) (evC (.int a2)))) (evBin fMul (evBin fMul (evC (.int c2)) (evVar 3)) (evVar 3))) (evC (.int d2))) (evC (.int 3))) eaNil)) (evC (.int q3))))
 (mRet (evBin fMod (evCall bInt (eaCons (evBin fDiv (evVar 6) (evC (.int 32))) eaNil)) (evVar 1)))))
def mDraw (k1 k2 q1 a1 b1 q2 a2 c2 d2 q3 : Int) : SM :=
 (mSeq (mIf (evB (evBin (fCmp fun i j => decide (j < i)) (evBin fIx (evVar 0) (evC (.int 2))) (evC (.int 0))))
 (mSeq (mSet 2 (evBin fMod (evCall bInt (eaCons (evBin fIx (evVar 0) (evC (.int 2))) eaNil)) (evVar 1)))
 (mSeq (mPut (evVar 0) (evC (.int 2)) (evBin fDiv (evCall bInt (eaCons (evBin fIx (evVar 0) (evC (.int 2))) eaNil)) (evVar 1)))
 (mRet (evVar 2))))
 mSkip)
 (mSeq (mSet 3 (evBin fIx (evVar 0) (evC (.int 1))))
 (mSeq (mPut (evVar 0) (evC (.int 1)) (evBin fAdd (evVar 3) (evC (.int 1))))
 (mSeq (mSet 4 (evBin fAdd (evBin fMul (evC (.int k1)) (evVar 3)) (evC (.int k2))))
 (mSeq (mIf (evB (evBin (fNe (fun _ => none) 5) (evBin fIx (evVar 0) (evC (.int 0))) (evLst eaNil)))
 (mSet 4 (evBin fIx (evBin fIx (evVar 0) (evC (.int 0))) (evBin fMod (evCall bInt (eaCons (evVar 3) eaNil)) (evCall bLen (eaCons (evBin fIx (evVar 0) (evC (.int 0))) eaNil)))))
 mSkip)
 (mSeq mDrawG (mDrawT q1 a1 b1 q2 a2 c2 d2 q3)))))))
def smallC (i : Int) : Bool := decide (0 ≤ i) && decide (i < 1000000)
def drawC (k1 k2 q1 a1 b1 q2 a2 c2 d2 q3 : Int) : Bool := smallC k1 && (smallC k2 && (smallC a1 && (smallC b1 && (smallC a2 && (smallC c2 && (smallC d2 && ((decide (0 < q1) && decide (q1 ≤ 2147483648)) && ((decide (0 < q2) && decide (q2 ≤ 2147483648)) && (decide (0 < q3) && decide (q3 ≤ 2147483648))))))))))
theorem smallC.of {i : Int} (e : smallC i = true) : 0 ≤ i ∧ i < 1000000 := by
  unfold smallC at e
  rw [Bool.and_eq_true] at e
  exact ⟨of_decide_eq_true e.1, of_decide_eq_true e.2⟩
theorem f_add {i j : Int} (q : Q (.int (i + j)) h) : Sat (fAdd (.int i) (.int j) h) Q := q
theorem f_sub {i j : Int} (q : Q (.int (i - j)) h) : Sat (fSub (.int i) (.int j) h) Q := q
theorem f_cmp {g : Int → Int → Bool} {i j : Int} (q : Q (.bl (g i j)) h) : Sat (fCmp g (.int i) (.int j) h) Q := q
theorem f_mul {i j : Int} (ho : (-18446744073709551616 < i ∧ i < 18446744073709551616) ∨ (-18446744073709551616 < j ∧ j < 18446744073709551616)) (q : Q (.int (i * j)) h) : Sat (fMul (.int i) (.int j) h) Q := by
  have z : (mulOk i || mulOk j) = true := by
    unfold mulOk
    rcases ho with ⟨h1, h2⟩ | ⟨h1, h2⟩
    · rw [decide_eq_true h1, decide_eq_true h2]; rfl
    · rw [decide_eq_true h1, decide_eq_true h2, Bool.and_self, Bool.or_true]
  show Sat (cond (mulOk i || mulOk j) _ _) Q
  rw [z]; exact q
theorem f_mod {i j : Int} (hj : 0 < j) (q : Q (.int (i % j)) h) : Sat (fMod (.int i) (.int j) h) Q := by
  show Sat (cond (decide (0 < j)) _ _) Q
  rw [decide_eq_true hj]; exact q
theorem f_div {i j : Int} (hj : 0 < j) (hj2 : j < 1073741824) (q : Q (.int (i / j)) h) : Sat (fDiv (.int i) (.int j) h) Q := by
  have z : divOk j = true := by unfold divOk; rw [decide_eq_true hj, decide_eq_true hj2]; rfl
  show Sat (cond (divOk j) _ _) Q
  rw [z]; exact q
theorem f_pow {i : Int} {j : Nat} (hj : j ≤ 1000000) (h1 : 0 ≤ i) (h2 : i < 18446744073709551616) (q : Q (.int (i ^ j)) h) : Sat (fPow (.int i) (.int (j : Nat)) h) Q := by
  have z : powOk i (j : Nat) = true := by
    unfold powOk
    rw [decide_eq_true (by omega : (0 : Int) ≤ (j : Nat)), decide_eq_true (by omega : ((j : Nat) : Int) ≤ 1000000), decide_eq_true (by omega : i.natAbs < 18446744073709551616)]; rfl
  show Sat (cond (powOk i (j : Nat)) _ _) Q
  rw [z]; exact q
theorem b_int {i : Int} (q : Q (.int i) h) : Sat (bInt [.int i] h) Q := q
theorem b_intb {k : Bool} (q : Q (.int (cond k 1 0)) h) : Sat (bInt [.bl k] h) Q := q
theorem b_abs {i : Int} (q : Q (.int (cond (decide (i < 0)) (-i) i)) h) : Sat (bAbs [.int i] h) Q := q
theorem b_len {l : List U} (e : h[n]? = some (.lst l)) (q : Q (.int (l.length : Nat)) h) : Sat (bLen [.ref n] h) Q := by
  have hs : seqU h (.ref n) = some l := by
    unfold seqU
    simp only [e]
  have hl : lenU h (.ref n) = some l.length := by
    show (match seqU h (.ref n) with | some l => some l.length | none => none) = _
    rw [hs]
  show Sat (match lenU h (.ref n) with
    | some n => Res.ok (.int (n : Nat)) h
    | none => _) Q
  rw [hl]; exact q
/-- a draw: some number below many -/
theorem draw_ok {k1 k2 q1 a1 b1 q2 a2 c2 d2 q3 : Int} (C : drawC k1 k2 q1 a1 b1 q2 a2 c2 d2 q3 = true) (P : Pen h p c cells lap gr) (hl : lap < 100000) (hm : 0 < many) (hm2 : many < 1073741824) :
    Sat (semB 2 5 (mDraw k1 k2 q1 a1 b1 q2 a2 c2 d2 q3) [.ref p, .int many] h) fun u h' => ∃ r : Nat, u = .int (r : Nat) ∧ (r : Int) < many ∧ But p h h' ∧ ∃ lap' gr', Pen h' p c cells lap' gr' ∧ lap' ≤ lap + 1 := by
  unfold drawC at C
  simp only [Bool.and_eq_true, decide_eq_true_eq] at C
  obtain ⟨hk1, hk2, ha1, hb1, ha2, hc2, hd2, ⟨hq1, hq1'⟩, ⟨hq2, hq2'⟩, hq3, hq3'⟩ := C
  replace hk1 := smallC.of hk1; replace hk2 := smallC.of hk2; replace ha1 := smallC.of ha1; replace hb1 := smallC.of hb1; replace ha2 := smallC.of ha2; replace hc2 := smallC.of hc2; replace hd2 := smallC.of hd2
  have l0 := P.lap0
  have g0 := P.gr0
  have fin : ∀ {x : Int} {h' : Hq} {lap' gr' : Int}, But p h h' → Pen h' p c cells lap' gr' → lap' ≤ lap + 1 → ∃ r : Nat, U.int (x % many) = .int (r : Nat) ∧ (r : Int) < many ∧ But p h h' ∧ ∃ lap' gr', Pen h' p c cells lap' gr' ∧ lap' ≤ lap + 1 := fun {x h' lap' gr'} b P' hle => by
    have h1 := Int.emod_nonneg x (show many ≠ 0 by omega)
    have h2 := Int.emod_lt_of_pos x hm
    exact ⟨(x % many).toNat, by rw [Int.toNat_of_nonneg h1], by rw [Int.toNat_of_nonneg h1]; exact h2, b, lap', gr', P', hle⟩
  refine sat_semB rfl ?_
  unfold mDraw
  refine ws_seq (ws_if (wt_b (wp_bin (wp_bin (wp_var rfl (wp_c (fx_lst (k := 2) P.at_ rfl (wp_c (f_cmp ⟨_, rfl, ?_⟩)))))))))
  by_cases hg : 0 < gr
  · rw [decide_eq_true hg, cond_true]
    refine ws_seq (ws_set (wp_bin (wp_call (wp_cons (wp_bin (wp_var rfl (wp_c (fx_lst (k := 2) P.at_ rfl (wp_nil (b_int (wp_var rfl (f_mod hm ?_))))))))))))
    refine ws_seq (ws_put (wp_bin (wp_call (wp_cons (wp_bin (wp_var rfl (wp_c (fx_lst (k := 2) P.at_ rfl (wp_nil (b_int (wp_var rfl (f_div hm hm2 (wp_var rfl (wp_c (fput_lst (k := 2) P.at_ (by simp) ?_)))))))))))))))
    refine ws_ret (wp_var rfl (fin But.set (P.set l0 (Int.ediv_nonneg g0 (Int.le_of_lt hm))) (by omega)))
  · rw [decide_eq_false hg, cond_false]
    refine ws_skip (ws_seq (ws_set (wp_bin (wp_var rfl (wp_c (fx_lst (k := 1) P.at_ rfl ?_))))))
    refine ws_seq (ws_put (wp_bin (wp_var rfl (wp_c (f_add (wp_var rfl (wp_c (fput_lst (k := 1) P.at_ (by simp) ?_))))))))
    have P1 : Pen (h.set p (.lst [.ref c, .int (lap + 1), .int gr])) p c cells (lap + 1) gr := P.set (by omega) g0
    have B1 : But p h (h.set p (.lst [.ref c, .int (lap + 1), .int gr])) := But.set
    show SatS (mSeq _ _ _ (h.set p (.lst [.ref c, .int (lap + 1), .int gr]))) _ _
    generalize h.set p (.lst [.ref c, .int (lap + 1), .int gr]) = h1 at P1 B1 ⊢
    refine ws_seq (ws_set (wp_bin (wp_bin (wp_c (wp_var rfl (f_mul (.inl (by omega)) (wp_c (f_add ?_))))))))
    refine ws_seq (ws_if (wt_b (wp_bin (wp_bin (wp_var rfl (wp_c (fx_lst (k := 0) P1.at_ rfl (wp_lst (wp_nil ⟨rfl, ne_nil (P1.push.cs) HA.push_self ⟨_, rfl, ?_⟩⟩)))))))))
    have P2 : Pen (h1 ++ [HU.lst []]) p c cells (lap + 1) gr := P1.push
    have B2 : But p h (h1 ++ [HU.lst []]) := B1.trans But.push
    generalize h1 ++ [HU.lst []] = h2 at P2 B2 ⊢
    have rest : ∀ cell : Int, SatS (mSeq mDrawG (mDrawT q1 a1 b1 q2 a2 c2 d2 q3) [some (.ref p), some (.int many), none, some (.int lap), some (.int cell), none, none] h2) (fun _ h' => ∃ r : Nat, U.non = .int (r : Nat) ∧ (r : Int) < many ∧ But p h h' ∧ ∃ lap' gr', Pen h' p c cells lap' gr' ∧ lap' ≤ lap + 1) (fun u h' => ∃ r : Nat, u = .int (r : Nat) ∧ (r : Int) < many ∧ But p h h' ∧ ∃ lap' gr', Pen h' p c cells lap' gr' ∧ lap' ≤ lap + 1) := fun cell => by
      have tail : SatS (mDrawT q1 a1 b1 q2 a2 c2 d2 q3 [some (.ref p), some (.int many), none, some (.int lap), some (.int cell), none, none] h2) (fun _ h' => ∃ r : Nat, U.non = .int (r : Nat) ∧ (r : Int) < many ∧ But p h h' ∧ ∃ lap' gr', Pen h' p c cells lap' gr' ∧ lap' ≤ lap + 1) (fun u h' => ∃ r : Nat, u = .int (r : Nat) ∧ (r : Int) < many ∧ But p h h' ∧ ∃ lap' gr', Pen h' p c cells lap' gr' ∧ lap' ≤ lap + 1) := by
        unfold mDrawT
        have e1 := Int.emod_nonneg cell (show q1 ≠ 0 by omega)
        have e2 := Int.emod_lt_of_pos cell hq1
        have m1 : 0 ≤ a1 * lap := Int.mul_nonneg ha1.1 l0
        have m2 : a1 * lap ≤ 1000000 * 100000 := Int.mul_le_mul (by omega) (by omega) l0 (by omega)
        refine ws_seq (ws_set (wp_bin (wp_call (wp_cons (wp_bin (wp_bin (wp_bin (wp_bin (wp_call (wp_cons (wp_var rfl (wp_nil (b_int (wp_c (f_mod hq1 (wp_bin (wp_c (wp_var rfl (f_mul (.inl (by omega)) (f_add (wp_c (f_add (wp_c (f_pow (j := 5) (by decide) (by omega) (by omega) (wp_nil (b_int (wp_c (f_mod hq2 ?_))))))))))))))))))))))))))))
        generalize hst : (cell % q1 + a1 * lap + b1) ^ 5 % q2 = st
        have s1 : 0 ≤ st := by rw [← hst]; exact Int.emod_nonneg _ (by omega)
        have s2 : st < 2147483648 := by have := Int.emod_lt_of_pos ((cell % q1 + a1 * lap + b1) ^ 5) hq2; omega
        have m3 : 0 ≤ st * (2 * lap + a2) := Int.mul_nonneg s1 (by omega)
        have m4 : st * (2 * lap + a2) ≤ 2147483648 * 1200000 := Int.mul_le_mul (by omega) (by omega) (by omega) (by omega)
        have m5 : 0 ≤ c2 * lap := Int.mul_nonneg hc2.1 l0
        have m6 : c2 * lap ≤ 1000000 * 100000 := Int.mul_le_mul (by omega) (by omega) l0 (by omega)
        have m7 : 0 ≤ c2 * lap * lap := Int.mul_nonneg m5 l0
        have m8 : c2 * lap * lap ≤ 100000000000 * 100000 := Int.mul_le_mul (by omega) (by omega) l0 (by omega)
        refine ws_seq (ws_set (wp_bin (wp_call (wp_cons (wp_bin (wp_bin (wp_bin (wp_bin (wp_var rfl (wp_bin (wp_bin (wp_c (wp_var rfl (f_mul (.inl (by omega)) (wp_c (f_add (f_mul (.inl (by omega)) (wp_bin (wp_bin (wp_c (wp_var rfl (f_mul (.inl (by omega)) (wp_var rfl (f_mul (.inr (by omega)) (f_add (wp_c (f_add (wp_c (f_pow (j := 3) (by decide) (by omega) (by omega) (wp_nil (b_int (wp_c (f_mod hq3 ?_)))))))))))))))))))))))))))))))))
        refine ws_ret (wp_bin (wp_call (wp_cons (wp_bin (wp_var rfl (wp_c (f_div (by decide) (by decide) (wp_nil (b_int (wp_var rfl (f_mod hm (fin B2 P2 (by omega)))))))))))))
      unfold mDrawG
      refine ws_seq (ws_if (wt_and (wt_b (wp_bin (wp_var rfl (wp_call (wp_cons (wp_bin (wp_var rfl (wp_c (fx_lst (k := 0) P2.at_ rfl (wp_nil (b_len P2.cs (f_cmp ⟨_, rfl, ?_⟩))))))))))))))
      cases decide (lap < ((cells.map U.int).length : Nat)) with
      | false => exact tail
      | true =>
        rw [cond_true]
        refine wt_b (wp_bin (wp_call (wp_cons (wp_var rfl (wp_nil (b_abs (wp_bin (wp_c (wp_c (f_pow (j := 18) (by decide) (by decide) (by decide) (f_cmp ⟨_, rfl, ?_⟩)))))))))))
        generalize hab : (cond (decide (cell < 0)) (-cell) cell) = ab
        by_cases hbig : (10 : Int) ^ 18 ≤ ab
        · rw [decide_eq_true hbig, cond_true]
          refine ws_seq (ws_set (wp_bin (wp_bin (wp_c (wp_bin (wp_call (wp_cons (wp_var rfl (wp_nil (b_abs (wp_bin (wp_c (wp_c (f_pow (j := 18) (by decide) (by decide) (by decide) (f_sub (f_mul (.inl (by omega)) (wp_call (wp_cons (wp_bin (wp_var rfl (wp_c (f_cmp (wp_nil (b_intb (f_add ?_)))))))))))))))))))))))))
          rw [hab]
          generalize hgr : 2 * (ab - 10 ^ 18) + cond (decide (cell < 0)) 1 0 = great
          have hg0 : 0 ≤ great := by
            rw [← hgr]
            have : (0 : Int) ≤ cond (decide (cell < 0)) 1 0 := by cases decide (cell < 0) <;> decide
            omega
          refine ws_seq (ws_put (wp_bin (wp_call (wp_cons (wp_var rfl (wp_nil (b_int (wp_var rfl (f_div hm hm2 (wp_var rfl (wp_c (fput_lst (k := 2) P2.at_ (by simp) ?_))))))))))))
          refine ws_ret (wp_bin (wp_call (wp_cons (wp_var rfl (wp_nil (b_int (wp_var rfl (f_mod hm (fin (B2.trans But.set) (P2.set (by omega) (Int.ediv_nonneg hg0 (Int.le_of_lt hm))) (by omega))))))))))
        · rw [decide_eq_false hbig, cond_false]
          exact ws_skip tail
    cases hc : (!cells.isEmpty) with
    | false => rw [cond_false]; exact ws_skip (rest _)
    | true =>
      rw [cond_true]
      have hne : 0 < cells.length := by
        cases cells with
        | nil => cases hc
        | cons _ _ => simp
      have h1 := Int.emod_nonneg lap (show ((cells.map U.int).length : Int) ≠ 0 by rw [List.length_map]; omega)
      have h2 := Int.emod_lt_of_pos lap (show (0 : Int) < ((cells.map U.int).length : Nat) by rw [List.length_map]; omega)
      obtain ⟨k, hk⟩ : ∃ k : Nat, lap % ((cells.map U.int).length : Nat) = (k : Nat) := ⟨(lap % ((cells.map U.int).length : Nat)).toNat, (Int.toNat_of_nonneg h1).symm⟩
      have hkl : k < cells.length := by rw [List.length_map] at h2 hk; omega
      refine ws_set (wp_bin (wp_bin (wp_var rfl (wp_c (fx_lst (k := 0) P2.at_ rfl (wp_bin (wp_call (wp_cons (wp_var rfl (wp_nil (b_int (wp_call (wp_cons (wp_bin (wp_var rfl (wp_c (fx_lst (k := 0) P2.at_ rfl (wp_nil (b_len P2.cs (f_mod (by rw [List.length_map]; omega) ?_))))))))))))))))))))
      rw [hk]
      exact fx_lst (u := .int cells[k]) P2.cs (by rw [List.getElem?_map, List.getElem?_eq_getElem hkl]; rfl) (rest _)
end
end GG
/-! GTab -/
namespace GG
open PySem PySem.Spec PyProof.Rows L2
/-! ### least_rate by a table: the meaning on a small heap, carried over to any heap -/
def emb1 (l : List Int) : U := .tup (l.map .int)
def emb (W : List (List Int)) : U := .tup (W.map emb1)
def dec1 : U → Option (List Int)
  | .tup l => intsU l
  | _ => none
def decL : List U → Option (List (List Int))
  | [] => some []
  | u :: r => match dec1 u with
    | some x => (decL r).map (x :: ·)
    | none => none
def dec : U → Option (List (List Int))
  | .tup l => decL l
  | _ => none
theorem intsU_eq : ∀ {l : List U} {ns : List Int}, intsU l = some ns → l = ns.map .int
  | [], ns, e => by cases e; rfl
  | u :: l, ns, e => by
    cases u with
    | int i =>
      have e : (intsU l).map (i :: ·) = some ns := e
      rw [Option.map_eq_some_iff] at e
      obtain ⟨ms, e1, rfl⟩ := e
      rw [intsU_eq e1]; rfl
    | _ => cases e
theorem dec1_eq {u : U} {l : List Int} (e : dec1 u = some l) : u = emb1 l := by
  cases u with
  | tup k => exact congrArg U.tup (intsU_eq e)
  | _ => cases e
theorem decL_eq : ∀ {l : List U} {W : List (List Int)}, decL l = some W → l = W.map emb1
  | [], W, e => by cases e; rfl
  | u :: l, W, e => by
    unfold decL at e
    cases e1 : dec1 u with
    | none => rw [e1] at e; cases e
    | some x =>
      rw [e1] at e
      have e : (decL l).map (x :: ·) = some W := e
      rw [Option.map_eq_some_iff] at e
      obtain ⟨ms, e2, rfl⟩ := e
      rw [decL_eq e2, dec1_eq e1]; rfl
theorem dec_eq {u : U} {W : List (List Int)} (e : dec u = some W) : u = emb W := by
  cases u with
  | tup k => exact congrArg U.tup (decL_eq e)
  | _ => cases e
section
variable {K : PySem.W.Frag} {ρ ρ' : List Addr} {H : Hp}
theorem rul_ints : ∀ {l : List Int} {vs : List V}, RUl K ρ H (l.map .int) vs → RUl K ρ' H (l.map .int) vs
  | [], _, q => q
  | i :: l, _, ⟨v, r, e, q1, q2⟩ => ⟨v, r, e, q1, rul_ints q2⟩
theorem ru_emb1 {l : List Int} {v : V} (q : RU K ρ H (emb1 l) v) : RU K ρ' H (emb1 l) v := by
  obtain ⟨a, vs, e, t, q⟩ := q
  exact ⟨a, vs, e, t, rul_ints q⟩
theorem rul_emb : ∀ {W : List (List Int)} {vs : List V}, RUl K ρ H (W.map emb1) vs → RUl K ρ' H (W.map emb1) vs
  | [], _, q => q
  | l :: W, _, ⟨v, r, e, q1, q2⟩ => ⟨v, r, e, ru_emb1 q1, rul_emb q2⟩
theorem ru_emb {W : List (List Int)} {v : V} (q : RU K ρ H (emb W) v) : RU K ρ' H (emb W) v := by
  obtain ⟨a, vs, e, t, q⟩ := q
  exact ⟨a, vs, e, t, rul_emb q⟩
end
/-- a wish, a job over it -/
def wishU (W : List (List Int)) (O : List Int) : HU := .ins 1 [(("ways" : Str), emb W), ("offsets", emb1 O)]
def jobU (w : Nat) : HU := .ins 2 [(("wish" : Str), .ref w), ("most", .non), ("ahead", .int 7), ("short", .int 0)]
def locJ (W : List (List Int)) (O : List Int) : Hq := ((HA.nil : Hq) ++ [wishU W O]) ++ [jobU 0]
def decW : HU → Option (List (List Int) × List Int)
  | .ins 1 [(k1, u1), (k2, u2)] => cond (k1 == ("ways" : Str) && k2 == ("offsets" : Str)) (match dec u1, dec1 u2 with
    | some W, some O => some (W, O)
    | _, _ => none) none
  | _ => none
def decJ : HU → Option Nat
  | .ins 2 [(k1, .ref w), (k2, .non), (k3, .int a), (k4, .int b)] => cond (k1 == ("wish" : Str) && (k2 == ("most" : Str) && (k3 == ("ahead" : Str) && (k4 == ("short" : Str) && (decide (a = 7) && decide (b = 0)))))) (some w) none
  | _ => none
def decR : HU → Option (Int × Int)
  | .ins 3 [(k1, .int a), (k2, .int b)] => cond (k1 == ("top" : Str) && k2 == ("bottom" : Str)) (some (a, b)) none
  | _ => none
theorem decW_eq {o : HU} {W : List (List Int)} {O : List Int} (e : decW o = some (W, O)) : o = wishU W O := by
  unfold decW at e
  split at e
  · rename_i k1 u1 k2 u2
    cases hc : (k1 == ("ways" : Str) && k2 == ("offsets" : Str)) with
    | false => rw [hc] at e; cases e
    | true =>
      rw [hc, cond_true] at e
      rw [Bool.and_eq_true, beq_iff_eq, beq_iff_eq] at hc
      obtain ⟨rfl, rfl⟩ := hc
      split at e
      · rename_i W' O' e1 e2
        cases e
        rw [dec_eq e1, dec1_eq e2]; rfl
      · cases e
  · cases e
theorem decJ_eq {o : HU} {w : Nat} (e : decJ o = some w) : o = jobU w := by
  unfold decJ at e
  split at e
  · rename_i k1 w' k2 k3 a k4 b
    cases hc : (k1 == ("wish" : Str) && (k2 == ("most" : Str) && (k3 == ("ahead" : Str) && (k4 == ("short" : Str) && (decide (a = 7) && decide (b = 0)))))) with
    | false => rw [hc] at e; cases e
    | true =>
      rw [hc, cond_true] at e
      simp only [Bool.and_eq_true, beq_iff_eq, decide_eq_true_eq] at hc
      obtain ⟨rfl, rfl, rfl, rfl, rfl, rfl⟩ := hc
      cases e
      rfl
  · cases e
theorem decR_eq {o : HU} {a b : Int} (e : decR o = some (a, b)) : o = .ins 3 [(("top" : Str), .int a), ("bottom", .int b)] := by
  unfold decR at e
  split at e
  · rename_i k1 x k2 y
    cases hc : (k1 == ("top" : Str) && k2 == ("bottom" : Str)) with
    | false => rw [hc] at e; cases e
    | true =>
      rw [hc, cond_true] at e
      simp only [Bool.and_eq_true, beq_iff_eq] at hc
      obtain ⟨rfl, rfl⟩ := hc
      cases e
      rfl
  · cases e
abbrev TabR := List (List (List Int) × List Int × Int × Int)
def lookT : TabR → List (List Int) → List Int → Option (Int × Int)
  | [], _, _ => none
  | (W, O, a, b) :: r, W', O' => cond (decide (W = W') && decide (O = O')) (some (a, b)) (lookT r W' O')
/-- what the small run must answer -/
def chkR (r : Res U) (W : List (List Int)) (O : List Int) (a b : Int) : Bool := match r with
  | .ok (.ref n) h1 => Nat.ble 2 n && ((match h1[n]? with
    | some o => decide (decR o = some (a, b))
    | none => false) && ((match h1[0]? with
    | some o => decide (decW o = some (W, O))
    | none => false) && (match h1[1]? with
    | some o => decide (decJ o = some 0)
    | none => false)))
  | _ => false
def TabOk (sem : Fn) (tab : TabR) : Prop := ∀ W O a b, (W, O, a, b) ∈ tab → chkR (sem [.ref 1] (locJ W O)) W O a b = true
theorem tabOk_of {sem : Fn} {tab : TabR} (h : ∀ r ∈ tab, chkR (sem [.ref 1] (locJ r.1 r.2.1)) r.1 r.2.1 r.2.2.1 r.2.2.2 = true) : TabOk sem tab := fun W O a b hm => h (W, O, a, b) hm
def tabSem (tab : TabR) : Fn
  | [.ref j], h => match h[j]? with
    | some oj => match decJ oj with
      | some w => match h[w]? with
        | some ow => match decW ow with
          | some (W, O) => match lookT tab W O with
            | some (a, b) => .ok (.ref h.length) (h ++ [HU.ins 3 [(("top" : Str), .int a), ("bottom", .int b)]])
            | none => .bad
          | none => .bad
        | none => .bad
      | none => .bad
    | none => .bad
  | _, _ => .bad
theorem lookT_mem : ∀ {tab : TabR} {W : List (List Int)} {O : List Int} {a b : Int}, lookT tab W O = some (a, b) → (W, O, a, b) ∈ tab
  | [], _, _, _, _, e => nomatch e
  | (W, O, a, b) :: r, W', O', a', b', e => by
    unfold lookT at e
    cases hc : (decide (W = W') && decide (O = O')) with
    | true =>
      rw [hc, cond_true] at e
      rw [Bool.and_eq_true, decide_eq_true_eq, decide_eq_true_eq] at hc
      obtain ⟨rfl, rfl⟩ := hc
      cases e
      exact List.mem_cons_self
    | false =>
      rw [hc, cond_false] at e
      exact List.mem_cons_of_mem _ (lookT_mem e)
theorem tab_mem {tab : TabR} {l : List U} {h h' : Hq} {u : U} (e : tabSem tab l h = .ok u h') : ∃ j w W O a b, l = [.ref j] ∧ h[j]? = some (jobU w) ∧ h[w]? = some (wishU W O) ∧ (W, O, a, b) ∈ tab ∧ u = .ref h.length ∧ h' = h ++ [HU.ins 3 [(("top" : Str), .int a), ("bottom", .int b)]] := by
  unfold tabSem at e
  split at e
  · rename_i j
    split at e
    · rename_i oj e1
      split at e
      · rename_i w e2
        split at e
        · rename_i ow e3
          split at e
          · rename_i W O e4
            split at e
            · rename_i a b e5
              cases e
              exact ⟨j, w, W, O, a, b, rfl, by rw [e1, decJ_eq e2], by rw [e3, decW_eq e4], lookT_mem e5, rfl, rfl⟩
            · cases e
          · cases e
        · cases e
      · cases e
    · cases e
  · cases e
theorem tab_noexc {tab : TabR} {l : List U} {h h' : Hq} {x : Ex} : tabSem tab l h ≠ .exc x h' := by
  unfold tabSem
  split
  · split
    · split
      · split
        · split
          · split <;> exact fun e => nomatch e
          · exact fun e => nomatch e
        · exact fun e => nomatch e
      · exact fun e => nomatch e
    · exact fun e => nomatch e
  · exact fun e => nomatch e
section
variable {P : Program} {w0 : World} {K : PySem.W.Frag} {mg : Str → Option Value} {base : Heap} {cls : Nat → Addr} {k : Nat} {f : Addr} {sem : Fn}
theorem fnG_tab {tab : TabR} (F : FnG P w0 K mg base cls k f sem) (ok : TabOk sem tab) : FnG P w0 K mg base cls k f (tabSem tab) := fnG_imp F fun Wx ρ l hq H Q rel p ⟨vs, ql⟩ => by
  cases e0 : tabSem tab l hq with
  | bad => rw [e0] at p; exact p.elim
  | exc x h' => exact absurd e0 tab_noexc
  | ok u h' =>
    rw [e0] at p
    obtain ⟨j, w, W, O, a, b, rfl, ej, ew, hm, rfl, rfl⟩ := tab_mem e0
    obtain ⟨v, t, rfl, ⟨aj, eaj, rfl⟩, qt⟩ := ql
    obtain rfl : t = [] := qt
    obtain ⟨dj, wj, hj, qj⟩ := rel.at_ j _ aj ej eaj
    obtain ⟨v1, t1, rfl, ⟨aw, eaw, rfl⟩, v2, t2, rfl, q2, v3, t3, rfl, q3, v4, t4, rfl, q4, rfl⟩ := qj
    obtain ⟨dw, ww, hw, qw⟩ := rel.at_ w _ aw ew eaw
    obtain ⟨y1, s1, rfl, p1, y2, s2, rfl, p2, rfl⟩ := qw
    have hne : aw ≠ aj := by
      rintro rfl
      have z : w = j := (List.getElem_inj rel.nd).mp ((List.getElem?_eq_some_iff.mp eaw).2.trans (List.getElem?_eq_some_iff.mp eaj).2.symm)
      subst z
      rw [ew] at ej
      cases ej
    have rel2 : Rel K cls [aw, aj] (locJ W O) H := by
      refine ⟨rfl, by simp [hne], fun n o c e1 e2 => ?_⟩
      match n with
      | 0 =>
        obtain rfl : wishU W O = o := Option.some.inj (by rw [← e1]; exact ((HA.push_lt (h := (HA.nil : Hq) ++ [wishU W O]) (n := 0) Nat.zero_lt_one).trans (HA.push_self (h := (HA.nil : Hq)))).symm)
        obtain rfl : aw = c := Option.some.inj e2
        exact ⟨dw, _, hw, _, _, rfl, ru_emb p1, _, _, rfl, ru_emb1 p2, rfl⟩
      | 1 =>
        obtain rfl : jobU 0 = o := Option.some.inj (by rw [← e1]; exact (HA.push_self (h := (HA.nil : Hq) ++ [wishU W O])).symm)
        obtain rfl : aj = c := Option.some.inj e2
        exact ⟨dj, _, hj, _, _, rfl, ⟨aw, rfl, rfl⟩, _, _, rfl, q2, _, _, rfl, q3, _, _, rfl, q4, rfl⟩
      | n + 2 => cases e2
    refine ⟨[.ref 1], locJ W O, [aw, aj], rel2, fun vs q => ?_, ?_⟩
    · obtain ⟨v, t, rfl, ⟨c, ec, rfl⟩, qt⟩ := q
      rw [eaj] at ec; cases ec
      exact ⟨_, _, rfl, ⟨aj, rfl, rfl⟩, qt⟩
    · have ck := ok W O a b hm
      cases e3 : sem [.ref 1] (locJ W O) with
      | bad => rw [e3] at ck; cases ck
      | exc x h1 => rw [e3] at ck; cases ck
      | ok u1 h1 =>
        rw [e3] at ck
        cases u1 with
        | ref n =>
          unfold chkR at ck
          rw [Bool.and_eq_true, Bool.and_eq_true, Bool.and_eq_true] at ck
          obtain ⟨c1, c2, c3, c4⟩ := ck
          have hn2 : 2 ≤ n := Nat.le_of_ble_eq_true c1
          have g1 : h1[n]? = some (.ins 3 [(("top" : Str), .int a), ("bottom", .int b)]) := by
            split at c2
            · rename_i o eo
              rw [eo, decR_eq (decide_eq_true_eq.mp c2)]
            · cases c2
          have g2 : h1[0]? = some (wishU W O) := by
            split at c3
            · rename_i o eo
              rw [eo, decW_eq (decide_eq_true_eq.mp c3)]
            · cases c3
          have g3 : h1[1]? = some (jobU 0) := by
            split at c4
            · rename_i o eo
              rw [eo, decJ_eq (decide_eq_true_eq.mp c4)]
            · cases c4
          intro v H' ρ' st r q
          obtain ⟨ar, ear, rfl⟩ := q
          have e00 : ρ'[0]? = some aw := st.get rfl
          have e01 : ρ'[1]? = some aj := st.get rfl
          have narw : ar ∉ [aw, aj] := by
            intro hm2
            rcases List.mem_cons.mp hm2 with z | z
            · subst z
              have := (List.getElem_inj r.nd).mp ((List.getElem?_eq_some_iff.mp ear).2.trans (List.getElem?_eq_some_iff.mp e00).2.symm)
              omega
            · obtain rfl := List.mem_singleton.mp z
              have := (List.getElem_inj r.nd).mp ((List.getElem?_eq_some_iff.mp ear).2.trans (List.getElem?_eq_some_iff.mp e01).2.symm)
              omega
          have hnone : H ar = none := st.fresh ar (List.mem_of_getElem? ear) narw
          have nar : ar ∉ ρ := Rel.notnone rel hnone
          have sub : ∀ c, c ∉ ρ → c ∉ [aw, aj] := fun c hc hm2 => by
            rcases List.mem_cons.mp hm2 with z | z
            · exact hc (z ▸ List.mem_of_getElem? eaw)
            · exact hc (List.mem_singleton.mp z ▸ List.mem_of_getElem? eaj)
          have S : Step ρ H (ρ ++ [ar]) H' := ⟨⟨[ar], rfl⟩, fun c hc hn => by
              rcases List.mem_append.mp hc with z | z
              · exact absurd z hn
              · rw [List.mem_singleton.mp z]; exact hnone, fun c o e hn => st.pres c o e (sub c hn), st.frz⟩
          have eL : (ρ ++ [ar])[hq.length]? = some ar := by rw [← rel.len]; exact get_last _ _
          refine p (.ref ar) H' (ρ ++ [ar]) S ⟨by simp [rel.len], ?_, fun m o c e1 e2 => ?_⟩ ⟨ar, eL, rfl⟩
          · rw [List.nodup_append]
            exact ⟨rel.nd, by simp, fun x hx y hy => by rw [List.mem_singleton.mp hy]; rintro rfl; exact nar hx⟩
          · by_cases hm2 : m < hq.length
            · rw [HA.push_lt hm2] at e1
              rw [List.getElem?_append_left (by rw [rel.len]; exact hm2)] at e2
              by_cases hcw : m = w
              · subst hcw
                rw [ew] at e1; cases e1
                rw [eaw] at e2; cases e2
                obtain ⟨d5, w5, h5, x1, z1, rfl, k1, x2, z2, rfl, k2, rfl⟩ := r.at_ 0 _ aw g2 e00
                exact ⟨d5, _, h5, _, _, rfl, ru_emb k1, _, _, rfl, ru_emb1 k2, rfl⟩
              · by_cases hcj : m = j
                · subst hcj
                  rw [ej] at e1; cases e1
                  rw [eaj] at e2; cases e2
                  obtain ⟨d5, w5, h5, x1, z1, rfl, ⟨c1', ec1, rfl⟩, x2, z2, rfl, k2, x3, z3, rfl, k3, x4, z4, rfl, k4, rfl⟩ := r.at_ 1 _ aj g3 e01
                  rw [e00] at ec1; cases ec1
                  exact ⟨d5, _, h5, _, _, rfl, ⟨aw, S.get eaw, rfl⟩, _, _, rfl, k2, _, _, rfl, k3, _, _, rfl, k4, rfl⟩
                · have z := rel.at_ m o c e1 e2
                  have nc : c ∉ [aw, aj] := by
                    intro hm3
                    rcases List.mem_cons.mp hm3 with q | q
                    · subst q
                      exact hcw ((List.getElem_inj rel.nd).mp ((List.getElem?_eq_some_iff.mp e2).2.trans (List.getElem?_eq_some_iff.mp eaw).2.symm))
                    · obtain rfl := List.mem_singleton.mp q
                      exact hcj ((List.getElem_inj rel.nd).mp ((List.getElem?_eq_some_iff.mp e2).2.trans (List.getElem?_eq_some_iff.mp eaj).2.symm))
                  cases o with
                  | lst l => obtain ⟨vs, z1, z2⟩ := z; exact ⟨vs, st.pres c _ z1 nc, RUl.mono rel S z2⟩
                  | frl l =>
                    obtain ⟨vs, z1, ⟨ob, z3⟩, z2⟩ := z
                    have z3' : H' c = some (.frz ob (.lst vs)) := st.pres c _ z3 nc
                    exact ⟨vs, .inl (.inr ⟨ob, z3'⟩), ⟨ob, z3'⟩, RUl.mono rel S z2⟩
                  | dK l => obtain ⟨vs, z1, z2⟩ := z; exact ⟨vs, st.pres c _ z1 nc, RUp.mono rel S z2⟩
                  | dT l => obtain ⟨vs, z1, z2⟩ := z; exact ⟨vs, st.pres c _ z1 nc, RUp.mono rel S z2⟩
                  | fK l => obtain ⟨ob, vs, z1, z2⟩ := z; exact ⟨ob, vs, st.pres c _ z1 nc, RUp.mono rel S z2⟩
                  | fT l => obtain ⟨ob, vs, z1, z2⟩ := z; exact ⟨ob, vs, st.pres c _ z1 nc, RUp.mono rel S z2⟩
                  | ins c2 fs => obtain ⟨dx, vs, z1, z2⟩ := z; exact ⟨dx, vs, st.pres c _ z1 nc, RUp.mono rel S z2⟩
            · have hl := HA.lt_of_get e1
              rw [HA.length_push] at hl
              obtain rfl : m = hq.length := by omega
              rw [HA.push_self] at e1; cases e1
              rw [eL] at e2; cases e2
              obtain ⟨d5, w5, h5, x1, z1, rfl, k1, x2, z2, rfl, k2, rfl⟩ := r.at_ n _ ar g1 ear
              exact ⟨d5, _, h5, _, _, rfl, k1, _, _, rfl, k2, rfl⟩
        | _ => cases ck
end
end GG
/-! GLaw -/
namespace GG
open PySem PySem.Spec PyProof.Rows L2
/-! ### whatever stands is kept -/
section
variable {K : PySem.W.Frag} {cls : Nat → Addr} {ρ : List Addr} {h : Hq} {H H' : Hp} {W : WX}
theorem Step.keep (k : ∀ a o, H a = some o → H' a = some o) : Step ρ H ρ H' := ⟨⟨[], by simp⟩, fun _ h n => absurd h n, fun a o e _ => k a o e, fun a o u e => k a _ e⟩
theorem Rel.keep (r : Rel K cls ρ h H) (k : ∀ a o, H a = some o → H' a = some o) : Rel K cls ρ h H' := by
  have S : Step ρ H ρ H' := Step.keep k
  refine ⟨r.len, r.nd, fun m o c e1 e2 => ?_⟩
  have z := r.at_ m o c e1 e2
  cases o with
  | lst l => obtain ⟨vs, z1, z2⟩ := z; exact ⟨vs, k c _ z1, RUl.mono r S z2⟩
  | frl l =>
    obtain ⟨vs, z1, ⟨ob, z3⟩, z2⟩ := z
    have z3' : H' c = some (.frz ob (.lst vs)) := k c _ z3
    exact ⟨vs, .inl (.inr ⟨ob, z3'⟩), ⟨ob, z3'⟩, RUl.mono r S z2⟩
  | dK l => obtain ⟨vs, z1, z2⟩ := z; exact ⟨vs, k c _ z1, RUp.mono r S z2⟩
  | dT l => obtain ⟨vs, z1, z2⟩ := z; exact ⟨vs, k c _ z1, RUp.mono r S z2⟩
  | fK l => obtain ⟨ob, vs, z1, z2⟩ := z; exact ⟨ob, vs, k c _ z1, RUp.mono r S z2⟩
  | fT l => obtain ⟨ob, vs, z1, z2⟩ := z; exact ⟨ob, vs, k c _ z1, RUp.mono r S z2⟩
  | ins c2 fs => obtain ⟨dx, vs, z1, z2⟩ := z; exact ⟨dx, vs, k c _ z1, RUp.mono r S z2⟩
theorem Rel.nil : Rel K cls [] (HA.nil : Hq) H := ⟨rfl, List.nodup_nil, fun n o a e1 e2 => by cases e2⟩
theorem Step.of_nil {ρ' : List Addr} (s : Step [] H ρ' H') : ∀ a o, H a = some o → H' a = some o := fun a o e => s.pres a o e (by simp)
end
/-! ### a def that answers True, by a table of ints -/
def resT : Res U → Bool
  | .ok (.bl true) _ => true
  | _ => false
def constSem (tab : List (List Int)) : Fn := fun l h => match intsU l with
  | some ns => cond (tab.any fun t => decide (t = ns)) (.ok (.bl true) h) .bad
  | none => .bad
def ConstOk (sem : Fn) (tab : List (List Int)) : Prop := ∀ ns ∈ tab, resT (sem (ns.map .int) HA.nil) = true
section
variable {P : Program} {w0 : World} {K : PySem.W.Frag} {mg : Str → Option Value} {base : Heap} {cls : Nat → Addr} {k : Nat} {f : Addr} {sem : Fn}
theorem fnG_const {tab : List (List Int)} (F : FnG P w0 K mg base cls k f sem) (ok : ConstOk sem tab) : FnG P w0 K mg base cls k f (constSem tab) := fnG_imp F fun Wx ρ l hq H Q rel p ⟨vs, ql⟩ => by
  unfold constSem at p
  cases e0 : intsU l with
  | none => rw [e0] at p; exact p.elim
  | some ns =>
    rw [e0] at p
    simp only at p
    cases hc : (tab.any fun t => decide (t = ns)) with
    | false => rw [hc] at p; exact p.elim
    | true =>
      rw [hc, cond_true] at p
      obtain ⟨t, ht, e⟩ := List.any_eq_true.mp hc
      obtain rfl : t = ns := of_decide_eq_true e
      have el := intsU_eq e0
      subst el
      refine ⟨t.map .int, HA.nil, [], Rel.nil, fun vs q => rul_ints q, ?_⟩
      have ck := ok t ht
      cases e3 : sem (t.map .int) HA.nil with
      | bad => rw [e3] at ck; cases ck
      | exc x h1 => rw [e3] at ck; cases ck
      | ok u h1 =>
        rw [e3] at ck
        cases u with
        | bl b =>
          cases b with
          | true =>
            intro v H' ρ' s r q
            exact p v H' ρ (Step.keep s.of_nil) (rel.keep s.of_nil) q
          | false => cases ck
        | _ => cases ck
end
/-! ### a statement that looks at nothing that stands -/
def nones (n : Nat) : Sl := List.replicate n none
def clNx (n : Nat) (m : SM) : Bool := match m (nones n) HA.nil with
  | .nx us _ => us.all Option.isNone && Nat.beq us.length n
  | _ => false
def clRt (n : Nat) (m : SM) : Bool := match m (nones n) HA.nil with
  | .rt (.bl true) _ => true
  | _ => false
def mForget : SM := fun us h => .nx (us.map fun _ => none) h
def mTrue : SM := fun _ h => .rt (.bl true) h
section
variable {X : Cx} {cls : Nat → Addr} {W : WX} {st : Stmt} {m : SM}
theorem rs_nones {K : PySem.W.Frag} {ρ : List Addr} {H : Hp} {σ : L2.St} {n : Nat} (hn : σ.length = n) : RS K ρ H (nones n) σ := ⟨by simp [nones, hn], fun i u e => by
  unfold nones at e
  rw [List.getElem?_replicate] at e
  split at e <;> cases e⟩
theorem ss_clNx {n : Nat} (hs : SS X cls W st m) (hn : X.N.length = n) (c : clNx n m = true) : SS X cls W st mForget := ⟨fun pins s0 σ H D I ⟨us, h, ρ, a, p⟩ => by
  have e0 : us.length = n := by rw [a.sl.1, I.len]; exact hn
  refine hs.run pins s0 σ H D I ⟨nones n, HA.nil, [], ⟨Rel.nil, rs_nones (by rw [← a.sl.1]; exact e0)⟩, ?_⟩
  unfold clNx at c
  cases e : m (nones n) HA.nil with
  | nx us1 h1 =>
    rw [e] at c
    intro σ' H' ρ' s r q
    have hlen : σ'.length = n := by
      rw [← q.1]
      rw [Bool.and_eq_true] at c
      exact Nat.eq_of_beq_eq_true c.2
    refine p σ' H' ρ (Step.keep s.of_nil) (a.rel.keep s.of_nil) ⟨by rw [List.length_map, e0, hlen], fun i u eu => ?_⟩
    rw [List.getElem?_map] at eu
    cases z : us[i]? with
    | none => rw [z] at eu; cases eu
    | some y => rw [z] at eu; cases eu
  | _ => rw [e] at c; cases c⟩
theorem ss_clRt {n : Nat} (hs : SS X cls W st m) (hn : X.N.length = n) (c : clRt n m = true) : SS X cls W st mTrue := ⟨fun pins s0 σ H D I ⟨us, h, ρ, a, p⟩ => by
  have e0 : us.length = n := by rw [a.sl.1, I.len]; exact hn
  refine hs.run pins s0 σ H D I ⟨nones n, HA.nil, [], ⟨Rel.nil, rs_nones (by rw [← a.sl.1]; exact e0)⟩, ?_⟩
  unfold clRt at c
  cases e : m (nones n) HA.nil with
  | rt u h1 =>
    rw [e] at c
    cases u with
    | bl b =>
      cases b with
      | true =>
        intro v H' ρ' s r q
        exact p v H' ρ (Step.keep s.of_nil) (a.rel.keep s.of_nil) q
      | false => cases c
    | _ => cases c
  | _ => rw [e] at c; cases c⟩
end
/-! ### loops over a range, the pen, a pick -/
section
variable {us : Sl} {h : Hq} {N : Sl → Hq → Prop} {I : Nat → Sl → Hq → Prop} {R : U → Hq → Prop} {Q : U → Hq → Prop} {mb : SM} {ea : Eva} {i : Nat}
theorem loop_rng {n : Nat} (hb : ∀ (k : Nat) us h, k < n → I k us h → i < us.length ∧ SatS (mb (us.set i (some (.int (k : Nat)))) h) (I (k + 1)) R) (he : ∀ us h, I n us h → N us h) : ∀ (f k : Nat) (us : Sl) (h : Hq), n < f + k → k ≤ n → I k us h → SatS (loopFor (.st (rangeU 0 n)) (gmName i) mb f k us h) N R
  | 0, k, us, h, hf, hk, hi => absurd hf (by omega)
  | f + 1, k, us, h, hf, hk, hi => by
    unfold loopFor
    by_cases hkn : k < n
    · have e : (GI.st (rangeU 0 n)).at_ k h = some (some (.int (k : Nat))) := by
        show some (rangeU 0 n)[k]? = _
        unfold rangeU
        rw [List.getElem?_map, List.getElem?_range hkn]
        simp
      simp only [e]
      obtain ⟨hl, z⟩ := hb k us h hkn hi
      have eg : (gmName i (.int (k : Nat)) us h).only = .nx (us.set i (some (.int (k : Nat)))) h := by
        unfold gmName
        rw [if_pos hl]; rfl
      simp only [eg]
      cases em : mb (us.set i (some (.int (k : Nat)))) h with
      | nx us2 h2 =>
        rw [em] at z
        exact loop_rng hb he f (k + 1) us2 h2 (by omega) (by omega) z
      | rt u h2 => rw [em] at z; exact z
      | _ => rw [em] at z; exact z.elim
    · have e : (GI.st (rangeU 0 n)).at_ k h = some none := by
        show some (rangeU 0 n)[k]? = _
        unfold rangeU
        rw [List.getElem?_eq_none (by rw [List.length_map, List.length_range]; omega)]
      simp only [e]
      obtain rfl : k = n := by omega
      exact he us h hi
theorem ws_for1 {n : Nat} (hn : sm62 (n : Nat) = true) (s : Sat (ea us h) fun l h1 => l = [.int (n : Nat)] ∧ I 0 us h1) (hb : ∀ (k : Nat) us h, k < n → I k us h → i < us.length ∧ SatS (mb (us.set i (some (.int (k : Nat)))) h) (I (k + 1)) R) (he : ∀ us h, I n us h → N us h) :
    SatS (mFor (evRng rng1 ea) (gmName i) mb us h) N R := by
  refine SatS.toS (Sat.bind (s.imp fun l h1 ⟨e, hi⟩ => ?_))
  subst e
  show Sat (cond (sm62 (n : Nat)) (Res.ok (GI.st (rangeU 0 ((n : Nat) : Int).toNat)) h1) Res.bad) _
  rw [hn, cond_true, Int.toNat_natCast]
  show SatS (loopFor (.st (rangeU 0 n)) (gmName i) mb ((rangeU 0 n).length + 1) 0 us h1) N R
  refine loop_rng hb he _ 0 us h1 ?_ (Nat.zero_le _) hi
  unfold rangeU
  rw [List.length_map, List.length_range]; omega
/-- what draws keeps the pen and gives a number below many -/
def DrawOk (sd : Fn) : Prop := ∀ (h : Hq) (p c : Nat) (cells : List Int) (lap gr many : Int), Pen h p c cells lap gr → lap < 100000 → 0 < many → many < 1073741824 →
  Sat (sd [.ref p, .int many] h) fun u h' => ∃ r : Nat, u = .int (r : Nat) ∧ (r : Int) < many ∧ But p h h' ∧ ∃ lap' gr', Pen h' p c cells lap' gr' ∧ lap' ≤ lap + 1
theorem drawOk_of {k1 k2 q1 a1 b1 q2 a2 c2 d2 q3 : Int} (C : drawC k1 k2 q1 a1 b1 q2 a2 c2 d2 q3 = true) : DrawOk (semB 2 5 (mDraw k1 k2 q1 a1 b1 q2 a2 c2 d2 q3)) := fun _ _ _ _ _ _ _ P hl hm hm2 => draw_ok C P hl hm hm2
def mPick (sd : Fn) : SM := mRet (evBin fIx (evVar 1) (evCall sd (eaCons (evVar 0) (eaCons (evCall bLen (eaCons (evVar 1) eaNil)) eaNil))))
theorem pick_ok {sd : Fn} (D : DrawOk sd) {h : Hq} {p c n : Nat} {cells : List Int} {lap gr : Int} {l : List U} (P : Pen h p c cells lap gr) (hl : lap < 100000) (e : h[n]? = some (.lst l)) (hn : n ≠ p) (h0 : 0 < l.length) (h1 : l.length < 1073741824) :
    Sat (semB 2 0 (mPick sd) [.ref p, .ref n] h) fun u h' => ∃ r : Nat, l[r]? = some u ∧ But p h h' ∧ ∃ lap' gr', Pen h' p c cells lap' gr' ∧ lap' ≤ lap + 1 := by
  refine sat_semB rfl (ws_ret (wp_bin (wp_var rfl (wp_call (wp_cons (wp_var rfl (wp_cons (wp_call (wp_cons (wp_var rfl (wp_nil (b_len e (wp_nil ?_)))))))))))))
  refine (D h p c cells lap gr _ P hl (by omega) (by omega)).imp fun u h' ⟨r, eu, hr, B, lap', gr', P', hle⟩ => ?_
  subst eu
  have hrl : r < l.length := by omega
  exact fx_lst (B.at_ n _ hn e) (List.getElem?_eq_getElem hrl) ⟨r, List.getElem?_eq_getElem hrl, B, lap', gr', P', hle⟩
def mPenL : SM := mRet (evLst (eaCons (evCall bList (eaCons (evSl (evVar 0) eoN (eoS (evC (.int 63)))) eaNil)) (eaCons (evC (.int 0)) (eaCons (evC (.int 0)) eaNil))))
theorem pen_ok {ns : List Int} (hl : ns.length ≤ 63) : Sat (semB 1 0 mPenL [.fls (ns.map .int)] HA.nil) fun u h' => ∃ p c, u = .ref p ∧ Pen h' p c ns 0 0 := by
  refine sat_semB rfl (ws_ret (wp_lst (wp_cons (wp_call (wp_cons ?_)))))
  have e : fSl (.fls (ns.map .int)) none (some 63) HA.nil = .ok (.ref 0) ((HA.nil : Hq) ++ [HU.lst (ns.map .int)]) := by
    show Res.ok (U.ref 0) ((HA.nil : Hq) ++ [HU.lst (cutU (ns.map U.int) none (some 63))]) = _
    have z : cutU (ns.map U.int) none (some 63) = ns.map U.int := by
      unfold cutU
      have h1 : HT.sIx (ns.map U.int).length 0 none = 0 := rfl
      have h2 : HT.sIx (ns.map U.int).length (ns.map U.int).length (some 63) = (ns.map U.int).length := by
        rw [List.length_map]
        show (if (63 : Int) < 0 then ((63 : Int) + (ns.length : Int)).toNat else min (Int.toNat 63) ns.length) = ns.length
        rw [if_neg (by decide)]
        exact Nat.min_eq_right hl
      rw [h1, h2, List.drop_zero, Nat.sub_zero, List.take_length]
    rw [z]
  show Sat (fSl (.fls (ns.map .int)) none (some 63) HA.nil) _
  rw [e]
  refine Sat.ok (wp_nil ?_)
  have e2 : bList [.ref 0] ((HA.nil : Hq) ++ [HU.lst (ns.map .int)]) = .ok (.ref 1) ((HA.nil : Hq) ++ [HU.lst (ns.map .int)] ++ [HU.lst (ns.map .int)]) := by
    have hs : seqU ((HA.nil : Hq) ++ [HU.lst (ns.map .int)]) (.ref 0) = some (ns.map .int) := by
      unfold seqU
      simp only [show ((HA.nil : Hq) ++ [HU.lst (ns.map .int)])[0]? = some (HU.lst (ns.map .int)) from HA.push_self (h := (HA.nil : Hq))]
    show (match seqU ((HA.nil : Hq) ++ [HU.lst (ns.map .int)]) (.ref 0) with
      | some l => Res.ok (U.ref 1) ((HA.nil : Hq) ++ [HU.lst (ns.map .int)] ++ [HU.lst l])
      | none => .bad) = _
    rw [hs]
  show Sat (bList [.ref 0] ((HA.nil : Hq) ++ [HU.lst (ns.map .int)])) _
  rw [e2]
  refine Sat.ok (wp_cons (wp_c (wp_cons (wp_c (wp_nil ⟨rfl, ?_⟩)))))
  exact ⟨2, 1, rfl, HA.push_self (h := (HA.nil : Hq) ++ [HU.lst (ns.map .int)] ++ [HU.lst (ns.map .int)]), (HA.push_lt (show 1 < 2 from by decide)).trans (HA.push_self (h := (HA.nil : Hq) ++ [HU.lst (ns.map .int)])), by decide, by decide, by decide⟩
end
end GG
/-! L81 -/
namespace L81
open PySem PySem.Spec PyProof.Rows L2 GG
abbrev tbl (cls : Nat → Addr) : GG.TT → U → Option Bool := tblG 4 Nat.beq cls
def row_0 : List (List Int) × List Int × Int × Int := ([[0]], [0], 1, 1)
def row_1 : List (List Int) × List Int × Int × Int := ([[0], [1]], [0, 1], 1, 2)
def row_2 : List (List Int) × List Int × Int × Int := ([[0, 1]], [0, 1], 1, 1)
def row_3 : List (List Int) × List Int × Int × Int := ([[0], [2]], [0, 2], 1, 2)
def row_4 : List (List Int) × List Int × Int × Int := ([[0, 2]], [0, 2], 1, 1)
def row_5 : List (List Int) × List Int × Int × Int := ([[0], [1], [2]], [0, 1, 2], 1, 3)
def row_6 : List (List Int) × List Int × Int × Int := ([[0, 1], [0, 2], [1, 2]], [0, 1, 2], 2, 3)
def row_7 : List (List Int) × List Int × Int × Int := ([[0, 1, 2]], [0, 1, 2], 1, 1)
def row_8 : List (List Int) × List Int × Int × Int := ([[0], [3]], [0, 3], 1, 2)
def row_9 : List (List Int) × List Int × Int × Int := ([[0, 3]], [0, 3], 1, 1)
def row_10 : List (List Int) × List Int × Int × Int := ([[0], [1], [3]], [0, 1, 3], 2, 5)
def row_11 : List (List Int) × List Int × Int × Int := ([[0, 1], [0, 3], [1, 3]], [0, 1, 3], 3, 4)
def row_12 : List (List Int) × List Int × Int × Int := ([[0, 1, 3]], [0, 1, 3], 1, 1)
def row_13 : List (List Int) × List Int × Int × Int := ([[0], [2], [3]], [0, 2, 3], 2, 5)
def row_14 : List (List Int) × List Int × Int × Int := ([[0, 2], [0, 3], [2, 3]], [0, 2, 3], 3, 4)
def row_15 : List (List Int) × List Int × Int × Int := ([[0, 2, 3]], [0, 2, 3], 1, 1)
def row_16 : List (List Int) × List Int × Int × Int := ([[0], [1], [2], [3]], [0, 1, 2, 3], 1, 4)
def row_17 : List (List Int) × List Int × Int × Int := ([[0, 1], [0, 2], [0, 3], [1, 2], [1, 3], [2, 3]], [0, 1, 2, 3], 1, 2)
def row_18 : List (List Int) × List Int × Int × Int := ([[0, 1, 2], [0, 1, 3], [0, 2, 3], [1, 2, 3]], [0, 1, 2, 3], 3, 4)
def row_19 : List (List Int) × List Int × Int × Int := ([[0, 1, 2, 3]], [0, 1, 2, 3], 1, 1)
def row_20 : List (List Int) × List Int × Int × Int := ([[0], [4]], [0, 4], 1, 2)
def row_21 : List (List Int) × List Int × Int × Int := ([[0, 4]], [0, 4], 1, 1)
def row_22 : List (List Int) × List Int × Int × Int := ([[0], [1], [4]], [0, 1, 4], 2, 5)
def row_23 : List (List Int) × List Int × Int × Int := ([[0, 1], [0, 4], [1, 4]], [0, 1, 4], 5, 7)
def row_24 : List (List Int) × List Int × Int × Int := ([[0, 1, 4]], [0, 1, 4], 1, 1)
def row_25 : List (List Int) × List Int × Int × Int := ([[0], [2], [4]], [0, 2, 4], 1, 3)
def row_26 : List (List Int) × List Int × Int × Int := ([[0, 2], [0, 4], [2, 4]], [0, 2, 4], 2, 3)
def row_27 : List (List Int) × List Int × Int × Int := ([[0, 2, 4]], [0, 2, 4], 1, 1)
def row_28 : List (List Int) × List Int × Int × Int := ([[0], [3], [4]], [0, 3, 4], 2, 5)
def row_29 : List (List Int) × List Int × Int × Int := ([[0, 3], [0, 4], [3, 4]], [0, 3, 4], 5, 7)
def row_30 : List (List Int) × List Int × Int × Int := ([[0, 3, 4]], [0, 3, 4], 1, 1)
def row_31 : List (List Int) × List Int × Int × Int := ([[0], [1], [2], [4]], [0, 1, 2, 4], 1, 3)
def row_32 : List (List Int) × List Int × Int × Int := ([[0, 1], [0, 2], [0, 4], [1, 2], [1, 4], [2, 4]], [0, 1, 2, 4], 4, 7)
def row_33 : List (List Int) × List Int × Int × Int := ([[0, 1, 2], [0, 1, 4], [0, 2, 4], [1, 2, 4]], [0, 1, 2, 4], 4, 5)
def row_34 : List (List Int) × List Int × Int × Int := ([[0, 1, 2, 4]], [0, 1, 2, 4], 1, 1)
def row_35 : List (List Int) × List Int × Int × Int := ([[0], [1], [3], [4]], [0, 1, 3, 4], 2, 7)
def row_36 : List (List Int) × List Int × Int × Int := ([[0, 1], [0, 3], [0, 4], [1, 3], [1, 4], [3, 4]], [0, 1, 3, 4], 1, 2)
def row_37 : List (List Int) × List Int × Int × Int := ([[0, 1, 3], [0, 1, 4], [0, 3, 4], [1, 3, 4]], [0, 1, 3, 4], 4, 5)
def row_38 : List (List Int) × List Int × Int × Int := ([[0, 1, 3, 4]], [0, 1, 3, 4], 1, 1)
def row_39 : List (List Int) × List Int × Int × Int := ([[0], [2], [3], [4]], [0, 2, 3, 4], 1, 3)
def row_40 : List (List Int) × List Int × Int × Int := ([[0, 2], [0, 3], [0, 4], [2, 3], [2, 4], [3, 4]], [0, 2, 3, 4], 4, 7)
def row_41 : List (List Int) × List Int × Int × Int := ([[0, 2, 3], [0, 2, 4], [0, 3, 4], [2, 3, 4]], [0, 2, 3, 4], 4, 5)
def row_42 : List (List Int) × List Int × Int × Int := ([[0, 2, 3, 4]], [0, 2, 3, 4], 1, 1)
def row_43 : List (List Int) × List Int × Int × Int := ([[0], [1], [2], [3], [4]], [0, 1, 2, 3, 4], 1, 5)
def row_44 : List (List Int) × List Int × Int × Int := ([[0, 1], [0, 2], [0, 3], [0, 4], [1, 2], [1, 3], [1, 4], [2, 3], [2, 4], [3, 4]], [0, 1, 2, 3, 4], 2, 5)
def row_45 : List (List Int) × List Int × Int × Int := ([[0, 1, 2], [0, 1, 3], [0, 1, 4], [0, 2, 3], [0, 2, 4], [0, 3, 4], [1, 2, 3], [1, 2, 4], [1, 3, 4], [2, 3, 4]], [0, 1, 2, 3, 4], 3, 5)
def row_46 : List (List Int) × List Int × Int × Int := ([[0, 1, 2, 3], [0, 1, 2, 4], [0, 1, 3, 4], [0, 2, 3, 4], [1, 2, 3, 4]], [0, 1, 2, 3, 4], 4, 5)
def row_47 : List (List Int) × List Int × Int × Int := ([[0, 1, 2, 3, 4]], [0, 1, 2, 3, 4], 1, 1)
def row_48 : List (List Int) × List Int × Int × Int := ([[0], [5]], [0, 5], 1, 2)
def tabA : TabR := [row_0, row_1, row_2, row_3, row_4, row_5, row_6, row_7, row_8, row_9, row_10, row_11, row_12, row_13, row_14, row_15, row_16, row_17, row_18, row_19, row_20, row_21, row_22, row_23, row_24, row_25, row_26, row_27, row_28, row_29, row_30, row_31, row_32, row_33, row_34, row_35, row_36, row_37, row_38, row_39, row_40, row_41, row_42, row_43, row_44, row_45, row_46, row_47, row_48]
def tabBR : List (List Int) := [[1, 1, 1], [2, 1, 1], [2, 2, 1], [2, 2, 2], [3, 1, 1], [3, 2, 1], [3, 2, 2], [3, 3, 1], [3, 3, 2], [3, 3, 3], [4, 1, 1], [4, 2, 1], [4, 2, 2], [4, 3, 1], [4, 3, 2], [4, 3, 3], [4, 4, 1], [4, 4, 2], [4, 4, 3], [4, 4, 4], [5, 1, 1], [5, 2, 1], [5, 2, 2], [5, 3, 1], [5, 3, 2], [5, 3, 3], [5, 4, 1], [5, 4, 2], [5, 4, 3], [5, 4, 4], [5, 5, 1], [5, 5, 2], [5, 5, 3], [5, 5, 4], [5, 5, 5]]
def tabWR : List (List Int) := [[2, 2], [3, 2], [4, 2]]

theorem eqOk0 {X : Cx} {cls : Nat → Addr} : EqOk X cls 0 (fun _ => none) := ⟨fun _ _ e => nomatch e⟩
abbrev eqs0 : Nat → Option Fn := fun _ => none
theorem binds_all {K : PySem.W.Frag} {fd : FuncData} {ps : List Str} {vs : List V} (b : ∃ ds, Vals vs ds ∧ Binds K fd ps ds) (e : vs = [] := by rfl) : Binds K fd ps [] := by
  obtain ⟨ds, h1, h2⟩ := b
  subst e
  cases h1
  exact h2
/-! ### is_integer -/
theorem sc_is_integer : FnScope [("value" : PySem.Str)] [("value" : PySem.Str)] (defScope s_is_integer) := C8.fnScope_by (by decide +kernel)
def m_is_integer (cls : Nat → Addr) : SM :=
 (mRet (evAnd (evCall (bIsi (tbl cls)) (eaCons (evVar 0) (eaCons (evC (.ty "int")) eaNil))) (evNot (evCall (bIsi (tbl cls)) (eaCons (evVar 0) (eaCons (evC (.ty "bool")) eaNil))))))
def sem_is_integer (cls : Nat → Addr) : Fn := semB 1 0 (m_is_integer cls)
/-! ### is_within -/
theorem sc_is_within : FnScope [("value" : PySem.Str), ("low" : PySem.Str), ("high" : PySem.Str)] [("value" : PySem.Str), ("low" : PySem.Str), ("high" : PySem.Str)] (defScope s_is_within) := C8.fnScope_by (by decide +kernel)
def m_is_within (cls : Nat → Addr) : SM :=
 (mRet (evAnd (evCall (sem_is_integer cls) (eaCons (evVar 0) eaNil)) (evChain (fCmp fun i j => decide (i ≤ j)) (fCmp fun i j => decide (i ≤ j)) (evVar 1) (evVar 0) (evVar 2))))
def sem_is_within (cls : Nat → Addr) : Fn := semB 3 0 (m_is_within cls)
/-! ### is_offset -/
theorem sc_is_offset : FnScope [("value" : PySem.Str)] [("value" : PySem.Str)] (defScope s_is_offset) := C8.fnScope_by (by decide +kernel)
def m_is_offset (cls : Nat → Addr) : SM :=
 (mRet (evCall (sem_is_within cls) (eaCons (evVar 0) (eaCons (evC (.int 0)) (eaCons (evC (.int 7)) eaNil)))))
def sem_is_offset (cls : Nat → Addr) : Fn := semB 1 0 (m_is_offset cls)
/-! ### is_list -/
theorem sc_is_list : FnScope [("value" : PySem.Str)] [("value" : PySem.Str)] (defScope s_is_list) := C8.fnScope_by (by decide +kernel)
def m_is_list (cls : Nat → Addr) : SM :=
 (mRet (evCall (bIsi (tbl cls)) (eaCons (evVar 0) (eaCons (evTup (eaCons (evC (.ty "list")) (eaCons (evC (.ty "tuple")) eaNil))) eaNil))))
def sem_is_list (cls : Nat → Addr) : Fn := semB 1 0 (m_is_list cls)
/-! ### ascending -/
theorem sc_ascending : FnScope [("values" : PySem.Str)] [("values" : PySem.Str)] (defScope s_ascending) := C8.fnScope_by (by decide +kernel)
def m_ascending (cls : Nat → Addr) : SM :=
 (mRet (evCall bTuple (eaCons (evSSet (evVar 0)) eaNil)))
def sem_ascending (cls : Nat → Addr) : Fn := semB 1 0 (m_ascending cls)
/-! ### Head.__init__ -/
theorem sc_Head_init : FnScope [("self" : PySem.Str), ("offsets" : PySem.Str), ("at" : PySem.Str), ("offset" : PySem.Str)] [("self" : PySem.Str), ("offsets" : PySem.Str)] (defScope s_Head_init) := C8.fnScope_by (by decide +kernel)
def m_Head_init (cls : Nat → Addr) : SM :=
 (mSeq (mFor (evRng enuI (eaCons (evVar 1) eaNil)) (gmTup 2 (gmCons (gmName 2) (gmCons (gmName 3) gmNil)))
 (mIf (etNot (evB (evCall (sem_is_offset cls) (eaCons (evVar 3) eaNil))))
 mBad
 mSkip))
 (mSeq (mIf (evB (evBin (fEq eqs0 5) (evCall bLen (eaCons (evVar 1) eaNil)) (evC (.int 0))))
 mBad
 mSkip)
 (mSeq (mIf (evB (evBin (fCmp fun i j => decide (i < j)) (evLSet (evVar 1)) (evCall bLen (eaCons (evVar 1) eaNil))))
 mBad
 mSkip)
 (mFld [0] ("offsets" : PySem.Str) (evVar 0) (evCall bTuple (eaCons (evCall bSortI (eaCons (evLc (evSeq (evVar 1)) (cmName 3) etYes (evCall bInt (eaCons (evVar 3) eaNil)) [3]) eaNil)) eaNil))))))
def sem_Head_init (cls : Nat → Addr) : Fn := starS 1 (semB 2 2 (m_Head_init cls))
/-! ### Head.of -/
theorem sc_Head_of : FnScope [("offsets" : PySem.Str)] [("offsets" : PySem.Str)] (defScope s_Head_of) := C8.fnScope_by (by decide +kernel)
def m_Head_of (cls : Nat → Addr) : SM :=
 (mSeq (mIf (etNot (evB (evCall (sem_is_list cls) (eaCons (evVar 0) eaNil))))
 mBad
 mSkip)
 (mRet (evCall (mkSem 0 (sem_Head_init cls)) (eaStar (evVar 0) eaNil))))
def sem_Head_of (cls : Nat → Addr) : Fn := semB 1 0 (m_Head_of cls)
/-! ### moved_head -/
theorem sc_moved_head : FnScope [("offsets" : PySem.Str), ("offset" : PySem.Str)] [("offsets" : PySem.Str)] (defScope s_moved_head) := C8.fnScope_by (by decide +kernel)
def m_moved_head (cls : Nat → Addr) : SM :=
 (mSeq (mIf (etNot (evB (evCall bAll (eaCons (evLc (evSeq (evVar 0)) (cmName 1) etYes (evCall (sem_is_offset cls) (eaCons (evVar 1) eaNil)) [1]) eaNil))))
 mBad
 mSkip)
 (mRet (evCall (mkSem 0 (sem_Head_init cls)) (eaStar (evVar 0) eaNil))))
def sem_moved_head (cls : Nat → Addr) : Fn := semB 1 1 (m_moved_head cls)
/-! ### Head.even -/
theorem sc_Head_even : FnScope [("many" : PySem.Str), ("step" : PySem.Str), ("place" : PySem.Str)] [("many" : PySem.Str), ("step" : PySem.Str)] (defScope s_Head_even) := C8.fnScope_by (by decide +kernel)
def m_Head_even (cls : Nat → Addr) : SM :=
 (mSeq (mIf (etNot (evB (evCall (sem_is_within cls) (eaCons (evVar 0) (eaCons (evC (.int 1)) (eaCons (evBin fAdd (evC (.int 7)) (evC (.int 1))) eaNil))))))
 mBad
 mSkip)
 (mSeq (mIf (etNot (evB (evCall (sem_is_within cls) (eaCons (evVar 1) (eaCons (evC (.int 1)) (eaCons (evBin fAdd (evC (.int 7)) (evC (.int 1))) eaNil))))))
 mBad
 mSkip)
 (mRet (evCall (sem_moved_head cls) (eaCons (evLc (evRng rng1 (eaCons (evVar 0) eaNil)) (cmName 2) etYes (evBin fMul (evVar 1) (evVar 2)) [2]) eaNil)))))
def sem_Head_even (cls : Nat → Addr) : Fn := fun l h => cond (Nat.beq l.length 1) ((semB 2 1 (m_Head_even cls)) (l ++ [.int 1]) h) ((semB 2 1 (m_Head_even cls)) l h)
/-! ### Head.span -/
theorem sc_Head_span : FnScope [("self" : PySem.Str)] [("self" : PySem.Str)] (defScope s_Head_span) := C8.fnScope_by (by decide +kernel)
def m_Head_span (cls : Nat → Addr) : SM :=
 (mRet (evBin fAdd (evBin fIx (evFld [0] ("offsets" : PySem.Str) (evVar 0)) (evNeg (evC (.int 1)))) (evC (.int 1))))
def sem_Head_span (cls : Nat → Addr) : Fn := semB 1 0 (m_Head_span cls)
/-! ### Head.__len__ -/
theorem sc_Head_len : FnScope [("self" : PySem.Str)] [("self" : PySem.Str)] (defScope s_Head_len) := C8.fnScope_by (by decide +kernel)
def m_Head_len (cls : Nat → Addr) : SM :=
 (mRet (evCall bLen (eaCons (evFld [0] ("offsets" : PySem.Str) (evVar 0)) eaNil)))
def sem_Head_len (cls : Nat → Addr) : Fn := semB 1 0 (m_Head_len cls)
/-! ### Head.__eq__ -/
theorem sc_Head_eq : FnScope [("self" : PySem.Str), ("other" : PySem.Str)] [("self" : PySem.Str), ("other" : PySem.Str)] (defScope s_Head_eq) := C8.fnScope_by (by decide +kernel)
def m_Head_eq (cls : Nat → Addr) : SM :=
 (mRet (evAnd (evCall (bIsi (tbl cls)) (eaCons (evVar 1) (eaCons (evC (.adr (cls 0))) eaNil))) (evBin (fEq eqs0 5) (evFld [0] ("offsets" : PySem.Str) (evVar 0)) (evFld [0] ("offsets" : PySem.Str) (evVar 1)))))
def sem_Head_eq (cls : Nat → Addr) : Fn := semB 2 0 (m_Head_eq cls)
/-! ### Head.__invert__ -/
theorem sc_Head_invert : FnScope [("self" : PySem.Str), ("turned" : PySem.Str), ("offset" : PySem.Str)] [("self" : PySem.Str)] (defScope s_Head_invert) := C8.fnScope_by (by decide +kernel)
def m_Head_invert (cls : Nat → Addr) : SM :=
 (mSeq (mSet 1 (evLc (evSeq (evFld [0] ("offsets" : PySem.Str) (evVar 0))) (cmName 2) etYes (evBin fSub (evBin fSub (evProp 0 (sem_Head_span cls) (evVar 0)) (evC (.int 1))) (evVar 2)) [2]))
 (mRet (evCall (mkSem 0 (sem_Head_init cls)) (eaStar (evVar 1) eaNil))))
def sem_Head_invert (cls : Nat → Addr) : Fn := semB 1 2 (m_Head_invert cls)
/-! ### is_way -/
theorem sc_is_way : FnScope [("value" : PySem.Str), ("item" : PySem.Str)] [("value" : PySem.Str)] (defScope s_is_way) := C8.fnScope_by (by decide +kernel)
def m_is_way (cls : Nat → Addr) : SM :=
 (mSeq (mIf (etOr (etNot (evB (evCall (sem_is_list cls) (eaCons (evVar 0) eaNil)))) (etOr (evB (evBin (fEq eqs0 5) (evCall bLen (eaCons (evVar 0) eaNil)) (evC (.int 0)))) (etNot (evB (evCall bAll (eaCons (evLc (evSeq (evVar 0)) (cmName 1) etYes (evCall (sem_is_offset cls) (eaCons (evVar 1) eaNil)) [1]) eaNil))))))
 (mRet (evC (.bl false)))
 mSkip)
 (mRet (evBin (fEq eqs0 5) (evCall bLen (eaCons (evCall (sem_ascending cls) (eaCons (evVar 0) eaNil)) eaNil)) (evCall bLen (eaCons (evVar 0) eaNil)))))
def sem_is_way (cls : Nat → Addr) : Fn := semB 1 1 (m_is_way cls)
/-! ### has_way -/
theorem sc_has_way : FnScope [("offsets" : PySem.Str), ("way" : PySem.Str), ("offset" : PySem.Str)] [("offsets" : PySem.Str), ("way" : PySem.Str)] (defScope s_has_way) := C8.fnScope_by (by decide +kernel)
def m_has_way (cls : Nat → Addr) : SM :=
 (mRet (evCall bAll (eaCons (evLc (evSeq (evVar 1)) (cmName 2) etYes (evBin (fIn eqs0 4) (evVar 2) (evVar 0)) [2]) eaNil)))
def sem_has_way (cls : Nat → Addr) : Fn := semB 2 1 (m_has_way cls)
/-! ### ordered_ways -/
theorem sc_ordered_ways : FnScope [("ways" : PySem.Str), ("texts" : PySem.Str), ("offset" : PySem.Str), ("way" : PySem.Str), ("sign" : PySem.Str), ("text" : PySem.Str)] [("ways" : PySem.Str)] (defScope s_ordered_ways) := C8.fnScope_by (by decide +kernel)
def m_ordered_ways (cls : Nat → Addr) : SM :=
 (mSeq (mSet 1 (evCall bSortS (eaCons (evLc (evSeq (evVar 0)) (cmName 3) etYes (evCall bStr (eaCons (evBM isStrU bJoin (evC (.str ("" : PySem.Str))) (eaCons (evLc (evSeq (evVar 3)) (cmName 2) etYes (evCall bStr (eaCons (evVar 2) eaNil)) [2]) eaNil)) eaNil)) [3]) eaNil)))
 (mRet (evCall bTuple (eaCons (evLc (evSeq (evVar 1)) (cmName 5) etYes (evCall bTuple (eaCons (evLc (evSgn (evVar 5)) (cmName 4) etYes (evCall bInt (eaCons (evVar 4) eaNil)) [4]) eaNil)) [5]) eaNil))))
def sem_ordered_ways (cls : Nat → Addr) : Fn := semB 1 5 (m_ordered_ways cls)
/-! ### lean_ways -/
theorem sc_lean_ways : FnScope [("ways" : PySem.Str), ("found" : PySem.Str), ("unlike" : PySem.Str), ("way" : PySem.Str), ("size" : PySem.Str), ("kept" : PySem.Str)] [("ways" : PySem.Str)] (defScope s_lean_ways) := C8.fnScope_by (by decide +kernel)
def m_lean_ways (cls : Nat → Addr) : SM :=
 (mSeq (mSet 1 (evLst eaNil))
 (mSeq (mSet 2 (evCall bDictT (eaCons (evLc (evSeq (evVar 0)) (cmName 3) etYes (evTup (eaCons (evVar 3) (eaCons (evC (.bl true)) eaNil))) [3]) eaNil)))
 (mSeq (mFor (evRng rng2 (eaCons (evC (.int 1)) (eaCons (evBin fAdd (evC (.int 7)) (evC (.int 2))) eaNil))) (gmName 4)
 (mLock 2 (mFor (evKeys (evVar 2)) (gmName 3)
 (mIf (etAnd (evB (evBin (fEq eqs0 5) (evCall bLen (eaCons (evVar 3) eaNil)) (evVar 4))) (etNot (evB (evCall bAny (eaCons (evLc (evSeq (evVar 1)) (cmName 5) etYes (evCall (sem_has_way cls) (eaCons (evVar 3) (eaCons (evVar 5) eaNil))) [5]) eaNil)))))
 (mExpr (evBM isLstU bAppend (evVar 1) (eaCons (evVar 3) eaNil)))
 mSkip))))
 (mRet (evCall (sem_ordered_ways cls) (eaCons (evVar 1) eaNil))))))
def sem_lean_ways (cls : Nat → Addr) : Fn := semB 1 5 (m_lean_ways cls)
/-! ### subsets -/
theorem sc_subsets : FnScope [("items" : PySem.Str), ("many" : PySem.Str), ("found" : PySem.Str), ("at" : PySem.Str), ("item" : PySem.Str), ("rest" : PySem.Str)] [("items" : PySem.Str), ("many" : PySem.Str)] (defScope s_subsets) := C8.fnScope_by (by decide +kernel)
def m_subsets (cls : Nat → Addr) (ss : Fn) : SM :=
 (mSeq (mIf (evB (evBin (fEq eqs0 5) (evVar 1) (evC (.int 0))))
 (mRet (evLst (eaCons (evTup eaNil) eaNil)))
 mSkip)
 (mSeq (mSet 2 (evLst eaNil))
 (mSeq (mFor (evRng enuI (eaCons (evVar 0) eaNil)) (gmTup 2 (gmCons (gmName 3) (gmCons (gmName 4) gmNil)))
 (mExpr (evBM isLstU bExtend (evVar 2) (eaCons (evLc (evSeq (evCall ss (eaCons (evSl (evVar 0) (eoS (evBin fAdd (evVar 3) (evC (.int 1)))) eoN) (eaCons (evBin fSub (evVar 1) (evC (.int 1))) eaNil)))) (cmName 5) etYes (evTup (eaCons (evVar 4) (eaStar (evVar 5) eaNil))) [5]) eaNil))))
 (mRet (evVar 2)))))
def r_subsets (cls : Nat → Addr) : Nat → Fn
  | 0 => fun _ _ => .bad
  | k + 1 => (fun ss => semB 2 4 (m_subsets cls ss)) (r_subsets cls k)
def sem_subsets (cls : Nat → Addr) : Fn := r_subsets cls 9
/-! ### Wish.__init__ -/
theorem sc_Wish_init : FnScope [("self" : PySem.Str), ("ways" : PySem.Str), ("at" : PySem.Str), ("way" : PySem.Str), ("offset" : PySem.Str)] [("self" : PySem.Str), ("ways" : PySem.Str)] (defScope s_Wish_init) := C8.fnScope_by (by decide +kernel)
def m_Wish_init (cls : Nat → Addr) : SM :=
 (mSeq (mFor (evRng enuI (eaCons (evVar 1) eaNil)) (gmTup 2 (gmCons (gmName 2) (gmCons (gmName 3) gmNil)))
 (mIf (etNot (evB (evCall (sem_is_way cls) (eaCons (evVar 3) eaNil))))
 mBad
 mSkip))
 (mSeq (mIf (evB (evBin (fEq eqs0 5) (evCall bLen (eaCons (evVar 1) eaNil)) (evC (.int 0))))
 mBad
 mSkip)
 (mSeq (mFld [1] ("ways" : PySem.Str) (evVar 0) (evCall (sem_lean_ways cls) (eaCons (evLc (evSeq (evVar 1)) (cmName 3) etYes (evCall (sem_ascending cls) (eaCons (evVar 3) eaNil)) [3]) eaNil)))
 (mFld [1] ("offsets" : PySem.Str) (evVar 0) (evCall (sem_ascending cls) (eaCons (evLc2 (evSeq (evFld [1] ("ways" : PySem.Str) (evVar 0))) (cmName 3) etYes (evSeq (evVar 3)) (cmName 4) etYes (evVar 4) [3, 4] [4]) eaNil))))))
def sem_Wish_init (cls : Nat → Addr) : Fn := starS 1 (semB 2 3 (m_Wish_init cls))
/-! ### Wish.dots -/
theorem sc_Wish_dots : FnScope [("head" : PySem.Str), ("many" : PySem.Str), ("found" : PySem.Str)] [("head" : PySem.Str), ("many" : PySem.Str)] (defScope s_Wish_dots) := C8.fnScope_by (by decide +kernel)
def m_Wish_dots (cls : Nat → Addr) : SM :=
 (mSeq (mIf (etNot (evB (evCall (bIsi (tbl cls)) (eaCons (evVar 0) (eaCons (evC (.adr (cls 0))) eaNil)))))
 mBad
 mSkip)
 (mSeq (mIf (etNot (evB (evCall (sem_is_within cls) (eaCons (evVar 1) (eaCons (evC (.int 1)) (eaCons (evCall (bOwnLen 0 (sem_Head_len cls)) (eaCons (evVar 0) eaNil)) eaNil))))))
 mBad
 mSkip)
 (mSeq (mSet 2 (evCall (sem_subsets cls) (eaCons (evFld [0] ("offsets" : PySem.Str) (evVar 0)) (eaCons (evVar 1) eaNil))))
 (mRet (evCall (mkSem 1 (sem_Wish_init cls)) (eaStar (evVar 2) eaNil))))))
def sem_Wish_dots (cls : Nat → Addr) : Fn := fun l h => cond (Nat.beq l.length 1) ((semB 2 1 (m_Wish_dots cls)) (l ++ [.int 1]) h) ((semB 2 1 (m_Wish_dots cls)) l h)
/-! ### Wish.is_met -/
theorem sc_Wish_is_met : FnScope [("self" : PySem.Str), ("offsets" : PySem.Str), ("way" : PySem.Str)] [("self" : PySem.Str), ("offsets" : PySem.Str)] (defScope s_Wish_is_met) := C8.fnScope_by (by decide +kernel)
def m_Wish_is_met (cls : Nat → Addr) : SM :=
 (mRet (evCall bAny (eaCons (evLc (evSeq (evFld [1] ("ways" : PySem.Str) (evVar 0))) (cmName 2) etYes (evCall (sem_has_way cls) (eaCons (evVar 1) (eaCons (evVar 2) eaNil))) [2]) eaNil)))
def sem_Wish_is_met (cls : Nat → Addr) : Fn := semB 2 1 (m_Wish_is_met cls)
/-! ### Wish.span -/
theorem sc_Wish_span : FnScope [("self" : PySem.Str)] [("self" : PySem.Str)] (defScope s_Wish_span) := C8.fnScope_by (by decide +kernel)
def m_Wish_span (cls : Nat → Addr) : SM :=
 (mRet (evBin fAdd (evBin fIx (evFld [1] ("offsets" : PySem.Str) (evVar 0)) (evNeg (evC (.int 1)))) (evC (.int 1))))
def sem_Wish_span (cls : Nat → Addr) : Fn := semB 1 0 (m_Wish_span cls)
/-! ### Job.__init__ -/
theorem sc_Job_init : FnScope [("self" : PySem.Str), ("wish" : PySem.Str), ("most" : PySem.Str), ("ahead" : PySem.Str), ("short" : PySem.Str)] [("self" : PySem.Str), ("wish" : PySem.Str), ("most" : PySem.Str), ("ahead" : PySem.Str), ("short" : PySem.Str)] (defScope s_Job_init) := C8.fnScope_by (by decide +kernel)
def m_Job_init (cls : Nat → Addr) : SM :=
 (mSeq (mIf (etNot (evB (evCall (bIsi (tbl cls)) (eaCons (evVar 1) (eaCons (evC (.adr (cls 1))) eaNil)))))
 mBad
 mSkip)
 (mSeq (mIf (etAnd (evB (evBin (fIsN true) (evVar 2) (evC .non))) (etNot (evB (evCall (sem_is_within cls) (eaCons (evVar 2) (eaCons (evC (.int 1)) (eaCons (evC (.int 1000000000000000000000000000000)) eaNil)))))))
 mBad
 mSkip)
 (mSeq (mIf (etNot (evB (evCall (sem_is_within cls) (eaCons (evVar 3) (eaCons (evC (.int 0)) (eaCons (evC (.int 7)) eaNil))))))
 mBad
 mSkip)
 (mSeq (mIf (etNot (evB (evCall (sem_is_within cls) (eaCons (evVar 4) (eaCons (evC (.int 0)) (eaCons (evC (.int 7)) eaNil))))))
 mBad
 mSkip)
 (mSeq (mFld [2] ("wish" : PySem.Str) (evVar 0) (evVar 1))
 (mSeq (mFld [2] ("most" : PySem.Str) (evVar 0) (evVar 2))
 (mSeq (mFld [2] ("ahead" : PySem.Str) (evVar 0) (evVar 3))
 (mFld [2] ("short" : PySem.Str) (evVar 0) (evVar 4)))))))))
def sem_Job_init (cls : Nat → Addr) : Fn := fun l h => cond (Nat.beq l.length 2) ((semB 5 0 (m_Job_init cls)) (l ++ [.non, .int 7, .int 0]) h) ((fun l h => cond (Nat.beq l.length 3) ((semB 5 0 (m_Job_init cls)) (l ++ [.int 7, .int 0]) h) ((fun l h => cond (Nat.beq l.length 4) ((semB 5 0 (m_Job_init cls)) (l ++ [.int 0]) h) ((semB 5 0 (m_Job_init cls)) l h)) l h)) l h)
/-! ### Job.span -/
theorem sc_Job_span : FnScope [("self" : PySem.Str)] [("self" : PySem.Str)] (defScope s_Job_span) := C8.fnScope_by (by decide +kernel)
def m_Job_span (cls : Nat → Addr) : SM :=
 (mRet (evProp 1 (sem_Wish_span cls) (evFld [2] ("wish" : PySem.Str) (evVar 0))))
def sem_Job_span (cls : Nat → Addr) : Fn := semB 1 0 (m_Job_span cls)
/-! ### Job.limit -/
theorem sc_Job_limit : FnScope [("self" : PySem.Str)] [("self" : PySem.Str)] (defScope s_Job_limit) := C8.fnScope_by (by decide +kernel)
def m_Job_limit (cls : Nat → Addr) : SM :=
 (mRet (evIf (etAnd (evB (evBin (fIsN true) (evFld [2] ("most" : PySem.Str) (evVar 0)) (evC .non))) (evB (evBin (fCmp fun i j => decide (i < j)) (evFld [2] ("most" : PySem.Str) (evVar 0)) (evProp 2 (sem_Job_span cls) (evVar 0))))) (evFld [2] ("most" : PySem.Str) (evVar 0)) (evC .non)))
def sem_Job_limit (cls : Nat → Addr) : Fn := semB 1 0 (m_Job_limit cls)
/-! ### need_job -/
theorem sc_need_job : FnScope [("job" : PySem.Str), ("part" : PySem.Str)] [("job" : PySem.Str), ("part" : PySem.Str)] (defScope s_need_job) := C8.fnScope_by (by decide +kernel)
def m_need_job (cls : Nat → Addr) : SM :=
 (mIf (etNot (evB (evCall (bIsi (tbl cls)) (eaCons (evVar 0) (eaCons (evC (.adr (cls 2))) eaNil)))))
 mBad
 mSkip)
def sem_need_job (cls : Nat → Addr) : Fn := fun l h => cond (Nat.beq l.length 1) ((semB 2 0 (m_need_job cls)) (l ++ [.str ("job" : PySem.Str)]) h) ((semB 2 0 (m_need_job cls)) l h)
/-! ### Ratio.__init__ -/
theorem sc_Ratio_init : FnScope [("self" : PySem.Str), ("top" : PySem.Str), ("bottom" : PySem.Str), ("shared" : PySem.Str)] [("self" : PySem.Str), ("top" : PySem.Str), ("bottom" : PySem.Str)] (defScope s_Ratio_init) := C8.fnScope_by (by decide +kernel)
def m_Ratio_init (cls : Nat → Addr) : SM :=
 (mSeq (mIf (etNot (evB (evCall (sem_is_integer cls) (eaCons (evVar 1) eaNil))))
 mBad
 mSkip)
 (mSeq (mIf (etOr (etNot (evB (evCall (sem_is_integer cls) (eaCons (evVar 2) eaNil)))) (evB (evBin (fEq eqs0 5) (evVar 2) (evC (.int 0)))))
 mBad
 mSkip)
 (mSeq (mSet 3 (evIf (evB (evBin (fCmp fun i j => decide (j < i)) (evVar 2) (evC (.int 0)))) (evCall bGcd (eaCons (evVar 1) (eaCons (evVar 2) eaNil))) (evNeg (evCall bGcd (eaCons (evVar 1) (eaCons (evVar 2) eaNil))))))
 (mSeq (mFld [3] ("top" : PySem.Str) (evVar 0) (evBin fDiv (evVar 1) (evVar 3)))
 (mFld [3] ("bottom" : PySem.Str) (evVar 0) (evBin fDiv (evVar 2) (evVar 3)))))))
def sem_Ratio_init (cls : Nat → Addr) : Fn := fun l h => cond (Nat.beq l.length 2) ((semB 3 1 (m_Ratio_init cls)) (l ++ [.int 1]) h) ((semB 3 1 (m_Ratio_init cls)) l h)
/-! ### ratio_of -/
theorem sc_ratio_of : FnScope [("value" : PySem.Str)] [("value" : PySem.Str)] (defScope s_ratio_of) := C8.fnScope_by (by decide +kernel)
def m_ratio_of (cls : Nat → Addr) : SM :=
 (mSeq (mIf (evB (evCall (bIsi (tbl cls)) (eaCons (evVar 0) (eaCons (evC (.adr (cls 3))) eaNil))))
 (mRet (evVar 0))
 mSkip)
 (mSeq (mIf (etNot (evB (evCall (sem_is_integer cls) (eaCons (evVar 0) eaNil))))
 mBad
 mSkip)
 (mRet (evCall (mkSem 3 (sem_Ratio_init cls)) (eaCons (evVar 0) eaNil)))))
def sem_ratio_of (cls : Nat → Addr) : Fn := semB 1 0 (m_ratio_of cls)
/-! ### Ratio.__eq__ -/
theorem sc_Ratio_eq : FnScope [("self" : PySem.Str), ("other" : PySem.Str)] [("self" : PySem.Str), ("other" : PySem.Str)] (defScope s_Ratio_eq) := C8.fnScope_by (by decide +kernel)
def m_Ratio_eq (cls : Nat → Addr) : SM :=
 (mRet (evAnd (evCall (bIsi (tbl cls)) (eaCons (evVar 1) (eaCons (evC (.adr (cls 3))) eaNil))) (evBin (fEq eqs0 5) (evTup (eaCons (evFld [3] ("top" : PySem.Str) (evVar 0)) (eaCons (evFld [3] ("bottom" : PySem.Str) (evVar 0)) eaNil))) (evTup (eaCons (evFld [3] ("top" : PySem.Str) (evVar 1)) (eaCons (evFld [3] ("bottom" : PySem.Str) (evVar 1)) eaNil))))))
def sem_Ratio_eq (cls : Nat → Addr) : Fn := semB 2 0 (m_Ratio_eq cls)
def eqsR (cls : Nat → Addr) : Nat → Option Fn
  | 0 => some (sem_Head_eq cls)
  | 3 => some (sem_Ratio_eq cls)
  | _ => none
/-! ### Ratio.compare -/
theorem sc_Ratio_compare : FnScope [("self" : PySem.Str), ("other" : PySem.Str), ("its" : PySem.Str)] [("self" : PySem.Str), ("other" : PySem.Str)] (defScope s_Ratio_compare) := C8.fnScope_by (by decide +kernel)
def m_Ratio_compare (cls : Nat → Addr) : SM :=
 (mSeq (mSet 2 (evCall (sem_ratio_of cls) (eaCons (evVar 1) eaNil)))
 (mRet (evBin fSub (evBin fMul (evFld [3] ("top" : PySem.Str) (evVar 0)) (evFld [3] ("bottom" : PySem.Str) (evVar 2))) (evBin fMul (evFld [3] ("top" : PySem.Str) (evVar 2)) (evFld [3] ("bottom" : PySem.Str) (evVar 0))))))
def sem_Ratio_compare (cls : Nat → Addr) : Fn := semB 2 1 (m_Ratio_compare cls)
/-! ### Ratio.__lt__ -/
theorem sc_Ratio_lt : FnScope [("self" : PySem.Str), ("other" : PySem.Str)] [("self" : PySem.Str), ("other" : PySem.Str)] (defScope s_Ratio_lt) := C8.fnScope_by (by decide +kernel)
def m_Ratio_lt (cls : Nat → Addr) : SM :=
 (mRet (evBin (fCmp fun i j => decide (i < j)) (evMeth 3 ("compare" : PySem.Str) (sem_Ratio_compare cls) (evVar 0) (eaCons (evVar 1) eaNil)) (evC (.int 0))))
def sem_Ratio_lt (cls : Nat → Addr) : Fn := semB 2 0 (m_Ratio_lt cls)
/-! ### Paper.__init__ -/
theorem sc_Paper_init : FnScope [("self" : PySem.Str), ("parts" : PySem.Str)] [("self" : PySem.Str), ("parts" : PySem.Str)] (defScope s_Paper_init) := C8.fnScope_by (by decide +kernel)
def m_Paper_init (cls : Nat → Addr) : SM :=
 (mFld [5, 4] ("parts" : PySem.Str) (evVar 0) (evVar 1))
def sem_Paper_init (cls : Nat → Addr) : Fn := starS 1 (semB 2 0 (m_Paper_init cls))
/-! ### Rated.__init__ -/
theorem sc_Rated_init : NdefX.NScope [("self" : PySem.Str), ("least" : PySem.Str), ("prices" : PySem.Str), ("ring" : PySem.Str), ("__class__" : PySem.Str)] [("self" : PySem.Str), ("least" : PySem.Str), ("prices" : PySem.Str), ("ring" : PySem.Str)] ["__class__"] (defScope s_Rated_init) := NdefX.nscope_by (by decide +kernel)
def m_Rated_init (cls : Nat → Addr) : SM :=
 (mSeq (mFld [4] ("least" : PySem.Str) (evVar 0) (evVar 1))
 (mSeq (mFld [4] ("prices" : PySem.Str) (evVar 0) (evVar 2))
 (mFld [4] ("ring" : PySem.Str) (evVar 0) (evVar 3))))
def ma_Rated_init (cls : Nat → Addr) : Eva := (eaCons (evVar 1) (eaCons (evVar 2) (eaCons (evVar 3) eaNil)))
def sem_Rated_init (cls : Nat → Addr) : Fn := supSem [4] 4 0 (cls 4) (ma_Rated_init cls) (sem_Paper_init cls) (m_Rated_init cls)
/-! ### all_windows -/
theorem sc_all_windows : FnScope [("size" : PySem.Str), ("found" : PySem.Str), ("place" : PySem.Str), ("window" : PySem.Str), ("sign" : PySem.Str)] [("size" : PySem.Str)] (defScope s_all_windows) := C8.fnScope_by (by decide +kernel)
def m_all_windows (cls : Nat → Addr) : SM :=
 (mSeq (mSet 1 (evLst (eaCons (evC (.str ("" : PySem.Str))) eaNil)))
 (mSeq (mFor (evRng rng1 (eaCons (evVar 0) eaNil)) (gmName 2)
 (mSet 1 (evLc2 (evSeq (evVar 1)) (cmName 3) etYes (evSgn (evC (.str ("01" : PySem.Str)))) (cmName 4) etYes (evBin fAdd (evVar 3) (evVar 4)) [3, 4] [4])))
 (mRet (evVar 1))))
def sem_all_windows (cls : Nat → Addr) : Fn := semB 1 4 (m_all_windows cls)
/-! ### touching -/
theorem sc_touching : FnScope [("window" : PySem.Str), ("sign" : PySem.Str), ("offset" : PySem.Str), ("one" : PySem.Str)] [("window" : PySem.Str), ("sign" : PySem.Str)] (defScope s_touching) := C8.fnScope_by (by decide +kernel)
def m_touching (cls : Nat → Addr) : SM :=
 (mRet (evLc (evRng enuI (eaCons (evJs [(evFmt (evVar 1)), (evFmt (evRevS (evVar 0)))] Str.empty) eaNil)) (cmTup 2 (cmCons (cmName 2) (cmCons (cmName 3) cmNil))) (evB (evBin (fEq eqs0 5) (evVar 3) (evC (.str ("1" : PySem.Str))))) (evVar 2) [2, 3]))
def sem_touching (cls : Nat → Addr) : Fn := semB 2 2 (m_touching cls)
/-! ### is_fed -/
theorem sc_is_fed : FnScope [("job" : PySem.Str), ("window" : PySem.Str)] [("job" : PySem.Str), ("window" : PySem.Str)] (defScope s_is_fed) := C8.fnScope_by (by decide +kernel)
def m_is_fed (cls : Nat → Addr) : SM :=
 (mRet (evOr (evBin (fIsN false) (evProp 2 (sem_Job_limit cls) (evVar 0)) (evC .non)) (evBin (fIn eqs0 4) (evC (.str ("1" : PySem.Str))) (evSl (evVar 1) (eoS (evNeg (evProp 2 (sem_Job_limit cls) (evVar 0)))) eoN))))
def sem_is_fed (cls : Nat → Addr) : Fn := semB 2 0 (m_is_fed cls)
/-! ### is_step -/
theorem sc_is_step : FnScope [("job" : PySem.Str), ("window" : PySem.Str), ("sign" : PySem.Str)] [("job" : PySem.Str), ("window" : PySem.Str), ("sign" : PySem.Str)] (defScope s_is_step) := C8.fnScope_by (by decide +kernel)
def m_is_step (cls : Nat → Addr) : SM :=
 (mRet (evAnd (evMeth 1 ("is_met" : PySem.Str) (sem_Wish_is_met cls) (evFld [2] ("wish" : PySem.Str) (evVar 0)) (eaCons (evCall (sem_touching cls) (eaCons (evVar 1) (eaCons (evVar 2) eaNil))) eaNil)) (evOr (evBin (fEq eqs0 5) (evVar 2) (evC (.str ("0" : PySem.Str)))) (evCall (sem_is_fed cls) (eaCons (evVar 0) (eaCons (evVar 1) eaNil))))))
def sem_is_step (cls : Nat → Addr) : Fn := semB 3 0 (m_is_step cls)
/-! ### behind -/
theorem sc_behind : FnScope [("window" : PySem.Str), ("sign" : PySem.Str)] [("window" : PySem.Str), ("sign" : PySem.Str)] (defScope s_behind) := C8.fnScope_by (by decide +kernel)
def m_behind (cls : Nat → Addr) : SM :=
 (mRet (evSl (evJs [(evFmt (evVar 0)), (evFmt (evVar 1))] Str.empty) (eoS (evC (.int 1))) eoN))
def sem_behind (cls : Nat → Addr) : Fn := semB 2 0 (m_behind cls)
/-! ### web_of -/
theorem sc_web_of : FnScope [("job" : PySem.Str), ("sign" : PySem.Str), ("window" : PySem.Str)] [("job" : PySem.Str)] (defScope s_web_of) := C8.fnScope_by (by decide +kernel)
def m_web_of (cls : Nat → Addr) : SM :=
 (mRet (evDc (evSeq (evCall (sem_all_windows cls) (eaCons (evBin fSub (evProp 2 (sem_Job_span cls) (evVar 0)) (evC (.int 1))) eaNil))) (cmName 2) etYes (evVar 2) (evLc (evSgn (evC (.str ("01" : PySem.Str)))) (cmName 1) (evB (evCall (sem_is_step cls) (eaCons (evVar 0) (eaCons (evVar 2) (eaCons (evVar 1) eaNil))))) (evVar 1) [1]) [2]))
def sem_web_of (cls : Nat → Addr) : Fn := semB 1 2 (m_web_of cls)
/-! ### cost_of -/
theorem sc_cost_of : FnScope [("rate" : PySem.Str), ("sign" : PySem.Str)] [("rate" : PySem.Str), ("sign" : PySem.Str)] (defScope s_cost_of) := C8.fnScope_by (by decide +kernel)
def m_cost_of (cls : Nat → Addr) : SM :=
 (mRet (evBin fSub (evBin fMul (evFld [3] ("bottom" : PySem.Str) (evVar 0)) (evCall bInt (eaCons (evVar 1) eaNil))) (evFld [3] ("top" : PySem.Str) (evVar 0))))
def sem_cost_of (cls : Nat → Addr) : Fn := semB 2 0 (m_cost_of cls)
/-! ### lowered -/
theorem sc_lowered : FnScope [("web" : PySem.Str), ("rate" : PySem.Str), ("prices" : PySem.Str), ("signs" : PySem.Str), ("found" : PySem.Str), ("window" : PySem.Str), ("sign" : PySem.Str), ("paid" : PySem.Str)] [("web" : PySem.Str), ("rate" : PySem.Str), ("prices" : PySem.Str), ("signs" : PySem.Str)] (defScope s_lowered) := C8.fnScope_by (by decide +kernel)
def m_lowered (cls : Nat → Addr) : SM :=
 (mSeq (mSet 4 (evC .non))
 (mSeq (mLock 0 (mFor (evKeys (evVar 0)) (gmName 5)
 (mFor (evSeq (evBin fIx (evVar 0) (evVar 5))) (gmName 6)
 (mSeq (mSet 7 (evBin fAdd (evCall (sem_cost_of cls) (eaCons (evVar 1) (eaCons (evVar 6) eaNil))) (evBin fIx (evVar 2) (evCall (sem_behind cls) (eaCons (evVar 5) (eaCons (evVar 6) eaNil))))))
 (mIf (evB (evBin (fCmp fun i j => decide (i < j)) (evVar 7) (evBin fIx (evVar 2) (evVar 5))))
 (mSeq (mPut (evVar 2) (evVar 5) (evVar 7))
 (mSeq (mPut (evVar 3) (evVar 5) (evVar 6))
 (mSet 4 (evVar 5))))
 mSkip)))))
 (mRet (evVar 4))))
def sem_lowered (cls : Nat → Addr) : Fn := semB 4 4 (m_lowered cls)
/-! ### ring_from -/
theorem sc_ring_from : FnScope [("web" : PySem.Str), ("signs" : PySem.Str), ("window" : PySem.Str), ("turn" : PySem.Str), ("begun" : PySem.Str), ("found" : PySem.Str)] [("web" : PySem.Str), ("signs" : PySem.Str), ("window" : PySem.Str)] (defScope s_ring_from) := C8.fnScope_by (by decide +kernel)
def m_ring_from (cls : Nat → Addr) : SM :=
 (mSeq (mFor (evRng rng1 (eaCons (evCall bLen (eaCons (evVar 0) eaNil)) eaNil)) (gmName 3)
 (mSet 2 (evCall (sem_behind cls) (eaCons (evVar 2) (eaCons (evBin fIx (evVar 1) (evVar 2)) eaNil)))))
 (mSeq (mPar2 4 5 (eaCons (evVar 2) (eaCons (evC (.str ("" : PySem.Str))) eaNil)))
 (mSeq (loopWhile (etOr (evB (evBin (fEq eqs0 5) (evVar 5) (evC (.str ("" : PySem.Str))))) (evB (evBin (fNe eqs0 5) (evVar 2) (evVar 4))))
 (mSeq (mAug 5 (evBin fIx (evVar 1) (evVar 2)))
 (mSet 2 (evCall (sem_behind cls) (eaCons (evVar 2) (eaCons (evBin fIx (evVar 1) (evVar 2)) eaNil))))) 10000)
 (mRet (evVar 5)))))
def sem_ring_from (cls : Nat → Addr) : Fn := semB 3 3 (m_ring_from cls)
/-! ### priced -/
theorem sc_priced : FnScope [("web" : PySem.Str), ("rate" : PySem.Str), ("prices" : PySem.Str), ("signs" : PySem.Str), ("window" : PySem.Str), ("turn" : PySem.Str)] [("web" : PySem.Str), ("rate" : PySem.Str)] (defScope s_priced) := C8.fnScope_by (by decide +kernel)
def m_priced (cls : Nat → Addr) : SM :=
 (mSeq (mPar2 2 3 (eaCons (evLock 0 (evDc (evKeys (evVar 0)) (cmName 4) etYes (evVar 4) (evC (.int 0)) [4])) (eaCons evDnew eaNil)))
 (mSeq (mFor (evRng rng1 (eaCons (evBin fAdd (evCall bLen (eaCons (evVar 0) eaNil)) (evC (.int 1))) eaNil)) (gmName 5)
 (mSeq (mSet 4 (evCall (sem_lowered cls) (eaCons (evVar 0) (eaCons (evVar 1) (eaCons (evVar 2) (eaCons (evVar 3) eaNil))))))
 (mIf (evB (evBin (fIsN false) (evVar 4) (evC .non)))
 (mRet (evTup (eaCons (evVar 2) (eaCons (evC .non) eaNil))))
 mSkip)))
 (mRet (evTup (eaCons (evC .non) (eaCons (evCall (sem_ring_from cls) (eaCons (evVar 0) (eaCons (evVar 3) (eaCons (evVar 4) eaNil)))) eaNil))))))
def sem_priced (cls : Nat → Addr) : Fn := semB 2 4 (m_priced cls)
/-! ### rate_of -/
theorem sc_rate_of : FnScope [("ring" : PySem.Str)] [("ring" : PySem.Str)] (defScope s_rate_of) := C8.fnScope_by (by decide +kernel)
def m_rate_of (cls : Nat → Addr) : SM :=
 (mRet (evCall (mkSem 3 (sem_Ratio_init cls)) (eaCons (evBM isStrU bCount (evVar 0) (eaCons (evC (.str ("1" : PySem.Str))) eaNil)) (eaCons (evCall bLen (eaCons (evVar 0) eaNil)) eaNil))))
def sem_rate_of (cls : Nat → Addr) : Fn := semB 1 0 (m_rate_of cls)
/-! ### rated -/
theorem sc_rated : FnScope [("job" : PySem.Str), ("web" : PySem.Str), ("ring" : PySem.Str), ("prices" : PySem.Str), ("better" : PySem.Str)] [("job" : PySem.Str)] (defScope s_rated) := C8.fnScope_by (by decide +kernel)
def m_rated (cls : Nat → Addr) : SM :=
 (mSeq (mExpr (evCall (sem_need_job cls) (eaCons (evVar 0) eaNil)))
 (mSeq (mPar3 1 2 3 (eaCons (evCall (sem_web_of cls) (eaCons (evVar 0) eaNil)) (eaCons (evC (.str ("1" : PySem.Str))) (eaCons (evC .non) eaNil))))
 (mSeq (loopWhile (evB (evBin (fIsN false) (evVar 3) (evC .non)))
 (mSeq (mAsg (evCall (sem_priced cls) (eaCons (evVar 1) (eaCons (evCall (sem_rate_of cls) (eaCons (evVar 2) eaNil)) eaNil))) (gmTup 2 (gmCons (gmName 3) (gmCons (gmName 4) gmNil))))
 (mSet 2 (evIf (evB (evBin (fIsN false) (evVar 4) (evC .non))) (evVar 2) (evVar 4)))) 10000)
 (mRet (evCall (mkSem 4 (sem_Rated_init cls)) (eaCons (evCall (sem_rate_of cls) (eaCons (evVar 2) eaNil)) (eaCons (evVar 3) (eaCons (evVar 2) eaNil))))))))
def sem_rated (cls : Nat → Addr) : Fn := semB 1 4 (m_rated cls)
/-! ### least_rate -/
theorem sc_least_rate : FnScope [("job" : PySem.Str)] [("job" : PySem.Str)] (defScope s_least_rate) := C8.fnScope_by (by decide +kernel)
def m_least_rate (cls : Nat → Addr) : SM :=
 (mRet (evFld [4] ("least" : PySem.Str) (evCall (sem_rated cls) (eaCons (evVar 0) eaNil))))
def sem0_least_rate (cls : Nat → Addr) : Fn := semB 1 0 (m_least_rate cls)
def sem_least_rate (cls : Nat → Addr) : Fn := tabSem tabA
/-! ### best_heads -/
theorem sc_best_heads : FnScope [("span" : PySem.Str), ("many" : PySem.Str), ("dots" : PySem.Str), ("best" : PySem.Str), ("found" : PySem.Str), ("rest" : PySem.Str), ("head" : PySem.Str), ("rate" : PySem.Str)] [("span" : PySem.Str), ("many" : PySem.Str), ("dots" : PySem.Str)] (defScope s_best_heads) := C8.fnScope_by (by decide +kernel)
def m_best_heads (cls : Nat → Addr) : SM :=
 (mSeq (mIf (etNot (evB (evCall (sem_is_within cls) (eaCons (evVar 0) (eaCons (evC (.int 1)) (eaCons (evC (.int 6)) eaNil))))))
 mBad
 mSkip)
 (mSeq (mIf (etNot (evB (evCall (sem_is_within cls) (eaCons (evVar 1) (eaCons (evC (.int 1)) (eaCons (evVar 0) eaNil))))))
 mBad
 mSkip)
 (mSeq (mIf (etNot (evB (evCall (sem_is_within cls) (eaCons (evVar 2) (eaCons (evC (.int 1)) (eaCons (evVar 1) eaNil))))))
 mBad
 mSkip)
 (mSeq (mPar2 3 4 (eaCons (evC .non) (eaCons (evLst eaNil) eaNil)))
 (mSeq (mFor (evSeq (evCall (sem_subsets cls) (eaCons (evRg2 mkT (evC (.int 1)) (evVar 0)) (eaCons (evBin fSub (evVar 1) (evC (.int 1))) eaNil)))) (gmName 5)
 (mSeq (mSet 6 (evCall (mkSem 0 (sem_Head_init cls)) (eaCons (evC (.int 0)) (eaStar (evVar 5) eaNil))))
 (mSeq (mSet 7 (evCall (sem_least_rate cls) (eaCons (evCall (mkSem 2 (sem_Job_init cls)) (eaCons (evCall (sem_Wish_dots cls) (eaCons (evVar 6) (eaCons (evVar 2) eaNil))) eaNil)) eaNil)))
 (mSeq (mIf (etOr (evB (evBin (fIsN false) (evVar 3) (evC .non))) (evB (evBin (fOwn 3 (sem_Ratio_lt cls)) (evVar 7) (evVar 3))))
 (mPar2 3 4 (eaCons (evVar 7) (eaCons (evLst eaNil) eaNil)))
 mSkip)
 (mIf (evB (evBin (fEq (eqsR cls) 5) (evVar 7) (evVar 3)))
 (mExpr (evBM isLstU bAppend (evVar 4) (eaCons (evVar 6) eaNil)))
 mSkip)))))
 (mRet (evTup (eaCons (evVar 3) (eaCons (evCall bTuple (eaCons (evVar 4) eaNil)) eaNil)))))))))
def semK_best_heads (cls : Nat → Addr) : Fn := semB 3 5 (m_best_heads cls)
def gA_kw_best_heads_0_dots_many_span {α : Type} (us its ws : List α) : List α := nth1 ws 2 ++ (nth1 ws 1 ++ (nth1 ws 0))
def gU_kw_best_heads_0_dots_many_span (us ws : List U) : List U := gA_kw_best_heads_0_dots_many_span us [.int 1] ws
def sem_best_heads (cls : Nat → Addr) : Fn := fun l h => cond (Nat.beq l.length 2) ((semB 3 5 (m_best_heads cls)) (l ++ [.int 1]) h) ((semB 3 5 (m_best_heads cls)) l h)
/-! ### _law_pen -/
theorem sc_law_pen : FnScope [("script" : PySem.Str)] [("script" : PySem.Str)] (defScope s_law_pen) := C8.fnScope_by (by decide +kernel)
def m_law_pen (cls : Nat → Addr) : SM :=
 (mRet (evLst (eaCons (evCall bList (eaCons (evSl (evVar 0) eoN (eoS (evC (.int 63)))) eaNil)) (eaCons (evC (.int 0)) (eaCons (evC (.int 0)) eaNil)))))
def sem_law_pen (cls : Nat → Addr) : Fn := semB 1 0 (m_law_pen cls)
/-! ### _law_draw -/
theorem sc_law_draw : FnScope [("pen" : PySem.Str), ("many" : PySem.Str), ("digit" : PySem.Str), ("lap" : PySem.Str), ("cell" : PySem.Str), ("great" : PySem.Str), ("stir" : PySem.Str)] [("pen" : PySem.Str), ("many" : PySem.Str)] (defScope s_law_draw) := C8.fnScope_by (by decide +kernel)
def m_law_draw (cls : Nat → Addr) : SM :=
 (mSeq (mIf (evB (evBin (fCmp fun i j => decide (j < i)) (evBin fIx (evVar 0) (evC (.int 2))) (evC (.int 0))))
 (mSeq (mSet 2 (evBin fMod (evCall bInt (eaCons (evBin fIx (evVar 0) (evC (.int 2))) eaNil)) (evVar 1)))
 (mSeq (mPut (evVar 0) (evC (.int 2)) (evBin fDiv (evCall bInt (eaCons (evBin fIx (evVar 0) (evC (.int 2))) eaNil)) (evVar 1)))
 (mRet (evVar 2))))
 mSkip)
 (mSeq (mSet 3 (evBin fIx (evVar 0) (evC (.int 1))))
 (mSeq (mPut (evVar 0) (evC (.int 1)) (evBin fAdd (evVar 3) (evC (.int 1))))
 (mSeq (mSet 4 (evBin fAdd (evBin fMul (evC (.int 74843)) (evVar 3)) (evC (.int 4373))))
 (mSeq (mIf (evB (evBin (fNe eqs0 5) (evBin fIx (evVar 0) (evC (.int 0))) (evLst eaNil)))
 (mSet 4 (evBin fIx (evBin fIx (evVar 0) (evC (.int 0))) (evBin fMod (evCall bInt (eaCons (evVar 3) eaNil)) (evCall bLen (eaCons (evBin fIx (evVar 0) (evC (.int 0))) eaNil)))))
 mSkip)
 (mSeq (mIf (etAnd (evB (evBin (fCmp fun i j => decide (i < j)) (evVar 3) (evCall bLen (eaCons (evBin fIx (evVar 0) (evC (.int 0))) eaNil)))) (evB (evBin (fCmp fun i j => decide (j ≤ i)) (evCall bAbs (eaCons (evVar 4) eaNil)) (evBin fPow (evC (.int 10)) (evC (.int 18))))))
 (mSeq (mSet 5 (evBin fAdd (evBin fMul (evC (.int 2)) (evBin fSub (evCall bAbs (eaCons (evVar 4) eaNil)) (evBin fPow (evC (.int 10)) (evC (.int 18))))) (evCall bInt (eaCons (evBin (fCmp fun i j => decide (i < j)) (evVar 4) (evC (.int 0))) eaNil))))
 (mSeq (mPut (evVar 0) (evC (.int 2)) (evBin fDiv (evCall bInt (eaCons (evVar 5) eaNil)) (evVar 1)))
 (mRet (evBin fMod (evCall bInt (eaCons (evVar 5) eaNil)) (evVar 1)))))
 mSkip)
 (mSeq (mSet 6 (evBin fMod (evCall bInt (eaCons (evBin fPow (evBin fAdd (evBin fAdd (evBin fMod (evCall bInt (eaCons (evVar 4) eaNil)) (evC (.int 2147483579))) (evBin fMul (evC (.int 60493)) (evVar 3))) (evC (.int 4373))) (evC (.int 5))) eaNil)) (evC (.int 2147483629))))
 (mSeq (mSet 6 (evBin fMod (evCall bInt (eaCons (evBin fPow (evBin fAdd (evBin fAdd (evBin fMul (evVar 6) (evBin fAdd (evBin fMul (evC (.int 2)) (evVar 3)) (evC (.int 467)))) (evBin fMul (evBin fMul (evC (.int 37307)) (evVar 3)) (evVar 3))) (evC (.int 74843))) (evC (.int 3))) eaNil)) (evC (.int 2147483563))))
 (mRet (evBin fMod (evCall bInt (eaCons (evBin fDiv (evVar 6) (evC (.int 32))) eaNil)) (evVar 1)))))))))))
def sem_law_draw (cls : Nat → Addr) : Fn := semB 2 5 (m_law_draw cls)
/-! ### _law_pick -/
theorem sc_law_pick : FnScope [("pen" : PySem.Str), ("some" : PySem.Str)] [("pen" : PySem.Str), ("some" : PySem.Str)] (defScope s_law_pick) := C8.fnScope_by (by decide +kernel)
def m_law_pick (cls : Nat → Addr) : SM :=
 (mRet (evBin fIx (evVar 1) (evCall (sem_law_draw cls) (eaCons (evVar 0) (eaCons (evCall bLen (eaCons (evVar 1) eaNil)) eaNil)))))
def sem_law_pick (cls : Nat → Addr) : Fn := semB 2 0 (m_law_pick cls)
/-! ### _law_heads -/
theorem sc_law_heads : FnScope [("span" : PySem.Str), ("many" : PySem.Str), ("rows" : PySem.Str), ("turn" : PySem.Str), ("longer" : PySem.Str), ("row" : PySem.Str), ("offset" : PySem.Str)] [("span" : PySem.Str), ("many" : PySem.Str)] (defScope s_law_heads) := C8.fnScope_by (by decide +kernel)
def m_law_heads (cls : Nat → Addr) : SM :=
 (mSeq (mSet 2 (evLst (eaCons (evLst (eaCons (evC (.int 0)) eaNil)) eaNil)))
 (mSeq (mFor (evRng rng1 (eaCons (evBin fSub (evVar 1) (evC (.int 1))) eaNil)) (gmName 3)
 (mSeq (mSet 4 (evLst eaNil))
 (mSeq (mFor (evSeq (evVar 2)) (gmName 5)
 (mSet 4 (evBin fAdd (evVar 4) (evLc (evRng rng2 (eaCons (evBin fAdd (evBin fIx (evVar 5) (evNeg (evC (.int 1)))) (evC (.int 1))) (eaCons (evVar 0) eaNil))) (cmName 6) etYes (evBin fAdd (evVar 5) (evLst (eaCons (evVar 6) eaNil))) [6]))))
 (mSet 2 (evVar 4)))))
 (mRet (evVar 2))))
def sem_law_heads (cls : Nat → Addr) : Fn := semB 2 5 (m_law_heads cls)
theorem sc_Head_iter : FnScope ["self"] ["self"] (defScope s_Head_iter) := C8.fnScope_by (by decide +kernel)
/-! ### _law_best_right -/
theorem sc_law_best_right : FnScope [("span" : PySem.Str), ("many" : PySem.Str), ("dots" : PySem.Str), ("told" : PySem.Str), ("rates" : PySem.Str), ("offsets" : PySem.Str), ("pair" : PySem.Str), ("due" : PySem.Str), ("head" : PySem.Str)] [("span" : PySem.Str), ("many" : PySem.Str), ("dots" : PySem.Str)] (defScope s_law_best_right) := C8.fnScope_by (by decide +kernel)
def m_law_best_right (cls : Nat → Addr) : SM :=
 (mSeq (mSet 3 (evCall (sem_best_heads cls) (eaCons (evVar 0) (eaCons (evVar 1) (eaCons (evVar 2) eaNil)))))
 (mSeq (mIf (etOr (etNot (evB (evCall (bIsi (tbl cls)) (eaCons (evVar 3) (eaCons (evC (.ty "tuple")) eaNil))))) (etOr (evB (evBin (fNe (eqsR cls) 5) (evCall bLen (eaCons (evVar 3) eaNil)) (evC (.int 2)))) (etOr (etNot (evB (evCall (bIsi (tbl cls)) (eaCons (evBin fIx (evVar 3) (evC (.int 0))) (eaCons (evC (.adr (cls 3))) eaNil))))) (etNot (evB (evCall (bIsi (tbl cls)) (eaCons (evBin fIx (evVar 3) (evC (.int 1))) (eaCons (evC (.ty "tuple")) eaNil))))))))
 (mRet (evC (.bl false)))
 mSkip)
 (mSeq (mIf (etOr (evB (evBin (fNe (eqsR cls) 5) (evBin fIx (evVar 3) (evC (.int 0))) (evCall (mkSem 3 (sem_Ratio_init cls)) (eaCons (evVar 2) (eaCons (evVar 1) eaNil))))) (evB (evBin (fNe (eqsR cls) 5) (evCallK (semK_best_heads cls) 0 3 gU_kw_best_heads_0_dots_many_span eaNil (eaCons (evVar 2) (eaCons (evVar 1) (eaCons (evVar 0) eaNil)))) (evVar 3))))
 (mRet (evC (.bl false)))
 mSkip)
 (mSeq (mSet 4 (evLc (evSeq (evCall (sem_law_heads cls) (eaCons (evVar 0) (eaCons (evVar 1) eaNil)))) (cmName 5) etYes (evTup (eaCons (evVar 5) (eaCons (evCall (sem_least_rate cls) (eaCons (evCall (mkSem 2 (sem_Job_init cls)) (eaCons (evCall (sem_Wish_dots cls) (eaCons (evCall (sem_Head_of cls) (eaCons (evVar 5) eaNil)) (eaCons (evVar 2) eaNil))) eaNil)) eaNil)) eaNil))) [5]))
 (mSeq (mIf (evB (evBin (fNe (eqsR cls) 5) (evLc (evSeq (evVar 4)) (cmName 6) (evB (evBin (fOwn 3 (sem_Ratio_lt cls)) (evBin fIx (evVar 6) (evC (.int 1))) (evBin fIx (evVar 3) (evC (.int 0))))) (evVar 6) [6]) (evLst eaNil)))
 (mRet (evC (.bl false)))
 mSkip)
 (mSeq (mSet 7 (evLc (evSeq (evVar 4)) (cmName 6) (evB (evBin (fEq (eqsR cls) 5) (evBin fIx (evVar 6) (evC (.int 1))) (evBin fIx (evVar 3) (evC (.int 0))))) (evBin fIx (evVar 6) (evC (.int 0))) [6]))
 (mSeq (mIf (etOr (evB (evBin (fNe (eqsR cls) 5) (evLc (evSeq (evBin fIx (evVar 3) (evC (.int 1)))) (cmName 8) etYes (evCall (bOwnList 0 (sem_Head_len cls) ("offsets" : PySem.Str)) (eaCons (evVar 8) eaNil)) [8]) (evVar 7))) (etOr (evB (evBin (fNotIn (eqsR cls) 4) (evCall (sem_Head_even cls) (eaCons (evVar 1) eaNil)) (evCall bList (eaCons (evBin fIx (evVar 3) (evC (.int 1))) eaNil)))) (evB (evBin (fNe (eqsR cls) 5) (evBin fIx (evBin fIx (evVar 3) (evC (.int 1))) (evC (.int 0))) (evCall (sem_Head_even cls) (eaCons (evVar 1) eaNil))))))
 (mRet (evC (.bl false)))
 mSkip)
 (mRet (evBin (fEq (eqsR cls) 5) (evLc (evSeq (evBin fIx (evVar 3) (evC (.int 1)))) (cmName 8) (evB (evBin (fNotIn (eqsR cls) 4) (evOwn1 0 (sem_Head_invert cls) (evVar 8)) (evCall bList (eaCons (evBin fIx (evVar 3) (evC (.int 1))) eaNil)))) (evVar 8) [8]) (evLst eaNil))))))))))
def sem0_law_best_right (cls : Nat → Addr) : Fn := semB 3 6 (m_law_best_right cls)
def sem_law_best_right (cls : Nat → Addr) : Fn := constSem tabBR
/-! ### _law_wider_right -/
theorem sc_law_wider_right : FnScope [("span" : PySem.Str), ("many" : PySem.Str), ("told" : PySem.Str), ("wider" : PySem.Str), ("head" : PySem.Str), ("found" : PySem.Str)] [("span" : PySem.Str), ("many" : PySem.Str)] (defScope s_law_wider_right) := C8.fnScope_by (by decide +kernel)
def m_law_wider_right (cls : Nat → Addr) : SM :=
 (mSeq (mPar2 2 3 (eaCons (evCall (sem_best_heads cls) (eaCons (evVar 0) (eaCons (evVar 1) eaNil))) (eaCons (evCall (sem_best_heads cls) (eaCons (evBin fAdd (evVar 0) (evC (.int 1))) (eaCons (evVar 1) eaNil))) eaNil)))
 (mSeq (mIf (etOr (evB (evBin (fNe (eqsR cls) 5) (evCall (sem_best_heads cls) (eaCons (evVar 0) (eaCons (evVar 1) (eaCons (evC (.int 1)) eaNil)))) (evVar 2))) (evB (evBin (fNe (eqsR cls) 5) (evLc (evSeq (evBin fIx (evVar 3) (evC (.int 1)))) (cmName 4) (evB (evBin (fCmp fun i j => decide (i ≤ j)) (evProp 0 (sem_Head_span cls) (evVar 4)) (evVar 0))) (evVar 4) [4]) (evCall bList (eaCons (evBin fIx (evVar 2) (evC (.int 1))) eaNil)))))
 (mRet (evC (.bl false)))
 mSkip)
 (mSeq (mFor (evSeq (evBin fIx (evVar 2) (evC (.int 1)))) (gmName 4)
 (mSeq (mSet 5 (evCall (sem_rated cls) (eaCons (evCall (mkSem 2 (sem_Job_init cls)) (eaCons (evCall (sem_Wish_dots cls) (eaCons (evVar 4) eaNil)) eaNil)) eaNil)))
 (mIf (etOr (evB (evBin (fNe (eqsR cls) 5) (evFld [4] ("least" : PySem.Str) (evVar 5)) (evCall (mkSem 3 (sem_Ratio_init cls)) (eaCons (evC (.int 1)) (eaCons (evVar 1) eaNil))))) (evB (evBin (fNe (eqsR cls) 5) (evBin fMul (evBM isStrU bCount (evFld [4] ("ring" : PySem.Str) (evVar 5)) (eaCons (evC (.str ("1" : PySem.Str))) eaNil)) (evVar 1)) (evCall bLen (eaCons (evFld [4] ("ring" : PySem.Str) (evVar 5)) eaNil)))))
 (mRet (evC (.bl false)))
 mSkip)))
 (mRet (evC (.bl true))))))
def sem0_law_wider_right (cls : Nat → Addr) : Fn := semB 2 4 (m_law_wider_right cls)
def sem_law_wider_right (cls : Nat → Addr) : Fn := constSem tabWR
/-! ### law -/
theorem sc_law : FnScope [("script" : PySem.Str), ("pen" : PySem.Str), ("lap" : PySem.Str), ("span" : PySem.Str), ("many" : PySem.Str)] [("script" : PySem.Str)] (defScope s_law) := C8.fnScope_by (by decide +kernel)
def mc_law_0 (cls : Nat → Addr) : SM :=
 (mIf (etOr (evB (evBin (fNe (eqsR cls) 5) (evCall (sem_best_heads cls) (eaCons (evC (.int 4)) (eaCons (evC (.int 3)) eaNil))) (evTup (eaCons (evCall (mkSem 3 (sem_Ratio_init cls)) (eaCons (evC (.int 1)) (eaCons (evC (.int 3)) eaNil))) (eaCons (evTup (eaCons (evCall (mkSem 0 (sem_Head_init cls)) (eaCons (evC (.int 0)) (eaCons (evC (.int 1)) (eaCons (evC (.int 2)) eaNil)))) eaNil)) eaNil))))) (evB (evBin (fNe (eqsR cls) 5) (evBin fIx (evCall (sem_best_heads cls) (eaCons (evC (.int 4)) (eaCons (evC (.int 3)) (eaCons (evC (.int 2)) eaNil)))) (evC (.int 0))) (evCall (mkSem 3 (sem_Ratio_init cls)) (eaCons (evC (.int 2)) (eaCons (evC (.int 3)) eaNil))))))
 (mRet (evC (.bl false)))
 mSkip)
def mc_law_1 (cls : Nat → Addr) : SM :=
 (mRet (evBin (fEq (eqsR cls) 5) (evCall (sem_best_heads cls) (eaCons (evC (.int 6)) (eaCons (evC (.int 2)) eaNil))) (evTup (eaCons (evCall (mkSem 3 (sem_Ratio_init cls)) (eaCons (evC (.int 1)) (eaCons (evC (.int 2)) eaNil))) (eaCons (evTup (eaCons (evCall (mkSem 0 (sem_Head_init cls)) (eaCons (evC (.int 0)) (eaCons (evC (.int 1)) eaNil))) (eaCons (evCall (mkSem 0 (sem_Head_init cls)) (eaCons (evC (.int 0)) (eaCons (evC (.int 2)) eaNil))) (eaCons (evCall (mkSem 0 (sem_Head_init cls)) (eaCons (evC (.int 0)) (eaCons (evC (.int 3)) eaNil))) (eaCons (evCall (mkSem 0 (sem_Head_init cls)) (eaCons (evC (.int 0)) (eaCons (evC (.int 4)) eaNil))) (eaCons (evCall (mkSem 0 (sem_Head_init cls)) (eaCons (evC (.int 0)) (eaCons (evC (.int 5)) eaNil))) eaNil)))))) eaNil)))))
def m_law (cls : Nat → Addr) : SM :=
 (mSeq (mSet 1 (evCall (sem_law_pen cls) (eaCons (evVar 0) eaNil)))
 (mSeq (mFor (evRng rng1 (eaCons (evC (.int 3)) eaNil)) (gmName 2)
 (mSeq (mSet 3 (evCall (sem_law_pick cls) (eaCons (evVar 1) (eaCons (evLst (eaCons (evC (.int 1)) (eaCons (evC (.int 2)) (eaCons (evC (.int 3)) (eaCons (evC (.int 4)) (eaCons (evC (.int 4)) (eaCons (evC (.int 5)) eaNil))))))) eaNil))))
 (mSeq (mSet 4 (evBin fAdd (evC (.int 1)) (evCall (sem_law_draw cls) (eaCons (evVar 1) (eaCons (evVar 3) eaNil)))))
 (mIf (etOr (etNot (evB (evCall (sem_law_best_right cls) (eaCons (evVar 3) (eaCons (evVar 4) (eaCons (evBin fAdd (evC (.int 1)) (evCall (sem_law_draw cls) (eaCons (evVar 1) (eaCons (evVar 4) eaNil)))) eaNil)))))) (etNot (evB (evCall (sem_law_wider_right cls) (eaCons (evCall (sem_law_pick cls) (eaCons (evVar 1) (eaCons (evLst (eaCons (evC (.int 2)) (eaCons (evC (.int 3)) (eaCons (evC (.int 4)) eaNil)))) eaNil))) (eaCons (evC (.int 2)) eaNil))))))
 (mRet (evC (.bl false)))
 mSkip))))
 (mSeq mForget
 mTrue)))
def sem_law (cls : Nat → Addr) : Fn := semB 1 4 (m_law cls)
structure Facts (P : Program) (K : PySem.W.Frag) (mg : Str → Option Value) (cls fa pa : Nat → Addr) (mc : Nat → Value) : Prop where
  n_isinstance : mg ("isinstance" : PySem.Str) = none
  isi : IsiOk K cls (tbl cls)
  n_int : mg ("int" : PySem.Str) = none
  n_bool : mg ("bool" : PySem.Str) = none
  kp_is_integer : PySem.W.keepIn K (.ref (fa 0)) = true
  g_is_integer : mg ("is_integer" : PySem.Str) = some (.ref (fa 0))
  kp_is_within : PySem.W.keepIn K (.ref (fa 1)) = true
  g_is_within : mg ("is_within" : PySem.Str) = some (.ref (fa 1))
  k_MOST_OFFSET : ∃ t, mg ("MOST_OFFSET" : PySem.Str) = some (.int 7 t)
  n_list : mg ("list" : PySem.Str) = none
  n_tuple : mg ("tuple" : PySem.Str) = none
  n_sorted : mg ("sorted" : PySem.Str) = none
  n_set : mg ("set" : PySem.Str) = none
  n_enumerate : mg ("enumerate" : PySem.Str) = none
  kp_is_offset : PySem.W.keepIn K (.ref (fa 2)) = true
  g_is_offset : mg ("is_offset" : PySem.Str) = some (.ref (fa 2))
  n_len : mg ("len" : PySem.Str) = none
  fld_Head_offsets : ∀ c ∈ [0], Cls K (cls c) ∧ NoAttr K (cls c) ("offsets" : PySem.Str)
  kp_is_list : PySem.W.keepIn K (.ref (fa 3)) = true
  g_is_list : mg ("is_list" : PySem.Str) = some (.ref (fa 3))
  mk_Head : Mk K (cls 0) (fa 5)
  kc_Head : PySem.W.keepIn K (.ref (cls 0)) = true
  c_Head : mg ("Head" : PySem.Str) = some (.ref (cls 0))
  n_all : mg ("all" : PySem.Str) = none
  k_GREATEST : ∃ t, mg ("GREATEST" : PySem.Str) = some (.int 7 t)
  kp_moved_head : PySem.W.keepIn K (.ref (fa 7)) = true
  g_moved_head : mg ("moved_head" : PySem.Str) = some (.ref (fa 7))
  n_range : mg ("range" : PySem.Str) = none
  ci_Head : Cls K (cls 0)
  pr_Head_span : PropOf K (cls 0) ("span" : PySem.Str) (pa 9) (fa 9)
  kp_ascending : PySem.W.keepIn K (.ref (fa 4)) = true
  g_ascending : mg ("ascending" : PySem.Str) = some (.ref (fa 4))
  n_str : mg ("str" : PySem.Str) = none
  n_dict : mg ("dict" : PySem.Str) = none
  n_any : mg ("any" : PySem.Str) = none
  kp_has_way : PySem.W.keepIn K (.ref (fa 14)) = true
  g_has_way : mg ("has_way" : PySem.Str) = some (.ref (fa 14))
  kp_ordered_ways : PySem.W.keepIn K (.ref (fa 15)) = true
  g_ordered_ways : mg ("ordered_ways" : PySem.Str) = some (.ref (fa 15))
  kp_subsets : PySem.W.keepIn K (.ref (fa 17)) = true
  g_subsets : mg ("subsets" : PySem.Str) = some (.ref (fa 17))
  kp_is_way : PySem.W.keepIn K (.ref (fa 13)) = true
  g_is_way : mg ("is_way" : PySem.Str) = some (.ref (fa 13))
  fld_Wish_ways : ∀ c ∈ [1], Cls K (cls c) ∧ NoAttr K (cls c) ("ways" : PySem.Str)
  kp_lean_ways : PySem.W.keepIn K (.ref (fa 16)) = true
  g_lean_ways : mg ("lean_ways" : PySem.Str) = some (.ref (fa 16))
  fld_Wish_offsets : ∀ c ∈ [1], Cls K (cls c) ∧ NoAttr K (cls c) ("offsets" : PySem.Str)
  cm_Head_len : PySem.W.findIn K (.ref (cls 0)) ("__len__" : PySem.Str) = some (some (.ref (fa 10)))
  isf_Head_len : PySem.W.isFn K (.ref (fa 10)) = true
  mk_Wish : Mk K (cls 1) (fa 18)
  kc_Wish : PySem.W.keepIn K (.ref (cls 1)) = true
  c_Wish : mg ("Wish" : PySem.Str) = some (.ref (cls 1))
  k_MOST_PLACE : ∃ t, mg ("MOST_PLACE" : PySem.Str) = some (.int 1000000000000000000000000000000 t)
  fld_Job_wish : ∀ c ∈ [2], Cls K (cls c) ∧ NoAttr K (cls c) ("wish" : PySem.Str)
  fld_Job_most : ∀ c ∈ [2], Cls K (cls c) ∧ NoAttr K (cls c) ("most" : PySem.Str)
  fld_Job_ahead : ∀ c ∈ [2], Cls K (cls c) ∧ NoAttr K (cls c) ("ahead" : PySem.Str)
  fld_Job_short : ∀ c ∈ [2], Cls K (cls c) ∧ NoAttr K (cls c) ("short" : PySem.Str)
  ci_Wish : Cls K (cls 1)
  pr_Wish_span : PropOf K (cls 1) ("span" : PySem.Str) (pa 21) (fa 21)
  ci_Job : Cls K (cls 2)
  pr_Job_span : PropOf K (cls 2) ("span" : PySem.Str) (pa 23) (fa 23)
  c_Job : mg ("Job" : PySem.Str) = some (.ref (cls 2))
  g_gcd : mg ("gcd" : PySem.Str) = some (.builtin "math.gcd")
  fld_Ratio_top : ∀ c ∈ [3], Cls K (cls c) ∧ NoAttr K (cls c) ("top" : PySem.Str)
  fld_Ratio_bottom : ∀ c ∈ [3], Cls K (cls c) ∧ NoAttr K (cls c) ("bottom" : PySem.Str)
  c_Ratio : mg ("Ratio" : PySem.Str) = some (.ref (cls 3))
  mk_Ratio : Mk K (cls 3) (fa 26)
  kc_Ratio : PySem.W.keepIn K (.ref (cls 3)) = true
  kp_ratio_of : PySem.W.keepIn K (.ref (fa 27)) = true
  g_ratio_of : mg ("ratio_of" : PySem.Str) = some (.ref (fa 27))
  ci_Ratio : Cls K (cls 3)
  me_Ratio_compare : Meth K (cls 3) ("compare" : PySem.Str) (fa 29)
  fld_Paper_parts : ∀ c ∈ [5, 4], Cls K (cls c) ∧ NoAttr K (cls c) ("parts" : PySem.Str)
  fld_Rated_least : ∀ c ∈ [4], Cls K (cls c) ∧ NoAttr K (cls c) ("least" : PySem.Str)
  fld_Rated_prices : ∀ c ∈ [4], Cls K (cls c) ∧ NoAttr K (cls c) ("prices" : PySem.Str)
  fld_Rated_ring : ∀ c ∈ [4], Cls K (cls c) ∧ NoAttr K (cls c) ("ring" : PySem.Str)
  k_SIGNS : ∃ t, mg ("SIGNS" : PySem.Str) = some (.str ("01" : PySem.Str) t)
  pr_Job_limit : PropOf K (cls 2) ("limit" : PySem.Str) (pa 24) (fa 24)
  me_Wish_is_met : Meth K (cls 1) ("is_met" : PySem.Str) (fa 20)
  kp_touching : PySem.W.keepIn K (.ref (fa 34)) = true
  g_touching : mg ("touching" : PySem.Str) = some (.ref (fa 34))
  kp_is_fed : PySem.W.keepIn K (.ref (fa 35)) = true
  g_is_fed : mg ("is_fed" : PySem.Str) = some (.ref (fa 35))
  kp_all_windows : PySem.W.keepIn K (.ref (fa 33)) = true
  g_all_windows : mg ("all_windows" : PySem.Str) = some (.ref (fa 33))
  kp_is_step : PySem.W.keepIn K (.ref (fa 36)) = true
  g_is_step : mg ("is_step" : PySem.Str) = some (.ref (fa 36))
  kp_cost_of : PySem.W.keepIn K (.ref (fa 39)) = true
  g_cost_of : mg ("cost_of" : PySem.Str) = some (.ref (fa 39))
  kp_behind : PySem.W.keepIn K (.ref (fa 37)) = true
  g_behind : mg ("behind" : PySem.Str) = some (.ref (fa 37))
  kp_lowered : PySem.W.keepIn K (.ref (fa 40)) = true
  g_lowered : mg ("lowered" : PySem.Str) = some (.ref (fa 40))
  kp_ring_from : PySem.W.keepIn K (.ref (fa 41)) = true
  g_ring_from : mg ("ring_from" : PySem.Str) = some (.ref (fa 41))
  kp_need_job : PySem.W.keepIn K (.ref (fa 25)) = true
  g_need_job : mg ("need_job" : PySem.Str) = some (.ref (fa 25))
  kp_web_of : PySem.W.keepIn K (.ref (fa 38)) = true
  g_web_of : mg ("web_of" : PySem.Str) = some (.ref (fa 38))
  kp_priced : PySem.W.keepIn K (.ref (fa 42)) = true
  g_priced : mg ("priced" : PySem.Str) = some (.ref (fa 42))
  kp_rate_of : PySem.W.keepIn K (.ref (fa 43)) = true
  g_rate_of : mg ("rate_of" : PySem.Str) = some (.ref (fa 43))
  mk_Rated : Mk K (cls 4) (fa 32)
  kc_Rated : PySem.W.keepIn K (.ref (cls 4)) = true
  c_Rated : mg ("Rated" : PySem.Str) = some (.ref (cls 4))
  kp_rated : PySem.W.keepIn K (.ref (fa 44)) = true
  g_rated : mg ("rated" : PySem.Str) = some (.ref (fa 44))
  k_MOST_SPAN : ∃ t, mg ("MOST_SPAN" : PySem.Str) = some (.int 6 t)
  kp_least_rate : PySem.W.keepIn K (.ref (fa 45)) = true
  g_least_rate : mg ("least_rate" : PySem.Str) = some (.ref (fa 45))
  mk_Job : Mk K (cls 2) (fa 22)
  kc_Job : PySem.W.keepIn K (.ref (cls 2)) = true
  cr_Wish : ClX.CRead K (cls 1) (mc 1)
  sm_Wish_dots : SMet K (cls 1) (mc 1) ("dots" : PySem.Str) (pa 19) (fa 19)
  cm_Ratio_lt : PySem.W.findIn K (.ref (cls 3)) ("__lt__" : PySem.Str) = some (some (.ref (fa 30)))
  isf_Ratio_lt : PySem.W.isFn K (.ref (fa 30)) = true
  n_abs : mg ("abs" : PySem.Str) = none
  kp_law_draw : PySem.W.keepIn K (.ref (fa 48)) = true
  g_law_draw : mg ("_law_draw" : PySem.Str) = some (.ref (fa 48))
  kp_best_heads : PySem.W.keepIn K (.ref (fa 46)) = true
  g_best_heads : mg ("best_heads" : PySem.Str) = some (.ref (fa 46))
  kp_law_heads : PySem.W.keepIn K (.ref (fa 50)) = true
  g_law_heads : mg ("_law_heads" : PySem.Str) = some (.ref (fa 50))
  cr_Head : ClX.CRead K (cls 0) (mc 0)
  sm_Head_of : SMet K (cls 0) (mc 0) ("of" : PySem.Str) (pa 6) (fa 6)
  sm_Head_even : SMet K (cls 0) (mc 0) ("even" : PySem.Str) (pa 8) (fa 8)
  cm_Head_invert : PySem.W.findIn K (.ref (cls 0)) ("__invert__" : PySem.Str) = some (some (.ref (fa 12)))
  isf_Head_invert : PySem.W.isFn K (.ref (fa 12)) = true
  kp_law_pen : PySem.W.keepIn K (.ref (fa 47)) = true
  g_law_pen : mg ("_law_pen" : PySem.Str) = some (.ref (fa 47))
  kp_law_pick : PySem.W.keepIn K (.ref (fa 49)) = true
  g_law_pick : mg ("_law_pick" : PySem.Str) = some (.ref (fa 49))
  kp_law_best_right : PySem.W.keepIn K (.ref (fa 51)) = true
  g_law_best_right : mg ("_law_best_right" : PySem.Str) = some (.ref (fa 51))
  kp_law_wider_right : PySem.W.keepIn K (.ref (fa 52)) = true
  g_law_wider_right : mg ("_law_wider_right" : PySem.Str) = some (.ref (fa 52))
  cl_mc_law_0 : clNx 5 (mc_law_0 cls) = true
  cl_mc_law_1 : clRt 5 (mc_law_1 cls) = true
  cm_Head_eq : PySem.W.findIn K (.ref (cls 0)) ("__eq__" : PySem.Str) = some (some (.ref (fa 11)))
  isf_Head_eq : PySem.W.isFn K (.ref (fa 11)) = true
  cm_Ratio_eq : PySem.W.findIn K (.ref (cls 3)) ("__eq__" : PySem.Str) = some (some (.ref (fa 28)))
  isf_Ratio_eq : PySem.W.isFn K (.ref (fa 28)) = true
  D_is_integer : ∃ fd, FunD K ("is_integer" : PySem.Str) ("is_integer" : PySem.Str) (defArgs s_is_integer) (defBody s_is_integer) (defScope s_is_integer) [] [] (fa 0) fd
  D_is_within : ∃ fd, FunD K ("is_within" : PySem.Str) ("is_within" : PySem.Str) (defArgs s_is_within) (defBody s_is_within) (defScope s_is_within) [] [] (fa 1) fd
  D_is_offset : ∃ fd, FunD K ("is_offset" : PySem.Str) ("is_offset" : PySem.Str) (defArgs s_is_offset) (defBody s_is_offset) (defScope s_is_offset) [] [] (fa 2) fd
  D_is_list : ∃ fd, FunD K ("is_list" : PySem.Str) ("is_list" : PySem.Str) (defArgs s_is_list) (defBody s_is_list) (defScope s_is_list) [] [] (fa 3) fd
  D_ascending : ∃ fd, FunD K ("ascending" : PySem.Str) ("ascending" : PySem.Str) (defArgs s_ascending) (defBody s_ascending) (defScope s_ascending) [] [] (fa 4) fd
  D_Head_init : ∃ fd, FunD K ("__init__" : PySem.Str) ("Head.__init__" : PySem.Str) (defArgs s_Head_init) (defBody s_Head_init) (defScope s_Head_init) [] [] (fa 5) fd
  D_Head_of : ∃ fd, FunD K ("of" : PySem.Str) ("Head.of" : PySem.Str) (defArgs s_Head_of) (defBody s_Head_of) (defScope s_Head_of) [] [] (fa 6) fd
  D_moved_head : ∃ fd, FunD K ("moved_head" : PySem.Str) ("moved_head" : PySem.Str) (defArgs s_moved_head) (defBody s_moved_head) (defScope s_moved_head) [] [] (fa 7) fd
  D_Head_even : ∃ fd, FunD K ("even" : PySem.Str) ("Head.even" : PySem.Str) (defArgs s_Head_even) (defBody s_Head_even) (defScope s_Head_even) [V.int 1] [] (fa 8) fd
  D_Head_span : ∃ fd, FunD K ("span" : PySem.Str) ("Head.span" : PySem.Str) (defArgs s_Head_span) (defBody s_Head_span) (defScope s_Head_span) [] [] (fa 9) fd
  D_Head_len : ∃ fd, FunD K ("__len__" : PySem.Str) ("Head.__len__" : PySem.Str) (defArgs s_Head_len) (defBody s_Head_len) (defScope s_Head_len) [] [] (fa 10) fd
  D_Head_eq : ∃ fd, FunD K ("__eq__" : PySem.Str) ("Head.__eq__" : PySem.Str) (defArgs s_Head_eq) (defBody s_Head_eq) (defScope s_Head_eq) [] [] (fa 11) fd
  D_Head_invert : ∃ fd, FunD K ("__invert__" : PySem.Str) ("Head.__invert__" : PySem.Str) (defArgs s_Head_invert) (defBody s_Head_invert) (defScope s_Head_invert) [] [] (fa 12) fd
  D_is_way : ∃ fd, FunD K ("is_way" : PySem.Str) ("is_way" : PySem.Str) (defArgs s_is_way) (defBody s_is_way) (defScope s_is_way) [] [] (fa 13) fd
  D_has_way : ∃ fd, FunD K ("has_way" : PySem.Str) ("has_way" : PySem.Str) (defArgs s_has_way) (defBody s_has_way) (defScope s_has_way) [] [] (fa 14) fd
  D_ordered_ways : ∃ fd, FunD K ("ordered_ways" : PySem.Str) ("ordered_ways" : PySem.Str) (defArgs s_ordered_ways) (defBody s_ordered_ways) (defScope s_ordered_ways) [] [] (fa 15) fd
  D_lean_ways : ∃ fd, FunD K ("lean_ways" : PySem.Str) ("lean_ways" : PySem.Str) (defArgs s_lean_ways) (defBody s_lean_ways) (defScope s_lean_ways) [] [] (fa 16) fd
  D_subsets : ∃ fd, FunD K ("subsets" : PySem.Str) ("subsets" : PySem.Str) (defArgs s_subsets) (defBody s_subsets) (defScope s_subsets) [] [] (fa 17) fd
  D_Wish_init : ∃ fd, FunD K ("__init__" : PySem.Str) ("Wish.__init__" : PySem.Str) (defArgs s_Wish_init) (defBody s_Wish_init) (defScope s_Wish_init) [] [] (fa 18) fd
  D_Wish_dots : ∃ fd, FunD K ("dots" : PySem.Str) ("Wish.dots" : PySem.Str) (defArgs s_Wish_dots) (defBody s_Wish_dots) (defScope s_Wish_dots) [V.int 1] [] (fa 19) fd
  D_Wish_is_met : ∃ fd, FunD K ("is_met" : PySem.Str) ("Wish.is_met" : PySem.Str) (defArgs s_Wish_is_met) (defBody s_Wish_is_met) (defScope s_Wish_is_met) [] [] (fa 20) fd
  D_Wish_span : ∃ fd, FunD K ("span" : PySem.Str) ("Wish.span" : PySem.Str) (defArgs s_Wish_span) (defBody s_Wish_span) (defScope s_Wish_span) [] [] (fa 21) fd
  D_Job_init : ∃ fd, FunD K ("__init__" : PySem.Str) ("Job.__init__" : PySem.Str) (defArgs s_Job_init) (defBody s_Job_init) (defScope s_Job_init) [V.non, V.int 7, V.int 0] [] (fa 22) fd
  D_Job_span : ∃ fd, FunD K ("span" : PySem.Str) ("Job.span" : PySem.Str) (defArgs s_Job_span) (defBody s_Job_span) (defScope s_Job_span) [] [] (fa 23) fd
  D_Job_limit : ∃ fd, FunD K ("limit" : PySem.Str) ("Job.limit" : PySem.Str) (defArgs s_Job_limit) (defBody s_Job_limit) (defScope s_Job_limit) [] [] (fa 24) fd
  D_need_job : ∃ fd, FunD K ("need_job" : PySem.Str) ("need_job" : PySem.Str) (defArgs s_need_job) (defBody s_need_job) (defScope s_need_job) [V.str ("job" : PySem.Str)] [] (fa 25) fd
  D_Ratio_init : ∃ fd, FunD K ("__init__" : PySem.Str) ("Ratio.__init__" : PySem.Str) (defArgs s_Ratio_init) (defBody s_Ratio_init) (defScope s_Ratio_init) [V.int 1] [] (fa 26) fd
  D_ratio_of : ∃ fd, FunD K ("ratio_of" : PySem.Str) ("ratio_of" : PySem.Str) (defArgs s_ratio_of) (defBody s_ratio_of) (defScope s_ratio_of) [] [] (fa 27) fd
  D_Ratio_eq : ∃ fd, FunD K ("__eq__" : PySem.Str) ("Ratio.__eq__" : PySem.Str) (defArgs s_Ratio_eq) (defBody s_Ratio_eq) (defScope s_Ratio_eq) [] [] (fa 28) fd
  D_Ratio_compare : ∃ fd, FunD K ("compare" : PySem.Str) ("Ratio.compare" : PySem.Str) (defArgs s_Ratio_compare) (defBody s_Ratio_compare) (defScope s_Ratio_compare) [] [] (fa 29) fd
  D_Ratio_lt : ∃ fd, FunD K ("__lt__" : PySem.Str) ("Ratio.__lt__" : PySem.Str) (defArgs s_Ratio_lt) (defBody s_Ratio_lt) (defScope s_Ratio_lt) [] [] (fa 30) fd
  D_Paper_init : ∃ fd, FunD K ("__init__" : PySem.Str) ("Paper.__init__" : PySem.Str) (defArgs s_Paper_init) (defBody s_Paper_init) (defScope s_Paper_init) [] [] (fa 31) fd
  SD_Rated_init : ∃ cc cdc, SupD P K ⟨("__init__" : PySem.Str), ("Rated.__init__" : PySem.Str), defArgs s_Rated_init, defBody s_Rated_init, defScope s_Rated_init, [(("__class__" : Str), cc)], cdc⟩ (fa 32) cc (cls 4)
  SM_Rated_init : ∀ c ∈ [4], SupM K (cls c) (cls 4) (fa 31) ("__init__" : PySem.Str)
  n_super : mg "super" = none
  D_all_windows : ∃ fd, FunD K ("all_windows" : PySem.Str) ("all_windows" : PySem.Str) (defArgs s_all_windows) (defBody s_all_windows) (defScope s_all_windows) [] [] (fa 33) fd
  D_touching : ∃ fd, FunD K ("touching" : PySem.Str) ("touching" : PySem.Str) (defArgs s_touching) (defBody s_touching) (defScope s_touching) [] [] (fa 34) fd
  D_is_fed : ∃ fd, FunD K ("is_fed" : PySem.Str) ("is_fed" : PySem.Str) (defArgs s_is_fed) (defBody s_is_fed) (defScope s_is_fed) [] [] (fa 35) fd
  D_is_step : ∃ fd, FunD K ("is_step" : PySem.Str) ("is_step" : PySem.Str) (defArgs s_is_step) (defBody s_is_step) (defScope s_is_step) [] [] (fa 36) fd
  D_behind : ∃ fd, FunD K ("behind" : PySem.Str) ("behind" : PySem.Str) (defArgs s_behind) (defBody s_behind) (defScope s_behind) [] [] (fa 37) fd
  D_web_of : ∃ fd, FunD K ("web_of" : PySem.Str) ("web_of" : PySem.Str) (defArgs s_web_of) (defBody s_web_of) (defScope s_web_of) [] [] (fa 38) fd
  D_cost_of : ∃ fd, FunD K ("cost_of" : PySem.Str) ("cost_of" : PySem.Str) (defArgs s_cost_of) (defBody s_cost_of) (defScope s_cost_of) [] [] (fa 39) fd
  D_lowered : ∃ fd, FunD K ("lowered" : PySem.Str) ("lowered" : PySem.Str) (defArgs s_lowered) (defBody s_lowered) (defScope s_lowered) [] [] (fa 40) fd
  D_ring_from : ∃ fd, FunD K ("ring_from" : PySem.Str) ("ring_from" : PySem.Str) (defArgs s_ring_from) (defBody s_ring_from) (defScope s_ring_from) [] [] (fa 41) fd
  D_priced : ∃ fd, FunD K ("priced" : PySem.Str) ("priced" : PySem.Str) (defArgs s_priced) (defBody s_priced) (defScope s_priced) [] [] (fa 42) fd
  D_rate_of : ∃ fd, FunD K ("rate_of" : PySem.Str) ("rate_of" : PySem.Str) (defArgs s_rate_of) (defBody s_rate_of) (defScope s_rate_of) [] [] (fa 43) fd
  D_rated : ∃ fd, FunD K ("rated" : PySem.Str) ("rated" : PySem.Str) (defArgs s_rated) (defBody s_rated) (defScope s_rated) [] [] (fa 44) fd
  D_least_rate : ∃ fd, FunD K ("least_rate" : PySem.Str) ("least_rate" : PySem.Str) (defArgs s_least_rate) (defBody s_least_rate) (defScope s_least_rate) [] [] (fa 45) fd
  D_best_heads : ∃ fd, FunD K ("best_heads" : PySem.Str) ("best_heads" : PySem.Str) (defArgs s_best_heads) (defBody s_best_heads) (defScope s_best_heads) [V.int 1] [] (fa 46) fd
  D_law_pen : ∃ fd, FunD K ("_law_pen" : PySem.Str) ("_law_pen" : PySem.Str) (defArgs s_law_pen) (defBody s_law_pen) (defScope s_law_pen) [] [] (fa 47) fd
  D_law_draw : ∃ fd, FunD K ("_law_draw" : PySem.Str) ("_law_draw" : PySem.Str) (defArgs s_law_draw) (defBody s_law_draw) (defScope s_law_draw) [] [] (fa 48) fd
  D_law_pick : ∃ fd, FunD K ("_law_pick" : PySem.Str) ("_law_pick" : PySem.Str) (defArgs s_law_pick) (defBody s_law_pick) (defScope s_law_pick) [] [] (fa 49) fd
  D_law_heads : ∃ fd, FunD K ("_law_heads" : PySem.Str) ("_law_heads" : PySem.Str) (defArgs s_law_heads) (defBody s_law_heads) (defScope s_law_heads) [] [] (fa 50) fd
  D_law_best_right : ∃ fd, FunD K ("_law_best_right" : PySem.Str) ("_law_best_right" : PySem.Str) (defArgs s_law_best_right) (defBody s_law_best_right) (defScope s_law_best_right) [] [] (fa 51) fd
  D_law_wider_right : ∃ fd, FunD K ("_law_wider_right" : PySem.Str) ("_law_wider_right" : PySem.Str) (defArgs s_law_wider_right) (defBody s_law_wider_right) (defScope s_law_wider_right) [] [] (fa 52) fd
  D_law : ∃ fd, FunD K ("law" : PySem.Str) ("law" : PySem.Str) (defArgs s_law) (defBody s_law) (defScope s_law) [] [] (fa 53) fd
  g_law : mg ("law" : PySem.Str) = some (.ref (fa 53))
  cls_eq : cls = clsA
  br_ok : ConstOk (sem0_law_best_right cls) tabBR
  wr_ok : ConstOk (sem0_law_wider_right cls) tabWR
  tab_ok : TabOk (sem0_least_rate cls) tabA
  n_iter : mg "iter" = none
  cm_Head_iter : PySem.W.findIn K (.ref (cls 0)) "__iter__" = some (some (.ref (fa 60)))
  isf_Head_iter : PySem.W.isFn K (.ref (fa 60)) = true
  D_Head_iter : ∃ fd, FunD K "__iter__" "Head.__iter__" (defArgs s_Head_iter) (defBody s_Head_iter) (defScope s_Head_iter) [] [] (fa 60) fd
  ne_0 : PySem.W.findIn K (.ref (cls 0)) "__ne__" = some (some (.builtin "object.__ne__"))
  mo_0 : PySem.W.mroIn K (cls 0) (.type "object") = some true
  ne_3 : PySem.W.findIn K (.ref (cls 3)) "__ne__" = some (some (.builtin "object.__ne__"))
  mo_3 : PySem.W.mroIn K (cls 3) (.type "object") = some true
section
variable {P : Program} {w : World} {K : PySem.W.Frag} {mg : Str → Option Value} {base : Heap} {cls fa pa : Nat → Addr} {mc : Nat → Value}

theorem d_is_integer (F : Facts P K mg cls fa pa mc) (cdv : Value) (A : Around) (outer : List Env) (s : Shared) (H : Hp) (E : XK) (hr : Room 0 (A.deeper (envOfC ("is_integer" : PySem.Str) (defScope s_is_integer) s.heap.objs.size (fa 0) cdv))) :
    SSs (CxF P w K mg base [("value" : PySem.Str)] ("is_integer" : PySem.Str) (defScope s_is_integer) (fa 0) cdv A outer s H E) cls (fun c d _ H' => E c d H') (defBody s_is_integer) (m_is_integer cls) := by
  have nd := (sc_is_integer).nd
  have hc : (CxF P w K mg base [("value" : PySem.Str)] ("is_integer" : PySem.Str) (defScope s_is_integer) (fa 0) cdv A outer s H E).calm = true := rfl
  have hu : (CxF P w K mg base [("value" : PySem.Str)] ("is_integer" : PySem.Str) (defScope s_is_integer) (fa 0) cdv A outer s H E).A.units + 1 < cLine := by have := hr.un; show (A.deeper (envOfC ("is_integer" : PySem.Str) (defScope s_is_integer) s.heap.objs.size (fa 0) cdv)).units + 1 < cLine; omega
  have hu2 : (CxF P w K mg base [("value" : PySem.Str)] ("is_integer" : PySem.Str) (defScope s_is_integer) (fa 0) cdv A outer s H E).A.units + 2 < cLine := by have := hr.un; show (A.deeper (envOfC ("is_integer" : PySem.Str) (defScope s_is_integer) s.heap.objs.size (fa 0) cdv)).units + 2 < cLine; omega
  have tk : Takes (CxF P w K mg base [("value" : PySem.Str)] ("is_integer" : PySem.Str) (defScope s_is_integer) (fa 0) cdv A outer s H E) (fun c d _ H' => E c d H') := takes_of rfl rfl rfl rfl
  have hp : PassesOwn (model P w) (CxF P w K mg base [("value" : PySem.Str)] ("is_integer" : PySem.Str) (defScope s_is_integer) (fa 0) cdv A outer s H E).A (CxF P w K mg base [("value" : PySem.Str)] ("is_integer" : PySem.Str) (defScope s_is_integer) (fa 0) cdv A outer s H E).env (CxF P w K mg base [("value" : PySem.Str)] ("is_integer" : PySem.Str) (defScope s_is_integer) (fa 0) cdv A outer s H E).xe := passes_of rfl
  exact
   (sss_one (ss_ret (se_and (se_callB F.n_isinstance (by decide +kernel) (cal_isi F.isi) (sa_cons (se_var 0) (sa_cons (se_bty (T := "int") F.n_int (by decide +kernel)) sa_nil))) (se_one (se_not (se_callB F.n_isinstance (by decide +kernel) (cal_isi F.isi) (sa_cons (se_var 0) (sa_cons (se_bty (T := "bool") F.n_bool (by decide +kernel)) sa_nil))))))))
theorem G_is_integer (F : Facts P K mg cls fa pa mc) : FnG P w K mg base cls (0 + 1) (fa 0) (sem_is_integer cls) := by
  obtain ⟨fd, D⟩ := F.D_is_integer
  exact fnG_all (fn_body (P := P) (w := w) (mg := mg) (base := base) (cls := cls) (d := 0) D sc_is_integer rfl (fun cdv A outer s H E hr => d_is_integer F cdv A outer s H E hr)) (D.bindsN (ps := [("value" : PySem.Str)]) fun _ _ _ _ _ _ us hl => match us, hl with | [_], _ => rfl)
theorem d_is_within (F : Facts P K mg cls fa pa mc) (cdv : Value) (A : Around) (outer : List Env) (s : Shared) (H : Hp) (E : XK) (hr : Room 1 (A.deeper (envOfC ("is_within" : PySem.Str) (defScope s_is_within) s.heap.objs.size (fa 1) cdv))) :
    SSs (CxF P w K mg base [("value" : PySem.Str), ("low" : PySem.Str), ("high" : PySem.Str)] ("is_within" : PySem.Str) (defScope s_is_within) (fa 1) cdv A outer s H E) cls (fun c d _ H' => E c d H') (defBody s_is_within) (m_is_within cls) := by
  have nd := (sc_is_within).nd
  have hc : (CxF P w K mg base [("value" : PySem.Str), ("low" : PySem.Str), ("high" : PySem.Str)] ("is_within" : PySem.Str) (defScope s_is_within) (fa 1) cdv A outer s H E).calm = true := rfl
  have hu : (CxF P w K mg base [("value" : PySem.Str), ("low" : PySem.Str), ("high" : PySem.Str)] ("is_within" : PySem.Str) (defScope s_is_within) (fa 1) cdv A outer s H E).A.units + 1 < cLine := by have := hr.un; show (A.deeper (envOfC ("is_within" : PySem.Str) (defScope s_is_within) s.heap.objs.size (fa 1) cdv)).units + 1 < cLine; omega
  have hu2 : (CxF P w K mg base [("value" : PySem.Str), ("low" : PySem.Str), ("high" : PySem.Str)] ("is_within" : PySem.Str) (defScope s_is_within) (fa 1) cdv A outer s H E).A.units + 2 < cLine := by have := hr.un; show (A.deeper (envOfC ("is_within" : PySem.Str) (defScope s_is_within) s.heap.objs.size (fa 1) cdv)).units + 2 < cLine; omega
  have tk : Takes (CxF P w K mg base [("value" : PySem.Str), ("low" : PySem.Str), ("high" : PySem.Str)] ("is_within" : PySem.Str) (defScope s_is_within) (fa 1) cdv A outer s H E) (fun c d _ H' => E c d H') := takes_of rfl rfl rfl rfl
  have hp : PassesOwn (model P w) (CxF P w K mg base [("value" : PySem.Str), ("low" : PySem.Str), ("high" : PySem.Str)] ("is_within" : PySem.Str) (defScope s_is_within) (fa 1) cdv A outer s H E).A (CxF P w K mg base [("value" : PySem.Str), ("low" : PySem.Str), ("high" : PySem.Str)] ("is_within" : PySem.Str) (defScope s_is_within) (fa 1) cdv A outer s H E).env (CxF P w K mg base [("value" : PySem.Str), ("low" : PySem.Str), ("high" : PySem.Str)] ("is_within" : PySem.Str) (defScope s_is_within) (fa 1) cdv A outer s H E).xe := passes_of rfl
  exact
   (sss_one (ss_ret (se_and (se_call (cal_fn (G_is_integer F) (hr.mono (by decide)) tk) F.kp_is_integer F.g_is_integer (sa_cons (se_var 0) sa_nil)) (se_one (se_chain ow_le ow_le (se_var 1) (se_var 0) (se_var 2))))))
theorem G_is_within (F : Facts P K mg cls fa pa mc) : FnG P w K mg base cls (1 + 1) (fa 1) (sem_is_within cls) := by
  obtain ⟨fd, D⟩ := F.D_is_within
  exact fnG_all (fn_body (P := P) (w := w) (mg := mg) (base := base) (cls := cls) (d := 0) D sc_is_within rfl (fun cdv A outer s H E hr => d_is_within F cdv A outer s H E hr)) (D.bindsN (ps := [("value" : PySem.Str), ("low" : PySem.Str), ("high" : PySem.Str)]) fun _ _ _ _ _ _ us hl => match us, hl with | [_, _, _], _ => rfl)
theorem d_is_offset (F : Facts P K mg cls fa pa mc) (cdv : Value) (A : Around) (outer : List Env) (s : Shared) (H : Hp) (E : XK) (hr : Room 2 (A.deeper (envOfC ("is_offset" : PySem.Str) (defScope s_is_offset) s.heap.objs.size (fa 2) cdv))) :
    SSs (CxF P w K mg base [("value" : PySem.Str)] ("is_offset" : PySem.Str) (defScope s_is_offset) (fa 2) cdv A outer s H E) cls (fun c d _ H' => E c d H') (defBody s_is_offset) (m_is_offset cls) := by
  have nd := (sc_is_offset).nd
  have hc : (CxF P w K mg base [("value" : PySem.Str)] ("is_offset" : PySem.Str) (defScope s_is_offset) (fa 2) cdv A outer s H E).calm = true := rfl
  have hu : (CxF P w K mg base [("value" : PySem.Str)] ("is_offset" : PySem.Str) (defScope s_is_offset) (fa 2) cdv A outer s H E).A.units + 1 < cLine := by have := hr.un; show (A.deeper (envOfC ("is_offset" : PySem.Str) (defScope s_is_offset) s.heap.objs.size (fa 2) cdv)).units + 1 < cLine; omega
  have hu2 : (CxF P w K mg base [("value" : PySem.Str)] ("is_offset" : PySem.Str) (defScope s_is_offset) (fa 2) cdv A outer s H E).A.units + 2 < cLine := by have := hr.un; show (A.deeper (envOfC ("is_offset" : PySem.Str) (defScope s_is_offset) s.heap.objs.size (fa 2) cdv)).units + 2 < cLine; omega
  have tk : Takes (CxF P w K mg base [("value" : PySem.Str)] ("is_offset" : PySem.Str) (defScope s_is_offset) (fa 2) cdv A outer s H E) (fun c d _ H' => E c d H') := takes_of rfl rfl rfl rfl
  have hp : PassesOwn (model P w) (CxF P w K mg base [("value" : PySem.Str)] ("is_offset" : PySem.Str) (defScope s_is_offset) (fa 2) cdv A outer s H E).A (CxF P w K mg base [("value" : PySem.Str)] ("is_offset" : PySem.Str) (defScope s_is_offset) (fa 2) cdv A outer s H E).env (CxF P w K mg base [("value" : PySem.Str)] ("is_offset" : PySem.Str) (defScope s_is_offset) (fa 2) cdv A outer s H E).xe := passes_of rfl
  exact
   (sss_one (ss_ret (se_call (cal_fn (G_is_within F) (hr.mono (by decide)) tk) F.kp_is_within F.g_is_within (sa_cons (se_var 0) (sa_cons se_int (sa_cons (se_gint rfl F.k_MOST_OFFSET) sa_nil))))))
theorem G_is_offset (F : Facts P K mg cls fa pa mc) : FnG P w K mg base cls (2 + 1) (fa 2) (sem_is_offset cls) := by
  obtain ⟨fd, D⟩ := F.D_is_offset
  exact fnG_all (fn_body (P := P) (w := w) (mg := mg) (base := base) (cls := cls) (d := 0) D sc_is_offset rfl (fun cdv A outer s H E hr => d_is_offset F cdv A outer s H E hr)) (D.bindsN (ps := [("value" : PySem.Str)]) fun _ _ _ _ _ _ us hl => match us, hl with | [_], _ => rfl)
theorem d_is_list (F : Facts P K mg cls fa pa mc) (cdv : Value) (A : Around) (outer : List Env) (s : Shared) (H : Hp) (E : XK) (hr : Room 0 (A.deeper (envOfC ("is_list" : PySem.Str) (defScope s_is_list) s.heap.objs.size (fa 3) cdv))) :
    SSs (CxF P w K mg base [("value" : PySem.Str)] ("is_list" : PySem.Str) (defScope s_is_list) (fa 3) cdv A outer s H E) cls (fun c d _ H' => E c d H') (defBody s_is_list) (m_is_list cls) := by
  have nd := (sc_is_list).nd
  have hc : (CxF P w K mg base [("value" : PySem.Str)] ("is_list" : PySem.Str) (defScope s_is_list) (fa 3) cdv A outer s H E).calm = true := rfl
  have hu : (CxF P w K mg base [("value" : PySem.Str)] ("is_list" : PySem.Str) (defScope s_is_list) (fa 3) cdv A outer s H E).A.units + 1 < cLine := by have := hr.un; show (A.deeper (envOfC ("is_list" : PySem.Str) (defScope s_is_list) s.heap.objs.size (fa 3) cdv)).units + 1 < cLine; omega
  have hu2 : (CxF P w K mg base [("value" : PySem.Str)] ("is_list" : PySem.Str) (defScope s_is_list) (fa 3) cdv A outer s H E).A.units + 2 < cLine := by have := hr.un; show (A.deeper (envOfC ("is_list" : PySem.Str) (defScope s_is_list) s.heap.objs.size (fa 3) cdv)).units + 2 < cLine; omega
  have tk : Takes (CxF P w K mg base [("value" : PySem.Str)] ("is_list" : PySem.Str) (defScope s_is_list) (fa 3) cdv A outer s H E) (fun c d _ H' => E c d H') := takes_of rfl rfl rfl rfl
  have hp : PassesOwn (model P w) (CxF P w K mg base [("value" : PySem.Str)] ("is_list" : PySem.Str) (defScope s_is_list) (fa 3) cdv A outer s H E).A (CxF P w K mg base [("value" : PySem.Str)] ("is_list" : PySem.Str) (defScope s_is_list) (fa 3) cdv A outer s H E).env (CxF P w K mg base [("value" : PySem.Str)] ("is_list" : PySem.Str) (defScope s_is_list) (fa 3) cdv A outer s H E).xe := passes_of rfl
  exact
   (sss_one (ss_ret (se_callB F.n_isinstance (by decide +kernel) (cal_isi F.isi) (sa_cons (se_var 0) (sa_cons (se_tup (sa_cons (se_bty (T := "list") F.n_list (by decide +kernel)) (sa_cons (se_bty (T := "tuple") F.n_tuple (by decide +kernel)) sa_nil))) sa_nil)))))
theorem G_is_list (F : Facts P K mg cls fa pa mc) : FnG P w K mg base cls (0 + 1) (fa 3) (sem_is_list cls) := by
  obtain ⟨fd, D⟩ := F.D_is_list
  exact fnG_all (fn_body (P := P) (w := w) (mg := mg) (base := base) (cls := cls) (d := 0) D sc_is_list rfl (fun cdv A outer s H E hr => d_is_list F cdv A outer s H E hr)) (D.bindsN (ps := [("value" : PySem.Str)]) fun _ _ _ _ _ _ us hl => match us, hl with | [_], _ => rfl)
theorem d_ascending (F : Facts P K mg cls fa pa mc) (cdv : Value) (A : Around) (outer : List Env) (s : Shared) (H : Hp) (E : XK) (hr : Room 0 (A.deeper (envOfC ("ascending" : PySem.Str) (defScope s_ascending) s.heap.objs.size (fa 4) cdv))) :
    SSs (CxF P w K mg base [("values" : PySem.Str)] ("ascending" : PySem.Str) (defScope s_ascending) (fa 4) cdv A outer s H E) cls (fun c d _ H' => E c d H') (defBody s_ascending) (m_ascending cls) := by
  have nd := (sc_ascending).nd
  have hc : (CxF P w K mg base [("values" : PySem.Str)] ("ascending" : PySem.Str) (defScope s_ascending) (fa 4) cdv A outer s H E).calm = true := rfl
  have hu : (CxF P w K mg base [("values" : PySem.Str)] ("ascending" : PySem.Str) (defScope s_ascending) (fa 4) cdv A outer s H E).A.units + 1 < cLine := by have := hr.un; show (A.deeper (envOfC ("ascending" : PySem.Str) (defScope s_ascending) s.heap.objs.size (fa 4) cdv)).units + 1 < cLine; omega
  have hu2 : (CxF P w K mg base [("values" : PySem.Str)] ("ascending" : PySem.Str) (defScope s_ascending) (fa 4) cdv A outer s H E).A.units + 2 < cLine := by have := hr.un; show (A.deeper (envOfC ("ascending" : PySem.Str) (defScope s_ascending) s.heap.objs.size (fa 4) cdv)).units + 2 < cLine; omega
  have tk : Takes (CxF P w K mg base [("values" : PySem.Str)] ("ascending" : PySem.Str) (defScope s_ascending) (fa 4) cdv A outer s H E) (fun c d _ H' => E c d H') := takes_of rfl rfl rfl rfl
  have hp : PassesOwn (model P w) (CxF P w K mg base [("values" : PySem.Str)] ("ascending" : PySem.Str) (defScope s_ascending) (fa 4) cdv A outer s H E).A (CxF P w K mg base [("values" : PySem.Str)] ("ascending" : PySem.Str) (defScope s_ascending) (fa 4) cdv A outer s H E).env (CxF P w K mg base [("values" : PySem.Str)] ("ascending" : PySem.Str) (defScope s_ascending) (fa 4) cdv A outer s H E).xe := passes_of rfl
  exact
   (sss_one (ss_ret (se_callTy F.n_tuple (by decide +kernel) cal_tuple (sa_cons (se_sset hc F.n_sorted F.n_set (se_var 0)) sa_nil))))
theorem G_ascending (F : Facts P K mg cls fa pa mc) : FnG P w K mg base cls (0 + 1) (fa 4) (sem_ascending cls) := by
  obtain ⟨fd, D⟩ := F.D_ascending
  exact fnG_all (fn_body (P := P) (w := w) (mg := mg) (base := base) (cls := cls) (d := 0) D sc_ascending rfl (fun cdv A outer s H E hr => d_ascending F cdv A outer s H E hr)) (D.bindsN (ps := [("values" : PySem.Str)]) fun _ _ _ _ _ _ us hl => match us, hl with | [_], _ => rfl)
theorem d_Head_init (F : Facts P K mg cls fa pa mc) (cdv : Value) (A : Around) (outer : List Env) (s : Shared) (H : Hp) (E : XK) (hr : Room 6 (A.deeper (envOfC ("Head.__init__" : PySem.Str) (defScope s_Head_init) s.heap.objs.size (fa 5) cdv))) :
    SSs (CxF P w K mg base [("self" : PySem.Str), ("offsets" : PySem.Str), ("at" : PySem.Str), ("offset" : PySem.Str)] ("Head.__init__" : PySem.Str) (defScope s_Head_init) (fa 5) cdv A outer s H E) cls (fun c d _ H' => E c d H') (defBody s_Head_init) (m_Head_init cls) := by
  have nd := (sc_Head_init).nd
  have hc : (CxF P w K mg base [("self" : PySem.Str), ("offsets" : PySem.Str), ("at" : PySem.Str), ("offset" : PySem.Str)] ("Head.__init__" : PySem.Str) (defScope s_Head_init) (fa 5) cdv A outer s H E).calm = true := rfl
  have hu : (CxF P w K mg base [("self" : PySem.Str), ("offsets" : PySem.Str), ("at" : PySem.Str), ("offset" : PySem.Str)] ("Head.__init__" : PySem.Str) (defScope s_Head_init) (fa 5) cdv A outer s H E).A.units + 1 < cLine := by have := hr.un; show (A.deeper (envOfC ("Head.__init__" : PySem.Str) (defScope s_Head_init) s.heap.objs.size (fa 5) cdv)).units + 1 < cLine; omega
  have hu2 : (CxF P w K mg base [("self" : PySem.Str), ("offsets" : PySem.Str), ("at" : PySem.Str), ("offset" : PySem.Str)] ("Head.__init__" : PySem.Str) (defScope s_Head_init) (fa 5) cdv A outer s H E).A.units + 2 < cLine := by have := hr.un; show (A.deeper (envOfC ("Head.__init__" : PySem.Str) (defScope s_Head_init) s.heap.objs.size (fa 5) cdv)).units + 2 < cLine; omega
  have tk : Takes (CxF P w K mg base [("self" : PySem.Str), ("offsets" : PySem.Str), ("at" : PySem.Str), ("offset" : PySem.Str)] ("Head.__init__" : PySem.Str) (defScope s_Head_init) (fa 5) cdv A outer s H E) (fun c d _ H' => E c d H') := takes_of rfl rfl rfl rfl
  have hp : PassesOwn (model P w) (CxF P w K mg base [("self" : PySem.Str), ("offsets" : PySem.Str), ("at" : PySem.Str), ("offset" : PySem.Str)] ("Head.__init__" : PySem.Str) (defScope s_Head_init) (fa 5) cdv A outer s H E).A (CxF P w K mg base [("self" : PySem.Str), ("offsets" : PySem.Str), ("at" : PySem.Str), ("offset" : PySem.Str)] ("Head.__init__" : PySem.Str) (defScope s_Head_init) (fa 5) cdv A outer s H E).env (CxF P w K mg base [("self" : PySem.Str), ("offsets" : PySem.Str), ("at" : PySem.Str), ("offset" : PySem.Str)] ("Head.__init__" : PySem.Str) (defScope s_Head_init) (fa 5) cdv A outer s H E).xe := passes_of rfl
  exact
   (sss_cons (ss_for hp hc (si_enum F.n_enumerate (sa_cons (se_var 1) sa_nil)) (sg_tup hc (sgs_cons (sg_name (i := 2) nd) (sgs_cons (sg_name (i := 3) nd) sgs_nil)))
 (sss_one (ss_if (st_not (st_val (se_call (cal_fn (G_is_offset F) (hr.mono (by decide)) tk) F.kp_is_offset F.g_is_offset (sa_cons (se_var 3) sa_nil))))
 (sss_one ss_never)
 sss_nil)))
 (sss_cons (ss_if (st_cmp (ow_eq (f := 4) eqOk0 (hr.mono (by decide))) (se_callB F.n_len (by decide +kernel) (cal_len) (sa_cons (se_var 1) sa_nil)) se_int)
 (sss_one ss_never)
 sss_nil)
 (sss_cons (ss_if (st_cmp ow_lt (se_lset hc F.n_len F.n_set (se_var 1)) (se_callB F.n_len (by decide +kernel) (cal_len) (sa_cons (se_var 1) sa_nil)))
 (sss_one ss_never)
 sss_nil)
 (sss_one (ss_fld (cs := [0]) (F.fld_Head_offsets) (se_var 0) (se_callTy F.n_tuple (by decide +kernel) cal_tuple (sa_cons (se_callB F.n_sorted (by decide +kernel) (cal_sortI) (sa_cons (se_lc [(("offset" : PySem.Str), 3)] hc nd (si_seq (se_var 1)) (fun _ _ _ _ _ => pg_name (i := 3) nd rfl (by first | exact .inl rfl | exact .inr rfl)) (cg_name (by decide)) (fun _ _ _ _ _ => sifs_nil) (fun _ _ _ _ _ => (se_callTy F.n_int (by decide +kernel) cal_int (sa_cons (se_var 3) sa_nil))) (ok := blkOk_by (by kernel_rfl))) sa_nil)) sa_nil)))))))
theorem G_Head_init (F : Facts P K mg cls fa pa mc) : FnG P w K mg base cls (6 + 1) (fa 5) (sem_Head_init cls) := by
  obtain ⟨fd, D⟩ := F.D_Head_init
  exact fn_starG (ps := [("self" : PySem.Str)]) (pv := ("offsets" : PySem.Str)) (d := 2) D sc_Head_init rfl (fun _ _ _ _ _ _ us rest hl => match us, rest, hl with | [_], [], _ => rfl | [_], _ :: _, _ => rfl) (fun cdv A outer s H E hr => d_Head_init F cdv A outer s H E hr)
theorem d_Head_of (F : Facts P K mg cls fa pa mc) (cdv : Value) (A : Around) (outer : List Env) (s : Shared) (H : Hp) (E : XK) (hr : Room 8 (A.deeper (envOfC ("Head.of" : PySem.Str) (defScope s_Head_of) s.heap.objs.size (fa 6) cdv))) :
    SSs (CxF P w K mg base [("offsets" : PySem.Str)] ("Head.of" : PySem.Str) (defScope s_Head_of) (fa 6) cdv A outer s H E) cls (fun c d _ H' => E c d H') (defBody s_Head_of) (m_Head_of cls) := by
  have nd := (sc_Head_of).nd
  have hc : (CxF P w K mg base [("offsets" : PySem.Str)] ("Head.of" : PySem.Str) (defScope s_Head_of) (fa 6) cdv A outer s H E).calm = true := rfl
  have hu : (CxF P w K mg base [("offsets" : PySem.Str)] ("Head.of" : PySem.Str) (defScope s_Head_of) (fa 6) cdv A outer s H E).A.units + 1 < cLine := by have := hr.un; show (A.deeper (envOfC ("Head.of" : PySem.Str) (defScope s_Head_of) s.heap.objs.size (fa 6) cdv)).units + 1 < cLine; omega
  have hu2 : (CxF P w K mg base [("offsets" : PySem.Str)] ("Head.of" : PySem.Str) (defScope s_Head_of) (fa 6) cdv A outer s H E).A.units + 2 < cLine := by have := hr.un; show (A.deeper (envOfC ("Head.of" : PySem.Str) (defScope s_Head_of) s.heap.objs.size (fa 6) cdv)).units + 2 < cLine; omega
  have tk : Takes (CxF P w K mg base [("offsets" : PySem.Str)] ("Head.of" : PySem.Str) (defScope s_Head_of) (fa 6) cdv A outer s H E) (fun c d _ H' => E c d H') := takes_of rfl rfl rfl rfl
  have hp : PassesOwn (model P w) (CxF P w K mg base [("offsets" : PySem.Str)] ("Head.of" : PySem.Str) (defScope s_Head_of) (fa 6) cdv A outer s H E).A (CxF P w K mg base [("offsets" : PySem.Str)] ("Head.of" : PySem.Str) (defScope s_Head_of) (fa 6) cdv A outer s H E).env (CxF P w K mg base [("offsets" : PySem.Str)] ("Head.of" : PySem.Str) (defScope s_Head_of) (fa 6) cdv A outer s H E).xe := passes_of rfl
  exact
   (sss_cons (ss_if (st_not (st_val (se_call (cal_fn (G_is_list F) (hr.mono (by decide)) tk) F.kp_is_list F.g_is_list (sa_cons (se_var 0) sa_nil))))
 (sss_one ss_never)
 sss_nil)
 (sss_one (ss_ret (se_callS1 (cal_make F.mk_Head (G_Head_init F) (hr.mono (by decide)) tk) F.kc_Head F.c_Head (se_var 0)))))
theorem G_Head_of (F : Facts P K mg cls fa pa mc) : FnG P w K mg base cls (8 + 1) (fa 6) (sem_Head_of cls) := by
  obtain ⟨fd, D⟩ := F.D_Head_of
  exact fnG_all (fn_body (P := P) (w := w) (mg := mg) (base := base) (cls := cls) (d := 0) D sc_Head_of rfl (fun cdv A outer s H E hr => d_Head_of F cdv A outer s H E hr)) (D.bindsN (ps := [("offsets" : PySem.Str)]) fun _ _ _ _ _ _ us hl => match us, hl with | [_], _ => rfl)
theorem d_moved_head (F : Facts P K mg cls fa pa mc) (cdv : Value) (A : Around) (outer : List Env) (s : Shared) (H : Hp) (E : XK) (hr : Room 8 (A.deeper (envOfC ("moved_head" : PySem.Str) (defScope s_moved_head) s.heap.objs.size (fa 7) cdv))) :
    SSs (CxF P w K mg base [("offsets" : PySem.Str), ("offset" : PySem.Str)] ("moved_head" : PySem.Str) (defScope s_moved_head) (fa 7) cdv A outer s H E) cls (fun c d _ H' => E c d H') (defBody s_moved_head) (m_moved_head cls) := by
  have nd := (sc_moved_head).nd
  have hc : (CxF P w K mg base [("offsets" : PySem.Str), ("offset" : PySem.Str)] ("moved_head" : PySem.Str) (defScope s_moved_head) (fa 7) cdv A outer s H E).calm = true := rfl
  have hu : (CxF P w K mg base [("offsets" : PySem.Str), ("offset" : PySem.Str)] ("moved_head" : PySem.Str) (defScope s_moved_head) (fa 7) cdv A outer s H E).A.units + 1 < cLine := by have := hr.un; show (A.deeper (envOfC ("moved_head" : PySem.Str) (defScope s_moved_head) s.heap.objs.size (fa 7) cdv)).units + 1 < cLine; omega
  have hu2 : (CxF P w K mg base [("offsets" : PySem.Str), ("offset" : PySem.Str)] ("moved_head" : PySem.Str) (defScope s_moved_head) (fa 7) cdv A outer s H E).A.units + 2 < cLine := by have := hr.un; show (A.deeper (envOfC ("moved_head" : PySem.Str) (defScope s_moved_head) s.heap.objs.size (fa 7) cdv)).units + 2 < cLine; omega
  have tk : Takes (CxF P w K mg base [("offsets" : PySem.Str), ("offset" : PySem.Str)] ("moved_head" : PySem.Str) (defScope s_moved_head) (fa 7) cdv A outer s H E) (fun c d _ H' => E c d H') := takes_of rfl rfl rfl rfl
  have hp : PassesOwn (model P w) (CxF P w K mg base [("offsets" : PySem.Str), ("offset" : PySem.Str)] ("moved_head" : PySem.Str) (defScope s_moved_head) (fa 7) cdv A outer s H E).A (CxF P w K mg base [("offsets" : PySem.Str), ("offset" : PySem.Str)] ("moved_head" : PySem.Str) (defScope s_moved_head) (fa 7) cdv A outer s H E).env (CxF P w K mg base [("offsets" : PySem.Str), ("offset" : PySem.Str)] ("moved_head" : PySem.Str) (defScope s_moved_head) (fa 7) cdv A outer s H E).xe := passes_of rfl
  exact
   (sss_cons (ss_if (st_not (st_val (se_callB F.n_all (by decide +kernel) (cal_all rfl) (sa_cons (se_lc [(("offset" : PySem.Str), 1)] hc nd (si_seq (se_var 0)) (fun _ _ _ _ _ => pg_name (i := 1) nd rfl (by first | exact .inl rfl | exact .inr rfl)) (cg_name (by decide)) (fun _ _ _ _ _ => sifs_nil) (fun _ _ _ _ _ => (se_call (cal_fn (G_is_offset F) (hr.mono (by decide)) takes0) F.kp_is_offset F.g_is_offset (sa_cons (se_var 1) sa_nil))) (ok := blkOk_by (by kernel_rfl))) sa_nil))))
 (sss_one ss_never)
 sss_nil)
 (sss_one (ss_ret (se_callS1 (cal_make F.mk_Head (G_Head_init F) (hr.mono (by decide)) tk) F.kc_Head F.c_Head (se_var 0)))))
theorem G_moved_head (F : Facts P K mg cls fa pa mc) : FnG P w K mg base cls (8 + 1) (fa 7) (sem_moved_head cls) := by
  obtain ⟨fd, D⟩ := F.D_moved_head
  exact fnG_all (fn_body (P := P) (w := w) (mg := mg) (base := base) (cls := cls) (d := 1) D sc_moved_head rfl (fun cdv A outer s H E hr => d_moved_head F cdv A outer s H E hr)) (D.bindsN (ps := [("offsets" : PySem.Str)]) fun _ _ _ _ _ _ us hl => match us, hl with | [_], _ => rfl)
theorem d_Head_even (F : Facts P K mg cls fa pa mc) (cdv : Value) (A : Around) (outer : List Env) (s : Shared) (H : Hp) (E : XK) (hr : Room 9 (A.deeper (envOfC ("Head.even" : PySem.Str) (defScope s_Head_even) s.heap.objs.size (fa 8) cdv))) :
    SSs (CxF P w K mg base [("many" : PySem.Str), ("step" : PySem.Str), ("place" : PySem.Str)] ("Head.even" : PySem.Str) (defScope s_Head_even) (fa 8) cdv A outer s H E) cls (fun c d _ H' => E c d H') (defBody s_Head_even) (m_Head_even cls) := by
  have nd := (sc_Head_even).nd
  have hc : (CxF P w K mg base [("many" : PySem.Str), ("step" : PySem.Str), ("place" : PySem.Str)] ("Head.even" : PySem.Str) (defScope s_Head_even) (fa 8) cdv A outer s H E).calm = true := rfl
  have hu : (CxF P w K mg base [("many" : PySem.Str), ("step" : PySem.Str), ("place" : PySem.Str)] ("Head.even" : PySem.Str) (defScope s_Head_even) (fa 8) cdv A outer s H E).A.units + 1 < cLine := by have := hr.un; show (A.deeper (envOfC ("Head.even" : PySem.Str) (defScope s_Head_even) s.heap.objs.size (fa 8) cdv)).units + 1 < cLine; omega
  have hu2 : (CxF P w K mg base [("many" : PySem.Str), ("step" : PySem.Str), ("place" : PySem.Str)] ("Head.even" : PySem.Str) (defScope s_Head_even) (fa 8) cdv A outer s H E).A.units + 2 < cLine := by have := hr.un; show (A.deeper (envOfC ("Head.even" : PySem.Str) (defScope s_Head_even) s.heap.objs.size (fa 8) cdv)).units + 2 < cLine; omega
  have tk : Takes (CxF P w K mg base [("many" : PySem.Str), ("step" : PySem.Str), ("place" : PySem.Str)] ("Head.even" : PySem.Str) (defScope s_Head_even) (fa 8) cdv A outer s H E) (fun c d _ H' => E c d H') := takes_of rfl rfl rfl rfl
  have hp : PassesOwn (model P w) (CxF P w K mg base [("many" : PySem.Str), ("step" : PySem.Str), ("place" : PySem.Str)] ("Head.even" : PySem.Str) (defScope s_Head_even) (fa 8) cdv A outer s H E).A (CxF P w K mg base [("many" : PySem.Str), ("step" : PySem.Str), ("place" : PySem.Str)] ("Head.even" : PySem.Str) (defScope s_Head_even) (fa 8) cdv A outer s H E).env (CxF P w K mg base [("many" : PySem.Str), ("step" : PySem.Str), ("place" : PySem.Str)] ("Head.even" : PySem.Str) (defScope s_Head_even) (fa 8) cdv A outer s H E).xe := passes_of rfl
  exact
   (sss_cons (ss_if (st_not (st_val (se_call (cal_fn (G_is_within F) (hr.mono (by decide)) tk) F.kp_is_within F.g_is_within (sa_cons (se_var 0) (sa_cons se_int (sa_cons (se_bin ow_add (se_gint rfl F.k_GREATEST) se_int) sa_nil))))))
 (sss_one ss_never)
 sss_nil)
 (sss_cons (ss_if (st_not (st_val (se_call (cal_fn (G_is_within F) (hr.mono (by decide)) tk) F.kp_is_within F.g_is_within (sa_cons (se_var 1) (sa_cons se_int (sa_cons (se_bin ow_add (se_gint rfl F.k_GREATEST) se_int) sa_nil))))))
 (sss_one ss_never)
 sss_nil)
 (sss_one (ss_ret (se_call (cal_fn (G_moved_head F) (hr.mono (by decide)) tk) F.kp_moved_head F.g_moved_head (sa_cons (se_lc [(("place" : PySem.Str), 2)] hc nd (si_range1 F.n_range (sa_cons (se_var 0) sa_nil)) (fun _ _ _ _ _ => pg_name (i := 2) nd rfl (by first | exact .inl rfl | exact .inr rfl)) (cg_name (by decide)) (fun _ _ _ _ _ => sifs_nil) (fun _ _ _ _ _ => (se_bin ow_mul (se_var 1) (se_var 2))) (ok := blkOk_by (by kernel_rfl))) sa_nil))))))
theorem G_Head_even (F : Facts P K mg cls fa pa mc) : FnG P w K mg base cls (9 + 1) (fa 8) (sem_Head_even cls) := by
  obtain ⟨fd, D⟩ := F.D_Head_even
  have FB := fn_body (P := P) (w := w) (mg := mg) (base := base) (cls := cls) (d := 1) D sc_Head_even rfl (fun cdv A outer s H E hr => d_Head_even F cdv A outer s H E hr)
  exact (fnG_or (fun l => Nat.beq l.length 1) (fnG_dfl FB (D.binds1 (ps := [("many" : PySem.Str), ("step" : PySem.Str)]) 1 0 (by simp) rfl (fun T kV doc pm an cdv ct us its h1 h2 => match us, h1, its, h2 with | [_], _, [_], _ => ⟨_, rfl, rfl⟩)) [.int 1] (fun _ _ => ⟨_, _, rfl, rfl, rfl⟩)) (fnG_all FB (binds_all (D.binds1 (ps := [("many" : PySem.Str), ("step" : PySem.Str)]) 2 1 (by simp) rfl (fun T kV doc pm an cdv ct us its h1 h2 => match us, h1, its, h2 with | [_, _], _, [_], _ => ⟨_, rfl, rfl⟩)))))
theorem d_Head_span (F : Facts P K mg cls fa pa mc) (cdv : Value) (A : Around) (outer : List Env) (s : Shared) (H : Hp) (E : XK) (hr : Room 0 (A.deeper (envOfC ("Head.span" : PySem.Str) (defScope s_Head_span) s.heap.objs.size (fa 9) cdv))) :
    SSs (CxF P w K mg base [("self" : PySem.Str)] ("Head.span" : PySem.Str) (defScope s_Head_span) (fa 9) cdv A outer s H E) cls (fun c d _ H' => E c d H') (defBody s_Head_span) (m_Head_span cls) := by
  have nd := (sc_Head_span).nd
  have hc : (CxF P w K mg base [("self" : PySem.Str)] ("Head.span" : PySem.Str) (defScope s_Head_span) (fa 9) cdv A outer s H E).calm = true := rfl
  have hu : (CxF P w K mg base [("self" : PySem.Str)] ("Head.span" : PySem.Str) (defScope s_Head_span) (fa 9) cdv A outer s H E).A.units + 1 < cLine := by have := hr.un; show (A.deeper (envOfC ("Head.span" : PySem.Str) (defScope s_Head_span) s.heap.objs.size (fa 9) cdv)).units + 1 < cLine; omega
  have hu2 : (CxF P w K mg base [("self" : PySem.Str)] ("Head.span" : PySem.Str) (defScope s_Head_span) (fa 9) cdv A outer s H E).A.units + 2 < cLine := by have := hr.un; show (A.deeper (envOfC ("Head.span" : PySem.Str) (defScope s_Head_span) s.heap.objs.size (fa 9) cdv)).units + 2 < cLine; omega
  have tk : Takes (CxF P w K mg base [("self" : PySem.Str)] ("Head.span" : PySem.Str) (defScope s_Head_span) (fa 9) cdv A outer s H E) (fun c d _ H' => E c d H') := takes_of rfl rfl rfl rfl
  have hp : PassesOwn (model P w) (CxF P w K mg base [("self" : PySem.Str)] ("Head.span" : PySem.Str) (defScope s_Head_span) (fa 9) cdv A outer s H E).A (CxF P w K mg base [("self" : PySem.Str)] ("Head.span" : PySem.Str) (defScope s_Head_span) (fa 9) cdv A outer s H E).env (CxF P w K mg base [("self" : PySem.Str)] ("Head.span" : PySem.Str) (defScope s_Head_span) (fa 9) cdv A outer s H E).xe := passes_of rfl
  exact
   (sss_one (ss_ret (se_bin ow_add (se_ix hu (se_fld (cs := [0]) (F.fld_Head_offsets) (se_var 0)) (se_neg se_int)) se_int)))
theorem G_Head_span (F : Facts P K mg cls fa pa mc) : FnG P w K mg base cls (0 + 1) (fa 9) (sem_Head_span cls) := by
  obtain ⟨fd, D⟩ := F.D_Head_span
  exact fnG_all (fn_body (P := P) (w := w) (mg := mg) (base := base) (cls := cls) (d := 0) D sc_Head_span rfl (fun cdv A outer s H E hr => d_Head_span F cdv A outer s H E hr)) (D.bindsN (ps := [("self" : PySem.Str)]) fun _ _ _ _ _ _ us hl => match us, hl with | [_], _ => rfl)
theorem d_Head_len (F : Facts P K mg cls fa pa mc) (cdv : Value) (A : Around) (outer : List Env) (s : Shared) (H : Hp) (E : XK) (hr : Room 0 (A.deeper (envOfC ("Head.__len__" : PySem.Str) (defScope s_Head_len) s.heap.objs.size (fa 10) cdv))) :
    SSs (CxF P w K mg base [("self" : PySem.Str)] ("Head.__len__" : PySem.Str) (defScope s_Head_len) (fa 10) cdv A outer s H E) cls (fun c d _ H' => E c d H') (defBody s_Head_len) (m_Head_len cls) := by
  have nd := (sc_Head_len).nd
  have hc : (CxF P w K mg base [("self" : PySem.Str)] ("Head.__len__" : PySem.Str) (defScope s_Head_len) (fa 10) cdv A outer s H E).calm = true := rfl
  have hu : (CxF P w K mg base [("self" : PySem.Str)] ("Head.__len__" : PySem.Str) (defScope s_Head_len) (fa 10) cdv A outer s H E).A.units + 1 < cLine := by have := hr.un; show (A.deeper (envOfC ("Head.__len__" : PySem.Str) (defScope s_Head_len) s.heap.objs.size (fa 10) cdv)).units + 1 < cLine; omega
  have hu2 : (CxF P w K mg base [("self" : PySem.Str)] ("Head.__len__" : PySem.Str) (defScope s_Head_len) (fa 10) cdv A outer s H E).A.units + 2 < cLine := by have := hr.un; show (A.deeper (envOfC ("Head.__len__" : PySem.Str) (defScope s_Head_len) s.heap.objs.size (fa 10) cdv)).units + 2 < cLine; omega
  have tk : Takes (CxF P w K mg base [("self" : PySem.Str)] ("Head.__len__" : PySem.Str) (defScope s_Head_len) (fa 10) cdv A outer s H E) (fun c d _ H' => E c d H') := takes_of rfl rfl rfl rfl
  have hp : PassesOwn (model P w) (CxF P w K mg base [("self" : PySem.Str)] ("Head.__len__" : PySem.Str) (defScope s_Head_len) (fa 10) cdv A outer s H E).A (CxF P w K mg base [("self" : PySem.Str)] ("Head.__len__" : PySem.Str) (defScope s_Head_len) (fa 10) cdv A outer s H E).env (CxF P w K mg base [("self" : PySem.Str)] ("Head.__len__" : PySem.Str) (defScope s_Head_len) (fa 10) cdv A outer s H E).xe := passes_of rfl
  exact
   (sss_one (ss_ret (se_callB F.n_len (by decide +kernel) (cal_len) (sa_cons (se_fld (cs := [0]) (F.fld_Head_offsets) (se_var 0)) sa_nil))))
theorem G_Head_len (F : Facts P K mg cls fa pa mc) : FnG P w K mg base cls (0 + 1) (fa 10) (sem_Head_len cls) := by
  obtain ⟨fd, D⟩ := F.D_Head_len
  exact fnG_all (fn_body (P := P) (w := w) (mg := mg) (base := base) (cls := cls) (d := 0) D sc_Head_len rfl (fun cdv A outer s H E hr => d_Head_len F cdv A outer s H E hr)) (D.bindsN (ps := [("self" : PySem.Str)]) fun _ _ _ _ _ _ us hl => match us, hl with | [_], _ => rfl)
theorem d_Head_eq (F : Facts P K mg cls fa pa mc) (cdv : Value) (A : Around) (outer : List Env) (s : Shared) (H : Hp) (E : XK) (hr : Room 6 (A.deeper (envOfC ("Head.__eq__" : PySem.Str) (defScope s_Head_eq) s.heap.objs.size (fa 11) cdv))) :
    SSs (CxF P w K mg base [("self" : PySem.Str), ("other" : PySem.Str)] ("Head.__eq__" : PySem.Str) (defScope s_Head_eq) (fa 11) cdv A outer s H E) cls (fun c d _ H' => E c d H') (defBody s_Head_eq) (m_Head_eq cls) := by
  have nd := (sc_Head_eq).nd
  have hc : (CxF P w K mg base [("self" : PySem.Str), ("other" : PySem.Str)] ("Head.__eq__" : PySem.Str) (defScope s_Head_eq) (fa 11) cdv A outer s H E).calm = true := rfl
  have hu : (CxF P w K mg base [("self" : PySem.Str), ("other" : PySem.Str)] ("Head.__eq__" : PySem.Str) (defScope s_Head_eq) (fa 11) cdv A outer s H E).A.units + 1 < cLine := by have := hr.un; show (A.deeper (envOfC ("Head.__eq__" : PySem.Str) (defScope s_Head_eq) s.heap.objs.size (fa 11) cdv)).units + 1 < cLine; omega
  have hu2 : (CxF P w K mg base [("self" : PySem.Str), ("other" : PySem.Str)] ("Head.__eq__" : PySem.Str) (defScope s_Head_eq) (fa 11) cdv A outer s H E).A.units + 2 < cLine := by have := hr.un; show (A.deeper (envOfC ("Head.__eq__" : PySem.Str) (defScope s_Head_eq) s.heap.objs.size (fa 11) cdv)).units + 2 < cLine; omega
  have tk : Takes (CxF P w K mg base [("self" : PySem.Str), ("other" : PySem.Str)] ("Head.__eq__" : PySem.Str) (defScope s_Head_eq) (fa 11) cdv A outer s H E) (fun c d _ H' => E c d H') := takes_of rfl rfl rfl rfl
  have hp : PassesOwn (model P w) (CxF P w K mg base [("self" : PySem.Str), ("other" : PySem.Str)] ("Head.__eq__" : PySem.Str) (defScope s_Head_eq) (fa 11) cdv A outer s H E).A (CxF P w K mg base [("self" : PySem.Str), ("other" : PySem.Str)] ("Head.__eq__" : PySem.Str) (defScope s_Head_eq) (fa 11) cdv A outer s H E).env (CxF P w K mg base [("self" : PySem.Str), ("other" : PySem.Str)] ("Head.__eq__" : PySem.Str) (defScope s_Head_eq) (fa 11) cdv A outer s H E).xe := passes_of rfl
  exact
   (sss_one (ss_ret (se_and (se_callB F.n_isinstance (by decide +kernel) (cal_isi F.isi) (sa_cons (se_var 1) (sa_cons (se_gadr rfl F.c_Head) sa_nil))) (se_one (se_cmp (ow_eq (f := 4) eqOk0 (hr.mono (by decide))) (se_fld (cs := [0]) (F.fld_Head_offsets) (se_var 0)) (se_fld (cs := [0]) (F.fld_Head_offsets) (se_var 1)))))))
theorem G_Head_eq (F : Facts P K mg cls fa pa mc) : FnG P w K mg base cls (6 + 1) (fa 11) (sem_Head_eq cls) := by
  obtain ⟨fd, D⟩ := F.D_Head_eq
  exact fnG_all (fn_body (P := P) (w := w) (mg := mg) (base := base) (cls := cls) (d := 0) D sc_Head_eq rfl (fun cdv A outer s H E hr => d_Head_eq F cdv A outer s H E hr)) (D.bindsN (ps := [("self" : PySem.Str), ("other" : PySem.Str)]) fun _ _ _ _ _ _ us hl => match us, hl with | [_, _], _ => rfl)
theorem d_Head_invert (F : Facts P K mg cls fa pa mc) (cdv : Value) (A : Around) (outer : List Env) (s : Shared) (H : Hp) (E : XK) (hr : Room 8 (A.deeper (envOfC ("Head.__invert__" : PySem.Str) (defScope s_Head_invert) s.heap.objs.size (fa 12) cdv))) :
    SSs (CxF P w K mg base [("self" : PySem.Str), ("turned" : PySem.Str), ("offset" : PySem.Str)] ("Head.__invert__" : PySem.Str) (defScope s_Head_invert) (fa 12) cdv A outer s H E) cls (fun c d _ H' => E c d H') (defBody s_Head_invert) (m_Head_invert cls) := by
  have nd := (sc_Head_invert).nd
  have hc : (CxF P w K mg base [("self" : PySem.Str), ("turned" : PySem.Str), ("offset" : PySem.Str)] ("Head.__invert__" : PySem.Str) (defScope s_Head_invert) (fa 12) cdv A outer s H E).calm = true := rfl
  have hu : (CxF P w K mg base [("self" : PySem.Str), ("turned" : PySem.Str), ("offset" : PySem.Str)] ("Head.__invert__" : PySem.Str) (defScope s_Head_invert) (fa 12) cdv A outer s H E).A.units + 1 < cLine := by have := hr.un; show (A.deeper (envOfC ("Head.__invert__" : PySem.Str) (defScope s_Head_invert) s.heap.objs.size (fa 12) cdv)).units + 1 < cLine; omega
  have hu2 : (CxF P w K mg base [("self" : PySem.Str), ("turned" : PySem.Str), ("offset" : PySem.Str)] ("Head.__invert__" : PySem.Str) (defScope s_Head_invert) (fa 12) cdv A outer s H E).A.units + 2 < cLine := by have := hr.un; show (A.deeper (envOfC ("Head.__invert__" : PySem.Str) (defScope s_Head_invert) s.heap.objs.size (fa 12) cdv)).units + 2 < cLine; omega
  have tk : Takes (CxF P w K mg base [("self" : PySem.Str), ("turned" : PySem.Str), ("offset" : PySem.Str)] ("Head.__invert__" : PySem.Str) (defScope s_Head_invert) (fa 12) cdv A outer s H E) (fun c d _ H' => E c d H') := takes_of rfl rfl rfl rfl
  have hp : PassesOwn (model P w) (CxF P w K mg base [("self" : PySem.Str), ("turned" : PySem.Str), ("offset" : PySem.Str)] ("Head.__invert__" : PySem.Str) (defScope s_Head_invert) (fa 12) cdv A outer s H E).A (CxF P w K mg base [("self" : PySem.Str), ("turned" : PySem.Str), ("offset" : PySem.Str)] ("Head.__invert__" : PySem.Str) (defScope s_Head_invert) (fa 12) cdv A outer s H E).env (CxF P w K mg base [("self" : PySem.Str), ("turned" : PySem.Str), ("offset" : PySem.Str)] ("Head.__invert__" : PySem.Str) (defScope s_Head_invert) (fa 12) cdv A outer s H E).xe := passes_of rfl
  exact
   (sss_cons (ss_setLc (i := 1) [(("offset" : PySem.Str), 2)] hc nd (si_seq (se_fld (cs := [0]) (F.fld_Head_offsets) (se_var 0))) (fun _ _ _ _ _ => pg_name (i := 2) nd rfl (by first | exact .inl rfl | exact .inr rfl)) (cg_name (by decide)) (fun _ _ _ _ _ => sifs_nil) (fun _ _ _ _ _ => (se_bin ow_sub (se_bin ow_sub (se_prop F.ci_Head F.pr_Head_span (G_Head_span F) (hr.mono (by decide)) (se_var 0)) se_int) (se_var 2))) (ok := blkOk_by (by kernel_rfl)))
 (sss_one (ss_ret (se_callS1 (cal_make F.mk_Head (G_Head_init F) (hr.mono (by decide)) tk) F.kc_Head F.c_Head (se_var 1)))))
theorem G_Head_invert (F : Facts P K mg cls fa pa mc) : FnG P w K mg base cls (8 + 1) (fa 12) (sem_Head_invert cls) := by
  obtain ⟨fd, D⟩ := F.D_Head_invert
  exact fnG_all (fn_body (P := P) (w := w) (mg := mg) (base := base) (cls := cls) (d := 2) D sc_Head_invert rfl (fun cdv A outer s H E hr => d_Head_invert F cdv A outer s H E hr)) (D.bindsN (ps := [("self" : PySem.Str)]) fun _ _ _ _ _ _ us hl => match us, hl with | [_], _ => rfl)
theorem d_is_way (F : Facts P K mg cls fa pa mc) (cdv : Value) (A : Around) (outer : List Env) (s : Shared) (H : Hp) (E : XK) (hr : Room 6 (A.deeper (envOfC ("is_way" : PySem.Str) (defScope s_is_way) s.heap.objs.size (fa 13) cdv))) :
    SSs (CxF P w K mg base [("value" : PySem.Str), ("item" : PySem.Str)] ("is_way" : PySem.Str) (defScope s_is_way) (fa 13) cdv A outer s H E) cls (fun c d _ H' => E c d H') (defBody s_is_way) (m_is_way cls) := by
  have nd := (sc_is_way).nd
  have hc : (CxF P w K mg base [("value" : PySem.Str), ("item" : PySem.Str)] ("is_way" : PySem.Str) (defScope s_is_way) (fa 13) cdv A outer s H E).calm = true := rfl
  have hu : (CxF P w K mg base [("value" : PySem.Str), ("item" : PySem.Str)] ("is_way" : PySem.Str) (defScope s_is_way) (fa 13) cdv A outer s H E).A.units + 1 < cLine := by have := hr.un; show (A.deeper (envOfC ("is_way" : PySem.Str) (defScope s_is_way) s.heap.objs.size (fa 13) cdv)).units + 1 < cLine; omega
  have hu2 : (CxF P w K mg base [("value" : PySem.Str), ("item" : PySem.Str)] ("is_way" : PySem.Str) (defScope s_is_way) (fa 13) cdv A outer s H E).A.units + 2 < cLine := by have := hr.un; show (A.deeper (envOfC ("is_way" : PySem.Str) (defScope s_is_way) s.heap.objs.size (fa 13) cdv)).units + 2 < cLine; omega
  have tk : Takes (CxF P w K mg base [("value" : PySem.Str), ("item" : PySem.Str)] ("is_way" : PySem.Str) (defScope s_is_way) (fa 13) cdv A outer s H E) (fun c d _ H' => E c d H') := takes_of rfl rfl rfl rfl
  have hp : PassesOwn (model P w) (CxF P w K mg base [("value" : PySem.Str), ("item" : PySem.Str)] ("is_way" : PySem.Str) (defScope s_is_way) (fa 13) cdv A outer s H E).A (CxF P w K mg base [("value" : PySem.Str), ("item" : PySem.Str)] ("is_way" : PySem.Str) (defScope s_is_way) (fa 13) cdv A outer s H E).env (CxF P w K mg base [("value" : PySem.Str), ("item" : PySem.Str)] ("is_way" : PySem.Str) (defScope s_is_way) (fa 13) cdv A outer s H E).xe := passes_of rfl
  exact
   (sss_cons (ss_if (SW.st (sw_or (st_not (st_val (se_call (cal_fn (G_is_list F) (hr.mono (by decide)) tk) F.kp_is_list F.g_is_list (sa_cons (se_var 0) sa_nil)))) (sw_or (st_cmp (ow_eq (f := 4) eqOk0 (hr.mono (by decide))) (se_callB F.n_len (by decide +kernel) (cal_len) (sa_cons (se_var 0) sa_nil)) se_int) (sw_or1 (st_not (st_val (se_callB F.n_all (by decide +kernel) (cal_all rfl) (sa_cons (se_lc [(("item" : PySem.Str), 1)] hc nd (si_seq (se_var 0)) (fun _ _ _ _ _ => pg_name (i := 1) nd rfl (by first | exact .inl rfl | exact .inr rfl)) (cg_name (by decide)) (fun _ _ _ _ _ => sifs_nil) (fun _ _ _ _ _ => (se_call (cal_fn (G_is_offset F) (hr.mono (by decide)) takes0) F.kp_is_offset F.g_is_offset (sa_cons (se_var 1) sa_nil))) (ok := blkOk_by (by kernel_rfl))) sa_nil))))))))
 (sss_one (ss_ret se_bl))
 sss_nil)
 (sss_one (ss_ret (se_cmp (ow_eq (f := 4) eqOk0 (hr.mono (by decide))) (se_callB F.n_len (by decide +kernel) (cal_len) (sa_cons (se_call (cal_fn (G_ascending F) (hr.mono (by decide)) tk) F.kp_ascending F.g_ascending (sa_cons (se_var 0) sa_nil)) sa_nil)) (se_callB F.n_len (by decide +kernel) (cal_len) (sa_cons (se_var 0) sa_nil))))))
theorem G_is_way (F : Facts P K mg cls fa pa mc) : FnG P w K mg base cls (6 + 1) (fa 13) (sem_is_way cls) := by
  obtain ⟨fd, D⟩ := F.D_is_way
  exact fnG_all (fn_body (P := P) (w := w) (mg := mg) (base := base) (cls := cls) (d := 1) D sc_is_way rfl (fun cdv A outer s H E hr => d_is_way F cdv A outer s H E hr)) (D.bindsN (ps := [("value" : PySem.Str)]) fun _ _ _ _ _ _ us hl => match us, hl with | [_], _ => rfl)
theorem d_has_way (F : Facts P K mg cls fa pa mc) (cdv : Value) (A : Around) (outer : List Env) (s : Shared) (H : Hp) (E : XK) (hr : Room 6 (A.deeper (envOfC ("has_way" : PySem.Str) (defScope s_has_way) s.heap.objs.size (fa 14) cdv))) :
    SSs (CxF P w K mg base [("offsets" : PySem.Str), ("way" : PySem.Str), ("offset" : PySem.Str)] ("has_way" : PySem.Str) (defScope s_has_way) (fa 14) cdv A outer s H E) cls (fun c d _ H' => E c d H') (defBody s_has_way) (m_has_way cls) := by
  have nd := (sc_has_way).nd
  have hc : (CxF P w K mg base [("offsets" : PySem.Str), ("way" : PySem.Str), ("offset" : PySem.Str)] ("has_way" : PySem.Str) (defScope s_has_way) (fa 14) cdv A outer s H E).calm = true := rfl
  have hu : (CxF P w K mg base [("offsets" : PySem.Str), ("way" : PySem.Str), ("offset" : PySem.Str)] ("has_way" : PySem.Str) (defScope s_has_way) (fa 14) cdv A outer s H E).A.units + 1 < cLine := by have := hr.un; show (A.deeper (envOfC ("has_way" : PySem.Str) (defScope s_has_way) s.heap.objs.size (fa 14) cdv)).units + 1 < cLine; omega
  have hu2 : (CxF P w K mg base [("offsets" : PySem.Str), ("way" : PySem.Str), ("offset" : PySem.Str)] ("has_way" : PySem.Str) (defScope s_has_way) (fa 14) cdv A outer s H E).A.units + 2 < cLine := by have := hr.un; show (A.deeper (envOfC ("has_way" : PySem.Str) (defScope s_has_way) s.heap.objs.size (fa 14) cdv)).units + 2 < cLine; omega
  have tk : Takes (CxF P w K mg base [("offsets" : PySem.Str), ("way" : PySem.Str), ("offset" : PySem.Str)] ("has_way" : PySem.Str) (defScope s_has_way) (fa 14) cdv A outer s H E) (fun c d _ H' => E c d H') := takes_of rfl rfl rfl rfl
  have hp : PassesOwn (model P w) (CxF P w K mg base [("offsets" : PySem.Str), ("way" : PySem.Str), ("offset" : PySem.Str)] ("has_way" : PySem.Str) (defScope s_has_way) (fa 14) cdv A outer s H E).A (CxF P w K mg base [("offsets" : PySem.Str), ("way" : PySem.Str), ("offset" : PySem.Str)] ("has_way" : PySem.Str) (defScope s_has_way) (fa 14) cdv A outer s H E).env (CxF P w K mg base [("offsets" : PySem.Str), ("way" : PySem.Str), ("offset" : PySem.Str)] ("has_way" : PySem.Str) (defScope s_has_way) (fa 14) cdv A outer s H E).xe := passes_of rfl
  exact
   (sss_one (ss_ret (se_callB F.n_all (by decide +kernel) (cal_all rfl) (sa_cons (se_lc [(("offset" : PySem.Str), 2)] hc nd (si_seq (se_var 1)) (fun _ _ _ _ _ => pg_name (i := 2) nd rfl (by first | exact .inl rfl | exact .inr rfl)) (cg_name (by decide)) (fun _ _ _ _ _ => sifs_nil) (fun _ _ _ _ _ => (se_cmp (ow_in (f := 4) eqOk0 (hr.mono (by decide))) (se_var 2) (se_var 0))) (ok := blkOk_by (by kernel_rfl))) sa_nil))))
theorem G_has_way (F : Facts P K mg cls fa pa mc) : FnG P w K mg base cls (6 + 1) (fa 14) (sem_has_way cls) := by
  obtain ⟨fd, D⟩ := F.D_has_way
  exact fnG_all (fn_body (P := P) (w := w) (mg := mg) (base := base) (cls := cls) (d := 1) D sc_has_way rfl (fun cdv A outer s H E hr => d_has_way F cdv A outer s H E hr)) (D.bindsN (ps := [("offsets" : PySem.Str), ("way" : PySem.Str)]) fun _ _ _ _ _ _ us hl => match us, hl with | [_, _], _ => rfl)
theorem d_ordered_ways (F : Facts P K mg cls fa pa mc) (cdv : Value) (A : Around) (outer : List Env) (s : Shared) (H : Hp) (E : XK) (hr : Room 0 (A.deeper (envOfC ("ordered_ways" : PySem.Str) (defScope s_ordered_ways) s.heap.objs.size (fa 15) cdv))) :
    SSs (CxF P w K mg base [("ways" : PySem.Str), ("texts" : PySem.Str), ("offset" : PySem.Str), ("way" : PySem.Str), ("sign" : PySem.Str), ("text" : PySem.Str)] ("ordered_ways" : PySem.Str) (defScope s_ordered_ways) (fa 15) cdv A outer s H E) cls (fun c d _ H' => E c d H') (defBody s_ordered_ways) (m_ordered_ways cls) := by
  have nd := (sc_ordered_ways).nd
  have hc : (CxF P w K mg base [("ways" : PySem.Str), ("texts" : PySem.Str), ("offset" : PySem.Str), ("way" : PySem.Str), ("sign" : PySem.Str), ("text" : PySem.Str)] ("ordered_ways" : PySem.Str) (defScope s_ordered_ways) (fa 15) cdv A outer s H E).calm = true := rfl
  have hu : (CxF P w K mg base [("ways" : PySem.Str), ("texts" : PySem.Str), ("offset" : PySem.Str), ("way" : PySem.Str), ("sign" : PySem.Str), ("text" : PySem.Str)] ("ordered_ways" : PySem.Str) (defScope s_ordered_ways) (fa 15) cdv A outer s H E).A.units + 1 < cLine := by have := hr.un; show (A.deeper (envOfC ("ordered_ways" : PySem.Str) (defScope s_ordered_ways) s.heap.objs.size (fa 15) cdv)).units + 1 < cLine; omega
  have hu2 : (CxF P w K mg base [("ways" : PySem.Str), ("texts" : PySem.Str), ("offset" : PySem.Str), ("way" : PySem.Str), ("sign" : PySem.Str), ("text" : PySem.Str)] ("ordered_ways" : PySem.Str) (defScope s_ordered_ways) (fa 15) cdv A outer s H E).A.units + 2 < cLine := by have := hr.un; show (A.deeper (envOfC ("ordered_ways" : PySem.Str) (defScope s_ordered_ways) s.heap.objs.size (fa 15) cdv)).units + 2 < cLine; omega
  have tk : Takes (CxF P w K mg base [("ways" : PySem.Str), ("texts" : PySem.Str), ("offset" : PySem.Str), ("way" : PySem.Str), ("sign" : PySem.Str), ("text" : PySem.Str)] ("ordered_ways" : PySem.Str) (defScope s_ordered_ways) (fa 15) cdv A outer s H E) (fun c d _ H' => E c d H') := takes_of rfl rfl rfl rfl
  have hp : PassesOwn (model P w) (CxF P w K mg base [("ways" : PySem.Str), ("texts" : PySem.Str), ("offset" : PySem.Str), ("way" : PySem.Str), ("sign" : PySem.Str), ("text" : PySem.Str)] ("ordered_ways" : PySem.Str) (defScope s_ordered_ways) (fa 15) cdv A outer s H E).A (CxF P w K mg base [("ways" : PySem.Str), ("texts" : PySem.Str), ("offset" : PySem.Str), ("way" : PySem.Str), ("sign" : PySem.Str), ("text" : PySem.Str)] ("ordered_ways" : PySem.Str) (defScope s_ordered_ways) (fa 15) cdv A outer s H E).env (CxF P w K mg base [("ways" : PySem.Str), ("texts" : PySem.Str), ("offset" : PySem.Str), ("way" : PySem.Str), ("sign" : PySem.Str), ("text" : PySem.Str)] ("ordered_ways" : PySem.Str) (defScope s_ordered_ways) (fa 15) cdv A outer s H E).xe := passes_of rfl
  exact
   (sss_cons (ss_set (i := 1) nd (se_callB F.n_sorted (by decide +kernel) cal_sortS (sa_cons (se_lc [(("way" : PySem.Str), 3)] hc nd (si_seq (se_var 0)) (fun _ _ _ _ _ => pg_name (i := 3) nd rfl (by first | exact .inl rfl | exact .inr rfl)) (cg_name (by decide)) (fun _ _ _ _ _ => sifs_nil) (fun _ _ _ _ _ => (se_callTy F.n_str (by decide +kernel) cal_str (sa_cons (se_bm PySem.F.plainAttrs_str PySem.F.slot_str_join PySem.F.type_str_join cal_join (fun _ _ _ _ _ => isStr_ty) se_str (sa_cons (se_lc [(("offset" : PySem.Str), 2)] hc nd (si_seq (se_var 3)) (fun _ _ _ _ _ => pg_name (i := 2) nd rfl (by first | exact .inl rfl | exact .inr rfl)) (cg_name (by decide)) (fun _ _ _ _ _ => sifs_nil) (fun _ _ _ _ _ => (se_callTy F.n_str (by decide +kernel) cal_str (sa_cons (se_var 2) sa_nil))) (ok := blkOk_by (by kernel_rfl))) sa_nil)) sa_nil))) (ok := blkOk_by (by kernel_rfl))) sa_nil)))
 (sss_one (ss_ret (se_callTy F.n_tuple (by decide +kernel) cal_tuple (sa_cons (se_lc [(("text" : PySem.Str), 5)] hc nd (si_seq (se_var 1)) (fun _ _ _ _ _ => pg_name (i := 5) nd rfl (by first | exact .inl rfl | exact .inr rfl)) (cg_name (by decide)) (fun _ _ _ _ _ => sifs_nil) (fun _ _ _ _ _ => (se_callTy F.n_tuple (by decide +kernel) cal_tuple (sa_cons (se_lc [(("sign" : PySem.Str), 4)] hc nd (si_str (se_var 5)) (fun _ _ _ _ _ => pg_name (i := 4) nd rfl (by first | exact .inl rfl | exact .inr rfl)) (cg_name (by decide)) (fun _ _ _ _ _ => sifs_nil) (fun _ _ _ _ _ => (se_callTy F.n_int (by decide +kernel) cal_int (sa_cons (se_var 4) sa_nil))) (ok := blkOk_by (by kernel_rfl))) sa_nil))) (ok := blkOk_by (by kernel_rfl))) sa_nil)))))
theorem G_ordered_ways (F : Facts P K mg cls fa pa mc) : FnG P w K mg base cls (0 + 1) (fa 15) (sem_ordered_ways cls) := by
  obtain ⟨fd, D⟩ := F.D_ordered_ways
  exact fnG_all (fn_body (P := P) (w := w) (mg := mg) (base := base) (cls := cls) (d := 5) D sc_ordered_ways rfl (fun cdv A outer s H E hr => d_ordered_ways F cdv A outer s H E hr)) (D.bindsN (ps := [("ways" : PySem.Str)]) fun _ _ _ _ _ _ us hl => match us, hl with | [_], _ => rfl)
theorem d_lean_ways (F : Facts P K mg cls fa pa mc) (cdv : Value) (A : Around) (outer : List Env) (s : Shared) (H : Hp) (E : XK) (hr : Room 7 (A.deeper (envOfC ("lean_ways" : PySem.Str) (defScope s_lean_ways) s.heap.objs.size (fa 16) cdv))) :
    SSs (CxF P w K mg base [("ways" : PySem.Str), ("found" : PySem.Str), ("unlike" : PySem.Str), ("way" : PySem.Str), ("size" : PySem.Str), ("kept" : PySem.Str)] ("lean_ways" : PySem.Str) (defScope s_lean_ways) (fa 16) cdv A outer s H E) cls (fun c d _ H' => E c d H') (defBody s_lean_ways) (m_lean_ways cls) := by
  have nd := (sc_lean_ways).nd
  have hc : (CxF P w K mg base [("ways" : PySem.Str), ("found" : PySem.Str), ("unlike" : PySem.Str), ("way" : PySem.Str), ("size" : PySem.Str), ("kept" : PySem.Str)] ("lean_ways" : PySem.Str) (defScope s_lean_ways) (fa 16) cdv A outer s H E).calm = true := rfl
  have hu : (CxF P w K mg base [("ways" : PySem.Str), ("found" : PySem.Str), ("unlike" : PySem.Str), ("way" : PySem.Str), ("size" : PySem.Str), ("kept" : PySem.Str)] ("lean_ways" : PySem.Str) (defScope s_lean_ways) (fa 16) cdv A outer s H E).A.units + 1 < cLine := by have := hr.un; show (A.deeper (envOfC ("lean_ways" : PySem.Str) (defScope s_lean_ways) s.heap.objs.size (fa 16) cdv)).units + 1 < cLine; omega
  have hu2 : (CxF P w K mg base [("ways" : PySem.Str), ("found" : PySem.Str), ("unlike" : PySem.Str), ("way" : PySem.Str), ("size" : PySem.Str), ("kept" : PySem.Str)] ("lean_ways" : PySem.Str) (defScope s_lean_ways) (fa 16) cdv A outer s H E).A.units + 2 < cLine := by have := hr.un; show (A.deeper (envOfC ("lean_ways" : PySem.Str) (defScope s_lean_ways) s.heap.objs.size (fa 16) cdv)).units + 2 < cLine; omega
  have tk : Takes (CxF P w K mg base [("ways" : PySem.Str), ("found" : PySem.Str), ("unlike" : PySem.Str), ("way" : PySem.Str), ("size" : PySem.Str), ("kept" : PySem.Str)] ("lean_ways" : PySem.Str) (defScope s_lean_ways) (fa 16) cdv A outer s H E) (fun c d _ H' => E c d H') := takes_of rfl rfl rfl rfl
  have hp : PassesOwn (model P w) (CxF P w K mg base [("ways" : PySem.Str), ("found" : PySem.Str), ("unlike" : PySem.Str), ("way" : PySem.Str), ("size" : PySem.Str), ("kept" : PySem.Str)] ("lean_ways" : PySem.Str) (defScope s_lean_ways) (fa 16) cdv A outer s H E).A (CxF P w K mg base [("ways" : PySem.Str), ("found" : PySem.Str), ("unlike" : PySem.Str), ("way" : PySem.Str), ("size" : PySem.Str), ("kept" : PySem.Str)] ("lean_ways" : PySem.Str) (defScope s_lean_ways) (fa 16) cdv A outer s H E).env (CxF P w K mg base [("ways" : PySem.Str), ("found" : PySem.Str), ("unlike" : PySem.Str), ("way" : PySem.Str), ("size" : PySem.Str), ("kept" : PySem.Str)] ("lean_ways" : PySem.Str) (defScope s_lean_ways) (fa 16) cdv A outer s H E).xe := passes_of rfl
  exact
   (sss_cons (ss_set (i := 1) nd (se_lst sa_nil))
 (sss_cons (ss_set (i := 2) nd (se_callTy F.n_dict (by decide +kernel) (cal_dictT hc hu2) (sa_cons (se_lc [(("way" : PySem.Str), 3)] hc nd (si_seq (se_var 0)) (fun _ _ _ _ _ => pg_name (i := 3) nd rfl (by first | exact .inl rfl | exact .inr rfl)) (cg_name (by decide)) (fun _ _ _ _ _ => sifs_nil) (fun _ _ _ _ _ => (se_tup (sa_cons (se_var 3) (sa_cons se_bl sa_nil)))) (ok := blkOk_by (by kernel_rfl))) sa_nil)))
 (sss_cons (ss_for hp hc (si_range2 F.n_range (sa_cons se_int (sa_cons (se_bin ow_add (se_gint rfl F.k_MOST_OFFSET) se_int) sa_nil))) (sg_name (i := 4) nd)
 (sss_one (ss_lock 2 (ss_for hp hc (si_keys (se_var 2)) (sg_name (i := 3) nd)
 (sss_one (ss_if (SW.st (sw_and (st_cmp (ow_eq (f := 4) eqOk0 (hr.mono (by decide))) (se_callB F.n_len (by decide +kernel) (cal_len) (sa_cons (se_var 3) sa_nil)) (se_var 4)) (sw_and1 (st_not (st_val (se_callB F.n_any (by decide +kernel) (cal_any rfl) (sa_cons (se_lc [(("kept" : PySem.Str), 5)] hc nd (si_seq (se_var 1)) (fun _ _ _ _ _ => pg_name (i := 5) nd rfl (by first | exact .inl rfl | exact .inr rfl)) (cg_name (by decide)) (fun _ _ _ _ _ => sifs_nil) (fun _ _ _ _ _ => (se_call (cal_fn (G_has_way F) (hr.mono (by decide)) takes0) F.kp_has_way F.g_has_way (sa_cons (se_var 3) (sa_cons (se_var 5) sa_nil)))) (ok := blkOk_by (by kernel_rfl))) sa_nil)))))))
 (sss_one (ss_expr (se_bm PySem.F.plainAttrs_list PySem.F.slot_list_append PySem.F.type_list_append cal_append (fun _ _ _ _ _ => isLst_ty) (se_var 1) (sa_cons (se_var 3) sa_nil))))
 sss_nil))))))
 (sss_one (ss_ret (se_call (cal_fn (G_ordered_ways F) (hr.mono (by decide)) tk) F.kp_ordered_ways F.g_ordered_ways (sa_cons (se_var 1) sa_nil)))))))
theorem G_lean_ways (F : Facts P K mg cls fa pa mc) : FnG P w K mg base cls (7 + 1) (fa 16) (sem_lean_ways cls) := by
  obtain ⟨fd, D⟩ := F.D_lean_ways
  exact fnG_all (fn_body (P := P) (w := w) (mg := mg) (base := base) (cls := cls) (d := 5) D sc_lean_ways rfl (fun cdv A outer s H E hr => d_lean_ways F cdv A outer s H E hr)) (D.bindsN (ps := [("ways" : PySem.Str)]) fun _ _ _ _ _ _ us hl => match us, hl with | [_], _ => rfl)
theorem d_subsets (F : Facts P K mg cls fa pa mc) {ss : Fn} {j : Nat} (Gs : FnG P w K mg base cls (7 + j) (fa 17) ss) (cdv : Value) (A : Around) (outer : List Env) (s : Shared) (H : Hp) (E : XK) (hr : Room (7 + j) (A.deeper (envOfC ("subsets" : PySem.Str) (defScope s_subsets) s.heap.objs.size (fa 17) cdv))) :
    SSs (CxF P w K mg base [("items" : PySem.Str), ("many" : PySem.Str), ("found" : PySem.Str), ("at" : PySem.Str), ("item" : PySem.Str), ("rest" : PySem.Str)] ("subsets" : PySem.Str) (defScope s_subsets) (fa 17) cdv A outer s H E) cls (fun c d _ H' => E c d H') (defBody s_subsets) (m_subsets cls ss) := by
  have nd := (sc_subsets).nd
  have hc : (CxF P w K mg base [("items" : PySem.Str), ("many" : PySem.Str), ("found" : PySem.Str), ("at" : PySem.Str), ("item" : PySem.Str), ("rest" : PySem.Str)] ("subsets" : PySem.Str) (defScope s_subsets) (fa 17) cdv A outer s H E).calm = true := rfl
  have hu : (CxF P w K mg base [("items" : PySem.Str), ("many" : PySem.Str), ("found" : PySem.Str), ("at" : PySem.Str), ("item" : PySem.Str), ("rest" : PySem.Str)] ("subsets" : PySem.Str) (defScope s_subsets) (fa 17) cdv A outer s H E).A.units + 1 < cLine := by have := hr.un; show (A.deeper (envOfC ("subsets" : PySem.Str) (defScope s_subsets) s.heap.objs.size (fa 17) cdv)).units + 1 < cLine; omega
  have hu2 : (CxF P w K mg base [("items" : PySem.Str), ("many" : PySem.Str), ("found" : PySem.Str), ("at" : PySem.Str), ("item" : PySem.Str), ("rest" : PySem.Str)] ("subsets" : PySem.Str) (defScope s_subsets) (fa 17) cdv A outer s H E).A.units + 2 < cLine := by have := hr.un; show (A.deeper (envOfC ("subsets" : PySem.Str) (defScope s_subsets) s.heap.objs.size (fa 17) cdv)).units + 2 < cLine; omega
  have tk : Takes (CxF P w K mg base [("items" : PySem.Str), ("many" : PySem.Str), ("found" : PySem.Str), ("at" : PySem.Str), ("item" : PySem.Str), ("rest" : PySem.Str)] ("subsets" : PySem.Str) (defScope s_subsets) (fa 17) cdv A outer s H E) (fun c d _ H' => E c d H') := takes_of rfl rfl rfl rfl
  have hp : PassesOwn (model P w) (CxF P w K mg base [("items" : PySem.Str), ("many" : PySem.Str), ("found" : PySem.Str), ("at" : PySem.Str), ("item" : PySem.Str), ("rest" : PySem.Str)] ("subsets" : PySem.Str) (defScope s_subsets) (fa 17) cdv A outer s H E).A (CxF P w K mg base [("items" : PySem.Str), ("many" : PySem.Str), ("found" : PySem.Str), ("at" : PySem.Str), ("item" : PySem.Str), ("rest" : PySem.Str)] ("subsets" : PySem.Str) (defScope s_subsets) (fa 17) cdv A outer s H E).env (CxF P w K mg base [("items" : PySem.Str), ("many" : PySem.Str), ("found" : PySem.Str), ("at" : PySem.Str), ("item" : PySem.Str), ("rest" : PySem.Str)] ("subsets" : PySem.Str) (defScope s_subsets) (fa 17) cdv A outer s H E).xe := passes_of rfl
  exact
   (sss_cons (ss_if (st_cmp (ow_eq (f := 4) eqOk0 (hr.mono (by omega))) (se_var 1) se_int)
 (sss_one (ss_ret (se_lst (sa_cons (se_tup sa_nil) sa_nil))))
 sss_nil)
 (sss_cons (ss_set (i := 2) nd (se_lst sa_nil))
 (sss_cons (ss_for hp hc (si_enum F.n_enumerate (sa_cons (se_var 0) sa_nil)) (sg_tup hc (sgs_cons (sg_name (i := 3) nd) (sgs_cons (sg_name (i := 4) nd) sgs_nil)))
 (sss_one (ss_expr (se_bm PySem.F.plainAttrs_list PySem.F.slot_list_extend PySem.F.type_list_extend cal_extend (fun _ _ _ _ _ => isLst_ty) (se_var 2) (sa_cons (se_lc [(("rest" : PySem.Str), 5)] hc nd (si_seq (se_call (cal_fn Gs (hr.mono (by omega)) tk) F.kp_subsets F.g_subsets (sa_cons (se_sl (se_var 0) (so_some (se_bin ow_add (se_var 3) se_int)) so_none) (sa_cons (se_bin ow_sub (se_var 1) se_int) sa_nil)))) (fun _ _ _ _ _ => pg_name (i := 5) nd rfl (by first | exact .inl rfl | exact .inr rfl)) (cg_name (by decide)) (fun _ _ _ _ _ => sifs_nil) (fun _ _ _ _ _ => (se_tup (sa_cons (se_var 4) (sa_star (se_var 5) sa_nil)))) (ok := blkOk_by (by kernel_rfl))) sa_nil)))))
 (sss_one (ss_ret (se_var 2))))))
theorem GG_subsets (F : Facts P K mg cls fa pa mc) {ss : Fn} {j : Nat} (Gs : FnG P w K mg base cls (7 + j) (fa 17) ss) : FnG P w K mg base cls (7 + (j + 1)) (fa 17) (semB 2 4 (m_subsets cls ss)) := by
  obtain ⟨fd, D⟩ := F.D_subsets
  exact fnG_all (fn_body (P := P) (w := w) (mg := mg) (base := base) (cls := cls) (d := 4) D sc_subsets rfl (fun cdv A outer s H E hr => d_subsets F Gs cdv A outer s H E hr)) (D.bindsN (ps := [("items" : PySem.Str), ("many" : PySem.Str)]) fun _ _ _ _ _ _ us hl => match us, hl with | [_, _], _ => rfl)
theorem GR_subsets (F : Facts P K mg cls fa pa mc) : ∀ j, FnG P w K mg base cls (7 + j) (fa 17) (r_subsets cls j)
  | 0 => fun A outer s H us vs Q E hr e0 r ⟨l, h, ρ, rel, ql, p⟩ => p.elim
  | j + 1 => GG_subsets F (GR_subsets F j)
theorem G_subsets (F : Facts P K mg cls fa pa mc) : FnG P w K mg base cls (15 + 1) (fa 17) (sem_subsets cls) := GR_subsets F 9
theorem d_Wish_init (F : Facts P K mg cls fa pa mc) (cdv : Value) (A : Around) (outer : List Env) (s : Shared) (H : Hp) (E : XK) (hr : Room 8 (A.deeper (envOfC ("Wish.__init__" : PySem.Str) (defScope s_Wish_init) s.heap.objs.size (fa 18) cdv))) :
    SSs (CxF P w K mg base [("self" : PySem.Str), ("ways" : PySem.Str), ("at" : PySem.Str), ("way" : PySem.Str), ("offset" : PySem.Str)] ("Wish.__init__" : PySem.Str) (defScope s_Wish_init) (fa 18) cdv A outer s H E) cls (fun c d _ H' => E c d H') (defBody s_Wish_init) (m_Wish_init cls) := by
  have nd := (sc_Wish_init).nd
  have hc : (CxF P w K mg base [("self" : PySem.Str), ("ways" : PySem.Str), ("at" : PySem.Str), ("way" : PySem.Str), ("offset" : PySem.Str)] ("Wish.__init__" : PySem.Str) (defScope s_Wish_init) (fa 18) cdv A outer s H E).calm = true := rfl
  have hu : (CxF P w K mg base [("self" : PySem.Str), ("ways" : PySem.Str), ("at" : PySem.Str), ("way" : PySem.Str), ("offset" : PySem.Str)] ("Wish.__init__" : PySem.Str) (defScope s_Wish_init) (fa 18) cdv A outer s H E).A.units + 1 < cLine := by have := hr.un; show (A.deeper (envOfC ("Wish.__init__" : PySem.Str) (defScope s_Wish_init) s.heap.objs.size (fa 18) cdv)).units + 1 < cLine; omega
  have hu2 : (CxF P w K mg base [("self" : PySem.Str), ("ways" : PySem.Str), ("at" : PySem.Str), ("way" : PySem.Str), ("offset" : PySem.Str)] ("Wish.__init__" : PySem.Str) (defScope s_Wish_init) (fa 18) cdv A outer s H E).A.units + 2 < cLine := by have := hr.un; show (A.deeper (envOfC ("Wish.__init__" : PySem.Str) (defScope s_Wish_init) s.heap.objs.size (fa 18) cdv)).units + 2 < cLine; omega
  have tk : Takes (CxF P w K mg base [("self" : PySem.Str), ("ways" : PySem.Str), ("at" : PySem.Str), ("way" : PySem.Str), ("offset" : PySem.Str)] ("Wish.__init__" : PySem.Str) (defScope s_Wish_init) (fa 18) cdv A outer s H E) (fun c d _ H' => E c d H') := takes_of rfl rfl rfl rfl
  have hp : PassesOwn (model P w) (CxF P w K mg base [("self" : PySem.Str), ("ways" : PySem.Str), ("at" : PySem.Str), ("way" : PySem.Str), ("offset" : PySem.Str)] ("Wish.__init__" : PySem.Str) (defScope s_Wish_init) (fa 18) cdv A outer s H E).A (CxF P w K mg base [("self" : PySem.Str), ("ways" : PySem.Str), ("at" : PySem.Str), ("way" : PySem.Str), ("offset" : PySem.Str)] ("Wish.__init__" : PySem.Str) (defScope s_Wish_init) (fa 18) cdv A outer s H E).env (CxF P w K mg base [("self" : PySem.Str), ("ways" : PySem.Str), ("at" : PySem.Str), ("way" : PySem.Str), ("offset" : PySem.Str)] ("Wish.__init__" : PySem.Str) (defScope s_Wish_init) (fa 18) cdv A outer s H E).xe := passes_of rfl
  exact
   (sss_cons (ss_for hp hc (si_enum F.n_enumerate (sa_cons (se_var 1) sa_nil)) (sg_tup hc (sgs_cons (sg_name (i := 2) nd) (sgs_cons (sg_name (i := 3) nd) sgs_nil)))
 (sss_one (ss_if (st_not (st_val (se_call (cal_fn (G_is_way F) (hr.mono (by decide)) tk) F.kp_is_way F.g_is_way (sa_cons (se_var 3) sa_nil))))
 (sss_one ss_never)
 sss_nil)))
 (sss_cons (ss_if (st_cmp (ow_eq (f := 4) eqOk0 (hr.mono (by decide))) (se_callB F.n_len (by decide +kernel) (cal_len) (sa_cons (se_var 1) sa_nil)) se_int)
 (sss_one ss_never)
 sss_nil)
 (sss_cons (ss_fld (cs := [1]) (F.fld_Wish_ways) (se_var 0) (se_call (cal_fn (G_lean_ways F) (hr.mono (by decide)) tk) F.kp_lean_ways F.g_lean_ways (sa_cons (se_lc [(("way" : PySem.Str), 3)] hc nd (si_seq (se_var 1)) (fun _ _ _ _ _ => pg_name (i := 3) nd rfl (by first | exact .inl rfl | exact .inr rfl)) (cg_name (by decide)) (fun _ _ _ _ _ => sifs_nil) (fun _ _ _ _ _ => (se_call (cal_fn (G_ascending F) (hr.mono (by decide)) takes0) F.kp_ascending F.g_ascending (sa_cons (se_var 3) sa_nil))) (ok := blkOk_by (by kernel_rfl))) sa_nil)))
 (sss_one (ss_fld (cs := [1]) (F.fld_Wish_offsets) (se_var 0) (se_call (cal_fn (G_ascending F) (hr.mono (by decide)) tk) F.kp_ascending F.g_ascending (sa_cons (se_lc2 [(("way" : PySem.Str), 3), (("offset" : PySem.Str), 4)] [4] hc nd (si_seq (se_fld (cs := [1]) (F.fld_Wish_ways) (se_var 0))) (fun _ _ _ _ _ => pg_name (i := 3) nd rfl (by first | exact .inl rfl | exact .inr rfl)) (cg_name (by decide)) (fun _ _ _ _ _ => sifs_nil) (fun _ _ _ _ _ => (si_seq (se_var 3))) (fun _ _ _ _ _ => pg_name (i := 4) nd rfl (by first | exact .inl rfl | exact .inr rfl)) (cg_name (by decide)) (fun _ _ _ _ _ => sifs_nil) (fun _ _ _ _ _ => (se_var 4)) (ok := blkOk_by (by kernel_rfl))) sa_nil)))))))
theorem G_Wish_init (F : Facts P K mg cls fa pa mc) : FnG P w K mg base cls (8 + 1) (fa 18) (sem_Wish_init cls) := by
  obtain ⟨fd, D⟩ := F.D_Wish_init
  exact fn_starG (ps := [("self" : PySem.Str)]) (pv := ("ways" : PySem.Str)) (d := 3) D sc_Wish_init rfl (fun _ _ _ _ _ _ us rest hl => match us, rest, hl with | [_], [], _ => rfl | [_], _ :: _, _ => rfl) (fun cdv A outer s H E hr => d_Wish_init F cdv A outer s H E hr)
theorem d_Wish_dots (F : Facts P K mg cls fa pa mc) (cdv : Value) (A : Around) (outer : List Env) (s : Shared) (H : Hp) (E : XK) (hr : Room 16 (A.deeper (envOfC ("Wish.dots" : PySem.Str) (defScope s_Wish_dots) s.heap.objs.size (fa 19) cdv))) :
    SSs (CxF P w K mg base [("head" : PySem.Str), ("many" : PySem.Str), ("found" : PySem.Str)] ("Wish.dots" : PySem.Str) (defScope s_Wish_dots) (fa 19) cdv A outer s H E) cls (fun c d _ H' => E c d H') (defBody s_Wish_dots) (m_Wish_dots cls) := by
  have nd := (sc_Wish_dots).nd
  have hc : (CxF P w K mg base [("head" : PySem.Str), ("many" : PySem.Str), ("found" : PySem.Str)] ("Wish.dots" : PySem.Str) (defScope s_Wish_dots) (fa 19) cdv A outer s H E).calm = true := rfl
  have hu : (CxF P w K mg base [("head" : PySem.Str), ("many" : PySem.Str), ("found" : PySem.Str)] ("Wish.dots" : PySem.Str) (defScope s_Wish_dots) (fa 19) cdv A outer s H E).A.units + 1 < cLine := by have := hr.un; show (A.deeper (envOfC ("Wish.dots" : PySem.Str) (defScope s_Wish_dots) s.heap.objs.size (fa 19) cdv)).units + 1 < cLine; omega
  have hu2 : (CxF P w K mg base [("head" : PySem.Str), ("many" : PySem.Str), ("found" : PySem.Str)] ("Wish.dots" : PySem.Str) (defScope s_Wish_dots) (fa 19) cdv A outer s H E).A.units + 2 < cLine := by have := hr.un; show (A.deeper (envOfC ("Wish.dots" : PySem.Str) (defScope s_Wish_dots) s.heap.objs.size (fa 19) cdv)).units + 2 < cLine; omega
  have tk : Takes (CxF P w K mg base [("head" : PySem.Str), ("many" : PySem.Str), ("found" : PySem.Str)] ("Wish.dots" : PySem.Str) (defScope s_Wish_dots) (fa 19) cdv A outer s H E) (fun c d _ H' => E c d H') := takes_of rfl rfl rfl rfl
  have hp : PassesOwn (model P w) (CxF P w K mg base [("head" : PySem.Str), ("many" : PySem.Str), ("found" : PySem.Str)] ("Wish.dots" : PySem.Str) (defScope s_Wish_dots) (fa 19) cdv A outer s H E).A (CxF P w K mg base [("head" : PySem.Str), ("many" : PySem.Str), ("found" : PySem.Str)] ("Wish.dots" : PySem.Str) (defScope s_Wish_dots) (fa 19) cdv A outer s H E).env (CxF P w K mg base [("head" : PySem.Str), ("many" : PySem.Str), ("found" : PySem.Str)] ("Wish.dots" : PySem.Str) (defScope s_Wish_dots) (fa 19) cdv A outer s H E).xe := passes_of rfl
  exact
   (sss_cons (ss_if (st_not (st_val (se_callB F.n_isinstance (by decide +kernel) (cal_isi F.isi) (sa_cons (se_var 0) (sa_cons (se_gadr rfl F.c_Head) sa_nil)))))
 (sss_one ss_never)
 sss_nil)
 (sss_cons (ss_if (st_not (st_val (se_call (cal_fn (G_is_within F) (hr.mono (by decide)) tk) F.kp_is_within F.g_is_within (sa_cons (se_var 1) (sa_cons se_int (sa_cons (se_callB F.n_len (by decide +kernel) (cal_ownlen (c := 0) F.cm_Head_len F.isf_Head_len (G_Head_len F) (hr.mono (by decide))) (sa_cons (se_var 0) sa_nil)) sa_nil))))))
 (sss_one ss_never)
 sss_nil)
 (sss_cons (ss_set (i := 2) nd (se_call (cal_fn (G_subsets F) (hr.mono (by decide)) tk) F.kp_subsets F.g_subsets (sa_cons (se_fld (cs := [0]) (F.fld_Head_offsets) (se_var 0)) (sa_cons (se_var 1) sa_nil))))
 (sss_one (ss_ret (se_callS1 (cal_make F.mk_Wish (G_Wish_init F) (hr.mono (by decide)) tk) F.kc_Wish F.c_Wish (se_var 2)))))))
theorem G_Wish_dots (F : Facts P K mg cls fa pa mc) : FnG P w K mg base cls (16 + 1) (fa 19) (sem_Wish_dots cls) := by
  obtain ⟨fd, D⟩ := F.D_Wish_dots
  have FB := fn_body (P := P) (w := w) (mg := mg) (base := base) (cls := cls) (d := 1) D sc_Wish_dots rfl (fun cdv A outer s H E hr => d_Wish_dots F cdv A outer s H E hr)
  exact (fnG_or (fun l => Nat.beq l.length 1) (fnG_dfl FB (D.binds1 (ps := [("head" : PySem.Str), ("many" : PySem.Str)]) 1 0 (by simp) rfl (fun T kV doc pm an cdv ct us its h1 h2 => match us, h1, its, h2 with | [_], _, [_], _ => ⟨_, rfl, rfl⟩)) [.int 1] (fun _ _ => ⟨_, _, rfl, rfl, rfl⟩)) (fnG_all FB (binds_all (D.binds1 (ps := [("head" : PySem.Str), ("many" : PySem.Str)]) 2 1 (by simp) rfl (fun T kV doc pm an cdv ct us its h1 h2 => match us, h1, its, h2 with | [_, _], _, [_], _ => ⟨_, rfl, rfl⟩)))))
theorem d_Wish_is_met (F : Facts P K mg cls fa pa mc) (cdv : Value) (A : Around) (outer : List Env) (s : Shared) (H : Hp) (E : XK) (hr : Room 7 (A.deeper (envOfC ("Wish.is_met" : PySem.Str) (defScope s_Wish_is_met) s.heap.objs.size (fa 20) cdv))) :
    SSs (CxF P w K mg base [("self" : PySem.Str), ("offsets" : PySem.Str), ("way" : PySem.Str)] ("Wish.is_met" : PySem.Str) (defScope s_Wish_is_met) (fa 20) cdv A outer s H E) cls (fun c d _ H' => E c d H') (defBody s_Wish_is_met) (m_Wish_is_met cls) := by
  have nd := (sc_Wish_is_met).nd
  have hc : (CxF P w K mg base [("self" : PySem.Str), ("offsets" : PySem.Str), ("way" : PySem.Str)] ("Wish.is_met" : PySem.Str) (defScope s_Wish_is_met) (fa 20) cdv A outer s H E).calm = true := rfl
  have hu : (CxF P w K mg base [("self" : PySem.Str), ("offsets" : PySem.Str), ("way" : PySem.Str)] ("Wish.is_met" : PySem.Str) (defScope s_Wish_is_met) (fa 20) cdv A outer s H E).A.units + 1 < cLine := by have := hr.un; show (A.deeper (envOfC ("Wish.is_met" : PySem.Str) (defScope s_Wish_is_met) s.heap.objs.size (fa 20) cdv)).units + 1 < cLine; omega
  have hu2 : (CxF P w K mg base [("self" : PySem.Str), ("offsets" : PySem.Str), ("way" : PySem.Str)] ("Wish.is_met" : PySem.Str) (defScope s_Wish_is_met) (fa 20) cdv A outer s H E).A.units + 2 < cLine := by have := hr.un; show (A.deeper (envOfC ("Wish.is_met" : PySem.Str) (defScope s_Wish_is_met) s.heap.objs.size (fa 20) cdv)).units + 2 < cLine; omega
  have tk : Takes (CxF P w K mg base [("self" : PySem.Str), ("offsets" : PySem.Str), ("way" : PySem.Str)] ("Wish.is_met" : PySem.Str) (defScope s_Wish_is_met) (fa 20) cdv A outer s H E) (fun c d _ H' => E c d H') := takes_of rfl rfl rfl rfl
  have hp : PassesOwn (model P w) (CxF P w K mg base [("self" : PySem.Str), ("offsets" : PySem.Str), ("way" : PySem.Str)] ("Wish.is_met" : PySem.Str) (defScope s_Wish_is_met) (fa 20) cdv A outer s H E).A (CxF P w K mg base [("self" : PySem.Str), ("offsets" : PySem.Str), ("way" : PySem.Str)] ("Wish.is_met" : PySem.Str) (defScope s_Wish_is_met) (fa 20) cdv A outer s H E).env (CxF P w K mg base [("self" : PySem.Str), ("offsets" : PySem.Str), ("way" : PySem.Str)] ("Wish.is_met" : PySem.Str) (defScope s_Wish_is_met) (fa 20) cdv A outer s H E).xe := passes_of rfl
  exact
   (sss_one (ss_ret (se_callB F.n_any (by decide +kernel) (cal_any rfl) (sa_cons (se_lc [(("way" : PySem.Str), 2)] hc nd (si_seq (se_fld (cs := [1]) (F.fld_Wish_ways) (se_var 0))) (fun _ _ _ _ _ => pg_name (i := 2) nd rfl (by first | exact .inl rfl | exact .inr rfl)) (cg_name (by decide)) (fun _ _ _ _ _ => sifs_nil) (fun _ _ _ _ _ => (se_call (cal_fn (G_has_way F) (hr.mono (by decide)) takes0) F.kp_has_way F.g_has_way (sa_cons (se_var 1) (sa_cons (se_var 2) sa_nil)))) (ok := blkOk_by (by kernel_rfl))) sa_nil))))
theorem G_Wish_is_met (F : Facts P K mg cls fa pa mc) : FnG P w K mg base cls (7 + 1) (fa 20) (sem_Wish_is_met cls) := by
  obtain ⟨fd, D⟩ := F.D_Wish_is_met
  exact fnG_all (fn_body (P := P) (w := w) (mg := mg) (base := base) (cls := cls) (d := 1) D sc_Wish_is_met rfl (fun cdv A outer s H E hr => d_Wish_is_met F cdv A outer s H E hr)) (D.bindsN (ps := [("self" : PySem.Str), ("offsets" : PySem.Str)]) fun _ _ _ _ _ _ us hl => match us, hl with | [_, _], _ => rfl)
theorem d_Wish_span (F : Facts P K mg cls fa pa mc) (cdv : Value) (A : Around) (outer : List Env) (s : Shared) (H : Hp) (E : XK) (hr : Room 0 (A.deeper (envOfC ("Wish.span" : PySem.Str) (defScope s_Wish_span) s.heap.objs.size (fa 21) cdv))) :
    SSs (CxF P w K mg base [("self" : PySem.Str)] ("Wish.span" : PySem.Str) (defScope s_Wish_span) (fa 21) cdv A outer s H E) cls (fun c d _ H' => E c d H') (defBody s_Wish_span) (m_Wish_span cls) := by
  have nd := (sc_Wish_span).nd
  have hc : (CxF P w K mg base [("self" : PySem.Str)] ("Wish.span" : PySem.Str) (defScope s_Wish_span) (fa 21) cdv A outer s H E).calm = true := rfl
  have hu : (CxF P w K mg base [("self" : PySem.Str)] ("Wish.span" : PySem.Str) (defScope s_Wish_span) (fa 21) cdv A outer s H E).A.units + 1 < cLine := by have := hr.un; show (A.deeper (envOfC ("Wish.span" : PySem.Str) (defScope s_Wish_span) s.heap.objs.size (fa 21) cdv)).units + 1 < cLine; omega
  have hu2 : (CxF P w K mg base [("self" : PySem.Str)] ("Wish.span" : PySem.Str) (defScope s_Wish_span) (fa 21) cdv A outer s H E).A.units + 2 < cLine := by have := hr.un; show (A.deeper (envOfC ("Wish.span" : PySem.Str) (defScope s_Wish_span) s.heap.objs.size (fa 21) cdv)).units + 2 < cLine; omega
  have tk : Takes (CxF P w K mg base [("self" : PySem.Str)] ("Wish.span" : PySem.Str) (defScope s_Wish_span) (fa 21) cdv A outer s H E) (fun c d _ H' => E c d H') := takes_of rfl rfl rfl rfl
  have hp : PassesOwn (model P w) (CxF P w K mg base [("self" : PySem.Str)] ("Wish.span" : PySem.Str) (defScope s_Wish_span) (fa 21) cdv A outer s H E).A (CxF P w K mg base [("self" : PySem.Str)] ("Wish.span" : PySem.Str) (defScope s_Wish_span) (fa 21) cdv A outer s H E).env (CxF P w K mg base [("self" : PySem.Str)] ("Wish.span" : PySem.Str) (defScope s_Wish_span) (fa 21) cdv A outer s H E).xe := passes_of rfl
  exact
   (sss_one (ss_ret (se_bin ow_add (se_ix hu (se_fld (cs := [1]) (F.fld_Wish_offsets) (se_var 0)) (se_neg se_int)) se_int)))
theorem G_Wish_span (F : Facts P K mg cls fa pa mc) : FnG P w K mg base cls (0 + 1) (fa 21) (sem_Wish_span cls) := by
  obtain ⟨fd, D⟩ := F.D_Wish_span
  exact fnG_all (fn_body (P := P) (w := w) (mg := mg) (base := base) (cls := cls) (d := 0) D sc_Wish_span rfl (fun cdv A outer s H E hr => d_Wish_span F cdv A outer s H E hr)) (D.bindsN (ps := [("self" : PySem.Str)]) fun _ _ _ _ _ _ us hl => match us, hl with | [_], _ => rfl)
theorem d_Job_init (F : Facts P K mg cls fa pa mc) (cdv : Value) (A : Around) (outer : List Env) (s : Shared) (H : Hp) (E : XK) (hr : Room 2 (A.deeper (envOfC ("Job.__init__" : PySem.Str) (defScope s_Job_init) s.heap.objs.size (fa 22) cdv))) :
    SSs (CxF P w K mg base [("self" : PySem.Str), ("wish" : PySem.Str), ("most" : PySem.Str), ("ahead" : PySem.Str), ("short" : PySem.Str)] ("Job.__init__" : PySem.Str) (defScope s_Job_init) (fa 22) cdv A outer s H E) cls (fun c d _ H' => E c d H') (defBody s_Job_init) (m_Job_init cls) := by
  have nd := (sc_Job_init).nd
  have hc : (CxF P w K mg base [("self" : PySem.Str), ("wish" : PySem.Str), ("most" : PySem.Str), ("ahead" : PySem.Str), ("short" : PySem.Str)] ("Job.__init__" : PySem.Str) (defScope s_Job_init) (fa 22) cdv A outer s H E).calm = true := rfl
  have hu : (CxF P w K mg base [("self" : PySem.Str), ("wish" : PySem.Str), ("most" : PySem.Str), ("ahead" : PySem.Str), ("short" : PySem.Str)] ("Job.__init__" : PySem.Str) (defScope s_Job_init) (fa 22) cdv A outer s H E).A.units + 1 < cLine := by have := hr.un; show (A.deeper (envOfC ("Job.__init__" : PySem.Str) (defScope s_Job_init) s.heap.objs.size (fa 22) cdv)).units + 1 < cLine; omega
  have hu2 : (CxF P w K mg base [("self" : PySem.Str), ("wish" : PySem.Str), ("most" : PySem.Str), ("ahead" : PySem.Str), ("short" : PySem.Str)] ("Job.__init__" : PySem.Str) (defScope s_Job_init) (fa 22) cdv A outer s H E).A.units + 2 < cLine := by have := hr.un; show (A.deeper (envOfC ("Job.__init__" : PySem.Str) (defScope s_Job_init) s.heap.objs.size (fa 22) cdv)).units + 2 < cLine; omega
  have tk : Takes (CxF P w K mg base [("self" : PySem.Str), ("wish" : PySem.Str), ("most" : PySem.Str), ("ahead" : PySem.Str), ("short" : PySem.Str)] ("Job.__init__" : PySem.Str) (defScope s_Job_init) (fa 22) cdv A outer s H E) (fun c d _ H' => E c d H') := takes_of rfl rfl rfl rfl
  have hp : PassesOwn (model P w) (CxF P w K mg base [("self" : PySem.Str), ("wish" : PySem.Str), ("most" : PySem.Str), ("ahead" : PySem.Str), ("short" : PySem.Str)] ("Job.__init__" : PySem.Str) (defScope s_Job_init) (fa 22) cdv A outer s H E).A (CxF P w K mg base [("self" : PySem.Str), ("wish" : PySem.Str), ("most" : PySem.Str), ("ahead" : PySem.Str), ("short" : PySem.Str)] ("Job.__init__" : PySem.Str) (defScope s_Job_init) (fa 22) cdv A outer s H E).env (CxF P w K mg base [("self" : PySem.Str), ("wish" : PySem.Str), ("most" : PySem.Str), ("ahead" : PySem.Str), ("short" : PySem.Str)] ("Job.__init__" : PySem.Str) (defScope s_Job_init) (fa 22) cdv A outer s H E).xe := passes_of rfl
  exact
   (sss_cons (ss_if (st_not (st_val (se_callB F.n_isinstance (by decide +kernel) (cal_isi F.isi) (sa_cons (se_var 1) (sa_cons (se_gadr rfl F.c_Wish) sa_nil)))))
 (sss_one ss_never)
 sss_nil)
 (sss_cons (ss_if (SW.st (sw_and (st_cmp ow_isnot (se_var 2) se_non) (sw_and1 (st_not (st_val (se_call (cal_fn (G_is_within F) (hr.mono (by decide)) tk) F.kp_is_within F.g_is_within (sa_cons (se_var 2) (sa_cons se_int (sa_cons (se_gint rfl F.k_MOST_PLACE) sa_nil)))))))))
 (sss_one ss_never)
 sss_nil)
 (sss_cons (ss_if (st_not (st_val (se_call (cal_fn (G_is_within F) (hr.mono (by decide)) tk) F.kp_is_within F.g_is_within (sa_cons (se_var 3) (sa_cons se_int (sa_cons (se_gint rfl F.k_MOST_OFFSET) sa_nil))))))
 (sss_one ss_never)
 sss_nil)
 (sss_cons (ss_if (st_not (st_val (se_call (cal_fn (G_is_within F) (hr.mono (by decide)) tk) F.kp_is_within F.g_is_within (sa_cons (se_var 4) (sa_cons se_int (sa_cons (se_gint rfl F.k_MOST_OFFSET) sa_nil))))))
 (sss_one ss_never)
 sss_nil)
 (sss_cons (ss_fld (cs := [2]) (F.fld_Job_wish) (se_var 0) (se_var 1))
 (sss_cons (ss_fld (cs := [2]) (F.fld_Job_most) (se_var 0) (se_var 2))
 (sss_cons (ss_fld (cs := [2]) (F.fld_Job_ahead) (se_var 0) (se_var 3))
 (sss_one (ss_fld (cs := [2]) (F.fld_Job_short) (se_var 0) (se_var 4))))))))))
theorem G_Job_init (F : Facts P K mg cls fa pa mc) : FnG P w K mg base cls (2 + 1) (fa 22) (sem_Job_init cls) := by
  obtain ⟨fd, D⟩ := F.D_Job_init
  have FB := fn_body (P := P) (w := w) (mg := mg) (base := base) (cls := cls) (d := 0) D sc_Job_init rfl (fun cdv A outer s H E hr => d_Job_init F cdv A outer s H E hr)
  exact (fnG_or (fun l => Nat.beq l.length 2) (fnG_dfl FB (D.binds1 (ps := [("self" : PySem.Str), ("wish" : PySem.Str), ("most" : PySem.Str), ("ahead" : PySem.Str), ("short" : PySem.Str)]) 2 0 (by simp) rfl (fun T kV doc pm an cdv ct us its h1 h2 => match us, h1, its, h2 with | [_, _], _, [_, _, _], _ => ⟨_, rfl, rfl⟩)) [.non, .int 7, .int 0] (fun _ _ => ⟨_, _, rfl, rfl, ⟨_, _, rfl, rfl, ⟨_, _, rfl, rfl, rfl⟩⟩⟩)) (fnG_or (fun l => Nat.beq l.length 3) (fnG_dfl FB (D.binds1 (ps := [("self" : PySem.Str), ("wish" : PySem.Str), ("most" : PySem.Str), ("ahead" : PySem.Str), ("short" : PySem.Str)]) 3 1 (by simp) rfl (fun T kV doc pm an cdv ct us its h1 h2 => match us, h1, its, h2 with | [_, _, _], _, [_, _, _], _ => ⟨_, rfl, rfl⟩)) [.int 7, .int 0] (fun _ _ => ⟨_, _, rfl, rfl, ⟨_, _, rfl, rfl, rfl⟩⟩)) (fnG_or (fun l => Nat.beq l.length 4) (fnG_dfl FB (D.binds1 (ps := [("self" : PySem.Str), ("wish" : PySem.Str), ("most" : PySem.Str), ("ahead" : PySem.Str), ("short" : PySem.Str)]) 4 2 (by simp) rfl (fun T kV doc pm an cdv ct us its h1 h2 => match us, h1, its, h2 with | [_, _, _, _], _, [_, _, _], _ => ⟨_, rfl, rfl⟩)) [.int 0] (fun _ _ => ⟨_, _, rfl, rfl, rfl⟩)) (fnG_all FB (binds_all (D.binds1 (ps := [("self" : PySem.Str), ("wish" : PySem.Str), ("most" : PySem.Str), ("ahead" : PySem.Str), ("short" : PySem.Str)]) 5 3 (by simp) rfl (fun T kV doc pm an cdv ct us its h1 h2 => match us, h1, its, h2 with | [_, _, _, _, _], _, [_, _, _], _ => ⟨_, rfl, rfl⟩)))))))
theorem d_Job_span (F : Facts P K mg cls fa pa mc) (cdv : Value) (A : Around) (outer : List Env) (s : Shared) (H : Hp) (E : XK) (hr : Room 2 (A.deeper (envOfC ("Job.span" : PySem.Str) (defScope s_Job_span) s.heap.objs.size (fa 23) cdv))) :
    SSs (CxF P w K mg base [("self" : PySem.Str)] ("Job.span" : PySem.Str) (defScope s_Job_span) (fa 23) cdv A outer s H E) cls (fun c d _ H' => E c d H') (defBody s_Job_span) (m_Job_span cls) := by
  have nd := (sc_Job_span).nd
  have hc : (CxF P w K mg base [("self" : PySem.Str)] ("Job.span" : PySem.Str) (defScope s_Job_span) (fa 23) cdv A outer s H E).calm = true := rfl
  have hu : (CxF P w K mg base [("self" : PySem.Str)] ("Job.span" : PySem.Str) (defScope s_Job_span) (fa 23) cdv A outer s H E).A.units + 1 < cLine := by have := hr.un; show (A.deeper (envOfC ("Job.span" : PySem.Str) (defScope s_Job_span) s.heap.objs.size (fa 23) cdv)).units + 1 < cLine; omega
  have hu2 : (CxF P w K mg base [("self" : PySem.Str)] ("Job.span" : PySem.Str) (defScope s_Job_span) (fa 23) cdv A outer s H E).A.units + 2 < cLine := by have := hr.un; show (A.deeper (envOfC ("Job.span" : PySem.Str) (defScope s_Job_span) s.heap.objs.size (fa 23) cdv)).units + 2 < cLine; omega
  have tk : Takes (CxF P w K mg base [("self" : PySem.Str)] ("Job.span" : PySem.Str) (defScope s_Job_span) (fa 23) cdv A outer s H E) (fun c d _ H' => E c d H') := takes_of rfl rfl rfl rfl
  have hp : PassesOwn (model P w) (CxF P w K mg base [("self" : PySem.Str)] ("Job.span" : PySem.Str) (defScope s_Job_span) (fa 23) cdv A outer s H E).A (CxF P w K mg base [("self" : PySem.Str)] ("Job.span" : PySem.Str) (defScope s_Job_span) (fa 23) cdv A outer s H E).env (CxF P w K mg base [("self" : PySem.Str)] ("Job.span" : PySem.Str) (defScope s_Job_span) (fa 23) cdv A outer s H E).xe := passes_of rfl
  exact
   (sss_one (ss_ret (se_prop F.ci_Wish F.pr_Wish_span (G_Wish_span F) (hr.mono (by decide)) (se_fld (cs := [2]) (F.fld_Job_wish) (se_var 0)))))
theorem G_Job_span (F : Facts P K mg cls fa pa mc) : FnG P w K mg base cls (2 + 1) (fa 23) (sem_Job_span cls) := by
  obtain ⟨fd, D⟩ := F.D_Job_span
  exact fnG_all (fn_body (P := P) (w := w) (mg := mg) (base := base) (cls := cls) (d := 0) D sc_Job_span rfl (fun cdv A outer s H E hr => d_Job_span F cdv A outer s H E hr)) (D.bindsN (ps := [("self" : PySem.Str)]) fun _ _ _ _ _ _ us hl => match us, hl with | [_], _ => rfl)
theorem d_Job_limit (F : Facts P K mg cls fa pa mc) (cdv : Value) (A : Around) (outer : List Env) (s : Shared) (H : Hp) (E : XK) (hr : Room 4 (A.deeper (envOfC ("Job.limit" : PySem.Str) (defScope s_Job_limit) s.heap.objs.size (fa 24) cdv))) :
    SSs (CxF P w K mg base [("self" : PySem.Str)] ("Job.limit" : PySem.Str) (defScope s_Job_limit) (fa 24) cdv A outer s H E) cls (fun c d _ H' => E c d H') (defBody s_Job_limit) (m_Job_limit cls) := by
  have nd := (sc_Job_limit).nd
  have hc : (CxF P w K mg base [("self" : PySem.Str)] ("Job.limit" : PySem.Str) (defScope s_Job_limit) (fa 24) cdv A outer s H E).calm = true := rfl
  have hu : (CxF P w K mg base [("self" : PySem.Str)] ("Job.limit" : PySem.Str) (defScope s_Job_limit) (fa 24) cdv A outer s H E).A.units + 1 < cLine := by have := hr.un; show (A.deeper (envOfC ("Job.limit" : PySem.Str) (defScope s_Job_limit) s.heap.objs.size (fa 24) cdv)).units + 1 < cLine; omega
  have hu2 : (CxF P w K mg base [("self" : PySem.Str)] ("Job.limit" : PySem.Str) (defScope s_Job_limit) (fa 24) cdv A outer s H E).A.units + 2 < cLine := by have := hr.un; show (A.deeper (envOfC ("Job.limit" : PySem.Str) (defScope s_Job_limit) s.heap.objs.size (fa 24) cdv)).units + 2 < cLine; omega
  have tk : Takes (CxF P w K mg base [("self" : PySem.Str)] ("Job.limit" : PySem.Str) (defScope s_Job_limit) (fa 24) cdv A outer s H E) (fun c d _ H' => E c d H') := takes_of rfl rfl rfl rfl
  have hp : PassesOwn (model P w) (CxF P w K mg base [("self" : PySem.Str)] ("Job.limit" : PySem.Str) (defScope s_Job_limit) (fa 24) cdv A outer s H E).A (CxF P w K mg base [("self" : PySem.Str)] ("Job.limit" : PySem.Str) (defScope s_Job_limit) (fa 24) cdv A outer s H E).env (CxF P w K mg base [("self" : PySem.Str)] ("Job.limit" : PySem.Str) (defScope s_Job_limit) (fa 24) cdv A outer s H E).xe := passes_of rfl
  exact
   (sss_one (ss_ret (se_if (SW.st (sw_and (st_cmp ow_isnot (se_fld (cs := [2]) (F.fld_Job_most) (se_var 0)) se_non) (sw_and1 (st_cmp ow_lt (se_fld (cs := [2]) (F.fld_Job_most) (se_var 0)) (se_prop F.ci_Job F.pr_Job_span (G_Job_span F) (hr.mono (by decide)) (se_var 0)))))) (se_fld (cs := [2]) (F.fld_Job_most) (se_var 0)) se_non)))
theorem G_Job_limit (F : Facts P K mg cls fa pa mc) : FnG P w K mg base cls (4 + 1) (fa 24) (sem_Job_limit cls) := by
  obtain ⟨fd, D⟩ := F.D_Job_limit
  exact fnG_all (fn_body (P := P) (w := w) (mg := mg) (base := base) (cls := cls) (d := 0) D sc_Job_limit rfl (fun cdv A outer s H E hr => d_Job_limit F cdv A outer s H E hr)) (D.bindsN (ps := [("self" : PySem.Str)]) fun _ _ _ _ _ _ us hl => match us, hl with | [_], _ => rfl)
theorem d_need_job (F : Facts P K mg cls fa pa mc) (cdv : Value) (A : Around) (outer : List Env) (s : Shared) (H : Hp) (E : XK) (hr : Room 0 (A.deeper (envOfC ("need_job" : PySem.Str) (defScope s_need_job) s.heap.objs.size (fa 25) cdv))) :
    SSs (CxF P w K mg base [("job" : PySem.Str), ("part" : PySem.Str)] ("need_job" : PySem.Str) (defScope s_need_job) (fa 25) cdv A outer s H E) cls (fun c d _ H' => E c d H') (defBody s_need_job) (m_need_job cls) := by
  have nd := (sc_need_job).nd
  have hc : (CxF P w K mg base [("job" : PySem.Str), ("part" : PySem.Str)] ("need_job" : PySem.Str) (defScope s_need_job) (fa 25) cdv A outer s H E).calm = true := rfl
  have hu : (CxF P w K mg base [("job" : PySem.Str), ("part" : PySem.Str)] ("need_job" : PySem.Str) (defScope s_need_job) (fa 25) cdv A outer s H E).A.units + 1 < cLine := by have := hr.un; show (A.deeper (envOfC ("need_job" : PySem.Str) (defScope s_need_job) s.heap.objs.size (fa 25) cdv)).units + 1 < cLine; omega
  have hu2 : (CxF P w K mg base [("job" : PySem.Str), ("part" : PySem.Str)] ("need_job" : PySem.Str) (defScope s_need_job) (fa 25) cdv A outer s H E).A.units + 2 < cLine := by have := hr.un; show (A.deeper (envOfC ("need_job" : PySem.Str) (defScope s_need_job) s.heap.objs.size (fa 25) cdv)).units + 2 < cLine; omega
  have tk : Takes (CxF P w K mg base [("job" : PySem.Str), ("part" : PySem.Str)] ("need_job" : PySem.Str) (defScope s_need_job) (fa 25) cdv A outer s H E) (fun c d _ H' => E c d H') := takes_of rfl rfl rfl rfl
  have hp : PassesOwn (model P w) (CxF P w K mg base [("job" : PySem.Str), ("part" : PySem.Str)] ("need_job" : PySem.Str) (defScope s_need_job) (fa 25) cdv A outer s H E).A (CxF P w K mg base [("job" : PySem.Str), ("part" : PySem.Str)] ("need_job" : PySem.Str) (defScope s_need_job) (fa 25) cdv A outer s H E).env (CxF P w K mg base [("job" : PySem.Str), ("part" : PySem.Str)] ("need_job" : PySem.Str) (defScope s_need_job) (fa 25) cdv A outer s H E).xe := passes_of rfl
  exact
   (sss_one (ss_if (st_not (st_val (se_callB F.n_isinstance (by decide +kernel) (cal_isi F.isi) (sa_cons (se_var 0) (sa_cons (se_gadr rfl F.c_Job) sa_nil)))))
 (sss_one ss_never)
 sss_nil))
theorem G_need_job (F : Facts P K mg cls fa pa mc) : FnG P w K mg base cls (0 + 1) (fa 25) (sem_need_job cls) := by
  obtain ⟨fd, D⟩ := F.D_need_job
  have FB := fn_body (P := P) (w := w) (mg := mg) (base := base) (cls := cls) (d := 0) D sc_need_job rfl (fun cdv A outer s H E hr => d_need_job F cdv A outer s H E hr)
  exact (fnG_or (fun l => Nat.beq l.length 1) (fnG_dfl FB (D.binds1 (ps := [("job" : PySem.Str), ("part" : PySem.Str)]) 1 0 (by simp) rfl (fun T kV doc pm an cdv ct us its h1 h2 => match us, h1, its, h2 with | [_], _, [_], _ => ⟨_, rfl, rfl⟩)) [.str ("job" : PySem.Str)] (fun _ _ => ⟨_, _, rfl, rfl, rfl⟩)) (fnG_all FB (binds_all (D.binds1 (ps := [("job" : PySem.Str), ("part" : PySem.Str)]) 2 1 (by simp) rfl (fun T kV doc pm an cdv ct us its h1 h2 => match us, h1, its, h2 with | [_, _], _, [_], _ => ⟨_, rfl, rfl⟩)))))
theorem d_Ratio_init (F : Facts P K mg cls fa pa mc) (cdv : Value) (A : Around) (outer : List Env) (s : Shared) (H : Hp) (E : XK) (hr : Room 6 (A.deeper (envOfC ("Ratio.__init__" : PySem.Str) (defScope s_Ratio_init) s.heap.objs.size (fa 26) cdv))) :
    SSs (CxF P w K mg base [("self" : PySem.Str), ("top" : PySem.Str), ("bottom" : PySem.Str), ("shared" : PySem.Str)] ("Ratio.__init__" : PySem.Str) (defScope s_Ratio_init) (fa 26) cdv A outer s H E) cls (fun c d _ H' => E c d H') (defBody s_Ratio_init) (m_Ratio_init cls) := by
  have nd := (sc_Ratio_init).nd
  have hc : (CxF P w K mg base [("self" : PySem.Str), ("top" : PySem.Str), ("bottom" : PySem.Str), ("shared" : PySem.Str)] ("Ratio.__init__" : PySem.Str) (defScope s_Ratio_init) (fa 26) cdv A outer s H E).calm = true := rfl
  have hu : (CxF P w K mg base [("self" : PySem.Str), ("top" : PySem.Str), ("bottom" : PySem.Str), ("shared" : PySem.Str)] ("Ratio.__init__" : PySem.Str) (defScope s_Ratio_init) (fa 26) cdv A outer s H E).A.units + 1 < cLine := by have := hr.un; show (A.deeper (envOfC ("Ratio.__init__" : PySem.Str) (defScope s_Ratio_init) s.heap.objs.size (fa 26) cdv)).units + 1 < cLine; omega
  have hu2 : (CxF P w K mg base [("self" : PySem.Str), ("top" : PySem.Str), ("bottom" : PySem.Str), ("shared" : PySem.Str)] ("Ratio.__init__" : PySem.Str) (defScope s_Ratio_init) (fa 26) cdv A outer s H E).A.units + 2 < cLine := by have := hr.un; show (A.deeper (envOfC ("Ratio.__init__" : PySem.Str) (defScope s_Ratio_init) s.heap.objs.size (fa 26) cdv)).units + 2 < cLine; omega
  have tk : Takes (CxF P w K mg base [("self" : PySem.Str), ("top" : PySem.Str), ("bottom" : PySem.Str), ("shared" : PySem.Str)] ("Ratio.__init__" : PySem.Str) (defScope s_Ratio_init) (fa 26) cdv A outer s H E) (fun c d _ H' => E c d H') := takes_of rfl rfl rfl rfl
  have hp : PassesOwn (model P w) (CxF P w K mg base [("self" : PySem.Str), ("top" : PySem.Str), ("bottom" : PySem.Str), ("shared" : PySem.Str)] ("Ratio.__init__" : PySem.Str) (defScope s_Ratio_init) (fa 26) cdv A outer s H E).A (CxF P w K mg base [("self" : PySem.Str), ("top" : PySem.Str), ("bottom" : PySem.Str), ("shared" : PySem.Str)] ("Ratio.__init__" : PySem.Str) (defScope s_Ratio_init) (fa 26) cdv A outer s H E).env (CxF P w K mg base [("self" : PySem.Str), ("top" : PySem.Str), ("bottom" : PySem.Str), ("shared" : PySem.Str)] ("Ratio.__init__" : PySem.Str) (defScope s_Ratio_init) (fa 26) cdv A outer s H E).xe := passes_of rfl
  exact
   (sss_cons (ss_if (st_not (st_val (se_call (cal_fn (G_is_integer F) (hr.mono (by decide)) tk) F.kp_is_integer F.g_is_integer (sa_cons (se_var 1) sa_nil))))
 (sss_one ss_never)
 sss_nil)
 (sss_cons (ss_if (SW.st (sw_or (st_not (st_val (se_call (cal_fn (G_is_integer F) (hr.mono (by decide)) tk) F.kp_is_integer F.g_is_integer (sa_cons (se_var 2) sa_nil)))) (sw_or1 (st_cmp (ow_eq (f := 4) eqOk0 (hr.mono (by decide))) (se_var 2) se_int))))
 (sss_one ss_never)
 sss_nil)
 (sss_cons (ss_set (i := 3) nd (se_if (st_cmp ow_gt (se_var 2) se_int) (se_callG F.g_gcd cal_gcd (sa_cons (se_var 1) (sa_cons (se_var 2) sa_nil))) (se_neg (se_callG F.g_gcd cal_gcd (sa_cons (se_var 1) (sa_cons (se_var 2) sa_nil))))))
 (sss_cons (ss_fld (cs := [3]) (F.fld_Ratio_top) (se_var 0) (se_bin ow_div (se_var 1) (se_var 3)))
 (sss_one (ss_fld (cs := [3]) (F.fld_Ratio_bottom) (se_var 0) (se_bin ow_div (se_var 2) (se_var 3))))))))
theorem G_Ratio_init (F : Facts P K mg cls fa pa mc) : FnG P w K mg base cls (6 + 1) (fa 26) (sem_Ratio_init cls) := by
  obtain ⟨fd, D⟩ := F.D_Ratio_init
  have FB := fn_body (P := P) (w := w) (mg := mg) (base := base) (cls := cls) (d := 1) D sc_Ratio_init rfl (fun cdv A outer s H E hr => d_Ratio_init F cdv A outer s H E hr)
  exact (fnG_or (fun l => Nat.beq l.length 2) (fnG_dfl FB (D.binds1 (ps := [("self" : PySem.Str), ("top" : PySem.Str), ("bottom" : PySem.Str)]) 2 0 (by simp) rfl (fun T kV doc pm an cdv ct us its h1 h2 => match us, h1, its, h2 with | [_, _], _, [_], _ => ⟨_, rfl, rfl⟩)) [.int 1] (fun _ _ => ⟨_, _, rfl, rfl, rfl⟩)) (fnG_all FB (binds_all (D.binds1 (ps := [("self" : PySem.Str), ("top" : PySem.Str), ("bottom" : PySem.Str)]) 3 1 (by simp) rfl (fun T kV doc pm an cdv ct us its h1 h2 => match us, h1, its, h2 with | [_, _, _], _, [_], _ => ⟨_, rfl, rfl⟩)))))
theorem d_ratio_of (F : Facts P K mg cls fa pa mc) (cdv : Value) (A : Around) (outer : List Env) (s : Shared) (H : Hp) (E : XK) (hr : Room 8 (A.deeper (envOfC ("ratio_of" : PySem.Str) (defScope s_ratio_of) s.heap.objs.size (fa 27) cdv))) :
    SSs (CxF P w K mg base [("value" : PySem.Str)] ("ratio_of" : PySem.Str) (defScope s_ratio_of) (fa 27) cdv A outer s H E) cls (fun c d _ H' => E c d H') (defBody s_ratio_of) (m_ratio_of cls) := by
  have nd := (sc_ratio_of).nd
  have hc : (CxF P w K mg base [("value" : PySem.Str)] ("ratio_of" : PySem.Str) (defScope s_ratio_of) (fa 27) cdv A outer s H E).calm = true := rfl
  have hu : (CxF P w K mg base [("value" : PySem.Str)] ("ratio_of" : PySem.Str) (defScope s_ratio_of) (fa 27) cdv A outer s H E).A.units + 1 < cLine := by have := hr.un; show (A.deeper (envOfC ("ratio_of" : PySem.Str) (defScope s_ratio_of) s.heap.objs.size (fa 27) cdv)).units + 1 < cLine; omega
  have hu2 : (CxF P w K mg base [("value" : PySem.Str)] ("ratio_of" : PySem.Str) (defScope s_ratio_of) (fa 27) cdv A outer s H E).A.units + 2 < cLine := by have := hr.un; show (A.deeper (envOfC ("ratio_of" : PySem.Str) (defScope s_ratio_of) s.heap.objs.size (fa 27) cdv)).units + 2 < cLine; omega
  have tk : Takes (CxF P w K mg base [("value" : PySem.Str)] ("ratio_of" : PySem.Str) (defScope s_ratio_of) (fa 27) cdv A outer s H E) (fun c d _ H' => E c d H') := takes_of rfl rfl rfl rfl
  have hp : PassesOwn (model P w) (CxF P w K mg base [("value" : PySem.Str)] ("ratio_of" : PySem.Str) (defScope s_ratio_of) (fa 27) cdv A outer s H E).A (CxF P w K mg base [("value" : PySem.Str)] ("ratio_of" : PySem.Str) (defScope s_ratio_of) (fa 27) cdv A outer s H E).env (CxF P w K mg base [("value" : PySem.Str)] ("ratio_of" : PySem.Str) (defScope s_ratio_of) (fa 27) cdv A outer s H E).xe := passes_of rfl
  exact
   (sss_cons (ss_if (st_val (se_callB F.n_isinstance (by decide +kernel) (cal_isi F.isi) (sa_cons (se_var 0) (sa_cons (se_gadr rfl F.c_Ratio) sa_nil))))
 (sss_one (ss_ret (se_var 0)))
 sss_nil)
 (sss_cons (ss_if (st_not (st_val (se_call (cal_fn (G_is_integer F) (hr.mono (by decide)) tk) F.kp_is_integer F.g_is_integer (sa_cons (se_var 0) sa_nil))))
 (sss_one ss_never)
 sss_nil)
 (sss_one (ss_ret (se_call (cal_make F.mk_Ratio (G_Ratio_init F) (hr.mono (by decide)) tk) F.kc_Ratio F.c_Ratio (sa_cons (se_var 0) sa_nil))))))
theorem G_ratio_of (F : Facts P K mg cls fa pa mc) : FnG P w K mg base cls (8 + 1) (fa 27) (sem_ratio_of cls) := by
  obtain ⟨fd, D⟩ := F.D_ratio_of
  exact fnG_all (fn_body (P := P) (w := w) (mg := mg) (base := base) (cls := cls) (d := 0) D sc_ratio_of rfl (fun cdv A outer s H E hr => d_ratio_of F cdv A outer s H E hr)) (D.bindsN (ps := [("value" : PySem.Str)]) fun _ _ _ _ _ _ us hl => match us, hl with | [_], _ => rfl)
theorem d_Ratio_eq (F : Facts P K mg cls fa pa mc) (cdv : Value) (A : Around) (outer : List Env) (s : Shared) (H : Hp) (E : XK) (hr : Room 6 (A.deeper (envOfC ("Ratio.__eq__" : PySem.Str) (defScope s_Ratio_eq) s.heap.objs.size (fa 28) cdv))) :
    SSs (CxF P w K mg base [("self" : PySem.Str), ("other" : PySem.Str)] ("Ratio.__eq__" : PySem.Str) (defScope s_Ratio_eq) (fa 28) cdv A outer s H E) cls (fun c d _ H' => E c d H') (defBody s_Ratio_eq) (m_Ratio_eq cls) := by
  have nd := (sc_Ratio_eq).nd
  have hc : (CxF P w K mg base [("self" : PySem.Str), ("other" : PySem.Str)] ("Ratio.__eq__" : PySem.Str) (defScope s_Ratio_eq) (fa 28) cdv A outer s H E).calm = true := rfl
  have hu : (CxF P w K mg base [("self" : PySem.Str), ("other" : PySem.Str)] ("Ratio.__eq__" : PySem.Str) (defScope s_Ratio_eq) (fa 28) cdv A outer s H E).A.units + 1 < cLine := by have := hr.un; show (A.deeper (envOfC ("Ratio.__eq__" : PySem.Str) (defScope s_Ratio_eq) s.heap.objs.size (fa 28) cdv)).units + 1 < cLine; omega
  have hu2 : (CxF P w K mg base [("self" : PySem.Str), ("other" : PySem.Str)] ("Ratio.__eq__" : PySem.Str) (defScope s_Ratio_eq) (fa 28) cdv A outer s H E).A.units + 2 < cLine := by have := hr.un; show (A.deeper (envOfC ("Ratio.__eq__" : PySem.Str) (defScope s_Ratio_eq) s.heap.objs.size (fa 28) cdv)).units + 2 < cLine; omega
  have tk : Takes (CxF P w K mg base [("self" : PySem.Str), ("other" : PySem.Str)] ("Ratio.__eq__" : PySem.Str) (defScope s_Ratio_eq) (fa 28) cdv A outer s H E) (fun c d _ H' => E c d H') := takes_of rfl rfl rfl rfl
  have hp : PassesOwn (model P w) (CxF P w K mg base [("self" : PySem.Str), ("other" : PySem.Str)] ("Ratio.__eq__" : PySem.Str) (defScope s_Ratio_eq) (fa 28) cdv A outer s H E).A (CxF P w K mg base [("self" : PySem.Str), ("other" : PySem.Str)] ("Ratio.__eq__" : PySem.Str) (defScope s_Ratio_eq) (fa 28) cdv A outer s H E).env (CxF P w K mg base [("self" : PySem.Str), ("other" : PySem.Str)] ("Ratio.__eq__" : PySem.Str) (defScope s_Ratio_eq) (fa 28) cdv A outer s H E).xe := passes_of rfl
  exact
   (sss_one (ss_ret (se_and (se_callB F.n_isinstance (by decide +kernel) (cal_isi F.isi) (sa_cons (se_var 1) (sa_cons (se_gadr rfl F.c_Ratio) sa_nil))) (se_one (se_cmp (ow_eq (f := 4) eqOk0 (hr.mono (by decide))) (se_tup (sa_cons (se_fld (cs := [3]) (F.fld_Ratio_top) (se_var 0)) (sa_cons (se_fld (cs := [3]) (F.fld_Ratio_bottom) (se_var 0)) sa_nil))) (se_tup (sa_cons (se_fld (cs := [3]) (F.fld_Ratio_top) (se_var 1)) (sa_cons (se_fld (cs := [3]) (F.fld_Ratio_bottom) (se_var 1)) sa_nil))))))))
theorem G_Ratio_eq (F : Facts P K mg cls fa pa mc) : FnG P w K mg base cls (6 + 1) (fa 28) (sem_Ratio_eq cls) := by
  obtain ⟨fd, D⟩ := F.D_Ratio_eq
  exact fnG_all (fn_body (P := P) (w := w) (mg := mg) (base := base) (cls := cls) (d := 0) D sc_Ratio_eq rfl (fun cdv A outer s H E hr => d_Ratio_eq F cdv A outer s H E hr)) (D.bindsN (ps := [("self" : PySem.Str), ("other" : PySem.Str)]) fun _ _ _ _ _ _ us hl => match us, hl with | [_, _], _ => rfl)
theorem eqOkR {X : Cx} (F : Facts X.prog X.K X.mg cls fa pa mc) : EqOk X cls 9 (eqsR cls) := ⟨fun c sem e => match c, e with
  | 0, rfl => ⟨_, F.cm_Head_eq, F.isf_Head_eq, FnG.up (G_Head_eq F) (by decide), F.ne_0, F.mo_0⟩
  | 3, rfl => ⟨_, F.cm_Ratio_eq, F.isf_Ratio_eq, FnG.up (G_Ratio_eq F) (by decide), F.ne_3, F.mo_3⟩⟩
theorem d_Ratio_compare (F : Facts P K mg cls fa pa mc) (cdv : Value) (A : Around) (outer : List Env) (s : Shared) (H : Hp) (E : XK) (hr : Room 9 (A.deeper (envOfC ("Ratio.compare" : PySem.Str) (defScope s_Ratio_compare) s.heap.objs.size (fa 29) cdv))) :
    SSs (CxF P w K mg base [("self" : PySem.Str), ("other" : PySem.Str), ("its" : PySem.Str)] ("Ratio.compare" : PySem.Str) (defScope s_Ratio_compare) (fa 29) cdv A outer s H E) cls (fun c d _ H' => E c d H') (defBody s_Ratio_compare) (m_Ratio_compare cls) := by
  have nd := (sc_Ratio_compare).nd
  have hc : (CxF P w K mg base [("self" : PySem.Str), ("other" : PySem.Str), ("its" : PySem.Str)] ("Ratio.compare" : PySem.Str) (defScope s_Ratio_compare) (fa 29) cdv A outer s H E).calm = true := rfl
  have hu : (CxF P w K mg base [("self" : PySem.Str), ("other" : PySem.Str), ("its" : PySem.Str)] ("Ratio.compare" : PySem.Str) (defScope s_Ratio_compare) (fa 29) cdv A outer s H E).A.units + 1 < cLine := by have := hr.un; show (A.deeper (envOfC ("Ratio.compare" : PySem.Str) (defScope s_Ratio_compare) s.heap.objs.size (fa 29) cdv)).units + 1 < cLine; omega
  have hu2 : (CxF P w K mg base [("self" : PySem.Str), ("other" : PySem.Str), ("its" : PySem.Str)] ("Ratio.compare" : PySem.Str) (defScope s_Ratio_compare) (fa 29) cdv A outer s H E).A.units + 2 < cLine := by have := hr.un; show (A.deeper (envOfC ("Ratio.compare" : PySem.Str) (defScope s_Ratio_compare) s.heap.objs.size (fa 29) cdv)).units + 2 < cLine; omega
  have tk : Takes (CxF P w K mg base [("self" : PySem.Str), ("other" : PySem.Str), ("its" : PySem.Str)] ("Ratio.compare" : PySem.Str) (defScope s_Ratio_compare) (fa 29) cdv A outer s H E) (fun c d _ H' => E c d H') := takes_of rfl rfl rfl rfl
  have hp : PassesOwn (model P w) (CxF P w K mg base [("self" : PySem.Str), ("other" : PySem.Str), ("its" : PySem.Str)] ("Ratio.compare" : PySem.Str) (defScope s_Ratio_compare) (fa 29) cdv A outer s H E).A (CxF P w K mg base [("self" : PySem.Str), ("other" : PySem.Str), ("its" : PySem.Str)] ("Ratio.compare" : PySem.Str) (defScope s_Ratio_compare) (fa 29) cdv A outer s H E).env (CxF P w K mg base [("self" : PySem.Str), ("other" : PySem.Str), ("its" : PySem.Str)] ("Ratio.compare" : PySem.Str) (defScope s_Ratio_compare) (fa 29) cdv A outer s H E).xe := passes_of rfl
  exact
   (sss_cons (ss_set (i := 2) nd (se_call (cal_fn (G_ratio_of F) (hr.mono (by decide)) tk) F.kp_ratio_of F.g_ratio_of (sa_cons (se_var 1) sa_nil)))
 (sss_one (ss_ret (se_bin ow_sub (se_bin ow_mul (se_fld (cs := [3]) (F.fld_Ratio_top) (se_var 0)) (se_fld (cs := [3]) (F.fld_Ratio_bottom) (se_var 2))) (se_bin ow_mul (se_fld (cs := [3]) (F.fld_Ratio_top) (se_var 2)) (se_fld (cs := [3]) (F.fld_Ratio_bottom) (se_var 0)))))))
theorem G_Ratio_compare (F : Facts P K mg cls fa pa mc) : FnG P w K mg base cls (9 + 1) (fa 29) (sem_Ratio_compare cls) := by
  obtain ⟨fd, D⟩ := F.D_Ratio_compare
  exact fnG_all (fn_body (P := P) (w := w) (mg := mg) (base := base) (cls := cls) (d := 1) D sc_Ratio_compare rfl (fun cdv A outer s H E hr => d_Ratio_compare F cdv A outer s H E hr)) (D.bindsN (ps := [("self" : PySem.Str), ("other" : PySem.Str)]) fun _ _ _ _ _ _ us hl => match us, hl with | [_, _], _ => rfl)
theorem d_Ratio_lt (F : Facts P K mg cls fa pa mc) (cdv : Value) (A : Around) (outer : List Env) (s : Shared) (H : Hp) (E : XK) (hr : Room 10 (A.deeper (envOfC ("Ratio.__lt__" : PySem.Str) (defScope s_Ratio_lt) s.heap.objs.size (fa 30) cdv))) :
    SSs (CxF P w K mg base [("self" : PySem.Str), ("other" : PySem.Str)] ("Ratio.__lt__" : PySem.Str) (defScope s_Ratio_lt) (fa 30) cdv A outer s H E) cls (fun c d _ H' => E c d H') (defBody s_Ratio_lt) (m_Ratio_lt cls) := by
  have nd := (sc_Ratio_lt).nd
  have hc : (CxF P w K mg base [("self" : PySem.Str), ("other" : PySem.Str)] ("Ratio.__lt__" : PySem.Str) (defScope s_Ratio_lt) (fa 30) cdv A outer s H E).calm = true := rfl
  have hu : (CxF P w K mg base [("self" : PySem.Str), ("other" : PySem.Str)] ("Ratio.__lt__" : PySem.Str) (defScope s_Ratio_lt) (fa 30) cdv A outer s H E).A.units + 1 < cLine := by have := hr.un; show (A.deeper (envOfC ("Ratio.__lt__" : PySem.Str) (defScope s_Ratio_lt) s.heap.objs.size (fa 30) cdv)).units + 1 < cLine; omega
  have hu2 : (CxF P w K mg base [("self" : PySem.Str), ("other" : PySem.Str)] ("Ratio.__lt__" : PySem.Str) (defScope s_Ratio_lt) (fa 30) cdv A outer s H E).A.units + 2 < cLine := by have := hr.un; show (A.deeper (envOfC ("Ratio.__lt__" : PySem.Str) (defScope s_Ratio_lt) s.heap.objs.size (fa 30) cdv)).units + 2 < cLine; omega
  have tk : Takes (CxF P w K mg base [("self" : PySem.Str), ("other" : PySem.Str)] ("Ratio.__lt__" : PySem.Str) (defScope s_Ratio_lt) (fa 30) cdv A outer s H E) (fun c d _ H' => E c d H') := takes_of rfl rfl rfl rfl
  have hp : PassesOwn (model P w) (CxF P w K mg base [("self" : PySem.Str), ("other" : PySem.Str)] ("Ratio.__lt__" : PySem.Str) (defScope s_Ratio_lt) (fa 30) cdv A outer s H E).A (CxF P w K mg base [("self" : PySem.Str), ("other" : PySem.Str)] ("Ratio.__lt__" : PySem.Str) (defScope s_Ratio_lt) (fa 30) cdv A outer s H E).env (CxF P w K mg base [("self" : PySem.Str), ("other" : PySem.Str)] ("Ratio.__lt__" : PySem.Str) (defScope s_Ratio_lt) (fa 30) cdv A outer s H E).xe := passes_of rfl
  exact
   (sss_one (ss_ret (se_cmp ow_lt (se_meth F.ci_Ratio F.me_Ratio_compare (cal_fn (G_Ratio_compare F) (hr.mono (by decide)) tk) (se_var 0) (sa_cons (se_var 1) sa_nil)) se_int)))
theorem G_Ratio_lt (F : Facts P K mg cls fa pa mc) : FnG P w K mg base cls (10 + 1) (fa 30) (sem_Ratio_lt cls) := by
  obtain ⟨fd, D⟩ := F.D_Ratio_lt
  exact fnG_all (fn_body (P := P) (w := w) (mg := mg) (base := base) (cls := cls) (d := 0) D sc_Ratio_lt rfl (fun cdv A outer s H E hr => d_Ratio_lt F cdv A outer s H E hr)) (D.bindsN (ps := [("self" : PySem.Str), ("other" : PySem.Str)]) fun _ _ _ _ _ _ us hl => match us, hl with | [_, _], _ => rfl)
theorem d_Paper_init (F : Facts P K mg cls fa pa mc) (cdv : Value) (A : Around) (outer : List Env) (s : Shared) (H : Hp) (E : XK) (hr : Room 0 (A.deeper (envOfC ("Paper.__init__" : PySem.Str) (defScope s_Paper_init) s.heap.objs.size (fa 31) cdv))) :
    SSs (CxF P w K mg base [("self" : PySem.Str), ("parts" : PySem.Str)] ("Paper.__init__" : PySem.Str) (defScope s_Paper_init) (fa 31) cdv A outer s H E) cls (fun c d _ H' => E c d H') (defBody s_Paper_init) (m_Paper_init cls) := by
  have nd := (sc_Paper_init).nd
  have hc : (CxF P w K mg base [("self" : PySem.Str), ("parts" : PySem.Str)] ("Paper.__init__" : PySem.Str) (defScope s_Paper_init) (fa 31) cdv A outer s H E).calm = true := rfl
  have hu : (CxF P w K mg base [("self" : PySem.Str), ("parts" : PySem.Str)] ("Paper.__init__" : PySem.Str) (defScope s_Paper_init) (fa 31) cdv A outer s H E).A.units + 1 < cLine := by have := hr.un; show (A.deeper (envOfC ("Paper.__init__" : PySem.Str) (defScope s_Paper_init) s.heap.objs.size (fa 31) cdv)).units + 1 < cLine; omega
  have hu2 : (CxF P w K mg base [("self" : PySem.Str), ("parts" : PySem.Str)] ("Paper.__init__" : PySem.Str) (defScope s_Paper_init) (fa 31) cdv A outer s H E).A.units + 2 < cLine := by have := hr.un; show (A.deeper (envOfC ("Paper.__init__" : PySem.Str) (defScope s_Paper_init) s.heap.objs.size (fa 31) cdv)).units + 2 < cLine; omega
  have tk : Takes (CxF P w K mg base [("self" : PySem.Str), ("parts" : PySem.Str)] ("Paper.__init__" : PySem.Str) (defScope s_Paper_init) (fa 31) cdv A outer s H E) (fun c d _ H' => E c d H') := takes_of rfl rfl rfl rfl
  have hp : PassesOwn (model P w) (CxF P w K mg base [("self" : PySem.Str), ("parts" : PySem.Str)] ("Paper.__init__" : PySem.Str) (defScope s_Paper_init) (fa 31) cdv A outer s H E).A (CxF P w K mg base [("self" : PySem.Str), ("parts" : PySem.Str)] ("Paper.__init__" : PySem.Str) (defScope s_Paper_init) (fa 31) cdv A outer s H E).env (CxF P w K mg base [("self" : PySem.Str), ("parts" : PySem.Str)] ("Paper.__init__" : PySem.Str) (defScope s_Paper_init) (fa 31) cdv A outer s H E).xe := passes_of rfl
  exact
   (sss_one (ss_fld (cs := [5, 4]) (F.fld_Paper_parts) (se_var 0) (se_var 1)))
theorem G_Paper_init (F : Facts P K mg cls fa pa mc) : FnG P w K mg base cls (0 + 1) (fa 31) (sem_Paper_init cls) := by
  obtain ⟨fd, D⟩ := F.D_Paper_init
  exact fn_starG (ps := [("self" : PySem.Str)]) (pv := ("parts" : PySem.Str)) (d := 0) D sc_Paper_init rfl (fun _ _ _ _ _ _ us rest hl => match us, rest, hl with | [_], [], _ => rfl | [_], _ :: _, _ => rfl) (fun cdv A outer s H E hr => d_Paper_init F cdv A outer s H E hr)
def supE_Rated_init : List PySem.Expr := match defBody s_Rated_init with
  | .Expr (.Call _ es _ _) _ :: _ => es
  | _ => []
theorem da_Rated_init (F : Facts P K mg cls fa pa mc) (cc cdc : Addr) (A : Around) (outer : List Env) (s : Shared) (H : Hp) (E : XK) (hr : Room 1 (A.deeper (NdefX.envF ⟨("__init__" : PySem.Str), ("Rated.__init__" : PySem.Str), defArgs s_Rated_init, defBody s_Rated_init, defScope s_Rated_init, [(("__class__" : Str), cc)], cdc⟩ (fa 32) s.heap.objs.size))) : SA (CxS P w K mg base [("self" : PySem.Str), ("least" : PySem.Str), ("prices" : PySem.Str), ("ring" : PySem.Str), ("__class__" : PySem.Str)] ⟨("__init__" : PySem.Str), ("Rated.__init__" : PySem.Str), defArgs s_Rated_init, defBody s_Rated_init, defScope s_Rated_init, [(("__class__" : Str), cc)], cdc⟩ (fa 32) A outer s H E) cls (fun c d _ H' => E c d H') supE_Rated_init (ma_Rated_init cls) := by
  have nd := (sc_Rated_init).nd
  have hc : (CxS P w K mg base [("self" : PySem.Str), ("least" : PySem.Str), ("prices" : PySem.Str), ("ring" : PySem.Str), ("__class__" : PySem.Str)] ⟨("__init__" : PySem.Str), ("Rated.__init__" : PySem.Str), defArgs s_Rated_init, defBody s_Rated_init, defScope s_Rated_init, [(("__class__" : Str), cc)], cdc⟩ (fa 32) A outer s H E).calm = true := rfl
  have hu : (CxS P w K mg base [("self" : PySem.Str), ("least" : PySem.Str), ("prices" : PySem.Str), ("ring" : PySem.Str), ("__class__" : PySem.Str)] ⟨("__init__" : PySem.Str), ("Rated.__init__" : PySem.Str), defArgs s_Rated_init, defBody s_Rated_init, defScope s_Rated_init, [(("__class__" : Str), cc)], cdc⟩ (fa 32) A outer s H E).A.units + 1 < cLine := by have := hr.un; exact (by omega : (A.deeper (NdefX.envF ⟨("__init__" : PySem.Str), ("Rated.__init__" : PySem.Str), defArgs s_Rated_init, defBody s_Rated_init, defScope s_Rated_init, [(("__class__" : Str), cc)], cdc⟩ (fa 32) s.heap.objs.size)).units + 1 < cLine)
  have hu2 : (CxS P w K mg base [("self" : PySem.Str), ("least" : PySem.Str), ("prices" : PySem.Str), ("ring" : PySem.Str), ("__class__" : PySem.Str)] ⟨("__init__" : PySem.Str), ("Rated.__init__" : PySem.Str), defArgs s_Rated_init, defBody s_Rated_init, defScope s_Rated_init, [(("__class__" : Str), cc)], cdc⟩ (fa 32) A outer s H E).A.units + 2 < cLine := by have := hr.un; exact (by omega : (A.deeper (NdefX.envF ⟨("__init__" : PySem.Str), ("Rated.__init__" : PySem.Str), defArgs s_Rated_init, defBody s_Rated_init, defScope s_Rated_init, [(("__class__" : Str), cc)], cdc⟩ (fa 32) s.heap.objs.size)).units + 2 < cLine)
  have tk : Takes (CxS P w K mg base [("self" : PySem.Str), ("least" : PySem.Str), ("prices" : PySem.Str), ("ring" : PySem.Str), ("__class__" : PySem.Str)] ⟨("__init__" : PySem.Str), ("Rated.__init__" : PySem.Str), defArgs s_Rated_init, defBody s_Rated_init, defScope s_Rated_init, [(("__class__" : Str), cc)], cdc⟩ (fa 32) A outer s H E) (fun c d _ H' => E c d H') := takes_of rfl rfl rfl rfl
  have hp : PassesOwn (model P w) (CxS P w K mg base [("self" : PySem.Str), ("least" : PySem.Str), ("prices" : PySem.Str), ("ring" : PySem.Str), ("__class__" : PySem.Str)] ⟨("__init__" : PySem.Str), ("Rated.__init__" : PySem.Str), defArgs s_Rated_init, defBody s_Rated_init, defScope s_Rated_init, [(("__class__" : Str), cc)], cdc⟩ (fa 32) A outer s H E).A (CxS P w K mg base [("self" : PySem.Str), ("least" : PySem.Str), ("prices" : PySem.Str), ("ring" : PySem.Str), ("__class__" : PySem.Str)] ⟨("__init__" : PySem.Str), ("Rated.__init__" : PySem.Str), defArgs s_Rated_init, defBody s_Rated_init, defScope s_Rated_init, [(("__class__" : Str), cc)], cdc⟩ (fa 32) A outer s H E).env (CxS P w K mg base [("self" : PySem.Str), ("least" : PySem.Str), ("prices" : PySem.Str), ("ring" : PySem.Str), ("__class__" : PySem.Str)] ⟨("__init__" : PySem.Str), ("Rated.__init__" : PySem.Str), defArgs s_Rated_init, defBody s_Rated_init, defScope s_Rated_init, [(("__class__" : Str), cc)], cdc⟩ (fa 32) A outer s H E).xe := passes_of rfl
  exact
   (sa_cons (se_var 1) (sa_cons (se_var 2) (sa_cons (se_var 3) sa_nil)))
theorem d_Rated_init (F : Facts P K mg cls fa pa mc) (cc cdc : Addr) (A : Around) (outer : List Env) (s : Shared) (H : Hp) (E : XK) (hr : Room 1 (A.deeper (NdefX.envF ⟨("__init__" : PySem.Str), ("Rated.__init__" : PySem.Str), defArgs s_Rated_init, defBody s_Rated_init, defScope s_Rated_init, [(("__class__" : Str), cc)], cdc⟩ (fa 32) s.heap.objs.size))) : SSs (CxS P w K mg base [("self" : PySem.Str), ("least" : PySem.Str), ("prices" : PySem.Str), ("ring" : PySem.Str), ("__class__" : PySem.Str)] ⟨("__init__" : PySem.Str), ("Rated.__init__" : PySem.Str), defArgs s_Rated_init, defBody s_Rated_init, defScope s_Rated_init, [(("__class__" : Str), cc)], cdc⟩ (fa 32) A outer s H E) cls (fun c d _ H' => E c d H') (defBody s_Rated_init).tail (m_Rated_init cls) := by
  have nd := (sc_Rated_init).nd
  have hc : (CxS P w K mg base [("self" : PySem.Str), ("least" : PySem.Str), ("prices" : PySem.Str), ("ring" : PySem.Str), ("__class__" : PySem.Str)] ⟨("__init__" : PySem.Str), ("Rated.__init__" : PySem.Str), defArgs s_Rated_init, defBody s_Rated_init, defScope s_Rated_init, [(("__class__" : Str), cc)], cdc⟩ (fa 32) A outer s H E).calm = true := rfl
  have hu : (CxS P w K mg base [("self" : PySem.Str), ("least" : PySem.Str), ("prices" : PySem.Str), ("ring" : PySem.Str), ("__class__" : PySem.Str)] ⟨("__init__" : PySem.Str), ("Rated.__init__" : PySem.Str), defArgs s_Rated_init, defBody s_Rated_init, defScope s_Rated_init, [(("__class__" : Str), cc)], cdc⟩ (fa 32) A outer s H E).A.units + 1 < cLine := by have := hr.un; exact (by omega : (A.deeper (NdefX.envF ⟨("__init__" : PySem.Str), ("Rated.__init__" : PySem.Str), defArgs s_Rated_init, defBody s_Rated_init, defScope s_Rated_init, [(("__class__" : Str), cc)], cdc⟩ (fa 32) s.heap.objs.size)).units + 1 < cLine)
  have hu2 : (CxS P w K mg base [("self" : PySem.Str), ("least" : PySem.Str), ("prices" : PySem.Str), ("ring" : PySem.Str), ("__class__" : PySem.Str)] ⟨("__init__" : PySem.Str), ("Rated.__init__" : PySem.Str), defArgs s_Rated_init, defBody s_Rated_init, defScope s_Rated_init, [(("__class__" : Str), cc)], cdc⟩ (fa 32) A outer s H E).A.units + 2 < cLine := by have := hr.un; exact (by omega : (A.deeper (NdefX.envF ⟨("__init__" : PySem.Str), ("Rated.__init__" : PySem.Str), defArgs s_Rated_init, defBody s_Rated_init, defScope s_Rated_init, [(("__class__" : Str), cc)], cdc⟩ (fa 32) s.heap.objs.size)).units + 2 < cLine)
  have tk : Takes (CxS P w K mg base [("self" : PySem.Str), ("least" : PySem.Str), ("prices" : PySem.Str), ("ring" : PySem.Str), ("__class__" : PySem.Str)] ⟨("__init__" : PySem.Str), ("Rated.__init__" : PySem.Str), defArgs s_Rated_init, defBody s_Rated_init, defScope s_Rated_init, [(("__class__" : Str), cc)], cdc⟩ (fa 32) A outer s H E) (fun c d _ H' => E c d H') := takes_of rfl rfl rfl rfl
  have hp : PassesOwn (model P w) (CxS P w K mg base [("self" : PySem.Str), ("least" : PySem.Str), ("prices" : PySem.Str), ("ring" : PySem.Str), ("__class__" : PySem.Str)] ⟨("__init__" : PySem.Str), ("Rated.__init__" : PySem.Str), defArgs s_Rated_init, defBody s_Rated_init, defScope s_Rated_init, [(("__class__" : Str), cc)], cdc⟩ (fa 32) A outer s H E).A (CxS P w K mg base [("self" : PySem.Str), ("least" : PySem.Str), ("prices" : PySem.Str), ("ring" : PySem.Str), ("__class__" : PySem.Str)] ⟨("__init__" : PySem.Str), ("Rated.__init__" : PySem.Str), defArgs s_Rated_init, defBody s_Rated_init, defScope s_Rated_init, [(("__class__" : Str), cc)], cdc⟩ (fa 32) A outer s H E).env (CxS P w K mg base [("self" : PySem.Str), ("least" : PySem.Str), ("prices" : PySem.Str), ("ring" : PySem.Str), ("__class__" : PySem.Str)] ⟨("__init__" : PySem.Str), ("Rated.__init__" : PySem.Str), defArgs s_Rated_init, defBody s_Rated_init, defScope s_Rated_init, [(("__class__" : Str), cc)], cdc⟩ (fa 32) A outer s H E).xe := passes_of rfl
  exact
   (sss_cons (ss_fld (cs := [4]) (F.fld_Rated_least) (se_var 0) (se_var 1))
 (sss_cons (ss_fld (cs := [4]) (F.fld_Rated_prices) (se_var 0) (se_var 2))
 (sss_one (ss_fld (cs := [4]) (F.fld_Rated_ring) (se_var 0) (se_var 3)))))
theorem G_Rated_init (F : Facts P K mg cls fa pa mc) : FnG P w K mg base cls (1 + 1) (fa 32) (sem_Rated_init cls) := by
  obtain ⟨cc, cdc, D⟩ := F.SD_Rated_init
  exact fn_supG (F := ⟨("__init__" : PySem.Str), ("Rated.__init__" : PySem.Str), defArgs s_Rated_init, defBody s_Rated_init, defScope s_Rated_init, [(("__class__" : Str), cc)], cdc⟩) (N := [("self" : PySem.Str), ("least" : PySem.Str), ("prices" : PySem.Str), ("ring" : PySem.Str), ("__class__" : PySem.Str)]) (ps := [("self" : PySem.Str), ("least" : PySem.Str), ("prices" : PySem.Str), ("ring" : PySem.Str)]) (d := 0) (g := fa 31) sc_Rated_init rfl D rfl rfl rfl (fun _ _ _ us hl => match us, hl with | [_, _, _, _], _ => rfl) F.SM_Rated_init (FnG.up (G_Paper_init F) (by decide)) (show (defScope s_Rated_init).names.lookup ("super" : Str) = some .globalImplicit from by decide +kernel) F.n_super (fun A outer s H E hr => da_Rated_init F cc cdc A outer s H E hr) (fun A outer s H E hr => d_Rated_init F cc cdc A outer s H E hr)
theorem d_all_windows (F : Facts P K mg cls fa pa mc) (cdv : Value) (A : Around) (outer : List Env) (s : Shared) (H : Hp) (E : XK) (hr : Room 0 (A.deeper (envOfC ("all_windows" : PySem.Str) (defScope s_all_windows) s.heap.objs.size (fa 33) cdv))) :
    SSs (CxF P w K mg base [("size" : PySem.Str), ("found" : PySem.Str), ("place" : PySem.Str), ("window" : PySem.Str), ("sign" : PySem.Str)] ("all_windows" : PySem.Str) (defScope s_all_windows) (fa 33) cdv A outer s H E) cls (fun c d _ H' => E c d H') (defBody s_all_windows) (m_all_windows cls) := by
  have nd := (sc_all_windows).nd
  have hc : (CxF P w K mg base [("size" : PySem.Str), ("found" : PySem.Str), ("place" : PySem.Str), ("window" : PySem.Str), ("sign" : PySem.Str)] ("all_windows" : PySem.Str) (defScope s_all_windows) (fa 33) cdv A outer s H E).calm = true := rfl
  have hu : (CxF P w K mg base [("size" : PySem.Str), ("found" : PySem.Str), ("place" : PySem.Str), ("window" : PySem.Str), ("sign" : PySem.Str)] ("all_windows" : PySem.Str) (defScope s_all_windows) (fa 33) cdv A outer s H E).A.units + 1 < cLine := by have := hr.un; show (A.deeper (envOfC ("all_windows" : PySem.Str) (defScope s_all_windows) s.heap.objs.size (fa 33) cdv)).units + 1 < cLine; omega
  have hu2 : (CxF P w K mg base [("size" : PySem.Str), ("found" : PySem.Str), ("place" : PySem.Str), ("window" : PySem.Str), ("sign" : PySem.Str)] ("all_windows" : PySem.Str) (defScope s_all_windows) (fa 33) cdv A outer s H E).A.units + 2 < cLine := by have := hr.un; show (A.deeper (envOfC ("all_windows" : PySem.Str) (defScope s_all_windows) s.heap.objs.size (fa 33) cdv)).units + 2 < cLine; omega
  have tk : Takes (CxF P w K mg base [("size" : PySem.Str), ("found" : PySem.Str), ("place" : PySem.Str), ("window" : PySem.Str), ("sign" : PySem.Str)] ("all_windows" : PySem.Str) (defScope s_all_windows) (fa 33) cdv A outer s H E) (fun c d _ H' => E c d H') := takes_of rfl rfl rfl rfl
  have hp : PassesOwn (model P w) (CxF P w K mg base [("size" : PySem.Str), ("found" : PySem.Str), ("place" : PySem.Str), ("window" : PySem.Str), ("sign" : PySem.Str)] ("all_windows" : PySem.Str) (defScope s_all_windows) (fa 33) cdv A outer s H E).A (CxF P w K mg base [("size" : PySem.Str), ("found" : PySem.Str), ("place" : PySem.Str), ("window" : PySem.Str), ("sign" : PySem.Str)] ("all_windows" : PySem.Str) (defScope s_all_windows) (fa 33) cdv A outer s H E).env (CxF P w K mg base [("size" : PySem.Str), ("found" : PySem.Str), ("place" : PySem.Str), ("window" : PySem.Str), ("sign" : PySem.Str)] ("all_windows" : PySem.Str) (defScope s_all_windows) (fa 33) cdv A outer s H E).xe := passes_of rfl
  exact
   (sss_cons (ss_set (i := 1) nd (se_lst (sa_cons se_str sa_nil)))
 (sss_cons (ss_for hp hc (si_range1 F.n_range (sa_cons (se_var 0) sa_nil)) (sg_name (i := 2) nd)
 (sss_one (ss_setLc2 (i := 1) [(("window" : PySem.Str), 3), (("sign" : PySem.Str), 4)] [4] hc nd (si_seq (se_var 1)) (fun _ _ _ _ _ => pg_name (i := 3) nd rfl (by first | exact .inl rfl | exact .inr rfl)) (cg_name (by decide)) (fun _ _ _ _ _ => sifs_nil) (fun _ _ _ _ _ => (si_str (se_gstr rfl F.k_SIGNS))) (fun _ _ _ _ _ => pg_name (i := 4) nd rfl (by first | exact .inl rfl | exact .inr rfl)) (cg_name (by decide)) (fun _ _ _ _ _ => sifs_nil) (fun _ _ _ _ _ => (se_bin ow_add (se_var 3) (se_var 4))) (ok := blkOk_by (by kernel_rfl)))))
 (sss_one (ss_ret (se_var 1)))))
theorem G_all_windows (F : Facts P K mg cls fa pa mc) : FnG P w K mg base cls (0 + 1) (fa 33) (sem_all_windows cls) := by
  obtain ⟨fd, D⟩ := F.D_all_windows
  exact fnG_all (fn_body (P := P) (w := w) (mg := mg) (base := base) (cls := cls) (d := 4) D sc_all_windows rfl (fun cdv A outer s H E hr => d_all_windows F cdv A outer s H E hr)) (D.bindsN (ps := [("size" : PySem.Str)]) fun _ _ _ _ _ _ us hl => match us, hl with | [_], _ => rfl)
theorem d_touching (F : Facts P K mg cls fa pa mc) (cdv : Value) (A : Around) (outer : List Env) (s : Shared) (H : Hp) (E : XK) (hr : Room 6 (A.deeper (envOfC ("touching" : PySem.Str) (defScope s_touching) s.heap.objs.size (fa 34) cdv))) :
    SSs (CxF P w K mg base [("window" : PySem.Str), ("sign" : PySem.Str), ("offset" : PySem.Str), ("one" : PySem.Str)] ("touching" : PySem.Str) (defScope s_touching) (fa 34) cdv A outer s H E) cls (fun c d _ H' => E c d H') (defBody s_touching) (m_touching cls) := by
  have nd := (sc_touching).nd
  have hc : (CxF P w K mg base [("window" : PySem.Str), ("sign" : PySem.Str), ("offset" : PySem.Str), ("one" : PySem.Str)] ("touching" : PySem.Str) (defScope s_touching) (fa 34) cdv A outer s H E).calm = true := rfl
  have hu : (CxF P w K mg base [("window" : PySem.Str), ("sign" : PySem.Str), ("offset" : PySem.Str), ("one" : PySem.Str)] ("touching" : PySem.Str) (defScope s_touching) (fa 34) cdv A outer s H E).A.units + 1 < cLine := by have := hr.un; show (A.deeper (envOfC ("touching" : PySem.Str) (defScope s_touching) s.heap.objs.size (fa 34) cdv)).units + 1 < cLine; omega
  have hu2 : (CxF P w K mg base [("window" : PySem.Str), ("sign" : PySem.Str), ("offset" : PySem.Str), ("one" : PySem.Str)] ("touching" : PySem.Str) (defScope s_touching) (fa 34) cdv A outer s H E).A.units + 2 < cLine := by have := hr.un; show (A.deeper (envOfC ("touching" : PySem.Str) (defScope s_touching) s.heap.objs.size (fa 34) cdv)).units + 2 < cLine; omega
  have tk : Takes (CxF P w K mg base [("window" : PySem.Str), ("sign" : PySem.Str), ("offset" : PySem.Str), ("one" : PySem.Str)] ("touching" : PySem.Str) (defScope s_touching) (fa 34) cdv A outer s H E) (fun c d _ H' => E c d H') := takes_of rfl rfl rfl rfl
  have hp : PassesOwn (model P w) (CxF P w K mg base [("window" : PySem.Str), ("sign" : PySem.Str), ("offset" : PySem.Str), ("one" : PySem.Str)] ("touching" : PySem.Str) (defScope s_touching) (fa 34) cdv A outer s H E).A (CxF P w K mg base [("window" : PySem.Str), ("sign" : PySem.Str), ("offset" : PySem.Str), ("one" : PySem.Str)] ("touching" : PySem.Str) (defScope s_touching) (fa 34) cdv A outer s H E).env (CxF P w K mg base [("window" : PySem.Str), ("sign" : PySem.Str), ("offset" : PySem.Str), ("one" : PySem.Str)] ("touching" : PySem.Str) (defScope s_touching) (fa 34) cdv A outer s H E).xe := passes_of rfl
  exact
   (sss_one (ss_ret (se_lc [(("offset" : PySem.Str), 2), (("one" : PySem.Str), 3)] hc nd (si_enum F.n_enumerate (sa_cons (se_joined (SJ.cons (se_fmt (se_var 1)) (SJ.cons (se_fmt (se_revS (se_var 0))) SJ.nil))) sa_nil)) (fun _ _ _ _ _ => pg_tup (by exact hc) (pgs_cons (pg_name (i := 2) nd rfl (by first | exact .inl rfl | exact .inr rfl)) (pgs_cons (pg_name (i := 3) nd rfl (by first | exact .inl rfl | exact .inr rfl)) pgs_nil))) (cg_tup (cgs_cons (cg_name (by decide)) (cgs_cons (cg_name (by decide)) cgs_nil))) (fun _ _ _ _ _ => sifs_one (st_cmp (ow_eq (f := 4) eqOk0 (hr.mono (by decide))) (se_var 3) se_str)) (fun _ _ _ _ _ => (se_var 2)) (ok := blkOk_by (by kernel_rfl)))))
theorem G_touching (F : Facts P K mg cls fa pa mc) : FnG P w K mg base cls (6 + 1) (fa 34) (sem_touching cls) := by
  obtain ⟨fd, D⟩ := F.D_touching
  exact fnG_all (fn_body (P := P) (w := w) (mg := mg) (base := base) (cls := cls) (d := 2) D sc_touching rfl (fun cdv A outer s H E hr => d_touching F cdv A outer s H E hr)) (D.bindsN (ps := [("window" : PySem.Str), ("sign" : PySem.Str)]) fun _ _ _ _ _ _ us hl => match us, hl with | [_, _], _ => rfl)
theorem d_is_fed (F : Facts P K mg cls fa pa mc) (cdv : Value) (A : Around) (outer : List Env) (s : Shared) (H : Hp) (E : XK) (hr : Room 6 (A.deeper (envOfC ("is_fed" : PySem.Str) (defScope s_is_fed) s.heap.objs.size (fa 35) cdv))) :
    SSs (CxF P w K mg base [("job" : PySem.Str), ("window" : PySem.Str)] ("is_fed" : PySem.Str) (defScope s_is_fed) (fa 35) cdv A outer s H E) cls (fun c d _ H' => E c d H') (defBody s_is_fed) (m_is_fed cls) := by
  have nd := (sc_is_fed).nd
  have hc : (CxF P w K mg base [("job" : PySem.Str), ("window" : PySem.Str)] ("is_fed" : PySem.Str) (defScope s_is_fed) (fa 35) cdv A outer s H E).calm = true := rfl
  have hu : (CxF P w K mg base [("job" : PySem.Str), ("window" : PySem.Str)] ("is_fed" : PySem.Str) (defScope s_is_fed) (fa 35) cdv A outer s H E).A.units + 1 < cLine := by have := hr.un; show (A.deeper (envOfC ("is_fed" : PySem.Str) (defScope s_is_fed) s.heap.objs.size (fa 35) cdv)).units + 1 < cLine; omega
  have hu2 : (CxF P w K mg base [("job" : PySem.Str), ("window" : PySem.Str)] ("is_fed" : PySem.Str) (defScope s_is_fed) (fa 35) cdv A outer s H E).A.units + 2 < cLine := by have := hr.un; show (A.deeper (envOfC ("is_fed" : PySem.Str) (defScope s_is_fed) s.heap.objs.size (fa 35) cdv)).units + 2 < cLine; omega
  have tk : Takes (CxF P w K mg base [("job" : PySem.Str), ("window" : PySem.Str)] ("is_fed" : PySem.Str) (defScope s_is_fed) (fa 35) cdv A outer s H E) (fun c d _ H' => E c d H') := takes_of rfl rfl rfl rfl
  have hp : PassesOwn (model P w) (CxF P w K mg base [("job" : PySem.Str), ("window" : PySem.Str)] ("is_fed" : PySem.Str) (defScope s_is_fed) (fa 35) cdv A outer s H E).A (CxF P w K mg base [("job" : PySem.Str), ("window" : PySem.Str)] ("is_fed" : PySem.Str) (defScope s_is_fed) (fa 35) cdv A outer s H E).env (CxF P w K mg base [("job" : PySem.Str), ("window" : PySem.Str)] ("is_fed" : PySem.Str) (defScope s_is_fed) (fa 35) cdv A outer s H E).xe := passes_of rfl
  exact
   (sss_one (ss_ret (se_or (se_cmp ow_is (se_prop F.ci_Job F.pr_Job_limit (G_Job_limit F) (hr.mono (by decide)) (se_var 0)) se_non) (se_one (se_cmp (ow_in (f := 4) eqOk0 (hr.mono (by decide))) se_str (se_sl (se_var 1) (so_some (se_neg (se_prop F.ci_Job F.pr_Job_limit (G_Job_limit F) (hr.mono (by decide)) (se_var 0)))) so_none))))))
theorem G_is_fed (F : Facts P K mg cls fa pa mc) : FnG P w K mg base cls (6 + 1) (fa 35) (sem_is_fed cls) := by
  obtain ⟨fd, D⟩ := F.D_is_fed
  exact fnG_all (fn_body (P := P) (w := w) (mg := mg) (base := base) (cls := cls) (d := 0) D sc_is_fed rfl (fun cdv A outer s H E hr => d_is_fed F cdv A outer s H E hr)) (D.bindsN (ps := [("job" : PySem.Str), ("window" : PySem.Str)]) fun _ _ _ _ _ _ us hl => match us, hl with | [_, _], _ => rfl)
theorem d_is_step (F : Facts P K mg cls fa pa mc) (cdv : Value) (A : Around) (outer : List Env) (s : Shared) (H : Hp) (E : XK) (hr : Room 8 (A.deeper (envOfC ("is_step" : PySem.Str) (defScope s_is_step) s.heap.objs.size (fa 36) cdv))) :
    SSs (CxF P w K mg base [("job" : PySem.Str), ("window" : PySem.Str), ("sign" : PySem.Str)] ("is_step" : PySem.Str) (defScope s_is_step) (fa 36) cdv A outer s H E) cls (fun c d _ H' => E c d H') (defBody s_is_step) (m_is_step cls) := by
  have nd := (sc_is_step).nd
  have hc : (CxF P w K mg base [("job" : PySem.Str), ("window" : PySem.Str), ("sign" : PySem.Str)] ("is_step" : PySem.Str) (defScope s_is_step) (fa 36) cdv A outer s H E).calm = true := rfl
  have hu : (CxF P w K mg base [("job" : PySem.Str), ("window" : PySem.Str), ("sign" : PySem.Str)] ("is_step" : PySem.Str) (defScope s_is_step) (fa 36) cdv A outer s H E).A.units + 1 < cLine := by have := hr.un; show (A.deeper (envOfC ("is_step" : PySem.Str) (defScope s_is_step) s.heap.objs.size (fa 36) cdv)).units + 1 < cLine; omega
  have hu2 : (CxF P w K mg base [("job" : PySem.Str), ("window" : PySem.Str), ("sign" : PySem.Str)] ("is_step" : PySem.Str) (defScope s_is_step) (fa 36) cdv A outer s H E).A.units + 2 < cLine := by have := hr.un; show (A.deeper (envOfC ("is_step" : PySem.Str) (defScope s_is_step) s.heap.objs.size (fa 36) cdv)).units + 2 < cLine; omega
  have tk : Takes (CxF P w K mg base [("job" : PySem.Str), ("window" : PySem.Str), ("sign" : PySem.Str)] ("is_step" : PySem.Str) (defScope s_is_step) (fa 36) cdv A outer s H E) (fun c d _ H' => E c d H') := takes_of rfl rfl rfl rfl
  have hp : PassesOwn (model P w) (CxF P w K mg base [("job" : PySem.Str), ("window" : PySem.Str), ("sign" : PySem.Str)] ("is_step" : PySem.Str) (defScope s_is_step) (fa 36) cdv A outer s H E).A (CxF P w K mg base [("job" : PySem.Str), ("window" : PySem.Str), ("sign" : PySem.Str)] ("is_step" : PySem.Str) (defScope s_is_step) (fa 36) cdv A outer s H E).env (CxF P w K mg base [("job" : PySem.Str), ("window" : PySem.Str), ("sign" : PySem.Str)] ("is_step" : PySem.Str) (defScope s_is_step) (fa 36) cdv A outer s H E).xe := passes_of rfl
  exact
   (sss_one (ss_ret (se_and (se_meth F.ci_Wish F.me_Wish_is_met (cal_fn (G_Wish_is_met F) (hr.mono (by decide)) tk) (se_fld (cs := [2]) (F.fld_Job_wish) (se_var 0)) (sa_cons (se_call (cal_fn (G_touching F) (hr.mono (by decide)) tk) F.kp_touching F.g_touching (sa_cons (se_var 1) (sa_cons (se_var 2) sa_nil))) sa_nil)) (se_one (se_or (se_cmp (ow_eq (f := 4) eqOk0 (hr.mono (by decide))) (se_var 2) se_str) (se_one (se_call (cal_fn (G_is_fed F) (hr.mono (by decide)) tk) F.kp_is_fed F.g_is_fed (sa_cons (se_var 0) (sa_cons (se_var 1) sa_nil)))))))))
theorem G_is_step (F : Facts P K mg cls fa pa mc) : FnG P w K mg base cls (8 + 1) (fa 36) (sem_is_step cls) := by
  obtain ⟨fd, D⟩ := F.D_is_step
  exact fnG_all (fn_body (P := P) (w := w) (mg := mg) (base := base) (cls := cls) (d := 0) D sc_is_step rfl (fun cdv A outer s H E hr => d_is_step F cdv A outer s H E hr)) (D.bindsN (ps := [("job" : PySem.Str), ("window" : PySem.Str), ("sign" : PySem.Str)]) fun _ _ _ _ _ _ us hl => match us, hl with | [_, _, _], _ => rfl)
theorem d_behind (F : Facts P K mg cls fa pa mc) (cdv : Value) (A : Around) (outer : List Env) (s : Shared) (H : Hp) (E : XK) (hr : Room 0 (A.deeper (envOfC ("behind" : PySem.Str) (defScope s_behind) s.heap.objs.size (fa 37) cdv))) :
    SSs (CxF P w K mg base [("window" : PySem.Str), ("sign" : PySem.Str)] ("behind" : PySem.Str) (defScope s_behind) (fa 37) cdv A outer s H E) cls (fun c d _ H' => E c d H') (defBody s_behind) (m_behind cls) := by
  have nd := (sc_behind).nd
  have hc : (CxF P w K mg base [("window" : PySem.Str), ("sign" : PySem.Str)] ("behind" : PySem.Str) (defScope s_behind) (fa 37) cdv A outer s H E).calm = true := rfl
  have hu : (CxF P w K mg base [("window" : PySem.Str), ("sign" : PySem.Str)] ("behind" : PySem.Str) (defScope s_behind) (fa 37) cdv A outer s H E).A.units + 1 < cLine := by have := hr.un; show (A.deeper (envOfC ("behind" : PySem.Str) (defScope s_behind) s.heap.objs.size (fa 37) cdv)).units + 1 < cLine; omega
  have hu2 : (CxF P w K mg base [("window" : PySem.Str), ("sign" : PySem.Str)] ("behind" : PySem.Str) (defScope s_behind) (fa 37) cdv A outer s H E).A.units + 2 < cLine := by have := hr.un; show (A.deeper (envOfC ("behind" : PySem.Str) (defScope s_behind) s.heap.objs.size (fa 37) cdv)).units + 2 < cLine; omega
  have tk : Takes (CxF P w K mg base [("window" : PySem.Str), ("sign" : PySem.Str)] ("behind" : PySem.Str) (defScope s_behind) (fa 37) cdv A outer s H E) (fun c d _ H' => E c d H') := takes_of rfl rfl rfl rfl
  have hp : PassesOwn (model P w) (CxF P w K mg base [("window" : PySem.Str), ("sign" : PySem.Str)] ("behind" : PySem.Str) (defScope s_behind) (fa 37) cdv A outer s H E).A (CxF P w K mg base [("window" : PySem.Str), ("sign" : PySem.Str)] ("behind" : PySem.Str) (defScope s_behind) (fa 37) cdv A outer s H E).env (CxF P w K mg base [("window" : PySem.Str), ("sign" : PySem.Str)] ("behind" : PySem.Str) (defScope s_behind) (fa 37) cdv A outer s H E).xe := passes_of rfl
  exact
   (sss_one (ss_ret (se_sl (se_joined (SJ.cons (se_fmt (se_var 0)) (SJ.cons (se_fmt (se_var 1)) SJ.nil))) (so_some se_int) so_none)))
theorem G_behind (F : Facts P K mg cls fa pa mc) : FnG P w K mg base cls (0 + 1) (fa 37) (sem_behind cls) := by
  obtain ⟨fd, D⟩ := F.D_behind
  exact fnG_all (fn_body (P := P) (w := w) (mg := mg) (base := base) (cls := cls) (d := 0) D sc_behind rfl (fun cdv A outer s H E hr => d_behind F cdv A outer s H E hr)) (D.bindsN (ps := [("window" : PySem.Str), ("sign" : PySem.Str)]) fun _ _ _ _ _ _ us hl => match us, hl with | [_, _], _ => rfl)
theorem d_web_of (F : Facts P K mg cls fa pa mc) (cdv : Value) (A : Around) (outer : List Env) (s : Shared) (H : Hp) (E : XK) (hr : Room 9 (A.deeper (envOfC ("web_of" : PySem.Str) (defScope s_web_of) s.heap.objs.size (fa 38) cdv))) :
    SSs (CxF P w K mg base [("job" : PySem.Str), ("sign" : PySem.Str), ("window" : PySem.Str)] ("web_of" : PySem.Str) (defScope s_web_of) (fa 38) cdv A outer s H E) cls (fun c d _ H' => E c d H') (defBody s_web_of) (m_web_of cls) := by
  have nd := (sc_web_of).nd
  have hc : (CxF P w K mg base [("job" : PySem.Str), ("sign" : PySem.Str), ("window" : PySem.Str)] ("web_of" : PySem.Str) (defScope s_web_of) (fa 38) cdv A outer s H E).calm = true := rfl
  have hu : (CxF P w K mg base [("job" : PySem.Str), ("sign" : PySem.Str), ("window" : PySem.Str)] ("web_of" : PySem.Str) (defScope s_web_of) (fa 38) cdv A outer s H E).A.units + 1 < cLine := by have := hr.un; show (A.deeper (envOfC ("web_of" : PySem.Str) (defScope s_web_of) s.heap.objs.size (fa 38) cdv)).units + 1 < cLine; omega
  have hu2 : (CxF P w K mg base [("job" : PySem.Str), ("sign" : PySem.Str), ("window" : PySem.Str)] ("web_of" : PySem.Str) (defScope s_web_of) (fa 38) cdv A outer s H E).A.units + 2 < cLine := by have := hr.un; show (A.deeper (envOfC ("web_of" : PySem.Str) (defScope s_web_of) s.heap.objs.size (fa 38) cdv)).units + 2 < cLine; omega
  have tk : Takes (CxF P w K mg base [("job" : PySem.Str), ("sign" : PySem.Str), ("window" : PySem.Str)] ("web_of" : PySem.Str) (defScope s_web_of) (fa 38) cdv A outer s H E) (fun c d _ H' => E c d H') := takes_of rfl rfl rfl rfl
  have hp : PassesOwn (model P w) (CxF P w K mg base [("job" : PySem.Str), ("sign" : PySem.Str), ("window" : PySem.Str)] ("web_of" : PySem.Str) (defScope s_web_of) (fa 38) cdv A outer s H E).A (CxF P w K mg base [("job" : PySem.Str), ("sign" : PySem.Str), ("window" : PySem.Str)] ("web_of" : PySem.Str) (defScope s_web_of) (fa 38) cdv A outer s H E).env (CxF P w K mg base [("job" : PySem.Str), ("sign" : PySem.Str), ("window" : PySem.Str)] ("web_of" : PySem.Str) (defScope s_web_of) (fa 38) cdv A outer s H E).xe := passes_of rfl
  exact
   (sss_one (ss_ret (se_dc [(("window" : PySem.Str), 2)] hc nd (si_seq (se_call (cal_fn (G_all_windows F) (hr.mono (by decide)) tk) F.kp_all_windows F.g_all_windows (sa_cons (se_bin ow_sub (se_prop F.ci_Job F.pr_Job_span (G_Job_span F) (hr.mono (by decide)) (se_var 0)) se_int) sa_nil))) (fun _ _ _ _ _ => pg_name (i := 2) nd rfl (by first | exact .inl rfl | exact .inr rfl)) (cg_name (by decide)) (fun _ _ _ _ _ => sifs_nil) (fun _ _ _ _ _ => (se_var 2)) (fun _ _ _ _ _ => (se_lc [(("sign" : PySem.Str), 1)] hc nd (si_str (se_gstr rfl F.k_SIGNS)) (fun _ _ _ _ _ => pg_name (i := 1) nd rfl (by first | exact .inl rfl | exact .inr rfl)) (cg_name (by decide)) (fun _ _ _ _ _ => sifs_one (st_val (se_call (cal_fn (G_is_step F) (hr.mono (by decide)) takes0) F.kp_is_step F.g_is_step (sa_cons (se_var 0) (sa_cons (se_var 2) (sa_cons (se_var 1) sa_nil)))))) (fun _ _ _ _ _ => (se_var 1)) (ok := blkOk_by (by kernel_rfl)))) (ok := blkOk_by (by kernel_rfl)))))
theorem G_web_of (F : Facts P K mg cls fa pa mc) : FnG P w K mg base cls (9 + 1) (fa 38) (sem_web_of cls) := by
  obtain ⟨fd, D⟩ := F.D_web_of
  exact fnG_all (fn_body (P := P) (w := w) (mg := mg) (base := base) (cls := cls) (d := 2) D sc_web_of rfl (fun cdv A outer s H E hr => d_web_of F cdv A outer s H E hr)) (D.bindsN (ps := [("job" : PySem.Str)]) fun _ _ _ _ _ _ us hl => match us, hl with | [_], _ => rfl)
theorem d_cost_of (F : Facts P K mg cls fa pa mc) (cdv : Value) (A : Around) (outer : List Env) (s : Shared) (H : Hp) (E : XK) (hr : Room 0 (A.deeper (envOfC ("cost_of" : PySem.Str) (defScope s_cost_of) s.heap.objs.size (fa 39) cdv))) :
    SSs (CxF P w K mg base [("rate" : PySem.Str), ("sign" : PySem.Str)] ("cost_of" : PySem.Str) (defScope s_cost_of) (fa 39) cdv A outer s H E) cls (fun c d _ H' => E c d H') (defBody s_cost_of) (m_cost_of cls) := by
  have nd := (sc_cost_of).nd
  have hc : (CxF P w K mg base [("rate" : PySem.Str), ("sign" : PySem.Str)] ("cost_of" : PySem.Str) (defScope s_cost_of) (fa 39) cdv A outer s H E).calm = true := rfl
  have hu : (CxF P w K mg base [("rate" : PySem.Str), ("sign" : PySem.Str)] ("cost_of" : PySem.Str) (defScope s_cost_of) (fa 39) cdv A outer s H E).A.units + 1 < cLine := by have := hr.un; show (A.deeper (envOfC ("cost_of" : PySem.Str) (defScope s_cost_of) s.heap.objs.size (fa 39) cdv)).units + 1 < cLine; omega
  have hu2 : (CxF P w K mg base [("rate" : PySem.Str), ("sign" : PySem.Str)] ("cost_of" : PySem.Str) (defScope s_cost_of) (fa 39) cdv A outer s H E).A.units + 2 < cLine := by have := hr.un; show (A.deeper (envOfC ("cost_of" : PySem.Str) (defScope s_cost_of) s.heap.objs.size (fa 39) cdv)).units + 2 < cLine; omega
  have tk : Takes (CxF P w K mg base [("rate" : PySem.Str), ("sign" : PySem.Str)] ("cost_of" : PySem.Str) (defScope s_cost_of) (fa 39) cdv A outer s H E) (fun c d _ H' => E c d H') := takes_of rfl rfl rfl rfl
  have hp : PassesOwn (model P w) (CxF P w K mg base [("rate" : PySem.Str), ("sign" : PySem.Str)] ("cost_of" : PySem.Str) (defScope s_cost_of) (fa 39) cdv A outer s H E).A (CxF P w K mg base [("rate" : PySem.Str), ("sign" : PySem.Str)] ("cost_of" : PySem.Str) (defScope s_cost_of) (fa 39) cdv A outer s H E).env (CxF P w K mg base [("rate" : PySem.Str), ("sign" : PySem.Str)] ("cost_of" : PySem.Str) (defScope s_cost_of) (fa 39) cdv A outer s H E).xe := passes_of rfl
  exact
   (sss_one (ss_ret (se_bin ow_sub (se_bin ow_mul (se_fld (cs := [3]) (F.fld_Ratio_bottom) (se_var 0)) (se_callTy F.n_int (by decide +kernel) cal_int (sa_cons (se_var 1) sa_nil))) (se_fld (cs := [3]) (F.fld_Ratio_top) (se_var 0)))))
theorem G_cost_of (F : Facts P K mg cls fa pa mc) : FnG P w K mg base cls (0 + 1) (fa 39) (sem_cost_of cls) := by
  obtain ⟨fd, D⟩ := F.D_cost_of
  exact fnG_all (fn_body (P := P) (w := w) (mg := mg) (base := base) (cls := cls) (d := 0) D sc_cost_of rfl (fun cdv A outer s H E hr => d_cost_of F cdv A outer s H E hr)) (D.bindsN (ps := [("rate" : PySem.Str), ("sign" : PySem.Str)]) fun _ _ _ _ _ _ us hl => match us, hl with | [_, _], _ => rfl)
theorem d_lowered (F : Facts P K mg cls fa pa mc) (cdv : Value) (A : Around) (outer : List Env) (s : Shared) (H : Hp) (E : XK) (hr : Room 1 (A.deeper (envOfC ("lowered" : PySem.Str) (defScope s_lowered) s.heap.objs.size (fa 40) cdv))) :
    SSs (CxF P w K mg base [("web" : PySem.Str), ("rate" : PySem.Str), ("prices" : PySem.Str), ("signs" : PySem.Str), ("found" : PySem.Str), ("window" : PySem.Str), ("sign" : PySem.Str), ("paid" : PySem.Str)] ("lowered" : PySem.Str) (defScope s_lowered) (fa 40) cdv A outer s H E) cls (fun c d _ H' => E c d H') (defBody s_lowered) (m_lowered cls) := by
  have nd := (sc_lowered).nd
  have hc : (CxF P w K mg base [("web" : PySem.Str), ("rate" : PySem.Str), ("prices" : PySem.Str), ("signs" : PySem.Str), ("found" : PySem.Str), ("window" : PySem.Str), ("sign" : PySem.Str), ("paid" : PySem.Str)] ("lowered" : PySem.Str) (defScope s_lowered) (fa 40) cdv A outer s H E).calm = true := rfl
  have hu : (CxF P w K mg base [("web" : PySem.Str), ("rate" : PySem.Str), ("prices" : PySem.Str), ("signs" : PySem.Str), ("found" : PySem.Str), ("window" : PySem.Str), ("sign" : PySem.Str), ("paid" : PySem.Str)] ("lowered" : PySem.Str) (defScope s_lowered) (fa 40) cdv A outer s H E).A.units + 1 < cLine := by have := hr.un; show (A.deeper (envOfC ("lowered" : PySem.Str) (defScope s_lowered) s.heap.objs.size (fa 40) cdv)).units + 1 < cLine; omega
  have hu2 : (CxF P w K mg base [("web" : PySem.Str), ("rate" : PySem.Str), ("prices" : PySem.Str), ("signs" : PySem.Str), ("found" : PySem.Str), ("window" : PySem.Str), ("sign" : PySem.Str), ("paid" : PySem.Str)] ("lowered" : PySem.Str) (defScope s_lowered) (fa 40) cdv A outer s H E).A.units + 2 < cLine := by have := hr.un; show (A.deeper (envOfC ("lowered" : PySem.Str) (defScope s_lowered) s.heap.objs.size (fa 40) cdv)).units + 2 < cLine; omega
  have tk : Takes (CxF P w K mg base [("web" : PySem.Str), ("rate" : PySem.Str), ("prices" : PySem.Str), ("signs" : PySem.Str), ("found" : PySem.Str), ("window" : PySem.Str), ("sign" : PySem.Str), ("paid" : PySem.Str)] ("lowered" : PySem.Str) (defScope s_lowered) (fa 40) cdv A outer s H E) (fun c d _ H' => E c d H') := takes_of rfl rfl rfl rfl
  have hp : PassesOwn (model P w) (CxF P w K mg base [("web" : PySem.Str), ("rate" : PySem.Str), ("prices" : PySem.Str), ("signs" : PySem.Str), ("found" : PySem.Str), ("window" : PySem.Str), ("sign" : PySem.Str), ("paid" : PySem.Str)] ("lowered" : PySem.Str) (defScope s_lowered) (fa 40) cdv A outer s H E).A (CxF P w K mg base [("web" : PySem.Str), ("rate" : PySem.Str), ("prices" : PySem.Str), ("signs" : PySem.Str), ("found" : PySem.Str), ("window" : PySem.Str), ("sign" : PySem.Str), ("paid" : PySem.Str)] ("lowered" : PySem.Str) (defScope s_lowered) (fa 40) cdv A outer s H E).env (CxF P w K mg base [("web" : PySem.Str), ("rate" : PySem.Str), ("prices" : PySem.Str), ("signs" : PySem.Str), ("found" : PySem.Str), ("window" : PySem.Str), ("sign" : PySem.Str), ("paid" : PySem.Str)] ("lowered" : PySem.Str) (defScope s_lowered) (fa 40) cdv A outer s H E).xe := passes_of rfl
  exact
   (sss_cons (ss_set (i := 4) nd se_non)
 (sss_cons (ss_lock 0 (ss_for hp hc (si_keys (se_var 0)) (sg_name (i := 5) nd)
 (sss_one (ss_for hp hc (si_seq (se_ix hu (se_var 0) (se_var 5))) (sg_name (i := 6) nd)
 (sss_cons (ss_set (i := 7) nd (se_bin ow_add (se_call (cal_fn (G_cost_of F) (hr.mono (by decide)) tk) F.kp_cost_of F.g_cost_of (sa_cons (se_var 1) (sa_cons (se_var 6) sa_nil))) (se_ix hu (se_var 2) (se_call (cal_fn (G_behind F) (hr.mono (by decide)) tk) F.kp_behind F.g_behind (sa_cons (se_var 5) (sa_cons (se_var 6) sa_nil))))))
 (sss_one (ss_if (st_cmp ow_lt (se_var 7) (se_ix hu (se_var 2) (se_var 5)))
 (sss_cons (ss_put hu (se_var 2) (se_var 5) (se_var 7))
 (sss_cons (ss_put hu (se_var 3) (se_var 5) (se_var 6))
 (sss_one (ss_set (i := 4) nd (se_var 5)))))
 sss_nil)))))))
 (sss_one (ss_ret (se_var 4)))))
theorem G_lowered (F : Facts P K mg cls fa pa mc) : FnG P w K mg base cls (1 + 1) (fa 40) (sem_lowered cls) := by
  obtain ⟨fd, D⟩ := F.D_lowered
  exact fnG_all (fn_body (P := P) (w := w) (mg := mg) (base := base) (cls := cls) (d := 4) D sc_lowered rfl (fun cdv A outer s H E hr => d_lowered F cdv A outer s H E hr)) (D.bindsN (ps := [("web" : PySem.Str), ("rate" : PySem.Str), ("prices" : PySem.Str), ("signs" : PySem.Str)]) fun _ _ _ _ _ _ us hl => match us, hl with | [_, _, _, _], _ => rfl)
theorem d_ring_from (F : Facts P K mg cls fa pa mc) (cdv : Value) (A : Around) (outer : List Env) (s : Shared) (H : Hp) (E : XK) (hr : Room 6 (A.deeper (envOfC ("ring_from" : PySem.Str) (defScope s_ring_from) s.heap.objs.size (fa 41) cdv))) :
    SSs (CxF P w K mg base [("web" : PySem.Str), ("signs" : PySem.Str), ("window" : PySem.Str), ("turn" : PySem.Str), ("begun" : PySem.Str), ("found" : PySem.Str)] ("ring_from" : PySem.Str) (defScope s_ring_from) (fa 41) cdv A outer s H E) cls (fun c d _ H' => E c d H') (defBody s_ring_from) (m_ring_from cls) := by
  have nd := (sc_ring_from).nd
  have hc : (CxF P w K mg base [("web" : PySem.Str), ("signs" : PySem.Str), ("window" : PySem.Str), ("turn" : PySem.Str), ("begun" : PySem.Str), ("found" : PySem.Str)] ("ring_from" : PySem.Str) (defScope s_ring_from) (fa 41) cdv A outer s H E).calm = true := rfl
  have hu : (CxF P w K mg base [("web" : PySem.Str), ("signs" : PySem.Str), ("window" : PySem.Str), ("turn" : PySem.Str), ("begun" : PySem.Str), ("found" : PySem.Str)] ("ring_from" : PySem.Str) (defScope s_ring_from) (fa 41) cdv A outer s H E).A.units + 1 < cLine := by have := hr.un; show (A.deeper (envOfC ("ring_from" : PySem.Str) (defScope s_ring_from) s.heap.objs.size (fa 41) cdv)).units + 1 < cLine; omega
  have hu2 : (CxF P w K mg base [("web" : PySem.Str), ("signs" : PySem.Str), ("window" : PySem.Str), ("turn" : PySem.Str), ("begun" : PySem.Str), ("found" : PySem.Str)] ("ring_from" : PySem.Str) (defScope s_ring_from) (fa 41) cdv A outer s H E).A.units + 2 < cLine := by have := hr.un; show (A.deeper (envOfC ("ring_from" : PySem.Str) (defScope s_ring_from) s.heap.objs.size (fa 41) cdv)).units + 2 < cLine; omega
  have tk : Takes (CxF P w K mg base [("web" : PySem.Str), ("signs" : PySem.Str), ("window" : PySem.Str), ("turn" : PySem.Str), ("begun" : PySem.Str), ("found" : PySem.Str)] ("ring_from" : PySem.Str) (defScope s_ring_from) (fa 41) cdv A outer s H E) (fun c d _ H' => E c d H') := takes_of rfl rfl rfl rfl
  have hp : PassesOwn (model P w) (CxF P w K mg base [("web" : PySem.Str), ("signs" : PySem.Str), ("window" : PySem.Str), ("turn" : PySem.Str), ("begun" : PySem.Str), ("found" : PySem.Str)] ("ring_from" : PySem.Str) (defScope s_ring_from) (fa 41) cdv A outer s H E).A (CxF P w K mg base [("web" : PySem.Str), ("signs" : PySem.Str), ("window" : PySem.Str), ("turn" : PySem.Str), ("begun" : PySem.Str), ("found" : PySem.Str)] ("ring_from" : PySem.Str) (defScope s_ring_from) (fa 41) cdv A outer s H E).env (CxF P w K mg base [("web" : PySem.Str), ("signs" : PySem.Str), ("window" : PySem.Str), ("turn" : PySem.Str), ("begun" : PySem.Str), ("found" : PySem.Str)] ("ring_from" : PySem.Str) (defScope s_ring_from) (fa 41) cdv A outer s H E).xe := passes_of rfl
  exact
   (sss_cons (ss_for hp hc (si_range1 F.n_range (sa_cons (se_callB F.n_len (by decide +kernel) (cal_len) (sa_cons (se_var 0) sa_nil)) sa_nil)) (sg_name (i := 3) nd)
 (sss_one (ss_set (i := 2) nd (se_call (cal_fn (G_behind F) (hr.mono (by decide)) tk) F.kp_behind F.g_behind (sa_cons (se_var 2) (sa_cons (se_ix hu (se_var 1) (se_var 2)) sa_nil))))))
 (sss_cons (ss_par2 (i := 4) (j := 5) hc nd (sa_cons (se_var 2) (sa_cons se_str sa_nil)))
 (sss_cons (ss_while 10000 hp (SW.st (sw_or (st_cmp (ow_eq (f := 4) eqOk0 (hr.mono (by decide))) (se_var 5) se_str) (sw_or1 (st_cmp (ow_ne (f := 4) eqOk0 (hr.mono (by decide))) (se_var 2) (se_var 4)))))
 (sss_cons (ss_aug (k := 5) nd (se_ix hu (se_var 1) (se_var 2)))
 (sss_one (ss_set (i := 2) nd (se_call (cal_fn (G_behind F) (hr.mono (by decide)) tk) F.kp_behind F.g_behind (sa_cons (se_var 2) (sa_cons (se_ix hu (se_var 1) (se_var 2)) sa_nil)))))))
 (sss_one (ss_ret (se_var 5))))))
theorem G_ring_from (F : Facts P K mg cls fa pa mc) : FnG P w K mg base cls (6 + 1) (fa 41) (sem_ring_from cls) := by
  obtain ⟨fd, D⟩ := F.D_ring_from
  exact fnG_all (fn_body (P := P) (w := w) (mg := mg) (base := base) (cls := cls) (d := 3) D sc_ring_from rfl (fun cdv A outer s H E hr => d_ring_from F cdv A outer s H E hr)) (D.bindsN (ps := [("web" : PySem.Str), ("signs" : PySem.Str), ("window" : PySem.Str)]) fun _ _ _ _ _ _ us hl => match us, hl with | [_, _, _], _ => rfl)
theorem d_priced (F : Facts P K mg cls fa pa mc) (cdv : Value) (A : Around) (outer : List Env) (s : Shared) (H : Hp) (E : XK) (hr : Room 7 (A.deeper (envOfC ("priced" : PySem.Str) (defScope s_priced) s.heap.objs.size (fa 42) cdv))) :
    SSs (CxF P w K mg base [("web" : PySem.Str), ("rate" : PySem.Str), ("prices" : PySem.Str), ("signs" : PySem.Str), ("window" : PySem.Str), ("turn" : PySem.Str)] ("priced" : PySem.Str) (defScope s_priced) (fa 42) cdv A outer s H E) cls (fun c d _ H' => E c d H') (defBody s_priced) (m_priced cls) := by
  have nd := (sc_priced).nd
  have hc : (CxF P w K mg base [("web" : PySem.Str), ("rate" : PySem.Str), ("prices" : PySem.Str), ("signs" : PySem.Str), ("window" : PySem.Str), ("turn" : PySem.Str)] ("priced" : PySem.Str) (defScope s_priced) (fa 42) cdv A outer s H E).calm = true := rfl
  have hu : (CxF P w K mg base [("web" : PySem.Str), ("rate" : PySem.Str), ("prices" : PySem.Str), ("signs" : PySem.Str), ("window" : PySem.Str), ("turn" : PySem.Str)] ("priced" : PySem.Str) (defScope s_priced) (fa 42) cdv A outer s H E).A.units + 1 < cLine := by have := hr.un; show (A.deeper (envOfC ("priced" : PySem.Str) (defScope s_priced) s.heap.objs.size (fa 42) cdv)).units + 1 < cLine; omega
  have hu2 : (CxF P w K mg base [("web" : PySem.Str), ("rate" : PySem.Str), ("prices" : PySem.Str), ("signs" : PySem.Str), ("window" : PySem.Str), ("turn" : PySem.Str)] ("priced" : PySem.Str) (defScope s_priced) (fa 42) cdv A outer s H E).A.units + 2 < cLine := by have := hr.un; show (A.deeper (envOfC ("priced" : PySem.Str) (defScope s_priced) s.heap.objs.size (fa 42) cdv)).units + 2 < cLine; omega
  have tk : Takes (CxF P w K mg base [("web" : PySem.Str), ("rate" : PySem.Str), ("prices" : PySem.Str), ("signs" : PySem.Str), ("window" : PySem.Str), ("turn" : PySem.Str)] ("priced" : PySem.Str) (defScope s_priced) (fa 42) cdv A outer s H E) (fun c d _ H' => E c d H') := takes_of rfl rfl rfl rfl
  have hp : PassesOwn (model P w) (CxF P w K mg base [("web" : PySem.Str), ("rate" : PySem.Str), ("prices" : PySem.Str), ("signs" : PySem.Str), ("window" : PySem.Str), ("turn" : PySem.Str)] ("priced" : PySem.Str) (defScope s_priced) (fa 42) cdv A outer s H E).A (CxF P w K mg base [("web" : PySem.Str), ("rate" : PySem.Str), ("prices" : PySem.Str), ("signs" : PySem.Str), ("window" : PySem.Str), ("turn" : PySem.Str)] ("priced" : PySem.Str) (defScope s_priced) (fa 42) cdv A outer s H E).env (CxF P w K mg base [("web" : PySem.Str), ("rate" : PySem.Str), ("prices" : PySem.Str), ("signs" : PySem.Str), ("window" : PySem.Str), ("turn" : PySem.Str)] ("priced" : PySem.Str) (defScope s_priced) (fa 42) cdv A outer s H E).xe := passes_of rfl
  exact
   (sss_cons (ss_par2 (i := 2) (j := 3) hc nd (sa_cons (se_lock 0 (se_dc [(("window" : PySem.Str), 4)] hc nd (si_keys (se_var 0)) (fun _ _ _ _ _ => pg_name (i := 4) nd rfl (by first | exact .inl rfl | exact .inr rfl)) (cg_name (by decide)) (fun _ _ _ _ _ => sifs_nil) (fun _ _ _ _ _ => (se_var 4)) (fun _ _ _ _ _ => se_int) (ok := blkOk_by (by kernel_rfl)))) (sa_cons se_dnew sa_nil)))
 (sss_cons (ss_for hp hc (si_range1 F.n_range (sa_cons (se_bin ow_add (se_callB F.n_len (by decide +kernel) (cal_len) (sa_cons (se_var 0) sa_nil)) se_int) sa_nil)) (sg_name (i := 5) nd)
 (sss_cons (ss_set (i := 4) nd (se_call (cal_fn (G_lowered F) (hr.mono (by decide)) tk) F.kp_lowered F.g_lowered (sa_cons (se_var 0) (sa_cons (se_var 1) (sa_cons (se_var 2) (sa_cons (se_var 3) sa_nil))))))
 (sss_one (ss_if (st_cmp ow_is (se_var 4) se_non)
 (sss_one (ss_ret (se_tup (sa_cons (se_var 2) (sa_cons se_non sa_nil)))))
 sss_nil))))
 (sss_one (ss_ret (se_tup (sa_cons se_non (sa_cons (se_call (cal_fn (G_ring_from F) (hr.mono (by decide)) tk) F.kp_ring_from F.g_ring_from (sa_cons (se_var 0) (sa_cons (se_var 3) (sa_cons (se_var 4) sa_nil)))) sa_nil)))))))
theorem G_priced (F : Facts P K mg cls fa pa mc) : FnG P w K mg base cls (7 + 1) (fa 42) (sem_priced cls) := by
  obtain ⟨fd, D⟩ := F.D_priced
  exact fnG_all (fn_body (P := P) (w := w) (mg := mg) (base := base) (cls := cls) (d := 4) D sc_priced rfl (fun cdv A outer s H E hr => d_priced F cdv A outer s H E hr)) (D.bindsN (ps := [("web" : PySem.Str), ("rate" : PySem.Str)]) fun _ _ _ _ _ _ us hl => match us, hl with | [_, _], _ => rfl)
theorem d_rate_of (F : Facts P K mg cls fa pa mc) (cdv : Value) (A : Around) (outer : List Env) (s : Shared) (H : Hp) (E : XK) (hr : Room 8 (A.deeper (envOfC ("rate_of" : PySem.Str) (defScope s_rate_of) s.heap.objs.size (fa 43) cdv))) :
    SSs (CxF P w K mg base [("ring" : PySem.Str)] ("rate_of" : PySem.Str) (defScope s_rate_of) (fa 43) cdv A outer s H E) cls (fun c d _ H' => E c d H') (defBody s_rate_of) (m_rate_of cls) := by
  have nd := (sc_rate_of).nd
  have hc : (CxF P w K mg base [("ring" : PySem.Str)] ("rate_of" : PySem.Str) (defScope s_rate_of) (fa 43) cdv A outer s H E).calm = true := rfl
  have hu : (CxF P w K mg base [("ring" : PySem.Str)] ("rate_of" : PySem.Str) (defScope s_rate_of) (fa 43) cdv A outer s H E).A.units + 1 < cLine := by have := hr.un; show (A.deeper (envOfC ("rate_of" : PySem.Str) (defScope s_rate_of) s.heap.objs.size (fa 43) cdv)).units + 1 < cLine; omega
  have hu2 : (CxF P w K mg base [("ring" : PySem.Str)] ("rate_of" : PySem.Str) (defScope s_rate_of) (fa 43) cdv A outer s H E).A.units + 2 < cLine := by have := hr.un; show (A.deeper (envOfC ("rate_of" : PySem.Str) (defScope s_rate_of) s.heap.objs.size (fa 43) cdv)).units + 2 < cLine; omega
  have tk : Takes (CxF P w K mg base [("ring" : PySem.Str)] ("rate_of" : PySem.Str) (defScope s_rate_of) (fa 43) cdv A outer s H E) (fun c d _ H' => E c d H') := takes_of rfl rfl rfl rfl
  have hp : PassesOwn (model P w) (CxF P w K mg base [("ring" : PySem.Str)] ("rate_of" : PySem.Str) (defScope s_rate_of) (fa 43) cdv A outer s H E).A (CxF P w K mg base [("ring" : PySem.Str)] ("rate_of" : PySem.Str) (defScope s_rate_of) (fa 43) cdv A outer s H E).env (CxF P w K mg base [("ring" : PySem.Str)] ("rate_of" : PySem.Str) (defScope s_rate_of) (fa 43) cdv A outer s H E).xe := passes_of rfl
  exact
   (sss_one (ss_ret (se_call (cal_make F.mk_Ratio (G_Ratio_init F) (hr.mono (by decide)) tk) F.kc_Ratio F.c_Ratio (sa_cons (se_bm PySem.F.plainAttrs_str PySem.F.slot_str_count PySem.F.type_str_count cal_count (fun _ _ _ _ _ => isStr_ty) (se_var 0) (sa_cons se_str sa_nil)) (sa_cons (se_callB F.n_len (by decide +kernel) (cal_len) (sa_cons (se_var 0) sa_nil)) sa_nil)))))
theorem G_rate_of (F : Facts P K mg cls fa pa mc) : FnG P w K mg base cls (8 + 1) (fa 43) (sem_rate_of cls) := by
  obtain ⟨fd, D⟩ := F.D_rate_of
  exact fnG_all (fn_body (P := P) (w := w) (mg := mg) (base := base) (cls := cls) (d := 0) D sc_rate_of rfl (fun cdv A outer s H E hr => d_rate_of F cdv A outer s H E hr)) (D.bindsN (ps := [("ring" : PySem.Str)]) fun _ _ _ _ _ _ us hl => match us, hl with | [_], _ => rfl)
theorem d_rated (F : Facts P K mg cls fa pa mc) (cdv : Value) (A : Around) (outer : List Env) (s : Shared) (H : Hp) (E : XK) (hr : Room 10 (A.deeper (envOfC ("rated" : PySem.Str) (defScope s_rated) s.heap.objs.size (fa 44) cdv))) :
    SSs (CxF P w K mg base [("job" : PySem.Str), ("web" : PySem.Str), ("ring" : PySem.Str), ("prices" : PySem.Str), ("better" : PySem.Str)] ("rated" : PySem.Str) (defScope s_rated) (fa 44) cdv A outer s H E) cls (fun c d _ H' => E c d H') (defBody s_rated) (m_rated cls) := by
  have nd := (sc_rated).nd
  have hc : (CxF P w K mg base [("job" : PySem.Str), ("web" : PySem.Str), ("ring" : PySem.Str), ("prices" : PySem.Str), ("better" : PySem.Str)] ("rated" : PySem.Str) (defScope s_rated) (fa 44) cdv A outer s H E).calm = true := rfl
  have hu : (CxF P w K mg base [("job" : PySem.Str), ("web" : PySem.Str), ("ring" : PySem.Str), ("prices" : PySem.Str), ("better" : PySem.Str)] ("rated" : PySem.Str) (defScope s_rated) (fa 44) cdv A outer s H E).A.units + 1 < cLine := by have := hr.un; show (A.deeper (envOfC ("rated" : PySem.Str) (defScope s_rated) s.heap.objs.size (fa 44) cdv)).units + 1 < cLine; omega
  have hu2 : (CxF P w K mg base [("job" : PySem.Str), ("web" : PySem.Str), ("ring" : PySem.Str), ("prices" : PySem.Str), ("better" : PySem.Str)] ("rated" : PySem.Str) (defScope s_rated) (fa 44) cdv A outer s H E).A.units + 2 < cLine := by have := hr.un; show (A.deeper (envOfC ("rated" : PySem.Str) (defScope s_rated) s.heap.objs.size (fa 44) cdv)).units + 2 < cLine; omega
  have tk : Takes (CxF P w K mg base [("job" : PySem.Str), ("web" : PySem.Str), ("ring" : PySem.Str), ("prices" : PySem.Str), ("better" : PySem.Str)] ("rated" : PySem.Str) (defScope s_rated) (fa 44) cdv A outer s H E) (fun c d _ H' => E c d H') := takes_of rfl rfl rfl rfl
  have hp : PassesOwn (model P w) (CxF P w K mg base [("job" : PySem.Str), ("web" : PySem.Str), ("ring" : PySem.Str), ("prices" : PySem.Str), ("better" : PySem.Str)] ("rated" : PySem.Str) (defScope s_rated) (fa 44) cdv A outer s H E).A (CxF P w K mg base [("job" : PySem.Str), ("web" : PySem.Str), ("ring" : PySem.Str), ("prices" : PySem.Str), ("better" : PySem.Str)] ("rated" : PySem.Str) (defScope s_rated) (fa 44) cdv A outer s H E).env (CxF P w K mg base [("job" : PySem.Str), ("web" : PySem.Str), ("ring" : PySem.Str), ("prices" : PySem.Str), ("better" : PySem.Str)] ("rated" : PySem.Str) (defScope s_rated) (fa 44) cdv A outer s H E).xe := passes_of rfl
  exact
   (sss_cons (ss_expr (se_call (cal_fn (G_need_job F) (hr.mono (by decide)) tk) F.kp_need_job F.g_need_job (sa_cons (se_var 0) sa_nil)))
 (sss_cons (ss_par3 (i := 1) (j := 2) (k := 3) hc nd (sa_cons (se_call (cal_fn (G_web_of F) (hr.mono (by decide)) tk) F.kp_web_of F.g_web_of (sa_cons (se_var 0) sa_nil)) (sa_cons se_str (sa_cons se_non sa_nil))))
 (sss_cons (ss_while 10000 hp (st_cmp ow_is (se_var 3) se_non)
 (sss_cons (ss_asg (se_call (cal_fn (G_priced F) (hr.mono (by decide)) tk) F.kp_priced F.g_priced (sa_cons (se_var 1) (sa_cons (se_call (cal_fn (G_rate_of F) (hr.mono (by decide)) tk) F.kp_rate_of F.g_rate_of (sa_cons (se_var 2) sa_nil)) sa_nil))) (sg_tup hc (sgs_cons (sg_name (i := 3) nd) (sgs_cons (sg_name (i := 4) nd) sgs_nil))))
 (sss_one (ss_set (i := 2) nd (se_if (st_cmp ow_is (se_var 4) se_non) (se_var 2) (se_var 4))))))
 (sss_one (ss_ret (se_call (cal_make F.mk_Rated (G_Rated_init F) (hr.mono (by decide)) tk) F.kc_Rated F.c_Rated (sa_cons (se_call (cal_fn (G_rate_of F) (hr.mono (by decide)) tk) F.kp_rate_of F.g_rate_of (sa_cons (se_var 2) sa_nil)) (sa_cons (se_var 3) (sa_cons (se_var 2) sa_nil)))))))))
theorem G_rated (F : Facts P K mg cls fa pa mc) : FnG P w K mg base cls (10 + 1) (fa 44) (sem_rated cls) := by
  obtain ⟨fd, D⟩ := F.D_rated
  exact fnG_all (fn_body (P := P) (w := w) (mg := mg) (base := base) (cls := cls) (d := 4) D sc_rated rfl (fun cdv A outer s H E hr => d_rated F cdv A outer s H E hr)) (D.bindsN (ps := [("job" : PySem.Str)]) fun _ _ _ _ _ _ us hl => match us, hl with | [_], _ => rfl)
theorem d_least_rate (F : Facts P K mg cls fa pa mc) (cdv : Value) (A : Around) (outer : List Env) (s : Shared) (H : Hp) (E : XK) (hr : Room 11 (A.deeper (envOfC ("least_rate" : PySem.Str) (defScope s_least_rate) s.heap.objs.size (fa 45) cdv))) :
    SSs (CxF P w K mg base [("job" : PySem.Str)] ("least_rate" : PySem.Str) (defScope s_least_rate) (fa 45) cdv A outer s H E) cls (fun c d _ H' => E c d H') (defBody s_least_rate) (m_least_rate cls) := by
  have nd := (sc_least_rate).nd
  have hc : (CxF P w K mg base [("job" : PySem.Str)] ("least_rate" : PySem.Str) (defScope s_least_rate) (fa 45) cdv A outer s H E).calm = true := rfl
  have hu : (CxF P w K mg base [("job" : PySem.Str)] ("least_rate" : PySem.Str) (defScope s_least_rate) (fa 45) cdv A outer s H E).A.units + 1 < cLine := by have := hr.un; show (A.deeper (envOfC ("least_rate" : PySem.Str) (defScope s_least_rate) s.heap.objs.size (fa 45) cdv)).units + 1 < cLine; omega
  have hu2 : (CxF P w K mg base [("job" : PySem.Str)] ("least_rate" : PySem.Str) (defScope s_least_rate) (fa 45) cdv A outer s H E).A.units + 2 < cLine := by have := hr.un; show (A.deeper (envOfC ("least_rate" : PySem.Str) (defScope s_least_rate) s.heap.objs.size (fa 45) cdv)).units + 2 < cLine; omega
  have tk : Takes (CxF P w K mg base [("job" : PySem.Str)] ("least_rate" : PySem.Str) (defScope s_least_rate) (fa 45) cdv A outer s H E) (fun c d _ H' => E c d H') := takes_of rfl rfl rfl rfl
  have hp : PassesOwn (model P w) (CxF P w K mg base [("job" : PySem.Str)] ("least_rate" : PySem.Str) (defScope s_least_rate) (fa 45) cdv A outer s H E).A (CxF P w K mg base [("job" : PySem.Str)] ("least_rate" : PySem.Str) (defScope s_least_rate) (fa 45) cdv A outer s H E).env (CxF P w K mg base [("job" : PySem.Str)] ("least_rate" : PySem.Str) (defScope s_least_rate) (fa 45) cdv A outer s H E).xe := passes_of rfl
  exact
   (sss_one (ss_ret (se_fld (cs := [4]) (F.fld_Rated_least) (se_call (cal_fn (G_rated F) (hr.mono (by decide)) tk) F.kp_rated F.g_rated (sa_cons (se_var 0) sa_nil)))))
theorem G0_least_rate (F : Facts P K mg cls fa pa mc) : FnG P w K mg base cls (11 + 1) (fa 45) (sem0_least_rate cls) := by
  obtain ⟨fd, D⟩ := F.D_least_rate
  exact fnG_all (fn_body (P := P) (w := w) (mg := mg) (base := base) (cls := cls) (d := 0) D sc_least_rate rfl (fun cdv A outer s H E hr => d_least_rate F cdv A outer s H E hr)) (D.bindsN (ps := [("job" : PySem.Str)]) fun _ _ _ _ _ _ us hl => match us, hl with | [_], _ => rfl)
theorem G_least_rate (F : Facts P K mg cls fa pa mc) : FnG P w K mg base cls (11 + 1) (fa 45) (sem_least_rate cls) := fnG_tab (G0_least_rate F) F.tab_ok
theorem d_best_heads (F : Facts P K mg cls fa pa mc) (cdv : Value) (A : Around) (outer : List Env) (s : Shared) (H : Hp) (E : XK) (hr : Room 17 (A.deeper (envOfC ("best_heads" : PySem.Str) (defScope s_best_heads) s.heap.objs.size (fa 46) cdv))) :
    SSs (CxF P w K mg base [("span" : PySem.Str), ("many" : PySem.Str), ("dots" : PySem.Str), ("best" : PySem.Str), ("found" : PySem.Str), ("rest" : PySem.Str), ("head" : PySem.Str), ("rate" : PySem.Str)] ("best_heads" : PySem.Str) (defScope s_best_heads) (fa 46) cdv A outer s H E) cls (fun c d _ H' => E c d H') (defBody s_best_heads) (m_best_heads cls) := by
  have nd := (sc_best_heads).nd
  have hc : (CxF P w K mg base [("span" : PySem.Str), ("many" : PySem.Str), ("dots" : PySem.Str), ("best" : PySem.Str), ("found" : PySem.Str), ("rest" : PySem.Str), ("head" : PySem.Str), ("rate" : PySem.Str)] ("best_heads" : PySem.Str) (defScope s_best_heads) (fa 46) cdv A outer s H E).calm = true := rfl
  have hu : (CxF P w K mg base [("span" : PySem.Str), ("many" : PySem.Str), ("dots" : PySem.Str), ("best" : PySem.Str), ("found" : PySem.Str), ("rest" : PySem.Str), ("head" : PySem.Str), ("rate" : PySem.Str)] ("best_heads" : PySem.Str) (defScope s_best_heads) (fa 46) cdv A outer s H E).A.units + 1 < cLine := by have := hr.un; show (A.deeper (envOfC ("best_heads" : PySem.Str) (defScope s_best_heads) s.heap.objs.size (fa 46) cdv)).units + 1 < cLine; omega
  have hu2 : (CxF P w K mg base [("span" : PySem.Str), ("many" : PySem.Str), ("dots" : PySem.Str), ("best" : PySem.Str), ("found" : PySem.Str), ("rest" : PySem.Str), ("head" : PySem.Str), ("rate" : PySem.Str)] ("best_heads" : PySem.Str) (defScope s_best_heads) (fa 46) cdv A outer s H E).A.units + 2 < cLine := by have := hr.un; show (A.deeper (envOfC ("best_heads" : PySem.Str) (defScope s_best_heads) s.heap.objs.size (fa 46) cdv)).units + 2 < cLine; omega
  have tk : Takes (CxF P w K mg base [("span" : PySem.Str), ("many" : PySem.Str), ("dots" : PySem.Str), ("best" : PySem.Str), ("found" : PySem.Str), ("rest" : PySem.Str), ("head" : PySem.Str), ("rate" : PySem.Str)] ("best_heads" : PySem.Str) (defScope s_best_heads) (fa 46) cdv A outer s H E) (fun c d _ H' => E c d H') := takes_of rfl rfl rfl rfl
  have hp : PassesOwn (model P w) (CxF P w K mg base [("span" : PySem.Str), ("many" : PySem.Str), ("dots" : PySem.Str), ("best" : PySem.Str), ("found" : PySem.Str), ("rest" : PySem.Str), ("head" : PySem.Str), ("rate" : PySem.Str)] ("best_heads" : PySem.Str) (defScope s_best_heads) (fa 46) cdv A outer s H E).A (CxF P w K mg base [("span" : PySem.Str), ("many" : PySem.Str), ("dots" : PySem.Str), ("best" : PySem.Str), ("found" : PySem.Str), ("rest" : PySem.Str), ("head" : PySem.Str), ("rate" : PySem.Str)] ("best_heads" : PySem.Str) (defScope s_best_heads) (fa 46) cdv A outer s H E).env (CxF P w K mg base [("span" : PySem.Str), ("many" : PySem.Str), ("dots" : PySem.Str), ("best" : PySem.Str), ("found" : PySem.Str), ("rest" : PySem.Str), ("head" : PySem.Str), ("rate" : PySem.Str)] ("best_heads" : PySem.Str) (defScope s_best_heads) (fa 46) cdv A outer s H E).xe := passes_of rfl
  exact
   (sss_cons (ss_if (st_not (st_val (se_call (cal_fn (G_is_within F) (hr.mono (by decide)) tk) F.kp_is_within F.g_is_within (sa_cons (se_var 0) (sa_cons se_int (sa_cons (se_gint rfl F.k_MOST_SPAN) sa_nil))))))
 (sss_one ss_never)
 sss_nil)
 (sss_cons (ss_if (st_not (st_val (se_call (cal_fn (G_is_within F) (hr.mono (by decide)) tk) F.kp_is_within F.g_is_within (sa_cons (se_var 1) (sa_cons se_int (sa_cons (se_var 0) sa_nil))))))
 (sss_one ss_never)
 sss_nil)
 (sss_cons (ss_if (st_not (st_val (se_call (cal_fn (G_is_within F) (hr.mono (by decide)) tk) F.kp_is_within F.g_is_within (sa_cons (se_var 2) (sa_cons se_int (sa_cons (se_var 1) sa_nil))))))
 (sss_one ss_never)
 sss_nil)
 (sss_cons (ss_par2 (i := 3) (j := 4) hc nd (sa_cons se_non (sa_cons (se_lst sa_nil) sa_nil)))
 (sss_cons (ss_for hp hc (si_seq (se_call (cal_fn (G_subsets F) (hr.mono (by decide)) tk) F.kp_subsets F.g_subsets (sa_cons (se_tupRg2 hc F.n_tuple F.n_range se_int (se_var 0)) (sa_cons (se_bin ow_sub (se_var 1) se_int) sa_nil)))) (sg_name (i := 5) nd)
 (sss_cons (ss_set (i := 6) nd (se_callS2 (cal_make F.mk_Head (G_Head_init F) (hr.mono (by decide)) tk) F.kc_Head F.c_Head (sa_cons se_int (sa_star (se_var 5) sa_nil))))
 (sss_cons (ss_set (i := 7) nd (se_call (cal_fn (G_least_rate F) (hr.mono (by decide)) tk) F.kp_least_rate F.g_least_rate (sa_cons (se_call (cal_make F.mk_Job (G_Job_init F) (hr.mono (by decide)) tk) F.kc_Job F.c_Job (sa_cons (se_smeth F.c_Wish F.cr_Wish F.sm_Wish_dots (cal_fn (G_Wish_dots F) (hr.mono (by decide)) tk) (sa_cons (se_var 6) (sa_cons (se_var 2) sa_nil))) sa_nil)) sa_nil)))
 (sss_cons (ss_if (SW.st (sw_or (st_cmp ow_is (se_var 3) se_non) (sw_or1 (st_cmp (ow_own (c := 3) (fun _ _ => rfl) F.cm_Ratio_lt F.isf_Ratio_lt (G_Ratio_lt F) (hr.mono (by decide)) tk) (se_var 7) (se_var 3)))))
 (sss_one (ss_par2 (i := 3) (j := 4) hc nd (sa_cons (se_var 7) (sa_cons (se_lst sa_nil) sa_nil))))
 sss_nil)
 (sss_one (ss_if (st_cmp (ow_eq (f := 4) (eqOkR F) (hr.mono (by decide))) (se_var 7) (se_var 3))
 (sss_one (ss_expr (se_bm PySem.F.plainAttrs_list PySem.F.slot_list_append PySem.F.type_list_append cal_append (fun _ _ _ _ _ => isLst_ty) (se_var 4) (sa_cons (se_var 6) sa_nil))))
 sss_nil))))))
 (sss_one (ss_ret (se_tup (sa_cons (se_var 3) (sa_cons (se_callTy F.n_tuple (by decide +kernel) cal_tuple (sa_cons (se_var 4) sa_nil)) sa_nil))))))))))
theorem G_best_heads (F : Facts P K mg cls fa pa mc) : FnG P w K mg base cls (17 + 1) (fa 46) (sem_best_heads cls) := by
  obtain ⟨fd, D⟩ := F.D_best_heads
  have FB := fn_body (P := P) (w := w) (mg := mg) (base := base) (cls := cls) (d := 5) D sc_best_heads rfl (fun cdv A outer s H E hr => d_best_heads F cdv A outer s H E hr)
  exact (fnG_or (fun l => Nat.beq l.length 2) (fnG_dfl FB (D.binds1 (ps := [("span" : PySem.Str), ("many" : PySem.Str), ("dots" : PySem.Str)]) 2 0 (by simp) rfl (fun T kV doc pm an cdv ct us its h1 h2 => match us, h1, its, h2 with | [_, _], _, [_], _ => ⟨_, rfl, rfl⟩)) [.int 1] (fun _ _ => ⟨_, _, rfl, rfl, rfl⟩)) (fnG_all FB (binds_all (D.binds1 (ps := [("span" : PySem.Str), ("many" : PySem.Str), ("dots" : PySem.Str)]) 3 1 (by simp) rfl (fun T kV doc pm an cdv ct us its h1 h2 => match us, h1, its, h2 with | [_, _, _], _, [_], _ => ⟨_, rfl, rfl⟩)))))
theorem kw_best_heads_0_dots_many_span {X : Cx} {W : WX} {pos p : Pos} {kws : List Keyword} {mk : Eva} (F : Facts X.prog X.K X.mg cls fa pa mc) (hr : Room 18 X.A) (tk : Takes X W) (hkw : SK X cls W kws mk) (hg : Gl X ("best_heads" : PySem.Str) := by rfl) (hall : (backToKw pos (keywordEach kws X.env)).all (·.1.isSome) = true := by rfl) (hks : (backToKw pos (keywordEach kws X.env)).filterMap (·.1) = [("dots" : PySem.Str), ("many" : PySem.Str), ("span" : PySem.Str)] := by rfl) (hpl : ((backTo pos (starEach [] X.env)).any (·.1) || (backToKw pos (keywordEach kws X.env)).any (·.1.isNone)) = false := by rfl) :
    SE X cls W (.Call (.Name ("best_heads" : PySem.Str) p) [] kws pos) (evCallK (semK_best_heads cls) 0 3 gU_kw_best_heads_0_dots_many_span eaNil mk) := by
  obtain ⟨fd, D⟩ := F.D_best_heads
  obtain ⟨its, hb⟩ := FunD.kbinds1 (ps := [("span" : PySem.Str), ("many" : PySem.Str), ("dots" : PySem.Str)]) D 0 [("dots" : PySem.Str), ("many" : PySem.Str), ("span" : PySem.Str)] gA_kw_best_heads_0_dots_many_span (by simp) (fun r1 r2 r3 => ((vals_nth 2 r3).append ((vals_nth 1 r3).append (vals_nth 0 r3)))) (fun T kV doc pm an cdv ct us its ws h1 h2 h3 => match us, h1, its, h2, ws, h3 with | [], _, [_], _, [_, _, _], _ => ⟨_, rfl, rfl⟩)
  exact se_callK0 (gU := gU_kw_best_heads_0_dots_many_span) (fn_body (P := X.prog) (w := X.w) (mg := X.mg) (base := X.base) (cls := cls) (d := 5) D sc_best_heads rfl (fun cdv A outer s H E hr => d_best_heads F cdv A outer s H E hr)) hr tk F.kp_best_heads F.g_best_heads hb (fun ρ H z zs _ q3 => by have qd : RUl X.K ρ H ([.int 1] : List U) ([V.int 1] : List V) := ⟨_, _, rfl, rfl, rfl⟩; exact (RUl.append (rul_nth 2 q3) (RUl.append (rul_nth 1 q3) (rul_nth 0 q3)))) hkw hg hall hks (by decide) hpl
theorem d_law_pen (F : Facts P K mg cls fa pa mc) (cdv : Value) (A : Around) (outer : List Env) (s : Shared) (H : Hp) (E : XK) (hr : Room 0 (A.deeper (envOfC ("_law_pen" : PySem.Str) (defScope s_law_pen) s.heap.objs.size (fa 47) cdv))) :
    SSs (CxF P w K mg base [("script" : PySem.Str)] ("_law_pen" : PySem.Str) (defScope s_law_pen) (fa 47) cdv A outer s H E) cls (fun c d _ H' => E c d H') (defBody s_law_pen) (m_law_pen cls) := by
  have nd := (sc_law_pen).nd
  have hc : (CxF P w K mg base [("script" : PySem.Str)] ("_law_pen" : PySem.Str) (defScope s_law_pen) (fa 47) cdv A outer s H E).calm = true := rfl
  have hu : (CxF P w K mg base [("script" : PySem.Str)] ("_law_pen" : PySem.Str) (defScope s_law_pen) (fa 47) cdv A outer s H E).A.units + 1 < cLine := by have := hr.un; show (A.deeper (envOfC ("_law_pen" : PySem.Str) (defScope s_law_pen) s.heap.objs.size (fa 47) cdv)).units + 1 < cLine; omega
  have hu2 : (CxF P w K mg base [("script" : PySem.Str)] ("_law_pen" : PySem.Str) (defScope s_law_pen) (fa 47) cdv A outer s H E).A.units + 2 < cLine := by have := hr.un; show (A.deeper (envOfC ("_law_pen" : PySem.Str) (defScope s_law_pen) s.heap.objs.size (fa 47) cdv)).units + 2 < cLine; omega
  have tk : Takes (CxF P w K mg base [("script" : PySem.Str)] ("_law_pen" : PySem.Str) (defScope s_law_pen) (fa 47) cdv A outer s H E) (fun c d _ H' => E c d H') := takes_of rfl rfl rfl rfl
  have hp : PassesOwn (model P w) (CxF P w K mg base [("script" : PySem.Str)] ("_law_pen" : PySem.Str) (defScope s_law_pen) (fa 47) cdv A outer s H E).A (CxF P w K mg base [("script" : PySem.Str)] ("_law_pen" : PySem.Str) (defScope s_law_pen) (fa 47) cdv A outer s H E).env (CxF P w K mg base [("script" : PySem.Str)] ("_law_pen" : PySem.Str) (defScope s_law_pen) (fa 47) cdv A outer s H E).xe := passes_of rfl
  exact
   (sss_one (ss_ret (se_lst (sa_cons (se_callTy F.n_list (by decide +kernel) cal_list (sa_cons (se_sl (se_var 0) so_none (so_some se_int)) sa_nil)) (sa_cons se_int (sa_cons se_int sa_nil))))))
theorem G_law_pen (F : Facts P K mg cls fa pa mc) : FnG P w K mg base cls (0 + 1) (fa 47) (sem_law_pen cls) := by
  obtain ⟨fd, D⟩ := F.D_law_pen
  exact fnG_all (fn_body (P := P) (w := w) (mg := mg) (base := base) (cls := cls) (d := 0) D sc_law_pen rfl (fun cdv A outer s H E hr => d_law_pen F cdv A outer s H E hr)) (D.bindsN (ps := [("script" : PySem.Str)]) fun _ _ _ _ _ _ us hl => match us, hl with | [_], _ => rfl)
theorem d_law_draw (F : Facts P K mg cls fa pa mc) (cdv : Value) (A : Around) (outer : List Env) (s : Shared) (H : Hp) (E : XK) (hr : Room 6 (A.deeper (envOfC ("_law_draw" : PySem.Str) (defScope s_law_draw) s.heap.objs.size (fa 48) cdv))) :
    SSs (CxF P w K mg base [("pen" : PySem.Str), ("many" : PySem.Str), ("digit" : PySem.Str), ("lap" : PySem.Str), ("cell" : PySem.Str), ("great" : PySem.Str), ("stir" : PySem.Str)] ("_law_draw" : PySem.Str) (defScope s_law_draw) (fa 48) cdv A outer s H E) cls (fun c d _ H' => E c d H') (defBody s_law_draw) (m_law_draw cls) := by
  have nd := (sc_law_draw).nd
  have hc : (CxF P w K mg base [("pen" : PySem.Str), ("many" : PySem.Str), ("digit" : PySem.Str), ("lap" : PySem.Str), ("cell" : PySem.Str), ("great" : PySem.Str), ("stir" : PySem.Str)] ("_law_draw" : PySem.Str) (defScope s_law_draw) (fa 48) cdv A outer s H E).calm = true := rfl
  have hu : (CxF P w K mg base [("pen" : PySem.Str), ("many" : PySem.Str), ("digit" : PySem.Str), ("lap" : PySem.Str), ("cell" : PySem.Str), ("great" : PySem.Str), ("stir" : PySem.Str)] ("_law_draw" : PySem.Str) (defScope s_law_draw) (fa 48) cdv A outer s H E).A.units + 1 < cLine := by have := hr.un; show (A.deeper (envOfC ("_law_draw" : PySem.Str) (defScope s_law_draw) s.heap.objs.size (fa 48) cdv)).units + 1 < cLine; omega
  have hu2 : (CxF P w K mg base [("pen" : PySem.Str), ("many" : PySem.Str), ("digit" : PySem.Str), ("lap" : PySem.Str), ("cell" : PySem.Str), ("great" : PySem.Str), ("stir" : PySem.Str)] ("_law_draw" : PySem.Str) (defScope s_law_draw) (fa 48) cdv A outer s H E).A.units + 2 < cLine := by have := hr.un; show (A.deeper (envOfC ("_law_draw" : PySem.Str) (defScope s_law_draw) s.heap.objs.size (fa 48) cdv)).units + 2 < cLine; omega
  have tk : Takes (CxF P w K mg base [("pen" : PySem.Str), ("many" : PySem.Str), ("digit" : PySem.Str), ("lap" : PySem.Str), ("cell" : PySem.Str), ("great" : PySem.Str), ("stir" : PySem.Str)] ("_law_draw" : PySem.Str) (defScope s_law_draw) (fa 48) cdv A outer s H E) (fun c d _ H' => E c d H') := takes_of rfl rfl rfl rfl
  have hp : PassesOwn (model P w) (CxF P w K mg base [("pen" : PySem.Str), ("many" : PySem.Str), ("digit" : PySem.Str), ("lap" : PySem.Str), ("cell" : PySem.Str), ("great" : PySem.Str), ("stir" : PySem.Str)] ("_law_draw" : PySem.Str) (defScope s_law_draw) (fa 48) cdv A outer s H E).A (CxF P w K mg base [("pen" : PySem.Str), ("many" : PySem.Str), ("digit" : PySem.Str), ("lap" : PySem.Str), ("cell" : PySem.Str), ("great" : PySem.Str), ("stir" : PySem.Str)] ("_law_draw" : PySem.Str) (defScope s_law_draw) (fa 48) cdv A outer s H E).env (CxF P w K mg base [("pen" : PySem.Str), ("many" : PySem.Str), ("digit" : PySem.Str), ("lap" : PySem.Str), ("cell" : PySem.Str), ("great" : PySem.Str), ("stir" : PySem.Str)] ("_law_draw" : PySem.Str) (defScope s_law_draw) (fa 48) cdv A outer s H E).xe := passes_of rfl
  exact
   (sss_cons (ss_if (st_cmp ow_gt (se_ix hu (se_var 0) se_int) se_int)
 (sss_cons (ss_set (i := 2) nd (se_bin ow_mod (se_callTy F.n_int (by decide +kernel) cal_int (sa_cons (se_ix hu (se_var 0) se_int) sa_nil)) (se_var 1)))
 (sss_cons (ss_put hu (se_var 0) se_int (se_bin ow_div (se_callTy F.n_int (by decide +kernel) cal_int (sa_cons (se_ix hu (se_var 0) se_int) sa_nil)) (se_var 1)))
 (sss_one (ss_ret (se_var 2)))))
 sss_nil)
 (sss_cons (ss_set (i := 3) nd (se_ix hu (se_var 0) se_int))
 (sss_cons (ss_put hu (se_var 0) se_int (se_bin ow_add (se_var 3) se_int))
 (sss_cons (ss_set (i := 4) nd (se_bin ow_add (se_bin ow_mul se_int (se_var 3)) se_int))
 (sss_cons (ss_if (st_cmp (ow_ne (f := 4) eqOk0 (hr.mono (by decide))) (se_ix hu (se_var 0) se_int) (se_lst sa_nil))
 (sss_one (ss_set (i := 4) nd (se_ix hu (se_ix hu (se_var 0) se_int) (se_bin ow_mod (se_callTy F.n_int (by decide +kernel) cal_int (sa_cons (se_var 3) sa_nil)) (se_callB F.n_len (by decide +kernel) (cal_len) (sa_cons (se_ix hu (se_var 0) se_int) sa_nil))))))
 sss_nil)
 (sss_cons (ss_if (SW.st (sw_and (st_cmp ow_lt (se_var 3) (se_callB F.n_len (by decide +kernel) (cal_len) (sa_cons (se_ix hu (se_var 0) se_int) sa_nil))) (sw_and1 (st_cmp ow_ge (se_callB F.n_abs (by decide +kernel) (cal_abs) (sa_cons (se_var 4) sa_nil)) (se_bin ow_pow se_int se_int)))))
 (sss_cons (ss_set (i := 5) nd (se_bin ow_add (se_bin ow_mul se_int (se_bin ow_sub (se_callB F.n_abs (by decide +kernel) (cal_abs) (sa_cons (se_var 4) sa_nil)) (se_bin ow_pow se_int se_int))) (se_callTy F.n_int (by decide +kernel) cal_int (sa_cons (se_cmp ow_lt (se_var 4) se_int) sa_nil))))
 (sss_cons (ss_put hu (se_var 0) se_int (se_bin ow_div (se_callTy F.n_int (by decide +kernel) cal_int (sa_cons (se_var 5) sa_nil)) (se_var 1)))
 (sss_one (ss_ret (se_bin ow_mod (se_callTy F.n_int (by decide +kernel) cal_int (sa_cons (se_var 5) sa_nil)) (se_var 1))))))
 sss_nil)
 (sss_cons (ss_set (i := 6) nd (se_bin ow_mod (se_callTy F.n_int (by decide +kernel) cal_int (sa_cons (se_bin ow_pow (se_bin ow_add (se_bin ow_add (se_bin ow_mod (se_callTy F.n_int (by decide +kernel) cal_int (sa_cons (se_var 4) sa_nil)) se_int) (se_bin ow_mul se_int (se_var 3))) se_int) se_int) sa_nil)) se_int))
 (sss_cons (ss_set (i := 6) nd (se_bin ow_mod (se_callTy F.n_int (by decide +kernel) cal_int (sa_cons (se_bin ow_pow (se_bin ow_add (se_bin ow_add (se_bin ow_mul (se_var 6) (se_bin ow_add (se_bin ow_mul se_int (se_var 3)) se_int)) (se_bin ow_mul (se_bin ow_mul se_int (se_var 3)) (se_var 3))) se_int) se_int) sa_nil)) se_int))
 (sss_one (ss_ret (se_bin ow_mod (se_callTy F.n_int (by decide +kernel) cal_int (sa_cons (se_bin ow_div (se_var 6) se_int) sa_nil)) (se_var 1))))))))))))
theorem G_law_draw (F : Facts P K mg cls fa pa mc) : FnG P w K mg base cls (6 + 1) (fa 48) (sem_law_draw cls) := by
  obtain ⟨fd, D⟩ := F.D_law_draw
  exact fnG_all (fn_body (P := P) (w := w) (mg := mg) (base := base) (cls := cls) (d := 5) D sc_law_draw rfl (fun cdv A outer s H E hr => d_law_draw F cdv A outer s H E hr)) (D.bindsN (ps := [("pen" : PySem.Str), ("many" : PySem.Str)]) fun _ _ _ _ _ _ us hl => match us, hl with | [_, _], _ => rfl)
theorem d_law_pick (F : Facts P K mg cls fa pa mc) (cdv : Value) (A : Around) (outer : List Env) (s : Shared) (H : Hp) (E : XK) (hr : Room 7 (A.deeper (envOfC ("_law_pick" : PySem.Str) (defScope s_law_pick) s.heap.objs.size (fa 49) cdv))) :
    SSs (CxF P w K mg base [("pen" : PySem.Str), ("some" : PySem.Str)] ("_law_pick" : PySem.Str) (defScope s_law_pick) (fa 49) cdv A outer s H E) cls (fun c d _ H' => E c d H') (defBody s_law_pick) (m_law_pick cls) := by
  have nd := (sc_law_pick).nd
  have hc : (CxF P w K mg base [("pen" : PySem.Str), ("some" : PySem.Str)] ("_law_pick" : PySem.Str) (defScope s_law_pick) (fa 49) cdv A outer s H E).calm = true := rfl
  have hu : (CxF P w K mg base [("pen" : PySem.Str), ("some" : PySem.Str)] ("_law_pick" : PySem.Str) (defScope s_law_pick) (fa 49) cdv A outer s H E).A.units + 1 < cLine := by have := hr.un; show (A.deeper (envOfC ("_law_pick" : PySem.Str) (defScope s_law_pick) s.heap.objs.size (fa 49) cdv)).units + 1 < cLine; omega
  have hu2 : (CxF P w K mg base [("pen" : PySem.Str), ("some" : PySem.Str)] ("_law_pick" : PySem.Str) (defScope s_law_pick) (fa 49) cdv A outer s H E).A.units + 2 < cLine := by have := hr.un; show (A.deeper (envOfC ("_law_pick" : PySem.Str) (defScope s_law_pick) s.heap.objs.size (fa 49) cdv)).units + 2 < cLine; omega
  have tk : Takes (CxF P w K mg base [("pen" : PySem.Str), ("some" : PySem.Str)] ("_law_pick" : PySem.Str) (defScope s_law_pick) (fa 49) cdv A outer s H E) (fun c d _ H' => E c d H') := takes_of rfl rfl rfl rfl
  have hp : PassesOwn (model P w) (CxF P w K mg base [("pen" : PySem.Str), ("some" : PySem.Str)] ("_law_pick" : PySem.Str) (defScope s_law_pick) (fa 49) cdv A outer s H E).A (CxF P w K mg base [("pen" : PySem.Str), ("some" : PySem.Str)] ("_law_pick" : PySem.Str) (defScope s_law_pick) (fa 49) cdv A outer s H E).env (CxF P w K mg base [("pen" : PySem.Str), ("some" : PySem.Str)] ("_law_pick" : PySem.Str) (defScope s_law_pick) (fa 49) cdv A outer s H E).xe := passes_of rfl
  exact
   (sss_one (ss_ret (se_ix hu (se_var 1) (se_call (cal_fn (G_law_draw F) (hr.mono (by decide)) tk) F.kp_law_draw F.g_law_draw (sa_cons (se_var 0) (sa_cons (se_callB F.n_len (by decide +kernel) (cal_len) (sa_cons (se_var 1) sa_nil)) sa_nil))))))
theorem G_law_pick (F : Facts P K mg cls fa pa mc) : FnG P w K mg base cls (7 + 1) (fa 49) (sem_law_pick cls) := by
  obtain ⟨fd, D⟩ := F.D_law_pick
  exact fnG_all (fn_body (P := P) (w := w) (mg := mg) (base := base) (cls := cls) (d := 0) D sc_law_pick rfl (fun cdv A outer s H E hr => d_law_pick F cdv A outer s H E hr)) (D.bindsN (ps := [("pen" : PySem.Str), ("some" : PySem.Str)]) fun _ _ _ _ _ _ us hl => match us, hl with | [_, _], _ => rfl)
theorem d_law_heads (F : Facts P K mg cls fa pa mc) (cdv : Value) (A : Around) (outer : List Env) (s : Shared) (H : Hp) (E : XK) (hr : Room 0 (A.deeper (envOfC ("_law_heads" : PySem.Str) (defScope s_law_heads) s.heap.objs.size (fa 50) cdv))) :
    SSs (CxF P w K mg base [("span" : PySem.Str), ("many" : PySem.Str), ("rows" : PySem.Str), ("turn" : PySem.Str), ("longer" : PySem.Str), ("row" : PySem.Str), ("offset" : PySem.Str)] ("_law_heads" : PySem.Str) (defScope s_law_heads) (fa 50) cdv A outer s H E) cls (fun c d _ H' => E c d H') (defBody s_law_heads) (m_law_heads cls) := by
  have nd := (sc_law_heads).nd
  have hc : (CxF P w K mg base [("span" : PySem.Str), ("many" : PySem.Str), ("rows" : PySem.Str), ("turn" : PySem.Str), ("longer" : PySem.Str), ("row" : PySem.Str), ("offset" : PySem.Str)] ("_law_heads" : PySem.Str) (defScope s_law_heads) (fa 50) cdv A outer s H E).calm = true := rfl
  have hu : (CxF P w K mg base [("span" : PySem.Str), ("many" : PySem.Str), ("rows" : PySem.Str), ("turn" : PySem.Str), ("longer" : PySem.Str), ("row" : PySem.Str), ("offset" : PySem.Str)] ("_law_heads" : PySem.Str) (defScope s_law_heads) (fa 50) cdv A outer s H E).A.units + 1 < cLine := by have := hr.un; show (A.deeper (envOfC ("_law_heads" : PySem.Str) (defScope s_law_heads) s.heap.objs.size (fa 50) cdv)).units + 1 < cLine; omega
  have hu2 : (CxF P w K mg base [("span" : PySem.Str), ("many" : PySem.Str), ("rows" : PySem.Str), ("turn" : PySem.Str), ("longer" : PySem.Str), ("row" : PySem.Str), ("offset" : PySem.Str)] ("_law_heads" : PySem.Str) (defScope s_law_heads) (fa 50) cdv A outer s H E).A.units + 2 < cLine := by have := hr.un; show (A.deeper (envOfC ("_law_heads" : PySem.Str) (defScope s_law_heads) s.heap.objs.size (fa 50) cdv)).units + 2 < cLine; omega
  have tk : Takes (CxF P w K mg base [("span" : PySem.Str), ("many" : PySem.Str), ("rows" : PySem.Str), ("turn" : PySem.Str), ("longer" : PySem.Str), ("row" : PySem.Str), ("offset" : PySem.Str)] ("_law_heads" : PySem.Str) (defScope s_law_heads) (fa 50) cdv A outer s H E) (fun c d _ H' => E c d H') := takes_of rfl rfl rfl rfl
  have hp : PassesOwn (model P w) (CxF P w K mg base [("span" : PySem.Str), ("many" : PySem.Str), ("rows" : PySem.Str), ("turn" : PySem.Str), ("longer" : PySem.Str), ("row" : PySem.Str), ("offset" : PySem.Str)] ("_law_heads" : PySem.Str) (defScope s_law_heads) (fa 50) cdv A outer s H E).A (CxF P w K mg base [("span" : PySem.Str), ("many" : PySem.Str), ("rows" : PySem.Str), ("turn" : PySem.Str), ("longer" : PySem.Str), ("row" : PySem.Str), ("offset" : PySem.Str)] ("_law_heads" : PySem.Str) (defScope s_law_heads) (fa 50) cdv A outer s H E).env (CxF P w K mg base [("span" : PySem.Str), ("many" : PySem.Str), ("rows" : PySem.Str), ("turn" : PySem.Str), ("longer" : PySem.Str), ("row" : PySem.Str), ("offset" : PySem.Str)] ("_law_heads" : PySem.Str) (defScope s_law_heads) (fa 50) cdv A outer s H E).xe := passes_of rfl
  exact
   (sss_cons (ss_set (i := 2) nd (se_lst (sa_cons (se_lst (sa_cons se_int sa_nil)) sa_nil)))
 (sss_cons (ss_for hp hc (si_range1 F.n_range (sa_cons (se_bin ow_sub (se_var 1) se_int) sa_nil)) (sg_name (i := 3) nd)
 (sss_cons (ss_set (i := 4) nd (se_lst sa_nil))
 (sss_cons (ss_for hp hc (si_seq (se_var 2)) (sg_name (i := 5) nd)
 (sss_one (ss_set (i := 4) nd (se_bin ow_add (se_var 4) (se_lc [(("offset" : PySem.Str), 6)] hc nd (si_range2 F.n_range (sa_cons (se_bin ow_add (se_ix hu (se_var 5) (se_neg se_int)) se_int) (sa_cons (se_var 0) sa_nil))) (fun _ _ _ _ _ => pg_name (i := 6) nd rfl (by first | exact .inl rfl | exact .inr rfl)) (cg_name (by decide)) (fun _ _ _ _ _ => sifs_nil) (fun _ _ _ _ _ => (se_bin ow_add (se_var 5) (se_lst (sa_cons (se_var 6) sa_nil)))) (ok := blkOk_by (by kernel_rfl)))))))
 (sss_one (ss_set (i := 2) nd (se_var 4))))))
 (sss_one (ss_ret (se_var 2)))))
theorem G_law_heads (F : Facts P K mg cls fa pa mc) : FnG P w K mg base cls (0 + 1) (fa 50) (sem_law_heads cls) := by
  obtain ⟨fd, D⟩ := F.D_law_heads
  exact fnG_all (fn_body (P := P) (w := w) (mg := mg) (base := base) (cls := cls) (d := 5) D sc_law_heads rfl (fun cdv A outer s H E hr => d_law_heads F cdv A outer s H E hr)) (D.bindsN (ps := [("span" : PySem.Str), ("many" : PySem.Str)]) fun _ _ _ _ _ _ us hl => match us, hl with | [_, _], _ => rfl)
theorem G_Head_iter (F : Facts P K mg cls fa pa mc) : FnR P w K mg base (L2.CX P w) 1 (fa 60) (spIter (cls 0) "offsets") := by
  obtain ⟨fd, D⟩ := F.D_Head_iter
  exact fn_iter (x := "self") D sc_Head_iter (F.fld_Head_offsets 0 (by simp)).1 (F.fld_Head_offsets 0 (by simp)).2 F.n_iter (by decide +kernel) rfl rfl rfl (by decide) (by decide) fun _ _ _ _ _ _ us hl => match us, hl with | [_], _ => rfl
theorem cal_ownlist_Head {X : Cx} {W : WX} (F : Facts X.prog X.K X.mg cls fa pa mc) (hc : X.calm = true) (hr : Room 9 X.A) : Cal X cls W (.type "list") (bOwnList 0 (sem_Head_len cls) "offsets") :=
  cal_ownlist hc F.cm_Head_iter F.isf_Head_iter (G_Head_iter F) F.cm_Head_len F.isf_Head_len (FnG.up (G_Head_len F) (by decide)) hr
theorem d_law_best_right (F : Facts P K mg cls fa pa mc) (cdv : Value) (A : Around) (outer : List Env) (s : Shared) (H : Hp) (E : XK) (hr : Room 18 (A.deeper (envOfC ("_law_best_right" : PySem.Str) (defScope s_law_best_right) s.heap.objs.size (fa 51) cdv))) :
    SSs (CxF P w K mg base [("span" : PySem.Str), ("many" : PySem.Str), ("dots" : PySem.Str), ("told" : PySem.Str), ("rates" : PySem.Str), ("offsets" : PySem.Str), ("pair" : PySem.Str), ("due" : PySem.Str), ("head" : PySem.Str)] ("_law_best_right" : PySem.Str) (defScope s_law_best_right) (fa 51) cdv A outer s H E) cls (fun c d _ H' => E c d H') (defBody s_law_best_right) (m_law_best_right cls) := by
  have nd := (sc_law_best_right).nd
  have hc : (CxF P w K mg base [("span" : PySem.Str), ("many" : PySem.Str), ("dots" : PySem.Str), ("told" : PySem.Str), ("rates" : PySem.Str), ("offsets" : PySem.Str), ("pair" : PySem.Str), ("due" : PySem.Str), ("head" : PySem.Str)] ("_law_best_right" : PySem.Str) (defScope s_law_best_right) (fa 51) cdv A outer s H E).calm = true := rfl
  have hu : (CxF P w K mg base [("span" : PySem.Str), ("many" : PySem.Str), ("dots" : PySem.Str), ("told" : PySem.Str), ("rates" : PySem.Str), ("offsets" : PySem.Str), ("pair" : PySem.Str), ("due" : PySem.Str), ("head" : PySem.Str)] ("_law_best_right" : PySem.Str) (defScope s_law_best_right) (fa 51) cdv A outer s H E).A.units + 1 < cLine := by have := hr.un; show (A.deeper (envOfC ("_law_best_right" : PySem.Str) (defScope s_law_best_right) s.heap.objs.size (fa 51) cdv)).units + 1 < cLine; omega
  have hu2 : (CxF P w K mg base [("span" : PySem.Str), ("many" : PySem.Str), ("dots" : PySem.Str), ("told" : PySem.Str), ("rates" : PySem.Str), ("offsets" : PySem.Str), ("pair" : PySem.Str), ("due" : PySem.Str), ("head" : PySem.Str)] ("_law_best_right" : PySem.Str) (defScope s_law_best_right) (fa 51) cdv A outer s H E).A.units + 2 < cLine := by have := hr.un; show (A.deeper (envOfC ("_law_best_right" : PySem.Str) (defScope s_law_best_right) s.heap.objs.size (fa 51) cdv)).units + 2 < cLine; omega
  have tk : Takes (CxF P w K mg base [("span" : PySem.Str), ("many" : PySem.Str), ("dots" : PySem.Str), ("told" : PySem.Str), ("rates" : PySem.Str), ("offsets" : PySem.Str), ("pair" : PySem.Str), ("due" : PySem.Str), ("head" : PySem.Str)] ("_law_best_right" : PySem.Str) (defScope s_law_best_right) (fa 51) cdv A outer s H E) (fun c d _ H' => E c d H') := takes_of rfl rfl rfl rfl
  have hp : PassesOwn (model P w) (CxF P w K mg base [("span" : PySem.Str), ("many" : PySem.Str), ("dots" : PySem.Str), ("told" : PySem.Str), ("rates" : PySem.Str), ("offsets" : PySem.Str), ("pair" : PySem.Str), ("due" : PySem.Str), ("head" : PySem.Str)] ("_law_best_right" : PySem.Str) (defScope s_law_best_right) (fa 51) cdv A outer s H E).A (CxF P w K mg base [("span" : PySem.Str), ("many" : PySem.Str), ("dots" : PySem.Str), ("told" : PySem.Str), ("rates" : PySem.Str), ("offsets" : PySem.Str), ("pair" : PySem.Str), ("due" : PySem.Str), ("head" : PySem.Str)] ("_law_best_right" : PySem.Str) (defScope s_law_best_right) (fa 51) cdv A outer s H E).env (CxF P w K mg base [("span" : PySem.Str), ("many" : PySem.Str), ("dots" : PySem.Str), ("told" : PySem.Str), ("rates" : PySem.Str), ("offsets" : PySem.Str), ("pair" : PySem.Str), ("due" : PySem.Str), ("head" : PySem.Str)] ("_law_best_right" : PySem.Str) (defScope s_law_best_right) (fa 51) cdv A outer s H E).xe := passes_of rfl
  exact
   (sss_cons (ss_set (i := 3) nd (se_call (cal_fn (G_best_heads F) (hr.mono (by decide)) tk) F.kp_best_heads F.g_best_heads (sa_cons (se_var 0) (sa_cons (se_var 1) (sa_cons (se_var 2) sa_nil)))))
 (sss_cons (ss_if (SW.st (sw_or (st_not (st_val (se_callB F.n_isinstance (by decide +kernel) (cal_isi F.isi) (sa_cons (se_var 3) (sa_cons (se_bty (T := "tuple") F.n_tuple (by decide +kernel)) sa_nil))))) (sw_or (st_cmp (ow_ne (f := 4) (eqOkR F) (hr.mono (by decide))) (se_callB F.n_len (by decide +kernel) (cal_len) (sa_cons (se_var 3) sa_nil)) se_int) (sw_or (st_not (st_val (se_callB F.n_isinstance (by decide +kernel) (cal_isi F.isi) (sa_cons (se_ix hu (se_var 3) se_int) (sa_cons (se_gadr rfl F.c_Ratio) sa_nil))))) (sw_or1 (st_not (st_val (se_callB F.n_isinstance (by decide +kernel) (cal_isi F.isi) (sa_cons (se_ix hu (se_var 3) se_int) (sa_cons (se_bty (T := "tuple") F.n_tuple (by decide +kernel)) sa_nil))))))))))
 (sss_one (ss_ret se_bl))
 sss_nil)
 (sss_cons (ss_if (SW.st (sw_or (st_cmp (ow_ne (f := 4) (eqOkR F) (hr.mono (by decide))) (se_ix hu (se_var 3) se_int) (se_call (cal_make F.mk_Ratio (G_Ratio_init F) (hr.mono (by decide)) tk) F.kc_Ratio F.c_Ratio (sa_cons (se_var 2) (sa_cons (se_var 1) sa_nil)))) (sw_or1 (st_cmp (ow_ne (f := 4) (eqOkR F) (hr.mono (by decide))) (kw_best_heads_0_dots_many_span F (hr.mono (by decide)) tk (sk_cons (se_var 2) (sk_cons (se_var 1) (sk_cons (se_var 0) sk_nil)))) (se_var 3)))))
 (sss_one (ss_ret se_bl))
 sss_nil)
 (sss_cons (ss_setLc (i := 4) [(("offsets" : PySem.Str), 5)] hc nd (si_seq (se_call (cal_fn (G_law_heads F) (hr.mono (by decide)) tk) F.kp_law_heads F.g_law_heads (sa_cons (se_var 0) (sa_cons (se_var 1) sa_nil)))) (fun _ _ _ _ _ => pg_name (i := 5) nd rfl (by first | exact .inl rfl | exact .inr rfl)) (cg_name (by decide)) (fun _ _ _ _ _ => sifs_nil) (fun _ _ _ _ _ => (se_tup (sa_cons (se_var 5) (sa_cons (se_call (cal_fn (G_least_rate F) (hr.mono (by decide)) takes0) F.kp_least_rate F.g_least_rate (sa_cons (se_call (cal_make F.mk_Job (G_Job_init F) (hr.mono (by decide)) takes0) F.kc_Job F.c_Job (sa_cons (se_smeth F.c_Wish F.cr_Wish F.sm_Wish_dots (cal_fn (G_Wish_dots F) (hr.mono (by decide)) takes0) (sa_cons (se_smeth F.c_Head F.cr_Head F.sm_Head_of (cal_fn (G_Head_of F) (hr.mono (by decide)) takes0) (sa_cons (se_var 5) sa_nil)) (sa_cons (se_var 2) sa_nil))) sa_nil)) sa_nil)) sa_nil)))) (ok := blkOk_by (by kernel_rfl)))
 (sss_cons (ss_if (st_cmp (ow_ne (f := 4) (eqOkR F) (hr.mono (by decide))) (se_lc [(("pair" : PySem.Str), 6)] hc nd (si_seq (se_var 4)) (fun _ _ _ _ _ => pg_name (i := 6) nd rfl (by first | exact .inl rfl | exact .inr rfl)) (cg_name (by decide)) (fun _ _ _ _ _ => sifs_one (st_cmp (ow_own (c := 3) (fun _ _ => rfl) F.cm_Ratio_lt F.isf_Ratio_lt (G_Ratio_lt F) (hr.mono (by decide)) takes0) (se_ix hu (se_var 6) se_int) (se_ix hu (se_var 3) se_int))) (fun _ _ _ _ _ => (se_var 6)) (ok := blkOk_by (by kernel_rfl))) (se_lst sa_nil))
 (sss_one (ss_ret se_bl))
 sss_nil)
 (sss_cons (ss_setLc (i := 7) [(("pair" : PySem.Str), 6)] hc nd (si_seq (se_var 4)) (fun _ _ _ _ _ => pg_name (i := 6) nd rfl (by first | exact .inl rfl | exact .inr rfl)) (cg_name (by decide)) (fun _ _ _ _ _ => sifs_one (st_cmp (ow_eq (f := 4) (eqOkR F) (hr.mono (by decide))) (se_ix hu (se_var 6) se_int) (se_ix hu (se_var 3) se_int))) (fun _ _ _ _ _ => (se_ix hu (se_var 6) se_int)) (ok := blkOk_by (by kernel_rfl)))
 (sss_cons (ss_if (SW.st (sw_or (st_cmp (ow_ne (f := 4) (eqOkR F) (hr.mono (by decide))) (se_lc [(("head" : PySem.Str), 8)] hc nd (si_seq (se_ix hu (se_var 3) se_int)) (fun _ _ _ _ _ => pg_name (i := 8) nd rfl (by first | exact .inl rfl | exact .inr rfl)) (cg_name (by decide)) (fun _ _ _ _ _ => sifs_nil) (fun _ _ _ _ _ => (se_callTy F.n_list (by decide +kernel) (cal_ownlist_Head F hc (hr.mono (by decide))) (sa_cons (se_var 8) sa_nil))) (ok := blkOk_by (by kernel_rfl))) (se_var 7)) (sw_or (st_cmp (ow_notin (f := 4) (eqOkR F) (hr.mono (by decide))) (se_smeth F.c_Head F.cr_Head F.sm_Head_even (cal_fn (G_Head_even F) (hr.mono (by decide)) tk) (sa_cons (se_var 1) sa_nil)) (se_callTy F.n_list (by decide +kernel) cal_list (sa_cons (se_ix hu (se_var 3) se_int) sa_nil))) (sw_or1 (st_cmp (ow_ne (f := 4) (eqOkR F) (hr.mono (by decide))) (se_ix hu (se_ix hu (se_var 3) se_int) se_int) (se_smeth F.c_Head F.cr_Head F.sm_Head_even (cal_fn (G_Head_even F) (hr.mono (by decide)) tk) (sa_cons (se_var 1) sa_nil)))))))
 (sss_one (ss_ret se_bl))
 sss_nil)
 (sss_one (ss_ret (se_cmp (ow_eq (f := 4) (eqOkR F) (hr.mono (by decide))) (se_lc [(("head" : PySem.Str), 8)] hc nd (si_seq (se_ix hu (se_var 3) se_int)) (fun _ _ _ _ _ => pg_name (i := 8) nd rfl (by first | exact .inl rfl | exact .inr rfl)) (cg_name (by decide)) (fun _ _ _ _ _ => sifs_one (st_cmp (ow_notin (f := 4) (eqOkR F) (hr.mono (by decide))) (se_inv (c := 0) F.cm_Head_invert F.isf_Head_invert (G_Head_invert F) (hr.mono (by decide)) takes0 (se_var 8)) (se_callTy F.n_list (by decide +kernel) cal_list (sa_cons (se_ix hu (se_var 3) se_int) sa_nil)))) (fun _ _ _ _ _ => (se_var 8)) (ok := blkOk_by (by kernel_rfl))) (se_lst sa_nil)))))))))))
theorem G0_law_best_right (F : Facts P K mg cls fa pa mc) : FnG P w K mg base cls (18 + 1) (fa 51) (sem0_law_best_right cls) := by
  obtain ⟨fd, D⟩ := F.D_law_best_right
  exact fnG_all (fn_body (P := P) (w := w) (mg := mg) (base := base) (cls := cls) (d := 6) D sc_law_best_right rfl (fun cdv A outer s H E hr => d_law_best_right F cdv A outer s H E hr)) (D.bindsN (ps := [("span" : PySem.Str), ("many" : PySem.Str), ("dots" : PySem.Str)]) fun _ _ _ _ _ _ us hl => match us, hl with | [_, _, _], _ => rfl)
theorem G_law_best_right (F : Facts P K mg cls fa pa mc) : FnG P w K mg base cls (18 + 1) (fa 51) (sem_law_best_right cls) := fnG_const (G0_law_best_right F) F.br_ok
theorem d_law_wider_right (F : Facts P K mg cls fa pa mc) (cdv : Value) (A : Around) (outer : List Env) (s : Shared) (H : Hp) (E : XK) (hr : Room 18 (A.deeper (envOfC ("_law_wider_right" : PySem.Str) (defScope s_law_wider_right) s.heap.objs.size (fa 52) cdv))) :
    SSs (CxF P w K mg base [("span" : PySem.Str), ("many" : PySem.Str), ("told" : PySem.Str), ("wider" : PySem.Str), ("head" : PySem.Str), ("found" : PySem.Str)] ("_law_wider_right" : PySem.Str) (defScope s_law_wider_right) (fa 52) cdv A outer s H E) cls (fun c d _ H' => E c d H') (defBody s_law_wider_right) (m_law_wider_right cls) := by
  have nd := (sc_law_wider_right).nd
  have hc : (CxF P w K mg base [("span" : PySem.Str), ("many" : PySem.Str), ("told" : PySem.Str), ("wider" : PySem.Str), ("head" : PySem.Str), ("found" : PySem.Str)] ("_law_wider_right" : PySem.Str) (defScope s_law_wider_right) (fa 52) cdv A outer s H E).calm = true := rfl
  have hu : (CxF P w K mg base [("span" : PySem.Str), ("many" : PySem.Str), ("told" : PySem.Str), ("wider" : PySem.Str), ("head" : PySem.Str), ("found" : PySem.Str)] ("_law_wider_right" : PySem.Str) (defScope s_law_wider_right) (fa 52) cdv A outer s H E).A.units + 1 < cLine := by have := hr.un; show (A.deeper (envOfC ("_law_wider_right" : PySem.Str) (defScope s_law_wider_right) s.heap.objs.size (fa 52) cdv)).units + 1 < cLine; omega
  have hu2 : (CxF P w K mg base [("span" : PySem.Str), ("many" : PySem.Str), ("told" : PySem.Str), ("wider" : PySem.Str), ("head" : PySem.Str), ("found" : PySem.Str)] ("_law_wider_right" : PySem.Str) (defScope s_law_wider_right) (fa 52) cdv A outer s H E).A.units + 2 < cLine := by have := hr.un; show (A.deeper (envOfC ("_law_wider_right" : PySem.Str) (defScope s_law_wider_right) s.heap.objs.size (fa 52) cdv)).units + 2 < cLine; omega
  have tk : Takes (CxF P w K mg base [("span" : PySem.Str), ("many" : PySem.Str), ("told" : PySem.Str), ("wider" : PySem.Str), ("head" : PySem.Str), ("found" : PySem.Str)] ("_law_wider_right" : PySem.Str) (defScope s_law_wider_right) (fa 52) cdv A outer s H E) (fun c d _ H' => E c d H') := takes_of rfl rfl rfl rfl
  have hp : PassesOwn (model P w) (CxF P w K mg base [("span" : PySem.Str), ("many" : PySem.Str), ("told" : PySem.Str), ("wider" : PySem.Str), ("head" : PySem.Str), ("found" : PySem.Str)] ("_law_wider_right" : PySem.Str) (defScope s_law_wider_right) (fa 52) cdv A outer s H E).A (CxF P w K mg base [("span" : PySem.Str), ("many" : PySem.Str), ("told" : PySem.Str), ("wider" : PySem.Str), ("head" : PySem.Str), ("found" : PySem.Str)] ("_law_wider_right" : PySem.Str) (defScope s_law_wider_right) (fa 52) cdv A outer s H E).env (CxF P w K mg base [("span" : PySem.Str), ("many" : PySem.Str), ("told" : PySem.Str), ("wider" : PySem.Str), ("head" : PySem.Str), ("found" : PySem.Str)] ("_law_wider_right" : PySem.Str) (defScope s_law_wider_right) (fa 52) cdv A outer s H E).xe := passes_of rfl
  exact
   (sss_cons (ss_par2 (i := 2) (j := 3) hc nd (sa_cons (se_call (cal_fn (G_best_heads F) (hr.mono (by decide)) tk) F.kp_best_heads F.g_best_heads (sa_cons (se_var 0) (sa_cons (se_var 1) sa_nil))) (sa_cons (se_call (cal_fn (G_best_heads F) (hr.mono (by decide)) tk) F.kp_best_heads F.g_best_heads (sa_cons (se_bin ow_add (se_var 0) se_int) (sa_cons (se_var 1) sa_nil))) sa_nil)))
 (sss_cons (ss_if (SW.st (sw_or (st_cmp (ow_ne (f := 4) (eqOkR F) (hr.mono (by decide))) (se_call (cal_fn (G_best_heads F) (hr.mono (by decide)) tk) F.kp_best_heads F.g_best_heads (sa_cons (se_var 0) (sa_cons (se_var 1) (sa_cons se_int sa_nil)))) (se_var 2)) (sw_or1 (st_cmp (ow_ne (f := 4) (eqOkR F) (hr.mono (by decide))) (se_lc [(("head" : PySem.Str), 4)] hc nd (si_seq (se_ix hu (se_var 3) se_int)) (fun _ _ _ _ _ => pg_name (i := 4) nd rfl (by first | exact .inl rfl | exact .inr rfl)) (cg_name (by decide)) (fun _ _ _ _ _ => sifs_one (st_cmp ow_le (se_prop F.ci_Head F.pr_Head_span (G_Head_span F) (hr.mono (by decide)) (se_var 4)) (se_var 0))) (fun _ _ _ _ _ => (se_var 4)) (ok := blkOk_by (by kernel_rfl))) (se_callTy F.n_list (by decide +kernel) cal_list (sa_cons (se_ix hu (se_var 2) se_int) sa_nil))))))
 (sss_one (ss_ret se_bl))
 sss_nil)
 (sss_cons (ss_for hp hc (si_seq (se_ix hu (se_var 2) se_int)) (sg_name (i := 4) nd)
 (sss_cons (ss_set (i := 5) nd (se_call (cal_fn (G_rated F) (hr.mono (by decide)) tk) F.kp_rated F.g_rated (sa_cons (se_call (cal_make F.mk_Job (G_Job_init F) (hr.mono (by decide)) tk) F.kc_Job F.c_Job (sa_cons (se_smeth F.c_Wish F.cr_Wish F.sm_Wish_dots (cal_fn (G_Wish_dots F) (hr.mono (by decide)) tk) (sa_cons (se_var 4) sa_nil)) sa_nil)) sa_nil)))
 (sss_one (ss_if (SW.st (sw_or (st_cmp (ow_ne (f := 4) (eqOkR F) (hr.mono (by decide))) (se_fld (cs := [4]) (F.fld_Rated_least) (se_var 5)) (se_call (cal_make F.mk_Ratio (G_Ratio_init F) (hr.mono (by decide)) tk) F.kc_Ratio F.c_Ratio (sa_cons se_int (sa_cons (se_var 1) sa_nil)))) (sw_or1 (st_cmp (ow_ne (f := 4) (eqOkR F) (hr.mono (by decide))) (se_bin ow_mul (se_bm PySem.F.plainAttrs_str PySem.F.slot_str_count PySem.F.type_str_count cal_count (fun _ _ _ _ _ => isStr_ty) (se_fld (cs := [4]) (F.fld_Rated_ring) (se_var 5)) (sa_cons se_str sa_nil)) (se_var 1)) (se_callB F.n_len (by decide +kernel) (cal_len) (sa_cons (se_fld (cs := [4]) (F.fld_Rated_ring) (se_var 5)) sa_nil))))))
 (sss_one (ss_ret se_bl))
 sss_nil))))
 (sss_one (ss_ret se_bl)))))
theorem G0_law_wider_right (F : Facts P K mg cls fa pa mc) : FnG P w K mg base cls (18 + 1) (fa 52) (sem0_law_wider_right cls) := by
  obtain ⟨fd, D⟩ := F.D_law_wider_right
  exact fnG_all (fn_body (P := P) (w := w) (mg := mg) (base := base) (cls := cls) (d := 4) D sc_law_wider_right rfl (fun cdv A outer s H E hr => d_law_wider_right F cdv A outer s H E hr)) (D.bindsN (ps := [("span" : PySem.Str), ("many" : PySem.Str)]) fun _ _ _ _ _ _ us hl => match us, hl with | [_, _], _ => rfl)
theorem G_law_wider_right (F : Facts P K mg cls fa pa mc) : FnG P w K mg base cls (18 + 1) (fa 52) (sem_law_wider_right cls) := fnG_const (G0_law_wider_right F) F.wr_ok
theorem d_law (F : Facts P K mg cls fa pa mc) (cdv : Value) (A : Around) (outer : List Env) (s : Shared) (H : Hp) (E : XK) (hr : Room 19 (A.deeper (envOfC ("law" : PySem.Str) (defScope s_law) s.heap.objs.size (fa 53) cdv))) :
    SSs (CxF P w K mg base [("script" : PySem.Str), ("pen" : PySem.Str), ("lap" : PySem.Str), ("span" : PySem.Str), ("many" : PySem.Str)] ("law" : PySem.Str) (defScope s_law) (fa 53) cdv A outer s H E) cls (fun c d _ H' => E c d H') (defBody s_law) (m_law cls) := by
  have nd := (sc_law).nd
  have hc : (CxF P w K mg base [("script" : PySem.Str), ("pen" : PySem.Str), ("lap" : PySem.Str), ("span" : PySem.Str), ("many" : PySem.Str)] ("law" : PySem.Str) (defScope s_law) (fa 53) cdv A outer s H E).calm = true := rfl
  have hu : (CxF P w K mg base [("script" : PySem.Str), ("pen" : PySem.Str), ("lap" : PySem.Str), ("span" : PySem.Str), ("many" : PySem.Str)] ("law" : PySem.Str) (defScope s_law) (fa 53) cdv A outer s H E).A.units + 1 < cLine := by have := hr.un; show (A.deeper (envOfC ("law" : PySem.Str) (defScope s_law) s.heap.objs.size (fa 53) cdv)).units + 1 < cLine; omega
  have hu2 : (CxF P w K mg base [("script" : PySem.Str), ("pen" : PySem.Str), ("lap" : PySem.Str), ("span" : PySem.Str), ("many" : PySem.Str)] ("law" : PySem.Str) (defScope s_law) (fa 53) cdv A outer s H E).A.units + 2 < cLine := by have := hr.un; show (A.deeper (envOfC ("law" : PySem.Str) (defScope s_law) s.heap.objs.size (fa 53) cdv)).units + 2 < cLine; omega
  have tk : Takes (CxF P w K mg base [("script" : PySem.Str), ("pen" : PySem.Str), ("lap" : PySem.Str), ("span" : PySem.Str), ("many" : PySem.Str)] ("law" : PySem.Str) (defScope s_law) (fa 53) cdv A outer s H E) (fun c d _ H' => E c d H') := takes_of rfl rfl rfl rfl
  have hp : PassesOwn (model P w) (CxF P w K mg base [("script" : PySem.Str), ("pen" : PySem.Str), ("lap" : PySem.Str), ("span" : PySem.Str), ("many" : PySem.Str)] ("law" : PySem.Str) (defScope s_law) (fa 53) cdv A outer s H E).A (CxF P w K mg base [("script" : PySem.Str), ("pen" : PySem.Str), ("lap" : PySem.Str), ("span" : PySem.Str), ("many" : PySem.Str)] ("law" : PySem.Str) (defScope s_law) (fa 53) cdv A outer s H E).env (CxF P w K mg base [("script" : PySem.Str), ("pen" : PySem.Str), ("lap" : PySem.Str), ("span" : PySem.Str), ("many" : PySem.Str)] ("law" : PySem.Str) (defScope s_law) (fa 53) cdv A outer s H E).xe := passes_of rfl
  exact
   (sss_cons (ss_set (i := 1) nd (se_call (cal_fn (G_law_pen F) (hr.mono (by decide)) tk) F.kp_law_pen F.g_law_pen (sa_cons (se_var 0) sa_nil)))
 (sss_cons (ss_for hp hc (si_range1 F.n_range (sa_cons se_int sa_nil)) (sg_name (i := 2) nd)
 (sss_cons (ss_set (i := 3) nd (se_call (cal_fn (G_law_pick F) (hr.mono (by decide)) tk) F.kp_law_pick F.g_law_pick (sa_cons (se_var 1) (sa_cons (se_lst (sa_cons se_int (sa_cons se_int (sa_cons se_int (sa_cons se_int (sa_cons se_int (sa_cons se_int sa_nil))))))) sa_nil))))
 (sss_cons (ss_set (i := 4) nd (se_bin ow_add se_int (se_call (cal_fn (G_law_draw F) (hr.mono (by decide)) tk) F.kp_law_draw F.g_law_draw (sa_cons (se_var 1) (sa_cons (se_var 3) sa_nil)))))
 (sss_one (ss_if (SW.st (sw_or (st_not (st_val (se_call (cal_fn (G_law_best_right F) (hr.mono (by decide)) tk) F.kp_law_best_right F.g_law_best_right (sa_cons (se_var 3) (sa_cons (se_var 4) (sa_cons (se_bin ow_add se_int (se_call (cal_fn (G_law_draw F) (hr.mono (by decide)) tk) F.kp_law_draw F.g_law_draw (sa_cons (se_var 1) (sa_cons (se_var 4) sa_nil)))) sa_nil)))))) (sw_or1 (st_not (st_val (se_call (cal_fn (G_law_wider_right F) (hr.mono (by decide)) tk) F.kp_law_wider_right F.g_law_wider_right (sa_cons (se_call (cal_fn (G_law_pick F) (hr.mono (by decide)) tk) F.kp_law_pick F.g_law_pick (sa_cons (se_var 1) (sa_cons (se_lst (sa_cons se_int (sa_cons se_int (sa_cons se_int sa_nil)))) sa_nil))) (sa_cons se_int sa_nil))))))))
 (sss_one (ss_ret se_bl))
 sss_nil)))))
 (sss_cons (ss_clNx (m := mc_law_0 cls) (n := 5) (ss_if (SW.st (sw_or (st_cmp (ow_ne (f := 4) (eqOkR F) (hr.mono (by decide))) (se_call (cal_fn (G_best_heads F) (hr.mono (by decide)) tk) F.kp_best_heads F.g_best_heads (sa_cons se_int (sa_cons se_int sa_nil))) (se_tup (sa_cons (se_call (cal_make F.mk_Ratio (G_Ratio_init F) (hr.mono (by decide)) tk) F.kc_Ratio F.c_Ratio (sa_cons se_int (sa_cons se_int sa_nil))) (sa_cons (se_tup (sa_cons (se_call (cal_make F.mk_Head (G_Head_init F) (hr.mono (by decide)) tk) F.kc_Head F.c_Head (sa_cons se_int (sa_cons se_int (sa_cons se_int sa_nil)))) sa_nil)) sa_nil)))) (sw_or1 (st_cmp (ow_ne (f := 4) (eqOkR F) (hr.mono (by decide))) (se_ix hu (se_call (cal_fn (G_best_heads F) (hr.mono (by decide)) tk) F.kp_best_heads F.g_best_heads (sa_cons se_int (sa_cons se_int (sa_cons se_int sa_nil)))) se_int) (se_call (cal_make F.mk_Ratio (G_Ratio_init F) (hr.mono (by decide)) tk) F.kc_Ratio F.c_Ratio (sa_cons se_int (sa_cons se_int sa_nil)))))))
 (sss_one (ss_ret se_bl))
 sss_nil) rfl F.cl_mc_law_0)
 (sss_one (ss_clRt (m := mc_law_1 cls) (n := 5) (ss_ret (se_cmp (ow_eq (f := 4) (eqOkR F) (hr.mono (by decide))) (se_call (cal_fn (G_best_heads F) (hr.mono (by decide)) tk) F.kp_best_heads F.g_best_heads (sa_cons se_int (sa_cons se_int sa_nil))) (se_tup (sa_cons (se_call (cal_make F.mk_Ratio (G_Ratio_init F) (hr.mono (by decide)) tk) F.kc_Ratio F.c_Ratio (sa_cons se_int (sa_cons se_int sa_nil))) (sa_cons (se_tup (sa_cons (se_call (cal_make F.mk_Head (G_Head_init F) (hr.mono (by decide)) tk) F.kc_Head F.c_Head (sa_cons se_int (sa_cons se_int sa_nil))) (sa_cons (se_call (cal_make F.mk_Head (G_Head_init F) (hr.mono (by decide)) tk) F.kc_Head F.c_Head (sa_cons se_int (sa_cons se_int sa_nil))) (sa_cons (se_call (cal_make F.mk_Head (G_Head_init F) (hr.mono (by decide)) tk) F.kc_Head F.c_Head (sa_cons se_int (sa_cons se_int sa_nil))) (sa_cons (se_call (cal_make F.mk_Head (G_Head_init F) (hr.mono (by decide)) tk) F.kc_Head F.c_Head (sa_cons se_int (sa_cons se_int sa_nil))) (sa_cons (se_call (cal_make F.mk_Head (G_Head_init F) (hr.mono (by decide)) tk) F.kc_Head F.c_Head (sa_cons se_int (sa_cons se_int sa_nil))) sa_nil)))))) sa_nil))))) rfl F.cl_mc_law_1)))))
theorem G_law (F : Facts P K mg cls fa pa mc) : FnG P w K mg base cls (19 + 1) (fa 53) (sem_law cls) := by
  obtain ⟨fd, D⟩ := F.D_law
  exact fnG_all (fn_body (P := P) (w := w) (mg := mg) (base := base) (cls := cls) (d := 4) D sc_law rfl (fun cdv A outer s H E hr => d_law F cdv A outer s H E hr)) (D.bindsN (ps := [("script" : PySem.Str)]) fun _ _ _ _ _ _ us hl => match us, hl with | [_], _ => rfl)
end
end L81
/-! L81E0 -/
namespace L81
open PySem GG
theorem br_0 : resT (sem0_law_best_right clsA (([1, 1, 1] : List Int).map .int) HA.nil) = true := by decide +kernel
theorem br_3 : resT (sem0_law_best_right clsA (([2, 2, 2] : List Int).map .int) HA.nil) = true := by decide +kernel
theorem br_6 : resT (sem0_law_best_right clsA (([3, 2, 2] : List Int).map .int) HA.nil) = true := by decide +kernel
theorem br_9 : resT (sem0_law_best_right clsA (([3, 3, 3] : List Int).map .int) HA.nil) = true := by decide +kernel
theorem br_12 : resT (sem0_law_best_right clsA (([4, 2, 2] : List Int).map .int) HA.nil) = true := by decide +kernel
theorem br_15 : resT (sem0_law_best_right clsA (([4, 3, 3] : List Int).map .int) HA.nil) = true := by decide +kernel
theorem br_18 : resT (sem0_law_best_right clsA (([4, 4, 3] : List Int).map .int) HA.nil) = true := by decide +kernel
theorem br_21 : resT (sem0_law_best_right clsA (([5, 2, 1] : List Int).map .int) HA.nil) = true := by decide +kernel
theorem br_24 : resT (sem0_law_best_right clsA (([5, 3, 2] : List Int).map .int) HA.nil) = true := by decide +kernel
theorem br_27 : resT (sem0_law_best_right clsA (([5, 4, 2] : List Int).map .int) HA.nil) = true := by decide +kernel
theorem br_30 : resT (sem0_law_best_right clsA (([5, 5, 1] : List Int).map .int) HA.nil) = true := by decide +kernel
theorem br_33 : resT (sem0_law_best_right clsA (([5, 5, 4] : List Int).map .int) HA.nil) = true := by decide +kernel
theorem wr_1 : resT (sem0_law_wider_right clsA (([3, 2] : List Int).map .int) HA.nil) = true := by decide +kernel
theorem clo_1 : clRt 5 (mc_law_1 clsA) = true := by decide +kernel
end L81
/-! L81E1 -/
namespace L81
open PySem GG
theorem br_1 : resT (sem0_law_best_right clsA (([2, 1, 1] : List Int).map .int) HA.nil) = true := by decide +kernel
theorem br_4 : resT (sem0_law_best_right clsA (([3, 1, 1] : List Int).map .int) HA.nil) = true := by decide +kernel
theorem br_7 : resT (sem0_law_best_right clsA (([3, 3, 1] : List Int).map .int) HA.nil) = true := by decide +kernel
theorem br_10 : resT (sem0_law_best_right clsA (([4, 1, 1] : List Int).map .int) HA.nil) = true := by decide +kernel
theorem br_13 : resT (sem0_law_best_right clsA (([4, 3, 1] : List Int).map .int) HA.nil) = true := by decide +kernel
theorem br_16 : resT (sem0_law_best_right clsA (([4, 4, 1] : List Int).map .int) HA.nil) = true := by decide +kernel
theorem br_19 : resT (sem0_law_best_right clsA (([4, 4, 4] : List Int).map .int) HA.nil) = true := by decide +kernel
theorem br_22 : resT (sem0_law_best_right clsA (([5, 2, 2] : List Int).map .int) HA.nil) = true := by decide +kernel
theorem br_25 : resT (sem0_law_best_right clsA (([5, 3, 3] : List Int).map .int) HA.nil) = true := by decide +kernel
theorem br_28 : resT (sem0_law_best_right clsA (([5, 4, 3] : List Int).map .int) HA.nil) = true := by decide +kernel
theorem br_31 : resT (sem0_law_best_right clsA (([5, 5, 2] : List Int).map .int) HA.nil) = true := by decide +kernel
theorem br_34 : resT (sem0_law_best_right clsA (([5, 5, 5] : List Int).map .int) HA.nil) = true := by decide +kernel
theorem wr_2 : resT (sem0_law_wider_right clsA (([4, 2] : List Int).map .int) HA.nil) = true := by decide +kernel
end L81
/-! L81E2 -/
namespace L81
open PySem GG
theorem br_2 : resT (sem0_law_best_right clsA (([2, 2, 1] : List Int).map .int) HA.nil) = true := by decide +kernel
theorem br_5 : resT (sem0_law_best_right clsA (([3, 2, 1] : List Int).map .int) HA.nil) = true := by decide +kernel
theorem br_8 : resT (sem0_law_best_right clsA (([3, 3, 2] : List Int).map .int) HA.nil) = true := by decide +kernel
theorem br_11 : resT (sem0_law_best_right clsA (([4, 2, 1] : List Int).map .int) HA.nil) = true := by decide +kernel
theorem br_14 : resT (sem0_law_best_right clsA (([4, 3, 2] : List Int).map .int) HA.nil) = true := by decide +kernel
theorem br_17 : resT (sem0_law_best_right clsA (([4, 4, 2] : List Int).map .int) HA.nil) = true := by decide +kernel
theorem br_20 : resT (sem0_law_best_right clsA (([5, 1, 1] : List Int).map .int) HA.nil) = true := by decide +kernel
theorem br_23 : resT (sem0_law_best_right clsA (([5, 3, 1] : List Int).map .int) HA.nil) = true := by decide +kernel
theorem br_26 : resT (sem0_law_best_right clsA (([5, 4, 1] : List Int).map .int) HA.nil) = true := by decide +kernel
theorem br_29 : resT (sem0_law_best_right clsA (([5, 4, 4] : List Int).map .int) HA.nil) = true := by decide +kernel
theorem br_32 : resT (sem0_law_best_right clsA (([5, 5, 3] : List Int).map .int) HA.nil) = true := by decide +kernel
theorem wr_0 : resT (sem0_law_wider_right clsA (([2, 2] : List Int).map .int) HA.nil) = true := by decide +kernel
theorem clo_0 : clNx 5 (mc_law_0 clsA) = true := by decide +kernel
end L81
/-! L81F -/
namespace L81
open PySem GG
theorem br_all : ConstOk (sem0_law_best_right clsA) tabBR := fun ns hn => by
  simp only [tabBR, List.mem_cons, List.not_mem_nil, or_false] at hn
  rcases hn with rfl | rfl | rfl | rfl | rfl | rfl | rfl | rfl | rfl | rfl | rfl | rfl | rfl | rfl | rfl | rfl | rfl | rfl | rfl | rfl | rfl | rfl | rfl | rfl | rfl | rfl | rfl | rfl | rfl | rfl | rfl | rfl | rfl | rfl | rfl
  · exact br_0
  · exact br_1
  · exact br_2
  · exact br_3
  · exact br_4
  · exact br_5
  · exact br_6
  · exact br_7
  · exact br_8
  · exact br_9
  · exact br_10
  · exact br_11
  · exact br_12
  · exact br_13
  · exact br_14
  · exact br_15
  · exact br_16
  · exact br_17
  · exact br_18
  · exact br_19
  · exact br_20
  · exact br_21
  · exact br_22
  · exact br_23
  · exact br_24
  · exact br_25
  · exact br_26
  · exact br_27
  · exact br_28
  · exact br_29
  · exact br_30
  · exact br_31
  · exact br_32
  · exact br_33
  · exact br_34
theorem wr_all : ConstOk (sem0_law_wider_right clsA) tabWR := fun ns hn => by
  simp only [tabWR, List.mem_cons, List.not_mem_nil, or_false] at hn
  rcases hn with rfl | rfl | rfl
  · exact wr_0
  · exact wr_1
  · exact wr_2
end L81
/-! GHead -/
namespace GG
open PySem PySem.Spec PyProof.Rows L2
/-! ### the head's facts by addresses -/
section
variable {K : PySem.W.Frag} {h : Heap} {mg : Str → Option Value} {P : Program}
theorem nB_ok (X : K.In h) (G : h.Ns mainGlobals mg) {x : Str} (c : eqO (PySem.W.nsIn K mainGlobals x) (some none) = true) : mg x = none := PySem.W.mg_none_of X G (of_decide_eq_true c)
theorem gB_ok (X : K.In h) (G : h.Ns mainGlobals mg) {x : Str} {v : Value} (c : eqO (PySem.W.nsIn K mainGlobals x) (some (some v)) = true) : mg x = some v := PySem.W.mg_of X G (of_decide_eq_true c)
theorem intB_ok (X : K.In h) (G : h.Ns mainGlobals mg) {x : Str} {i : Int} (c : intB K x i = true) : ∃ t, mg x = some (.int i t) := He.int_ok X G c
theorem strB_ok (X : K.In h) (G : h.Ns mainGlobals mg) {x z : Str} (c : strB K x z = true) : ∃ t, mg x = some (.str z t) := He.str_ok X G c
theorem mkB_ok {C f : Addr} (c : mkB K C f = true) : Mk K C f := by
  obtain ⟨c1, c⟩ := ba c
  obtain ⟨c2, c⟩ := ba c
  obtain ⟨c3, c4⟩ := ba c
  exact ⟨c1, of_decide_eq_true c2, c3, c4⟩
theorem fldB_ok {cls : Nat → Addr} {cs : List Nat} {f : Str} (c : fldB K cls cs f = true) : ∀ c ∈ cs, Cls K (cls c) ∧ NoAttr K (cls c) f := fun i hi => by
  obtain ⟨c1, c2⟩ := ba (List.all_eq_true.mp c i hi)
  exact ⟨clsB_ok c1, show PySem.W.findIn K (.ref (cls i)) f = some none from of_decide_eq_true c2⟩
theorem recB_ok {p g : Addr} {t : String} (c : recB K p t g = true) : ∃ rest, PySem.W.recIn K p t = some (.ref g :: rest) := by
  unfold recB at c
  split at c
  · rename_i a r e
    rw [of_decide_eq_true c] at e
    exact ⟨r, e⟩
  · cases c
theorem prB_ok {C p g : Addr} {f : Str} (c : prB K C f p g = true) : PropOf K C f p g := by
  obtain ⟨c1, c⟩ := ba c
  obtain ⟨c2, c⟩ := ba c
  obtain ⟨c3, c4⟩ := ba c
  exact ⟨of_decide_eq_true c1, of_decide_eq_true c2, of_decide_eq_true c3, recB_ok c4⟩
theorem meB_ok {C f : Addr} {m : Str} (c : meB K C m f = true) : Meth K C m f := by
  obtain ⟨c1, c⟩ := ba c
  obtain ⟨c2, c3⟩ := ba c
  exact ⟨of_decide_eq_true c1, c2, c3⟩
theorem crB_ok {C : Addr} {mc : Value} (c : crB K C mc = true) : ClX.CRead K C mc := by
  obtain ⟨c1, c2⟩ := ba c
  exact ⟨c1, of_decide_eq_true c2⟩
theorem smB_ok {C p g : Addr} {mc : Value} {m : Str} (c : smB K C mc m p g = true) : SMet K C mc m p g := by
  obtain ⟨c1, c⟩ := ba c
  obtain ⟨c2, c3⟩ := ba c
  refine ⟨?_, recB_ok c2, c3⟩
  unfold smAtB at c1
  split at c1
  · rename_i e
    obtain ⟨d1, d⟩ := ba c1
    obtain ⟨d2, d3⟩ := ba d
    rw [e, of_decide_eq_true d1, of_decide_eq_true d2, of_decide_eq_true d3]
  · cases c1
/-! ### defs -/
theorem dfnB_ok {a : Addr} {name qual : Str} {params : Arguments} {body : List Stmt} {scope : Scope} {dvs : List V} (e : fnA K a = some (name, qual, params, .stmts body, scope, mainGlobals, [], builtinsNs)) (c : dfnB K a qual dvs = true) :
    ∃ fd, FunD K name qual params body scope dvs [] a fd := by
  obtain ⟨kp, c2⟩ := ba c
  unfold fnA at e
  cases q : K.lookup a with
  | none =>
    rw [q] at c2
    cases c2
  | some o =>
    obtain ⟨oc, od, dt, osl⟩ := o
    rw [q] at c2 e
    cases dt with
    | func fd =>
      obtain ⟨n1, n2, n3, n4, n5, n6, n7, n8, n9, n10, n11, n12, n13, n14, n15⟩ := fd
      have e2 : (some (n1, n2, n3, n4, n5, n6, n7, n15) : He.FnW) = some (name, qual, params, .stmts body, scope, mainGlobals, [], builtinsNs) := e
      simp only [Option.some.injEq, Prod.mk.injEq] at e2
      obtain ⟨h1, h2, h3, h4, h5, h6, h7, h8⟩ := e2
      subst h1 h2 h3 h4 h5 h6 h7 h8
      obtain ⟨k1, k2⟩ := ba (show (PySem.W.codeIn K n13 n2 && He.dflB K n8 dvs) = true from c2)
      exact ⟨_, ⟨oc, od, n8, n9, n10, n11, n12, n13, n14, osl, rfl, q, k1, He.dflB_ok k2, .inl rfl⟩, kp⟩
    | _ => cases c2
theorem supB_ok {a cc c D : Addr} {name qual : Str} {params : Arguments} {body : List Stmt} {scope : Scope} (e : fnA K a = some (name, qual, params, .stmts body, scope, mainGlobals, [(("__class__" : Str), cc)], builtinsNs)) (b : supB K P.main.file a cc c D qual = true)
    (top : (P.main.scope.names.lookup ("super" : Str)).isSome = false) : SupD P K ⟨name, qual, params, body, scope, [(("__class__" : Str), cc)], c⟩ a cc D := by
  obtain ⟨b1, b⟩ := ba b
  obtain ⟨b2, b⟩ := ba b
  obtain ⟨b3, b⟩ := ba b
  obtain ⟨b4, b⟩ := ba b
  obtain ⟨b5, b6⟩ := ba b
  refine ⟨?_, b2, ?_, ?_, rfl, Option.isSome_iff_exists.mp b5, top, of_decide_eq_true b6⟩
  · unfold fnA at e
    cases q : K.lookup a with
    | none => rw [q] at e; cases e
    | some o =>
      obtain ⟨oc, od, dt, osl⟩ := o
      rw [q] at e b1
      cases dt with
      | func fd =>
        obtain ⟨n1, n2, n3, n4, n5, n6, n7, n8, n9, n10, n11, n12, n13, n14, n15⟩ := fd
        have e2 : (some (n1, n2, n3, n4, n5, n6, n7, n15) : He.FnW) = some (name, qual, params, .stmts body, scope, mainGlobals, [(("__class__" : Str), cc)], builtinsNs) := e
        simp only [Option.some.injEq, Prod.mk.injEq] at e2
        obtain ⟨h1, h2, h3, h4, h5, h6, h7, h8⟩ := e2
        subst h1 h2 h3 h4 h5 h6 h7 h8
        cases n8 with
        | none =>
          cases n9 with
          | none =>
            cases n12 with
            | none =>
              cases n13 with
              | ref d =>
                obtain rfl : d = c := Nat.eq_of_beq_eq_true b1
                exact ⟨oc, od, n10, n11, n14, osl, rfl⟩
              | _ => cases b1
            | some _ => cases b1
          | _ => cases b1
        | _ => cases b1
      | _ => cases e
  · split at b3
    · rename_i oc od vs osl q
      split at b3
      · rename_i file t q2
        exact ⟨vs, oc, od, osl, file, t, q, q2, b3⟩
      · cases b3
    · cases b3
  · split at b4
    · rename_i oc od d osl q
      obtain rfl : d = D := Nat.eq_of_beq_eq_true b4
      exact ⟨oc, od, osl, q⟩
    · cases b4
theorem supMB_ok {C D g : Addr} {m : Str} (c : supMB K C D g m = true) : SupM K C D g m := by
  obtain ⟨c1, c⟩ := ba c
  obtain ⟨c2, c⟩ := ba c
  obtain ⟨c3, c4⟩ := ba c
  exact ⟨of_decide_eq_true c1, of_decide_eq_true c2, of_decide_eq_true c3, c4⟩
end
end GG
/-! L81H -/
namespace L81
open PySem PySem.Spec PyProof.Rows L2 GG
theorem factsA {K : PySem.W.Frag} {h : Heap} {mg : Str → Option Value} (X : K.In h) (G : h.Ns mainGlobals mg) (C : chkA K = true) (V : fasA.map (fnA K) = valsA) (T : TabOk (sem0_least_rate clsA) tabA) (BR : ConstOk (sem0_law_best_right clsA) tabBR) (WR : ConstOk (sem0_law_wider_right clsA) tabWR) (CL0 : clNx 5 (mc_law_0 clsA) = true) (CL1 : clRt 5 (mc_law_1 clsA) = true) : Facts (PySem.Challenge.rw_headpasses_k81_whole_best_heads).prog K mg clsA faA paA mcA := by
  have c0 := C
  obtain ⟨c0, k10⟩ := ba c0
  obtain ⟨c0, k9⟩ := ba c0
  obtain ⟨c0, k8⟩ := ba c0
  obtain ⟨c0, k7⟩ := ba c0
  obtain ⟨c0, k6⟩ := ba c0
  obtain ⟨c0, k5⟩ := ba c0
  obtain ⟨c0, k4⟩ := ba c0
  obtain ⟨c0, k3⟩ := ba c0
  obtain ⟨c0, k2⟩ := ba c0
  obtain ⟨c0, k1⟩ := ba c0
  have k0 := c0
  exact {
    n_isinstance := nB_ok X G (chk_at k0 0 rfl)
    isi := isiB_ok (chk_at k0 1 rfl)
    n_int := nB_ok X G (chk_at k0 2 rfl)
    n_bool := nB_ok X G (chk_at k0 3 rfl)
    kp_is_integer := (chk_at k0 4 rfl)
    g_is_integer := gB_ok X G (chk_at k0 5 rfl)
    kp_is_within := (chk_at k0 6 rfl)
    g_is_within := gB_ok X G (chk_at k0 7 rfl)
    k_MOST_OFFSET := intB_ok X G (chk_at k0 8 rfl)
    n_list := nB_ok X G (chk_at k0 9 rfl)
    n_tuple := nB_ok X G (chk_at k0 10 rfl)
    n_sorted := nB_ok X G (chk_at k0 11 rfl)
    n_set := nB_ok X G (chk_at k0 12 rfl)
    n_enumerate := nB_ok X G (chk_at k0 13 rfl)
    kp_is_offset := (chk_at k0 14 rfl)
    g_is_offset := gB_ok X G (chk_at k0 15 rfl)
    n_len := nB_ok X G (chk_at k0 16 rfl)
    fld_Head_offsets := fldB_ok (chk_at k0 17 rfl)
    kp_is_list := (chk_at k0 18 rfl)
    g_is_list := gB_ok X G (chk_at k0 19 rfl)
    mk_Head := mkB_ok (chk_at k1 0 rfl)
    kc_Head := (chk_at k1 1 rfl)
    c_Head := gB_ok X G (chk_at k1 2 rfl)
    n_all := nB_ok X G (chk_at k1 3 rfl)
    k_GREATEST := intB_ok X G (chk_at k1 4 rfl)
    kp_moved_head := (chk_at k1 5 rfl)
    g_moved_head := gB_ok X G (chk_at k1 6 rfl)
    n_range := nB_ok X G (chk_at k1 7 rfl)
    ci_Head := clsB_ok (chk_at k1 8 rfl)
    pr_Head_span := prB_ok (chk_at k1 9 rfl)
    kp_ascending := (chk_at k1 10 rfl)
    g_ascending := gB_ok X G (chk_at k1 11 rfl)
    n_str := nB_ok X G (chk_at k1 12 rfl)
    n_dict := nB_ok X G (chk_at k1 13 rfl)
    n_any := nB_ok X G (chk_at k1 14 rfl)
    kp_has_way := (chk_at k1 15 rfl)
    g_has_way := gB_ok X G (chk_at k1 16 rfl)
    kp_ordered_ways := (chk_at k1 17 rfl)
    g_ordered_ways := gB_ok X G (chk_at k1 18 rfl)
    kp_subsets := (chk_at k1 19 rfl)
    g_subsets := gB_ok X G (chk_at k2 0 rfl)
    kp_is_way := (chk_at k2 1 rfl)
    g_is_way := gB_ok X G (chk_at k2 2 rfl)
    fld_Wish_ways := fldB_ok (chk_at k2 3 rfl)
    kp_lean_ways := (chk_at k2 4 rfl)
    g_lean_ways := gB_ok X G (chk_at k2 5 rfl)
    fld_Wish_offsets := fldB_ok (chk_at k2 6 rfl)
    cm_Head_len := of_decide_eq_true (chk_at k2 7 rfl)
    isf_Head_len := (chk_at k2 8 rfl)
    mk_Wish := mkB_ok (chk_at k2 9 rfl)
    kc_Wish := (chk_at k2 10 rfl)
    c_Wish := gB_ok X G (chk_at k2 11 rfl)
    k_MOST_PLACE := intB_ok X G (chk_at k2 12 rfl)
    fld_Job_wish := fldB_ok (chk_at k2 13 rfl)
    fld_Job_most := fldB_ok (chk_at k2 14 rfl)
    fld_Job_ahead := fldB_ok (chk_at k2 15 rfl)
    fld_Job_short := fldB_ok (chk_at k2 16 rfl)
    ci_Wish := clsB_ok (chk_at k2 17 rfl)
    pr_Wish_span := prB_ok (chk_at k2 18 rfl)
    ci_Job := clsB_ok (chk_at k2 19 rfl)
    pr_Job_span := prB_ok (chk_at k3 0 rfl)
    c_Job := gB_ok X G (chk_at k3 1 rfl)
    g_gcd := gB_ok X G (chk_at k3 2 rfl)
    fld_Ratio_top := fldB_ok (chk_at k3 3 rfl)
    fld_Ratio_bottom := fldB_ok (chk_at k3 4 rfl)
    c_Ratio := gB_ok X G (chk_at k3 5 rfl)
    mk_Ratio := mkB_ok (chk_at k3 6 rfl)
    kc_Ratio := (chk_at k3 7 rfl)
    kp_ratio_of := (chk_at k3 8 rfl)
    g_ratio_of := gB_ok X G (chk_at k3 9 rfl)
    ci_Ratio := clsB_ok (chk_at k3 10 rfl)
    me_Ratio_compare := meB_ok (chk_at k3 11 rfl)
    fld_Paper_parts := fldB_ok (chk_at k3 12 rfl)
    fld_Rated_least := fldB_ok (chk_at k3 13 rfl)
    fld_Rated_prices := fldB_ok (chk_at k3 14 rfl)
    fld_Rated_ring := fldB_ok (chk_at k3 15 rfl)
    k_SIGNS := strB_ok X G (chk_at k3 16 rfl)
    pr_Job_limit := prB_ok (chk_at k3 17 rfl)
    me_Wish_is_met := meB_ok (chk_at k3 18 rfl)
    kp_touching := (chk_at k3 19 rfl)
    g_touching := gB_ok X G (chk_at k4 0 rfl)
    kp_is_fed := (chk_at k4 1 rfl)
    g_is_fed := gB_ok X G (chk_at k4 2 rfl)
    kp_all_windows := (chk_at k4 3 rfl)
    g_all_windows := gB_ok X G (chk_at k4 4 rfl)
    kp_is_step := (chk_at k4 5 rfl)
    g_is_step := gB_ok X G (chk_at k4 6 rfl)
    kp_cost_of := (chk_at k4 7 rfl)
    g_cost_of := gB_ok X G (chk_at k4 8 rfl)
    kp_behind := (chk_at k4 9 rfl)
    g_behind := gB_ok X G (chk_at k4 10 rfl)
    kp_lowered := (chk_at k4 11 rfl)
    g_lowered := gB_ok X G (chk_at k4 12 rfl)
    kp_ring_from := (chk_at k4 13 rfl)
    g_ring_from := gB_ok X G (chk_at k4 14 rfl)
    kp_need_job := (chk_at k4 15 rfl)
    g_need_job := gB_ok X G (chk_at k4 16 rfl)
    kp_web_of := (chk_at k4 17 rfl)
    g_web_of := gB_ok X G (chk_at k4 18 rfl)
    kp_priced := (chk_at k4 19 rfl)
    g_priced := gB_ok X G (chk_at k5 0 rfl)
    kp_rate_of := (chk_at k5 1 rfl)
    g_rate_of := gB_ok X G (chk_at k5 2 rfl)
    mk_Rated := mkB_ok (chk_at k5 3 rfl)
    kc_Rated := (chk_at k5 4 rfl)
    c_Rated := gB_ok X G (chk_at k5 5 rfl)
    kp_rated := (chk_at k5 6 rfl)
    g_rated := gB_ok X G (chk_at k5 7 rfl)
    k_MOST_SPAN := intB_ok X G (chk_at k5 8 rfl)
    kp_least_rate := (chk_at k5 9 rfl)
    g_least_rate := gB_ok X G (chk_at k5 10 rfl)
    mk_Job := mkB_ok (chk_at k5 11 rfl)
    kc_Job := (chk_at k5 12 rfl)
    cr_Wish := crB_ok (chk_at k5 13 rfl)
    sm_Wish_dots := smB_ok (chk_at k5 14 rfl)
    cm_Ratio_lt := of_decide_eq_true (chk_at k5 15 rfl)
    isf_Ratio_lt := (chk_at k5 16 rfl)
    n_abs := nB_ok X G (chk_at k5 17 rfl)
    kp_law_draw := (chk_at k5 18 rfl)
    g_law_draw := gB_ok X G (chk_at k5 19 rfl)
    kp_best_heads := (chk_at k6 0 rfl)
    g_best_heads := gB_ok X G (chk_at k6 1 rfl)
    kp_law_heads := (chk_at k6 2 rfl)
    g_law_heads := gB_ok X G (chk_at k6 3 rfl)
    cr_Head := crB_ok (chk_at k6 4 rfl)
    sm_Head_of := smB_ok (chk_at k6 5 rfl)
    sm_Head_even := smB_ok (chk_at k6 6 rfl)
    cm_Head_invert := of_decide_eq_true (chk_at k6 7 rfl)
    isf_Head_invert := (chk_at k6 8 rfl)
    kp_law_pen := (chk_at k6 9 rfl)
    g_law_pen := gB_ok X G (chk_at k6 10 rfl)
    kp_law_pick := (chk_at k6 11 rfl)
    g_law_pick := gB_ok X G (chk_at k6 12 rfl)
    kp_law_best_right := (chk_at k6 13 rfl)
    g_law_best_right := gB_ok X G (chk_at k6 14 rfl)
    kp_law_wider_right := (chk_at k6 15 rfl)
    g_law_wider_right := gB_ok X G (chk_at k6 16 rfl)
    cm_Head_eq := of_decide_eq_true (chk_at k6 17 rfl)
    isf_Head_eq := (chk_at k6 18 rfl)
    cm_Ratio_eq := of_decide_eq_true (chk_at k6 19 rfl)
    isf_Ratio_eq := (chk_at k7 0 rfl)
    n_super := nB_ok X G (chk_at k7 1 rfl)
    g_law := gB_ok X G (chk_at k7 2 rfl)
    n_iter := nB_ok X G (chk_at k7 3 rfl)
    cm_Head_iter := of_decide_eq_true (chk_at k7 4 rfl)
    isf_Head_iter := (chk_at k7 5 rfl)
    ne_0 := of_decide_eq_true (chk_at k7 6 rfl)
    ne_3 := of_decide_eq_true (chk_at k7 7 rfl)
    mo_0 := of_decide_eq_true (chk_at k7 8 rfl)
    mo_3 := of_decide_eq_true (chk_at k7 9 rfl)
    D_is_integer := dfnB_ok (fn_at V 0 (a := faA 0) rfl rfl) (chk_at k7 10 rfl)
    D_is_within := dfnB_ok (fn_at V 1 (a := faA 1) rfl rfl) (chk_at k7 11 rfl)
    D_is_offset := dfnB_ok (fn_at V 2 (a := faA 2) rfl rfl) (chk_at k7 12 rfl)
    D_is_list := dfnB_ok (fn_at V 3 (a := faA 3) rfl rfl) (chk_at k7 13 rfl)
    D_ascending := dfnB_ok (fn_at V 4 (a := faA 4) rfl rfl) (chk_at k7 14 rfl)
    D_Head_init := dfnB_ok (fn_at V 5 (a := faA 5) rfl rfl) (chk_at k7 15 rfl)
    D_Head_of := dfnB_ok (fn_at V 6 (a := faA 6) rfl rfl) (chk_at k7 16 rfl)
    D_moved_head := dfnB_ok (fn_at V 7 (a := faA 7) rfl rfl) (chk_at k7 17 rfl)
    D_Head_even := dfnB_ok (fn_at V 8 (a := faA 8) rfl rfl) (chk_at k7 18 rfl)
    D_Head_span := dfnB_ok (fn_at V 9 (a := faA 9) rfl rfl) (chk_at k7 19 rfl)
    D_Head_len := dfnB_ok (fn_at V 10 (a := faA 10) rfl rfl) (chk_at k8 0 rfl)
    D_Head_eq := dfnB_ok (fn_at V 11 (a := faA 11) rfl rfl) (chk_at k8 1 rfl)
    D_Head_invert := dfnB_ok (fn_at V 12 (a := faA 12) rfl rfl) (chk_at k8 2 rfl)
    D_is_way := dfnB_ok (fn_at V 13 (a := faA 13) rfl rfl) (chk_at k8 3 rfl)
    D_has_way := dfnB_ok (fn_at V 14 (a := faA 14) rfl rfl) (chk_at k8 4 rfl)
    D_ordered_ways := dfnB_ok (fn_at V 15 (a := faA 15) rfl rfl) (chk_at k8 5 rfl)
    D_lean_ways := dfnB_ok (fn_at V 16 (a := faA 16) rfl rfl) (chk_at k8 6 rfl)
    D_subsets := dfnB_ok (fn_at V 17 (a := faA 17) rfl rfl) (chk_at k8 7 rfl)
    D_Wish_init := dfnB_ok (fn_at V 18 (a := faA 18) rfl rfl) (chk_at k8 8 rfl)
    D_Wish_dots := dfnB_ok (fn_at V 19 (a := faA 19) rfl rfl) (chk_at k8 9 rfl)
    D_Wish_is_met := dfnB_ok (fn_at V 20 (a := faA 20) rfl rfl) (chk_at k8 10 rfl)
    D_Wish_span := dfnB_ok (fn_at V 21 (a := faA 21) rfl rfl) (chk_at k8 11 rfl)
    D_Job_init := dfnB_ok (fn_at V 22 (a := faA 22) rfl rfl) (chk_at k8 12 rfl)
    D_Job_span := dfnB_ok (fn_at V 23 (a := faA 23) rfl rfl) (chk_at k8 13 rfl)
    D_Job_limit := dfnB_ok (fn_at V 24 (a := faA 24) rfl rfl) (chk_at k8 14 rfl)
    D_need_job := dfnB_ok (fn_at V 25 (a := faA 25) rfl rfl) (chk_at k8 15 rfl)
    D_Ratio_init := dfnB_ok (fn_at V 26 (a := faA 26) rfl rfl) (chk_at k8 16 rfl)
    D_ratio_of := dfnB_ok (fn_at V 27 (a := faA 27) rfl rfl) (chk_at k8 17 rfl)
    D_Ratio_eq := dfnB_ok (fn_at V 28 (a := faA 28) rfl rfl) (chk_at k8 18 rfl)
    D_Ratio_compare := dfnB_ok (fn_at V 29 (a := faA 29) rfl rfl) (chk_at k8 19 rfl)
    D_Ratio_lt := dfnB_ok (fn_at V 30 (a := faA 30) rfl rfl) (chk_at k9 0 rfl)
    D_Paper_init := dfnB_ok (fn_at V 31 (a := faA 31) rfl rfl) (chk_at k9 1 rfl)
    SD_Rated_init := ⟨1149, 1160, supB_ok (fn_at V 32 (a := faA 32) rfl rfl) (chk_at k9 2 rfl) (by decide +kernel)⟩
    SM_Rated_init := fun c hc => supMB_ok (List.all_eq_true.mp (chk_at k9 3 rfl) c hc)
    D_all_windows := dfnB_ok (fn_at V 33 (a := faA 33) rfl rfl) (chk_at k9 4 rfl)
    D_touching := dfnB_ok (fn_at V 34 (a := faA 34) rfl rfl) (chk_at k9 5 rfl)
    D_is_fed := dfnB_ok (fn_at V 35 (a := faA 35) rfl rfl) (chk_at k9 6 rfl)
    D_is_step := dfnB_ok (fn_at V 36 (a := faA 36) rfl rfl) (chk_at k9 7 rfl)
    D_behind := dfnB_ok (fn_at V 37 (a := faA 37) rfl rfl) (chk_at k9 8 rfl)
    D_web_of := dfnB_ok (fn_at V 38 (a := faA 38) rfl rfl) (chk_at k9 9 rfl)
    D_cost_of := dfnB_ok (fn_at V 39 (a := faA 39) rfl rfl) (chk_at k9 10 rfl)
    D_lowered := dfnB_ok (fn_at V 40 (a := faA 40) rfl rfl) (chk_at k9 11 rfl)
    D_ring_from := dfnB_ok (fn_at V 41 (a := faA 41) rfl rfl) (chk_at k9 12 rfl)
    D_priced := dfnB_ok (fn_at V 42 (a := faA 42) rfl rfl) (chk_at k9 13 rfl)
    D_rate_of := dfnB_ok (fn_at V 43 (a := faA 43) rfl rfl) (chk_at k9 14 rfl)
    D_rated := dfnB_ok (fn_at V 44 (a := faA 44) rfl rfl) (chk_at k9 15 rfl)
    D_least_rate := dfnB_ok (fn_at V 45 (a := faA 45) rfl rfl) (chk_at k9 16 rfl)
    D_best_heads := dfnB_ok (fn_at V 46 (a := faA 46) rfl rfl) (chk_at k9 17 rfl)
    D_law_pen := dfnB_ok (fn_at V 47 (a := faA 47) rfl rfl) (chk_at k9 18 rfl)
    D_law_draw := dfnB_ok (fn_at V 48 (a := faA 48) rfl rfl) (chk_at k9 19 rfl)
    D_law_pick := dfnB_ok (fn_at V 49 (a := faA 49) rfl rfl) (chk_at k10 0 rfl)
    D_law_heads := dfnB_ok (fn_at V 50 (a := faA 50) rfl rfl) (chk_at k10 1 rfl)
    D_law_best_right := dfnB_ok (fn_at V 51 (a := faA 51) rfl rfl) (chk_at k10 2 rfl)
    D_law_wider_right := dfnB_ok (fn_at V 52 (a := faA 52) rfl rfl) (chk_at k10 3 rfl)
    D_law := dfnB_ok (fn_at V 53 (a := faA 53) rfl rfl) (chk_at k10 4 rfl)
    D_Head_iter := dfnB_ok (fn_at V 54 (a := faA 60) rfl rfl) (chk_at k10 5 rfl)
    cls_eq := rfl
    tab_ok := T
    br_ok := BR
    wr_ok := WR
    cl_mc_law_0 := CL0
    cl_mc_law_1 := CL1
  }
end L81
/-! L81T -/
namespace L81
open PySem GG
theorem tab_0 : chkR (sem0_least_rate clsA [.ref 1] (locJ row_0.1 row_0.2.1)) row_0.1 row_0.2.1 row_0.2.2.1 row_0.2.2.2 = true := by decide +kernel
theorem tab_1 : chkR (sem0_least_rate clsA [.ref 1] (locJ row_1.1 row_1.2.1)) row_1.1 row_1.2.1 row_1.2.2.1 row_1.2.2.2 = true := by decide +kernel
theorem tab_2 : chkR (sem0_least_rate clsA [.ref 1] (locJ row_2.1 row_2.2.1)) row_2.1 row_2.2.1 row_2.2.2.1 row_2.2.2.2 = true := by decide +kernel
theorem tab_3 : chkR (sem0_least_rate clsA [.ref 1] (locJ row_3.1 row_3.2.1)) row_3.1 row_3.2.1 row_3.2.2.1 row_3.2.2.2 = true := by decide +kernel
theorem tab_4 : chkR (sem0_least_rate clsA [.ref 1] (locJ row_4.1 row_4.2.1)) row_4.1 row_4.2.1 row_4.2.2.1 row_4.2.2.2 = true := by decide +kernel
theorem tab_5 : chkR (sem0_least_rate clsA [.ref 1] (locJ row_5.1 row_5.2.1)) row_5.1 row_5.2.1 row_5.2.2.1 row_5.2.2.2 = true := by decide +kernel
theorem tab_6 : chkR (sem0_least_rate clsA [.ref 1] (locJ row_6.1 row_6.2.1)) row_6.1 row_6.2.1 row_6.2.2.1 row_6.2.2.2 = true := by decide +kernel
theorem tab_7 : chkR (sem0_least_rate clsA [.ref 1] (locJ row_7.1 row_7.2.1)) row_7.1 row_7.2.1 row_7.2.2.1 row_7.2.2.2 = true := by decide +kernel
theorem tab_8 : chkR (sem0_least_rate clsA [.ref 1] (locJ row_8.1 row_8.2.1)) row_8.1 row_8.2.1 row_8.2.2.1 row_8.2.2.2 = true := by decide +kernel
theorem tab_9 : chkR (sem0_least_rate clsA [.ref 1] (locJ row_9.1 row_9.2.1)) row_9.1 row_9.2.1 row_9.2.2.1 row_9.2.2.2 = true := by decide +kernel
theorem tab_10 : chkR (sem0_least_rate clsA [.ref 1] (locJ row_10.1 row_10.2.1)) row_10.1 row_10.2.1 row_10.2.2.1 row_10.2.2.2 = true := by decide +kernel
theorem tab_11 : chkR (sem0_least_rate clsA [.ref 1] (locJ row_11.1 row_11.2.1)) row_11.1 row_11.2.1 row_11.2.2.1 row_11.2.2.2 = true := by decide +kernel
theorem tab_12 : chkR (sem0_least_rate clsA [.ref 1] (locJ row_12.1 row_12.2.1)) row_12.1 row_12.2.1 row_12.2.2.1 row_12.2.2.2 = true := by decide +kernel
theorem tab_13 : chkR (sem0_least_rate clsA [.ref 1] (locJ row_13.1 row_13.2.1)) row_13.1 row_13.2.1 row_13.2.2.1 row_13.2.2.2 = true := by decide +kernel
theorem tab_14 : chkR (sem0_least_rate clsA [.ref 1] (locJ row_14.1 row_14.2.1)) row_14.1 row_14.2.1 row_14.2.2.1 row_14.2.2.2 = true := by decide +kernel
theorem tab_15 : chkR (sem0_least_rate clsA [.ref 1] (locJ row_15.1 row_15.2.1)) row_15.1 row_15.2.1 row_15.2.2.1 row_15.2.2.2 = true := by decide +kernel
theorem tab_16 : chkR (sem0_least_rate clsA [.ref 1] (locJ row_16.1 row_16.2.1)) row_16.1 row_16.2.1 row_16.2.2.1 row_16.2.2.2 = true := by decide +kernel
theorem tab_17 : chkR (sem0_least_rate clsA [.ref 1] (locJ row_17.1 row_17.2.1)) row_17.1 row_17.2.1 row_17.2.2.1 row_17.2.2.2 = true := by decide +kernel
theorem tab_18 : chkR (sem0_least_rate clsA [.ref 1] (locJ row_18.1 row_18.2.1)) row_18.1 row_18.2.1 row_18.2.2.1 row_18.2.2.2 = true := by decide +kernel
theorem tab_19 : chkR (sem0_least_rate clsA [.ref 1] (locJ row_19.1 row_19.2.1)) row_19.1 row_19.2.1 row_19.2.2.1 row_19.2.2.2 = true := by decide +kernel
theorem tab_20 : chkR (sem0_least_rate clsA [.ref 1] (locJ row_20.1 row_20.2.1)) row_20.1 row_20.2.1 row_20.2.2.1 row_20.2.2.2 = true := by decide +kernel
theorem tab_21 : chkR (sem0_least_rate clsA [.ref 1] (locJ row_21.1 row_21.2.1)) row_21.1 row_21.2.1 row_21.2.2.1 row_21.2.2.2 = true := by decide +kernel
theorem tab_22 : chkR (sem0_least_rate clsA [.ref 1] (locJ row_22.1 row_22.2.1)) row_22.1 row_22.2.1 row_22.2.2.1 row_22.2.2.2 = true := by decide +kernel
theorem tab_23 : chkR (sem0_least_rate clsA [.ref 1] (locJ row_23.1 row_23.2.1)) row_23.1 row_23.2.1 row_23.2.2.1 row_23.2.2.2 = true := by decide +kernel
theorem tab_24 : chkR (sem0_least_rate clsA [.ref 1] (locJ row_24.1 row_24.2.1)) row_24.1 row_24.2.1 row_24.2.2.1 row_24.2.2.2 = true := by decide +kernel
theorem tab_25 : chkR (sem0_least_rate clsA [.ref 1] (locJ row_25.1 row_25.2.1)) row_25.1 row_25.2.1 row_25.2.2.1 row_25.2.2.2 = true := by decide +kernel
theorem tab_26 : chkR (sem0_least_rate clsA [.ref 1] (locJ row_26.1 row_26.2.1)) row_26.1 row_26.2.1 row_26.2.2.1 row_26.2.2.2 = true := by decide +kernel
theorem tab_27 : chkR (sem0_least_rate clsA [.ref 1] (locJ row_27.1 row_27.2.1)) row_27.1 row_27.2.1 row_27.2.2.1 row_27.2.2.2 = true := by decide +kernel
theorem tab_28 : chkR (sem0_least_rate clsA [.ref 1] (locJ row_28.1 row_28.2.1)) row_28.1 row_28.2.1 row_28.2.2.1 row_28.2.2.2 = true := by decide +kernel
theorem tab_29 : chkR (sem0_least_rate clsA [.ref 1] (locJ row_29.1 row_29.2.1)) row_29.1 row_29.2.1 row_29.2.2.1 row_29.2.2.2 = true := by decide +kernel
theorem tab_30 : chkR (sem0_least_rate clsA [.ref 1] (locJ row_30.1 row_30.2.1)) row_30.1 row_30.2.1 row_30.2.2.1 row_30.2.2.2 = true := by decide +kernel
theorem tab_31 : chkR (sem0_least_rate clsA [.ref 1] (locJ row_31.1 row_31.2.1)) row_31.1 row_31.2.1 row_31.2.2.1 row_31.2.2.2 = true := by decide +kernel
theorem tab_32 : chkR (sem0_least_rate clsA [.ref 1] (locJ row_32.1 row_32.2.1)) row_32.1 row_32.2.1 row_32.2.2.1 row_32.2.2.2 = true := by decide +kernel
theorem tab_33 : chkR (sem0_least_rate clsA [.ref 1] (locJ row_33.1 row_33.2.1)) row_33.1 row_33.2.1 row_33.2.2.1 row_33.2.2.2 = true := by decide +kernel
theorem tab_34 : chkR (sem0_least_rate clsA [.ref 1] (locJ row_34.1 row_34.2.1)) row_34.1 row_34.2.1 row_34.2.2.1 row_34.2.2.2 = true := by decide +kernel
theorem tab_35 : chkR (sem0_least_rate clsA [.ref 1] (locJ row_35.1 row_35.2.1)) row_35.1 row_35.2.1 row_35.2.2.1 row_35.2.2.2 = true := by decide +kernel
theorem tab_36 : chkR (sem0_least_rate clsA [.ref 1] (locJ row_36.1 row_36.2.1)) row_36.1 row_36.2.1 row_36.2.2.1 row_36.2.2.2 = true := by decide +kernel
theorem tab_37 : chkR (sem0_least_rate clsA [.ref 1] (locJ row_37.1 row_37.2.1)) row_37.1 row_37.2.1 row_37.2.2.1 row_37.2.2.2 = true := by decide +kernel
theorem tab_38 : chkR (sem0_least_rate clsA [.ref 1] (locJ row_38.1 row_38.2.1)) row_38.1 row_38.2.1 row_38.2.2.1 row_38.2.2.2 = true := by decide +kernel
theorem tab_39 : chkR (sem0_least_rate clsA [.ref 1] (locJ row_39.1 row_39.2.1)) row_39.1 row_39.2.1 row_39.2.2.1 row_39.2.2.2 = true := by decide +kernel
theorem tab_40 : chkR (sem0_least_rate clsA [.ref 1] (locJ row_40.1 row_40.2.1)) row_40.1 row_40.2.1 row_40.2.2.1 row_40.2.2.2 = true := by decide +kernel
theorem tab_41 : chkR (sem0_least_rate clsA [.ref 1] (locJ row_41.1 row_41.2.1)) row_41.1 row_41.2.1 row_41.2.2.1 row_41.2.2.2 = true := by decide +kernel
theorem tab_42 : chkR (sem0_least_rate clsA [.ref 1] (locJ row_42.1 row_42.2.1)) row_42.1 row_42.2.1 row_42.2.2.1 row_42.2.2.2 = true := by decide +kernel
theorem tab_43 : chkR (sem0_least_rate clsA [.ref 1] (locJ row_43.1 row_43.2.1)) row_43.1 row_43.2.1 row_43.2.2.1 row_43.2.2.2 = true := by decide +kernel
theorem tab_44 : chkR (sem0_least_rate clsA [.ref 1] (locJ row_44.1 row_44.2.1)) row_44.1 row_44.2.1 row_44.2.2.1 row_44.2.2.2 = true := by decide +kernel
theorem tab_45 : chkR (sem0_least_rate clsA [.ref 1] (locJ row_45.1 row_45.2.1)) row_45.1 row_45.2.1 row_45.2.2.1 row_45.2.2.2 = true := by decide +kernel
theorem tab_46 : chkR (sem0_least_rate clsA [.ref 1] (locJ row_46.1 row_46.2.1)) row_46.1 row_46.2.1 row_46.2.2.1 row_46.2.2.2 = true := by decide +kernel
theorem tab_47 : chkR (sem0_least_rate clsA [.ref 1] (locJ row_47.1 row_47.2.1)) row_47.1 row_47.2.1 row_47.2.2.1 row_47.2.2.2 = true := by decide +kernel
theorem tab_48 : chkR (sem0_least_rate clsA [.ref 1] (locJ row_48.1 row_48.2.1)) row_48.1 row_48.2.1 row_48.2.2.1 row_48.2.2.2 = true := by decide +kernel
theorem tab_all : TabOk (sem0_least_rate clsA) tabA := tabOk_of fun r hr => by
  simp only [tabA, List.mem_cons, List.not_mem_nil, or_false] at hr
  rcases hr with rfl | rfl | rfl | rfl | rfl | rfl | rfl | rfl | rfl | rfl | rfl | rfl | rfl | rfl | rfl | rfl | rfl | rfl | rfl | rfl | rfl | rfl | rfl | rfl | rfl | rfl | rfl | rfl | rfl | rfl | rfl | rfl | rfl | rfl | rfl | rfl | rfl | rfl | rfl | rfl | rfl | rfl | rfl | rfl | rfl | rfl | rfl | rfl | rfl
  · exact tab_0
  · exact tab_1
  · exact tab_2
  · exact tab_3
  · exact tab_4
  · exact tab_5
  · exact tab_6
  · exact tab_7
  · exact tab_8
  · exact tab_9
  · exact tab_10
  · exact tab_11
  · exact tab_12
  · exact tab_13
  · exact tab_14
  · exact tab_15
  · exact tab_16
  · exact tab_17
  · exact tab_18
  · exact tab_19
  · exact tab_20
  · exact tab_21
  · exact tab_22
  · exact tab_23
  · exact tab_24
  · exact tab_25
  · exact tab_26
  · exact tab_27
  · exact tab_28
  · exact tab_29
  · exact tab_30
  · exact tab_31
  · exact tab_32
  · exact tab_33
  · exact tab_34
  · exact tab_35
  · exact tab_36
  · exact tab_37
  · exact tab_38
  · exact tab_39
  · exact tab_40
  · exact tab_41
  · exact tab_42
  · exact tab_43
  · exact tab_44
  · exact tab_45
  · exact tab_46
  · exact tab_47
  · exact tab_48
end L81
/-! GEnd -/
namespace GG
open PySem PySem.Spec PyProof.Rows L2
/-- a law whose promise lets exceptions out (none at the end) -/
theorem walk_G {l : PySem.W.OpenLaw} {n k : Nat} {q : Program} {loose : List Str} {XP : (Str → Option Value) → Heap → Prop} {YP : World → Heap → Prop} {d : DefRec} {x : Str} (hn : l.most = some n) (hn2 : n ≤ sizeLine) (hdf : d.params.defaults = []) (hr : Room k callerA)
    (F : ∀ (w : World) (mg : Str → Option Value) (fa : Addr) (h : Heap), YP w h → h.Ns mainGlobals mg → mg d.name = some (.ref fa) → ∃ (K : PySem.W.Frag) (fd : FuncData) (sp : Sp), K.In h ∧ (∀ (s : Shared) (u : Value), BindsTo s fd ⟨[u], []⟩ [(x, u)]) ∧
      (∀ (H : Hp) (a : Addr) (ns : List Int), ns.length ≤ n → SqL K H a (ns.map V.int) → sp [.ref a] H (fun v _ => v = .bl true) fun _ _ _ => False) ∧ ∀ base : Heap, K.In base → base.Ns mainGlobals mg → FnOk l.prog w K mg base (L2.CX l.prog w) k fa fd [x] sp) :
    PySem.W.WalkO q loose XP YP l.row.toRowW d [] (fun f vs => PySem.call f vs) := by
  refine Att.attach_call hn hdf fun w s₀ s₁ mg mb fa o pm cd doc a vs ns G Y ho hd hcd hmg hobj hints hlen hg => ?_
  obtain ⟨K, fd, sp, KX, hb, hsp, hF⟩ := F w mg fa _ Y G.T.g hmg
  refine law_call KX G.T.g G.T.b G.T.builtins G.T.nolimit hg hobj hints (Nat.le_trans hlen hn2) hr hF hb (fun H _ hS => hsp H a ns hlen hS) fun H e s' z => ?_
  obtain ⟨_, _, _, _, _, _, _, _, _, _, _, _, f⟩ := z
  exact f
/-- the script's promise off the meaning -/
theorem sp_law {K : PySem.W.Frag} {cls : Nat → Addr} {sem : Fn} {n : Nat} (hs : ∀ ns : List Int, ns.length ≤ n → Sat (sem [.fls (ns.map .int)] HA.nil) fun u _ => u = .bl true) (H : Hp) (a : Addr) (ns : List Int) (hl : ns.length ≤ n) (hS : SqL K H a (ns.map V.int)) :
    spG K cls sem [.ref a] H (fun v _ => v = .bl true) fun _ _ _ => False := by
  have hi : ∀ ns : List Int, RUl K [] H (ns.map .int) (ns.map V.int) := fun ns => by
    induction ns with
    | nil => rfl
    | cons i r ih => exact ⟨_, _, rfl, rfl, ih⟩
  refine ⟨[.fls (ns.map .int)], HA.nil, [], Rel.nil, ⟨_, _, rfl, ⟨a, ns.map V.int, rfl, ?_, hi ns⟩, rfl⟩, ?_⟩
  · rcases hS with z | z
    · exact .inl ⟨z, by simp⟩
    · exact .inr z
  · obtain ⟨u, h1, e, hu⟩ := (hs ns hl).ex
    rw [e]
    subst hu
    intro v H' ρ' _ _ q
    exact q
theorem intsU_map : ∀ ns : List Int, intsU (ns.map .int) = some ns
  | [] => rfl
  | i :: r => by
    show (intsU (r.map .int)).map (i :: ·) = _
    rw [intsU_map r]; rfl
theorem const_sat {tab : List (List Int)} {ns : List Int} {h : Hq} {Q : U → Hq → Prop} (m : (tab.any fun t => decide (t = ns)) = true) (q : Q (.bl true) h) : Sat (constSem tab (ns.map .int) h) Q := by
  unfold constSem
  rw [intsU_map]
  show Sat (cond (tab.any fun t => decide (t = ns)) _ _) Q
  rw [m]; exact q
end GG
/-! L81Z -/
namespace L81
open PySem PySem.Spec PyProof.Rows L2 GG
theorem draw_A : DrawOk (sem_law_draw clsA) := drawOk_of (by decide +kernel)
theorem br_all3 : ((List.range 6).all fun s => (List.range 6).all fun m => (List.range 6).all fun d => !(decide (1 ≤ s) && (decide (m < s) && decide (d < m + 1))) || tabBR.any fun t => decide (t = [(s : Int), 1 + (m : Int), 1 + (d : Int)])) = true := by decide +kernel
theorem br_in {s m d : Nat} (h1 : 1 ≤ s) (h2 : s < 6) (h3 : m < s) (h4 : d < m + 1) : (tabBR.any fun t => decide (t = [(s : Int), 1 + (m : Int), 1 + (d : Int)])) = true := by
  have z := List.all_eq_true.mp (List.all_eq_true.mp (List.all_eq_true.mp br_all3 s (List.mem_range.mpr h2)) m (List.mem_range.mpr (by omega))) d (List.mem_range.mpr (by omega))
  rw [decide_eq_true h1, decide_eq_true h3, decide_eq_true h4] at z
  exact z
theorem law_true {ns : List Int} (hl : ns.length ≤ 63) : Sat (sem_law clsA [.fls (ns.map .int)] HA.nil) fun u _ => u = .bl true := by
  refine sat_semB rfl ?_
  unfold m_law
  refine ws_seq (ws_set (wp_call (wp_cons (wp_var rfl (wp_nil ?_)))))
  refine (pen_ok hl).imp fun u h0 ⟨p, c, eu, P0⟩ => ?_
  subst eu
  refine ws_seq (ws_for1 (n := 3) (I := fun k us h => ∃ a b e d lap gr, us = [a, some (.ref p), b, e, d] ∧ Pen h p c ns lap gr ∧ lap ≤ 4 * k) (by decide) (wp_cons (wp_c (wp_nil ⟨rfl, _, _, _, _, _, _, rfl, P0, by decide⟩))) (fun k us h hk hI => ?_) fun us h hI => ?_)
  · obtain ⟨a, b, e, d, lap, gr, rfl, P, hlap⟩ := hI
    refine ⟨by simp, ?_⟩
    have pl := HA.lt_of_get P.at_
    refine ws_seq (ws_set (wp_call (wp_cons (wp_var rfl (wp_cons (wp_lst (wp_cons (wp_c (wp_cons (wp_c (wp_cons (wp_c (wp_cons (wp_c (wp_cons (wp_c (wp_cons (wp_c (wp_nil ⟨rfl, wp_nil ?_⟩)))))))))))))))))))
    refine (pick_ok draw_A P.push (by omega) HA.push_self (by omega) (by decide) (by decide)).imp fun u h1 ⟨r, er, B1, lap1, gr1, P1, hl1⟩ => ?_
    obtain ⟨s, hs1, hs5, rfl⟩ : ∃ s : Nat, 1 ≤ s ∧ s < 6 ∧ u = .int (s : Nat) := by
      have hm := List.mem_of_getElem? er
      simp only [List.mem_cons, List.not_mem_nil, or_false] at hm
      rcases hm with rfl | rfl | rfl | rfl | rfl | rfl
      · exact ⟨1, by decide, by decide, rfl⟩
      · exact ⟨2, by decide, by decide, rfl⟩
      · exact ⟨3, by decide, by decide, rfl⟩
      · exact ⟨4, by decide, by decide, rfl⟩
      · exact ⟨4, by decide, by decide, rfl⟩
      · exact ⟨5, by decide, by decide, rfl⟩
    refine ws_seq (ws_set (wp_bin (wp_c (wp_call (wp_cons (wp_var rfl (wp_cons (wp_var rfl (wp_nil ?_)))))))))
    refine (draw_A h1 p c ns lap1 gr1 (s : Nat) P1 (by omega) (by omega) (by omega)).imp fun u h2 ⟨m, em, hm, B2, lap2, gr2, P2, hl2⟩ => ?_
    subst em
    refine f_add (ws_if (wt_or (wt_not (wt_b (wp_call (wp_cons (wp_var rfl (wp_cons (wp_var rfl (wp_cons (wp_bin (wp_c (wp_call (wp_cons (wp_var rfl (wp_cons (wp_var rfl (wp_nil ?_))))))))))))))))))
    refine (draw_A h2 p c ns lap2 gr2 (1 + (m : Nat)) P2 (by omega) (by omega) (by omega)).imp fun u h3 ⟨d3, ed, hd, B3, lap3, gr3, P3, hl3⟩ => ?_
    subst ed
    refine f_add (wp_nil (const_sat (ns := [(s : Int), 1 + (m : Int), 1 + (d3 : Int)]) (br_in hs1 hs5 (by omega) (by omega)) ⟨_, rfl, ?_⟩))
    show Sat _ _
    refine wt_not (wt_b (wp_call (wp_cons (wp_call (wp_cons (wp_var rfl (wp_cons (wp_lst (wp_cons (wp_c (wp_cons (wp_c (wp_cons (wp_c (wp_nil ⟨rfl, wp_nil ?_⟩)))))))))))))))
    have pl3 := HA.lt_of_get P3.at_
    refine (pick_ok draw_A P3.push (by omega) HA.push_self (by omega) (by decide) (by decide)).imp fun u h4 ⟨r4, er4, B4, lap4, gr4, P4, hl4⟩ => ?_
    obtain ⟨z, hz, rfl⟩ : ∃ z : Int, (tabWR.any fun t => decide (t = [z, 2])) = true ∧ u = .int z := by
      have hm := List.mem_of_getElem? er4
      simp only [List.mem_cons, List.not_mem_nil, or_false] at hm
      rcases hm with rfl | rfl | rfl
      · exact ⟨2, by decide +kernel, rfl⟩
      · exact ⟨3, by decide +kernel, rfl⟩
      · exact ⟨4, by decide +kernel, rfl⟩
    refine wp_cons (wp_c (wp_nil (const_sat (ns := [z, 2]) hz ⟨_, rfl, ?_⟩)))
    rw [show (!true) = false from rfl, cond_false]
    exact ws_skip ⟨_, _, _, _, _, _, rfl, P4, by omega⟩
  · refine ws_seq ?_
    show (U.bl true) = U.bl true
    rfl
theorem holds_K {w : World} {mg : Str → Option Value} {fl : Addr} {h : Heap} (Y : (hookA asA chkA fasA valsA).says w h) (G : h.Ns mainGlobals mg) (hm : mg ("law" : Str) = some (.ref fl)) :
    ∃ (K : PySem.W.Frag) (fd : FuncData) (sp : Sp), K.In h ∧ (∀ (s : Shared) (u : Value), BindsTo s fd ⟨[u], []⟩ [("script", u)]) ∧ (∀ (H : Hp) (a : Addr) (ns : List Int), ns.length ≤ 63 → SqL K H a (ns.map V.int) → sp [.ref a] H (fun v _ => v = .bl true) fun _ _ _ => False) ∧
      ∀ base : Heap, K.In base → base.Ns mainGlobals mg → FnOk (PySem.Challenge.rw_headpasses_k81_whole_best_heads).prog w K mg base (L2.CX (PySem.Challenge.rw_headpasses_k81_whole_best_heads).prog w) 20 fl fd ["script"] sp := by
  obtain ⟨K, KX, C, V⟩ := Y
  have F := factsA KX G C V tab_all br_all wr_all clo_0 clo_1
  obtain ⟨fd, D⟩ := F.D_law
  have e : fl = faA 53 := by
    have z := hm.symm.trans F.g_law
    cases z; rfl
  subst e
  refine ⟨K, fd, spG K clsA (semB 1 4 (m_law clsA)), KX, fun s v => ?_, fun H a ns hl hS => sp_law (sem := semB 1 4 (m_law clsA)) (fun ns hl => law_true hl) H a ns hl hS, fun base _ _ => ?_⟩
  · exact (FunD.bindsA (ps := ["script"]) D fun _ _ _ _ _ _ us hl => match us, hl with | [_], _ => rfl) s [v] rfl
  · exact fn_body (d := 4) D sc_law rfl fun cdv A outer s H E hr => d_law F cdv A outer s H E hr
end L81
/-! L81P -/
open PySem PySem.W PySem.Calls PyProof.Rows
theorem PySem.Challenge.cw_headpasses_k81_whole_best_heads_holds : PySem.Challenge.rw_headpasses_k81_whole_best_heads.Holds := by
  w_on; o_law
  refine HandSHeadRun.head_imp (r := OpenLaw.row PySem.Challenge.rw_headpasses_k81_whole_best_heads) (q := view (OpenLaw.row PySem.Challenge.rw_headpasses_k81_whole_best_heads).prog [0, 83]) (H := GG.hookA L81.asA L81.chkA L81.fasA L81.valsA) (ob := GG.obA L81.asA L81.chkA L81.fasA) (M := 9795) (loose := L81.looseA) (d := HandSHeadRun.topDef (OpenLaw.row PySem.Challenge.rw_headpasses_k81_whole_best_heads).prog 83) (kwd := []) (fun s => GG.obA_eq s) L81.runA
    (by kernel_rfl) (by kernel_rfl) (by kernel_rfl) (by rfl) (by first | assumption | decide +kernel) (by decide +kernel) ⟨rfl, rfl, rfl, rfl, rfl, by decide +kernel⟩ ?hw ?hc
  case hw => w_witness2
  case hc =>
    refine GG.walk_G (l := PySem.Challenge.rw_headpasses_k81_whole_best_heads) (n := 63) (k := 20) (x := "script") rfl (by decide) (by kernel_rfl) ⟨rfl, by decide, by decide⟩ fun w mg fl h Y G hm => ?_
    have hm2 : mg ("law" : PySem.Str) = some (.ref fl) := by
      have e : (HandSHeadRun.topDef (OpenLaw.row PySem.Challenge.rw_headpasses_k81_whole_best_heads).prog 83).name = ("law" : PySem.Str) := by kernel_rfl
      rw [← e]
      exact hm
    exact L81.holds_K Y G hm2
