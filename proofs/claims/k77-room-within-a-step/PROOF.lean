import PyProof.Rows.All
import Wide.All
import OpenK.AllK
import Wide.FinOn
import HandS.ForMost
import HandS.ForExc
import HandS.CallSlots
import HandS.IsInst
import HandS.Zip
import HandS.Lambda
import HandS.Dict
import HandS.Set
import HandS.SetKeys
import KE.KNest
import KE.KDictKeyed
import HandS.ExcCtx
import HandS.SuiteRaise
import HandS.RaiseFrom
import HandS.ExcInit
import HandS.ExcInitHot
import HandS.TupAny
import HandS.TupLe
import HandS.Defaults
import PyProof.ZipIter
import HandS.Zip0
import HandS.Deep
import HandS.NoneIn
import KE.KExcSuper
import KE.KExcInit
import HandS.TryMany
import HandS.HotCalls
import HandS.ExcField
import KE.KTryMore
import HandS.FStr
import HandS.Text
import KE.GoesRaise
import KE.KAsSuite
import HandS.Comp
import HandS.EndTab
import HandS.Star
import HandS.ClsMeth
import KE.GoesEnum
import KE.SortKeyHeap
import HandS.SortKw
import HandS.HeadHook3
import HandS.Property
import HandS.More
import HandS.Style
import HandS.TupMul
import PyProof.Rows.StrMul
import PyProof.ListStr
import HandS.TupSets
import HandS.SetFor
import HandS.SetBool
import HandS.OwnEq
import PyProof.EqKinds
import KE.KSortAsk
import HandS.Sort
import KE.KMinBuiltin
import KE.DataCmp
import HandS.WordsDict
import HandS.DictComp
import KE.KDictList
import KE.KDictLaw
import HandS.CallLocal
import PyProof.WalksMore
import KE.KCallOwn
import HandS.Head2
import HandS.HeadHook4
import PyProof.SliceList
import KE.KExcIs
import HandS.Finally
import HandS.Iter
import HandS.ListEq
import PySem.Challenge.RW_planloom_k77_room_within_a_step
set_option Elab.async false
set_option linter.all false
set_option maxRecDepth 100000
set_option maxHeartbeats 4000000
section
namespace DL
open PySem PySem.Spec PyProof.Rows L2
class Wld where
  w : World
end DL
end
section
namespace DL
open PySem L2
variable [Wld]
inductive D where
  | non | bl (b : Bool) | int (i : Int) | str (x : Str) | ty (n : String) | cst (a : Addr)
  | tup (xs : List D) | lst (xs : List D) | rl (xs : List D)
  | obj (c : Str) (ns : List Str) (vs : List D)
  | ref (k : Nat)
  /-- a caught exception: it, its class, its dict; its fields -/
  | exv (a c dx : Addr) (ns : List Str) (vs : List D)
  /-- a def of the text; a thing of which nothing is known -/
  | fnv (x : Str) | unk
  /-- an exception as a value: its class, its fields -/
  | exn (x : Str) (ns : List Str) (vs : List D)
inductive MO where
  | lst (xs : List D)
  | ins (c : Str) (ns : List Str) (vs : List D)
  | gone
  /-- a dict; a set of whole numbers and texts -/
  | dic (kvs : List (D × D)) | st (ks : List Key)
  /-- a dict while it is walked: read, not written -/
  | dil (kvs : List (D × D))
abbrev Mem := List MO
def lamNames : List Str := ["law", "_law_bounds_so", "_law_united_so", "_law_applied", "_law_asked_so", "_law_first_broken", "_law_rows", "_law_tables_so", "_law_thirty", "_law_all_refused", "_law_written_so", "_law_full_so", "_law_refused_in_a_store"]
def TC (K : PySem.W.Frag) : List (Addr × Addr) := lamNames.filterMap fun x => PySem.W.tabIn K x
def TK (K : PySem.W.Frag) : List (Addr × Str) := lamNames.filterMap fun x => (PySem.W.tabIn K x).map fun p => (p.2, x ++ ".<locals>." ++ "<lambda>")
structure Wd where
  r : List Addr
  g : Hp
def TupAt (K : PySem.W.Frag) (G : Hp) (a : Addr) (vs : List V) : Prop :=
  G a = some (.tup vs) ∨ ∃ (o : Obj) (its : Array Value) (n : Nat), K.lookup a = some o ∧ o.cls = .type "tuple" ∧ o.data = .seq its n ∧ its.size ≤ sizeLine ∧ Vals vs its.toList
mutual
inductive Is (K : PySem.W.Frag) (w : Wd) : V → D → Prop
  | non : Is K w .non .non
  | bl (b : Bool) : Is K w (.bl b) (.bl b)
  | int (i : Int) : Is K w (.int i) (.int i)
  | str (x : Str) : Is K w (.str x) (.str x)
  | ty (n : String) : Is K w (.ty n) (.ty n)
  | cst (a : Addr) : Is K w (.ref a) (.cst a)
  | tup {a : Addr} {vs : List V} {ds : List D} : TupAt K w.g a vs → Iss K w vs ds → Is K w (.ref a) (.tup ds)
  | lst {a : Addr} {vs : List V} {ds : List D} : w.g a = some (.lst vs) → Iss K w vs ds → Is K w (.ref a) (.lst ds)
  | rl {a : Addr} {vs : List V} {ds : List D} : SqL K w.g a vs → Iss K w vs ds → Is K w (.ref a) (.rl ds)
  | obj {a c dx : Addr} {x : Str} {fs : List (Str × V)} {ds : List D} : PySem.W.nsIn K mainGlobals x = some (some (.ref c)) → w.g a = some (.ins c dx fs) → Iss K w (fs.map (·.2)) ds → Is K w (.ref a) (.obj x (fs.map (·.1)) ds)
  | ref {a : Addr} {k : Nat} : w.r[k]? = some a → Is K w (.ref a) (.ref k)
  | exv {a c dx : Addr} {fs : List (Str × V)} {ds : List D} : w.g dx = some (.xd fs) → Iss K w (fs.map (·.2)) ds → Is K w (.ref a) (.exv a c dx (fs.map (·.1)) ds)
  | fnv {a : Addr} {x : Str} : PySem.W.nsIn K mainGlobals x = some (some (.ref a)) → Is K w (.ref a) (.fnv x)
  | unk {a : Addr} : Is K w (.ref a) .unk
  | exn {a c d : Addr} {x : Str} {fs : List (Str × V)} {ds : List D} : PySem.W.nsIn K mainGlobals x = some (some (.ref c)) → w.g a = some (exo a c (some d)) → w.g d = some (exd d fs) → Iss K w (fs.map (·.2)) ds → Is K w (.ref a) (.exn x (fs.map (·.1)) ds)
inductive Iss (K : PySem.W.Frag) (w : Wd) : List V → List D → Prop
  | nil : Iss K w [] []
  | cons {v : V} {vs : List V} {d : D} {ds : List D} : Is K w v d → Iss K w vs ds → Iss K w (v :: vs) (d :: ds)
end
theorem Iss.length {K : PySem.W.Frag} {w : Wd} : ∀ {vs : List V} {ds : List D}, Iss K w vs ds → vs.length = ds.length
  | _, _, .nil => rfl
  | _, _, .cons _ t => by rw [List.length_cons, List.length_cons, Iss.length t]
theorem Iss.append {K : PySem.W.Frag} {w : Wd} : ∀ {vs us : List V} {ds es : List D}, Iss K w vs ds → Iss K w us es → Iss K w (vs ++ us) (ds ++ es)
  | _, _, _, _, .nil, s => s
  | _, _, _, _, .cons h t, s => .cons h (Iss.append t s)
inductive R (α : Type) where
  | ok (a : α) (M : Mem)
  | ex (c : Str) (ns : List Str) (vs : List D) (M : Mem)
  | bad
abbrev Ps := List (Int × Int)
inductive Cells : List Int → Ps → Prop
  | nil : Cells [] []
  | cons {s : Int} {ss : List Int} {f l : Int} {ps : Ps} : -1 ≤ f → f < s → -1 ≤ l → l < s → (f = -1 → l = -1) → Cells ss ps → Cells (s :: ss) ((f, l) :: ps)
theorem Cells.all : ∀ {ss : List Int} {ps : Ps}, Cells ss ps → ∀ p ∈ ps, -1 ≤ p.1 ∧ -1 ≤ p.2 ∧ (p.1 = -1 → p.2 = -1)
  | _, _, .nil, p, h => by cases h
  | _, _, .cons a b c d e t, p, h => by
    rcases List.mem_cons.mp h with rfl | h
    · exact ⟨a, c, e⟩
    · exact t.all p h
def st (ws : List Int) : D := .tup (ws.map .int)
end DL
end
section
namespace PySem
namespace OEG
open PySem.W PySem.Calls PyProof.Rows PySem.HandSPX PySem.OEX
abbrev leTail : List Value := [.type "LookupError", .type "Exception", .type "BaseException", .type "object"]
abbrev ieTail : List Value := [.type "IndexError", .type "LookupError", .type "Exception", .type "BaseException", .type "object"]
def refsTB (tail : List Value) : List Value → Bool
  | .ref _ :: r => refsTB tail r || (.ref 0 :: r == .ref 0 :: tail && false)
  | l => l == tail
end OEG
end PySem
end
section
namespace DL
open PySem L2 PySem.W PyProof.Rows PySem.OEG
variable [Wld]
section
variable {X : Cx} {W : WX} {e : Expr} {es : List Expr} {pos pos' p : Pos} {x : Str} {ps : List Str} {fa : Fa}
theorem Iss.reverse {K : PySem.W.Frag} {w : Wd} : ∀ {vs : List V} {ds : List D}, Iss K w vs ds → Iss K w vs.reverse ds.reverse
  | _, _, .nil => .nil
  | _, _, .cons h t => by
    rw [List.reverse_cons, List.reverse_cons]
    exact (Iss.reverse t).append (.cons h .nil)
end
end DL
end
section
namespace DL
open PySem L2 PySem.W PyProof.Rows PySem.Spec
variable [Wld]
def fieldNames : List Str := ["code", "given", "path", "name", "part", "word", "subject", "most", "one", "other", "plan", "line"]
def caughtB (K : PySem.W.Frag) (cs : List Value) (C : Addr) : Bool := xfB K C && (fieldNames.all fun n => decide (findIn K (.ref C) n = some none)) && decide (exmAny K (.ref C) cs = some true)
def mem (st : Stmt) (j : Nat) : Stmt := match st with
  | .ClassDef (body := b) .. => b.getD j (.Pass ⟨0, 0, 0, 0⟩)
  | _ => .Pass ⟨0, 0, 0, 0⟩
def tpOf (K : PySem.W.Frag) (x : Str) : Addr := ((PySem.W.tabIn K x).map fun p => p.2).getD 0
end DL
end
section
namespace DL
open PySem PySem.Spec PyProof.Rows L2
variable [Wld]
abbrev NL := List (Addr × NestedKey)
def hsN (w : World) (L : NL) : List Int := L.map fun p => p.2.hash w
def rowN (w : World) (L : NL) : List (Int × Value) := L.map fun p => (p.2.hash w, Value.ref p.1)
structure TabN (w : World) (L : NL) (es : Array (Int × Value)) (t : SetTable) : Prop where
  rows : es.toList = rowN w L
  tab : TabOk t (hsN w L)
  nd : (L.map (·.2)).Nodup
  led : w.params.followText "set-order" = true ∨ t.led = true
  room : L.length * 5 < t.mask * 3
  few : L.length < 64
end DL
end
section
namespace DL
open PySem PySem.Spec PyProof.Rows L2
variable [Wld]
section
variable {w : World} {L : NL} {es : Array (Int × Value)} {t : SetTable}
theorem TabN.size (R : TabN w L es t) : es.size = L.length := by
  have h := congrArg List.length R.rows
  unfold rowN at h
  rw [Array.length_toList, List.length_map] at h
  exact h
end
end DL
end
section
namespace DX
open PySem PySem.W PySem.Spec PySem.Calls PyProof.Rows L2 DL
variable [Wld]
abbrev ga := He.ga
abbrev ma := He.ma
def sa (K : PySem.W.Frag) (C m : Str) : Addr := match PySem.W.findCls K (.ref (ga K C)) (.type "type") m with
  | some (.get _ (.ref p) _ _) => p
  | _ => 0
def ra (K : PySem.W.Frag) (p : Addr) (n : String) : Addr := match PySem.W.recIn K p n with
  | some (.ref f :: _) => f
  | _ => 0
def recB (K : PySem.W.Frag) (p : Addr) (n : String) : Bool := match PySem.W.recIn K p n with
  | some (.ref _ :: _) => true
  | _ => false
def staB (K : PySem.W.Frag) (C m : Str) (n : String) : Bool := match PySem.W.findCls K (.ref (ga K C)) (.type "type") m with
  | some (.get (.builtin g) (.ref _) .none (.ref c)) => decide (g = n) && decide (c = ga K C)
  | _ => false
inductive Kd where
  | D | M | I | P | S | K
  /-- a def by another name of the module: C -/
  | A
structure Df where
  kd : Kd
  C : Str
  m : Str
  qual : Str
  st : Stmt
def pA (K : PySem.W.Frag) (d : Df) : Addr := match d.kd with
  | .D => ga K d.m
  | .A => ga K d.C
  | .S => sa K d.C d.m
  | .K => sa K d.C d.m
  | _ => ma K (ga K d.C) d.m
def fA (K : PySem.W.Frag) (d : Df) : Addr := match d.kd with
  | .P => ra K (pA K d) "property"
  | .S => ra K (pA K d) "staticmethod"
  | .K => ra K (pA K d) "classmethod"
  | _ => pA K d
def codeB (K : PySem.W.Frag) (a : Addr) (q : Str) : Bool := match K.lookup a with
  | some ⟨_, _, .func fd, _⟩ => PySem.W.codeIn K fd.code q
  | _ => false
def kdB (K : PySem.W.Frag) (d : Df) : Bool := match d.kd with
  | .A => He.eqO (PySem.W.nsIn K mainGlobals d.C) (some (some (.ref (ga K d.C))))
  | .D => He.eqO (PySem.W.nsIn K mainGlobals d.m) (some (some (.ref (ga K d.m))))
  | .M => He.eqO (PySem.W.findIn K (.ref (ga K d.C)) d.m) (some (some (.ref (ma K (ga K d.C) d.m)))) && PySem.W.isFn K (.ref (ma K (ga K d.C) d.m))
  | .I => He.eqO (PySem.W.findIn K (.ref (ga K d.C)) d.m) (some (some (.ref (ma K (ga K d.C) d.m)))) && (PySem.W.isFn K (.ref (ma K (ga K d.C) d.m)) && (PySem.W.makesIn K (ga K d.C) && PySem.W.keepIn K (.ref (ga K d.C))))
  | .P => He.eqO (PySem.W.findIn K (.ref (ga K d.C)) d.m) (some (some (.ref (ma K (ga K d.C) d.m)))) && (He.eqO (PySem.W.specialIn K (.ref (ma K (ga K d.C) d.m)) "__get__") (some (some (.builtin "property.__get__"))) && (decide (PySem.W.takesIn K (.ref (ma K (ga K d.C) d.m)) = some true) && recB K (ma K (ga K d.C) d.m) "property"))
  | .S => staB K d.C d.m "staticmethod.__get__" && recB K (sa K d.C d.m) "staticmethod"
  | .K => staB K d.C d.m "classmethod.__get__" && (recB K (sa K d.C d.m) "classmethod" && PySem.W.fnIn K (ra K (sa K d.C d.m) "classmethod"))
def Df.ok (K : PySem.W.Frag) (d : Df) : Bool := codeB K (fA K d) d.qual && (PySem.W.keepIn K (.ref (fA K d)) && kdB K d)
def fnO (K : PySem.W.Frag) (a : Addr) : He.FnV := match K.lookup a with
  | some ⟨_, _, .func fd, _⟩ => some (fd.name, fd.qualname, fd.params, fd.body, fd.scope, fd.globals, fd.closure, fd.defaults, fd.builtins)
  | _ => none
def Df.val (d : Df) : He.FnV := some (d.m, d.qual, L2.defArgs d.st, .stmts (L2.defBody d.st), L2.defScope d.st, mainGlobals, [], .none, builtinsNs)
def cA (K : PySem.W.Frag) (a : Addr) : Addr := match K.lookup a with
  | some ⟨_, _, .func fd, _⟩ => (match fd.code with
    | .ref c => c
    | _ => 0)
  | _ => 0
def clB (K : PySem.W.Frag) (x : Str) : Bool := He.eqO (PySem.W.nsIn K mainGlobals x) (some (some (.ref (ga K x)))) && He.Fa.ok K (.cls x)
def crB (K : PySem.W.Frag) (x : Str) : Bool := PySem.W.readsIn K (ga K x) (.type "type") && He.eqO (PySem.W.specialIn K (.ref (ga K x)) "__getattribute__") (some (some (.builtin "type.__getattribute__")))
def atB (f : Str) (xs : List Str) (K : PySem.W.Frag) : Bool := xs.all fun x => clB K x && He.eqO (PySem.W.findIn K (.ref (ga K x)) f) (some none)
def frB (x : Str) (K : PySem.W.Frag) : Bool := He.eqO (PySem.W.nsIn K mainGlobals x) (some none)
def fvB (x : Str) (K : PySem.W.Frag) : Bool := He.eqO (PySem.W.nsIn K mainGlobals x) (some (some (.ref (ga K x))))
def rlD (K : PySem.W.Frag) : Nat → D → Value → Bool
  | _, .non, .none => true
  | _, .bl b, .bool c => b == c
  | _, .int i, .int j _ => decide (i = j)
  | _, .str x, .str y _ => decide (x = y)
  | n + 1, .tup ds, .ref a => (match K.lookup a with
    | some ⟨.type c, _, .seq its _, _⟩ => decide (c = "tuple") && (decide (its.size ≤ PySem.sizeLine) && (decide (ds.length = its.toList.length) && ((ds.zip its.toList).all fun p => rlD K n p.1 p.2)))
    | _ => false)
  | _, _, _ => false
def cstB (x : Str) (d : D) (K : PySem.W.Frag) : Bool := match PySem.W.nsIn K mainGlobals x with
  | some (some u) => rlD K 4 d u
  | _ => false
def tbB (x : Str) (tbl : List (Str × D)) (K : PySem.W.Frag) : Bool := fvB x K && (tbl.all fun p => match PySem.W.nsIn K (ga K x) p.1 with
  | some (some u) => rlD K 4 p.2 u
  | _ => false)
def conB (C f : Str) (d : D) (K : PySem.W.Frag) : Bool := clB K C && (match PySem.W.findIn K (.ref (ga K C)) f with
  | some (some u) => rlD K 4 d u && He.eqO (PySem.W.specialIn K u "__get__") (some none)
  | _ => false)
def vaN (K : PySem.W.Frag) (x : Str) : Value := match PySem.W.nsIn K mainGlobals x with
  | some (some v) => v
  | _ => .none
def vaB (x : Str) (K : PySem.W.Frag) : Bool := He.eqO (PySem.W.nsIn K mainGlobals x) (some (some (vaN K x)))
def tlB (x : Str) (K : PySem.W.Frag) : Bool := decide (((PySem.W.tabIn K x).map fun p => p.1) = some (cA K (ga K x)))
def olB (x : Str) (K : PySem.W.Frag) : Bool := (TK K).all fun p => !decide (p.1 = tpOf K x) || decide (p.2 = (x ++ ".<locals>." ++ "<lambda>" : Str))
structure Ex where
  x : Str
  qual : Str
  st : Stmt
  ps : List Str
  b : Nat
def xB : Nat → String
  | 0 => "ValueError"
  | 1 => "LookupError"
  | _ => "IndexError"
def xN : Nat → String
  | 0 => "ValueError.__new__"
  | 1 => "LookupError.__new__"
  | _ => "IndexError.__new__"
def xI : Nat → String
  | 0 => "ValueError.__init__"
  | 1 => "LookupError.__init__"
  | _ => "IndexError.__init__"
def xT : Nat → List Value
  | 0 => PySem.HandSPX.veTail
  | 1 => PySem.OEG.leTail
  | _ => PySem.OEG.ieTail
def exO (K : PySem.W.Frag) (a : Addr) : Option (Str × Str × Arguments × FuncBody × Scope × Addr × Value × Addr) := match K.lookup a with
  | some ⟨_, _, .func fd, _⟩ => some (fd.name, fd.qualname, fd.params, fd.body, fd.scope, fd.globals, fd.defaults, fd.builtins)
  | _ => none
def Ex.val (e : Ex) : Option (Str × Str × Arguments × FuncBody × Scope × Addr × Value × Addr) := some ("__init__", e.qual, L2.defArgs e.st, .stmts (L2.defBody e.st), L2.defScope e.st, mainGlobals, .none, builtinsNs)
def excB (K : PySem.W.Frag) (C : Addr) (nw : String) (tail : List Value) : Bool := match K.lookup C with
  | some ⟨.type t, _, .cls cd, sl⟩ => decide (t = "type") && (match cd.mro, sl.toList with
    | .ref C' :: bm, [_, _, _, _, some (.builtin n), _] => decide (C' = C) && (decide (n = nw) && (decide (cd.hasDel = false) && (decide (cd.hasDict = true) && PySem.OEG.refsTB tail bm)))
    | _, _ => false)
  | _ => false
def exF (K : PySem.W.Frag) (C a : Addr) (file q : Str) : Bool := match K.lookup a with
  | some ⟨_, _, .func fd, _⟩ => (match fd.closure with
    | [(n, o)] => decide (n = "__class__") && (match K.lookup o with
      | some ⟨_, _, .cell (some (.ref c)), _⟩ => decide (c = C)
      | _ => false)
    | _ => false) && (PySem.W.codeIn K fd.code q && (match fd.code with
      | .ref d => (match K.lookup d with
        | some ⟨_, _, .fields vs, _⟩ => (match (vs[2]? : Option Value) with
          | some (.str fl _) => decide (file = fl)
          | _ => false)
        | _ => false)
      | _ => false))
  | _ => false
def Ex.ok (file : Str) (K : PySem.W.Frag) (e : Ex) : Bool := exF K (ga K e.x) (ma K (ga K e.x) "__init__") file e.qual && (excB K (ga K e.x) (xN e.b) (xT e.b) && (fvB e.x K && (He.eqO (PySem.W.findIn K (.ref (ga K e.x)) "__setattr__") (some (some (.builtin "object.__setattr__"))) && (decide (PySem.W.subIn K (.ref (ga K e.x)) (.type "BaseException") = some true) &&
  (decide (PySem.W.typeIn K (.ref (ga K e.x)) = some (.type "type")) && (PySem.W.keepIn K (.ref (ga K e.x)) && (He.eqO (PySem.W.findIn K (.ref (ga K e.x)) "__init__") (some (some (.ref (ma K (ga K e.x) "__init__")))) && (decide (PySem.W.typeIn K (.ref (ma K (ga K e.x) "__init__")) = some (.type "function")) &&
  (He.eqO (PySem.W.ks_superIn K (ga K e.x) (ga K e.x) "__init__") (some (some (.builtin (xI e.b)))) && (decide (PySem.W.subIn K (.ref (ga K e.x)) (.type (xB e.b)) = some true) && (decide (PySem.W.mroIn K (ga K e.x) (.ref (ga K e.x)) = some true) &&
  (He.eqO (PySem.W.findIn K (.ref (ga K e.x)) "code") (some none) && (e.ps.all fun p => He.eqO (PySem.W.findIn K (.ref (ga K e.x)) p) (some none))))))))))))))
structure Tx where
  dfs : List Df
  fb : List (PySem.W.Frag → Bool)
  exs : List Ex
  tb : List (Str × List Str)
  file : Str
def tabsB (g : Addr → Option Obj) (K : PySem.W.Frag) : Bool := (TC K).all fun p => PySem.W.codeHdIn K p.1 p.2 && (match g p.2 with
  | some o => He.emptyTab o
  | none => false)
def adr (lo n : Nat) : List Addr := cStatics :: mainGlobals :: (List.range' lo n).reverse
def kG (lo n : Nat) (g : Addr → Option Obj) : PySem.W.Frag := He.frT g (adr lo n)
end DX
end
section
namespace DX
open PySem PySem.W PySem.Spec PySem.Calls PyProof.Rows HandSHeadRun
def RunD (r : OpenRow) (q : Program) (M : Nat) (loose : List PySem.Str) (w : World) : Prop :=
  ∀ os : OsState, (endF (stepQ (denQ tabQ) r.prog w) M r.prog w os).map (fun s => (looksF r.prog (boot_heap w.params) s.abs, seenQ q loose (importedModules r.prog.main.body) (fun s => xlAt q [] s && recOk r.toRowW.records s) s.abs)) = some (true, openGood q loose)
def RunA (r : OpenRow) (T : Tx) (lo n M : Nat) (w : World) : Prop :=
  ∀ os : OsState, (endF (stepQ (denQ tabQ) r.prog w) M r.prog w os).map (fun s => (T.dfs.all (fun d => d.ok (kG lo n (getT s))), T.dfs.map (fun d => fnO (kG lo n (getT s)) (fA (kG lo n (getT s)) d)))) = some (true, T.dfs.map Df.val)
def RunB (r : OpenRow) (T : Tx) (lo n M : Nat) (w : World) : Prop :=
  ∀ os : OsState, (endF (stepQ (denQ tabQ) r.prog w) M r.prog w os).map (fun s => (T.exs.all (fun e => e.ok T.file (kG lo n (getT s))), T.exs.map (fun e => exO (kG lo n (getT s)) (ma (kG lo n (getT s)) (ga (kG lo n (getT s)) e.x) "__init__")))) = some (true, T.exs.map Ex.val)
def RunC (r : OpenRow) (T : Tx) (lo n M : Nat) (w : World) : Prop :=
  ∀ os : OsState, (endF (stepQ (denQ tabQ) r.prog w) M r.prog w os).map (fun s => (T.fb.all (fun f => f (kG lo n (getT s))), tabsB (getT s) (kG lo n (getT s)), T.tb.map fun t => He.dicW (kG lo n (getT s)) (ga (kG lo n (getT s)) t.1))) = some (true, true, T.tb.map fun t => some (He.keysIn w.params t.2))
end DX
end
section
namespace K77
open PySem L2 DL
variable [Wld]
def top (i : Nat) : Stmt := PySem.Challenge.pw_planloom_k77_room_within_a_step.main.body.getD i (.Pass ⟨0, 0, 0, 0⟩)
abbrev st_is_number : Stmt := top 24
abbrev st_is_within : Stmt := top 25
abbrev st_is_sign : Stmt := top 26
abbrev st_is_name : Stmt := top 29
abbrev st_deepest : Stmt := top 33
abbrev st_read_row : Stmt := top 35
abbrev st_read_part : Stmt := top 36
abbrev st_read_parts : Stmt := top 37
abbrev st_read_tree : Stmt := top 34
abbrev st_scheme_fault : Stmt := top 94
abbrev st_scheme_text : Stmt := top 95
abbrev st_Scheme___init__ : Stmt := mem (top 99) 0
abbrev st_Scheme_read : Stmt := mem (top 99) 1
abbrev st_Scheme_text : Stmt := mem (top 99) 3
abbrev st_need_command : Stmt := top 104
abbrev st_need_room : Stmt := top 106
abbrev st_behind_text : Stmt := top 107
abbrev st_behind : Stmt := top 109
abbrev st_Store___init__ : Stmt := mem (top 111) 1
abbrev st_Store_looked_at : Stmt := mem (top 111) 7
abbrev st_Store_put : Stmt := mem (top 111) 10
abbrev st_Store_turn_to : Stmt := mem (top 111) 9
abbrev st_Store_apply : Stmt := mem (top 111) 8
abbrev st_Store_undo : Stmt := mem (top 111) 11
abbrev st_Store_redo : Stmt := mem (top 111) 12
abbrev st_Store_history : Stmt := mem (top 111) 13
abbrev st_Store_names : Stmt := mem (top 111) 14
abbrev st_Store___len__ : Stmt := mem (top 111) 24
abbrev st__law_bag : Stmt := top 113
abbrev st__law_take : Stmt := top 114
abbrev st__law_like : Stmt := top 115
abbrev st__law_field : Stmt := top 116
abbrev st__law_why : Stmt := top 117
abbrev st_law : Stmt := top 118
def cD_LETTERS : D := .str "abcdefghijklmnopqrstuvwxyz"
def cD_MOST_BRACKETS : D := .int 20
def cD_MOST_NESTED : D := .int 6
def cD_MOST_SIGNS_schemes : D := .int 20
def tb_COUNTS : List (Str × D) := [("house", .int 3), ("scheme", .int 3), ("beside", .int 4), ("united", .int 4), ("hidden", .int 4), ("drop", .int 2), ("rename", .int 3)]
def tb_MARKS : List (Str × D) := [("row", .tup [.str "", .str " ", .str ""]), ("lot", .tup [.str "[", .str " & ", .str "]"]), ("or", .tup [.str "(", .str " | ", .str ")"])]
def tb_PARTS : List (Str × D) := [("row", .tup [.int 2, .int 4]), ("lot", .tup [.int 2, .int 4]), ("or", .tup [.int 2, .int 4]), ("loop", .tup [.int 1, .int 1])]
abbrev st_i_DuplicateName : Stmt := mem (top 15) 0
abbrev st_i_Full : Stmt := mem (top 17) 0
abbrev st_i_InvalidCommand : Stmt := mem (top 19) 0
abbrev st_i_InvalidLimit : Stmt := mem (top 18) 0
abbrev st_i_InvalidName : Stmt := mem (top 14) 0
abbrev st_i_InvalidScheme : Stmt := mem (top 9) 0
abbrev st_i_InvalidText : Stmt := mem (top 5) 0
abbrev st_i_NothingLeft : Stmt := mem (top 21) 0
abbrev st_i_UnknownName : Stmt := mem (top 20) 0
abbrev st_i_WrongKind : Stmt := mem (top 16) 0
def endX_dfs0 : List DX.Df := [⟨.D, "", "is_number", "is_number", st_is_number⟩, ⟨.D, "", "is_within", "is_within", st_is_within⟩, ⟨.D, "", "is_sign", "is_sign", st_is_sign⟩, ⟨.D, "", "is_name", "is_name", st_is_name⟩, ⟨.D, "", "deepest", "deepest", st_deepest⟩, ⟨.D, "", "read_row", "read_row", st_read_row⟩, ⟨.D, "", "read_part", "read_part", st_read_part⟩, ⟨.D, "", "read_parts", "read_parts", st_read_parts⟩, ⟨.D, "", "read_tree", "read_tree", st_read_tree⟩, ⟨.D, "", "scheme_fault", "scheme_fault", st_scheme_fault⟩, ⟨.D, "", "scheme_text", "scheme_text", st_scheme_text⟩, ⟨.I, "Scheme", "__init__", "Scheme.__init__", st_Scheme___init__⟩, ⟨.S, "Scheme", "read", "Scheme.read", st_Scheme_read⟩, ⟨.M, "Scheme", "text", "Scheme.text", st_Scheme_text⟩, ⟨.D, "", "need_command", "need_command", st_need_command⟩, ⟨.D, "", "need_room", "need_room", st_need_room⟩, ⟨.D, "", "behind_text", "behind_text", st_behind_text⟩, ⟨.D, "", "behind", "behind", st_behind⟩, ⟨.I, "Store", "__init__", "Store.__init__", st_Store___init__⟩, ⟨.M, "Store", "looked_at", "Store.looked_at", st_Store_looked_at⟩, ⟨.M, "Store", "put", "Store.put", st_Store_put⟩, ⟨.M, "Store", "turn_to", "Store.turn_to", st_Store_turn_to⟩, ⟨.M, "Store", "apply", "Store.apply", st_Store_apply⟩, ⟨.M, "Store", "undo", "Store.undo", st_Store_undo⟩, ⟨.M, "Store", "redo", "Store.redo", st_Store_redo⟩, ⟨.M, "Store", "history", "Store.history", st_Store_history⟩, ⟨.M, "Store", "names", "Store.names", st_Store_names⟩, ⟨.M, "Store", "__len__", "Store.__len__", st_Store___len__⟩, ⟨.D, "", "_law_bag", "_law_bag", st__law_bag⟩, ⟨.D, "", "_law_take", "_law_take", st__law_take⟩]
def endX_dfs1 : List DX.Df := [⟨.D, "", "_law_like", "_law_like", st__law_like⟩, ⟨.D, "", "_law_field", "_law_field", st__law_field⟩, ⟨.D, "", "_law_why", "_law_why", st__law_why⟩, ⟨.D, "", "law", "law", st_law⟩]
def endX_dfs : List DX.Df := endX_dfs0 ++ (endX_dfs1)
def endX_fb0 : List (PySem.W.Frag → Bool) := [fun K => DX.clB K "Scheme", fun K => DX.crB K "Scheme", fun K => DX.clB K "Store", DX.atB "algebras" ["Store"], DX.atB "entries" ["Store"], DX.atB "future" ["Store"], DX.atB "is_at_work" ["Store"], DX.atB "many" ["Store"], DX.atB "own_limit" ["Store"], DX.atB "own_tree" ["Plan", "Scheme"], DX.atB "past" ["Store"], DX.atB "rows" ["Store"], DX.frB "all", DX.frB "bool", DX.frB "enumerate", DX.frB "int", DX.frB "isinstance", DX.frB "len", DX.frB "list", DX.frB "max", DX.frB "str", DX.frB "tuple", DX.frB "zip", DX.cstB "LETTERS" cD_LETTERS, DX.cstB "MOST_BRACKETS" cD_MOST_BRACKETS, DX.cstB "MOST_NESTED" cD_MOST_NESTED, DX.cstB "MOST_SIGNS_schemes" cD_MOST_SIGNS_schemes, DX.tbB "COUNTS" tb_COUNTS, DX.tbB "MARKS" tb_MARKS, DX.tbB "PARTS" tb_PARTS]
def endX_fb1 : List (PySem.W.Frag → Bool) := [DX.conB "Store" "MOST" (.int 20), DX.frB "super", fun K => He.eqO (PySem.W.nsIn K cStatics "thirdparty.any") (some none), fun K => caughtB K [DX.vaN K "LoomError", DX.vaN K "Missing", DX.vaN K "NothingLeft"] (DX.ga K "WrongKind"), DX.fvB "WrongKind", fun K => caughtB K [DX.vaN K "LoomError", DX.vaN K "Missing", DX.vaN K "NothingLeft"] (DX.ga K "UnknownName"), DX.fvB "UnknownName", fun K => caughtB K [DX.vaN K "LoomError", DX.vaN K "Missing", DX.vaN K "NothingLeft"] (DX.ga K "NothingLeft"), DX.fvB "NothingLeft", fun K => caughtB K [DX.vaN K "LoomError", DX.vaN K "Missing", DX.vaN K "NothingLeft"] (DX.ga K "InvalidText"), DX.fvB "InvalidText", fun K => caughtB K [DX.vaN K "LoomError", DX.vaN K "Missing", DX.vaN K "NothingLeft"] (DX.ga K "InvalidScheme"), DX.fvB "InvalidScheme", fun K => caughtB K [DX.vaN K "LoomError", DX.vaN K "Missing", DX.vaN K "NothingLeft"] (DX.ga K "InvalidName"), DX.fvB "InvalidName", fun K => caughtB K [DX.vaN K "LoomError", DX.vaN K "Missing", DX.vaN K "NothingLeft"] (DX.ga K "InvalidLimit"), DX.fvB "InvalidLimit", fun K => caughtB K [DX.vaN K "LoomError", DX.vaN K "Missing", DX.vaN K "NothingLeft"] (DX.ga K "InvalidCommand"), DX.fvB "InvalidCommand", fun K => caughtB K [DX.vaN K "LoomError", DX.vaN K "Missing", DX.vaN K "NothingLeft"] (DX.ga K "Full"), DX.fvB "Full", fun K => caughtB K [DX.vaN K "LoomError", DX.vaN K "Missing", DX.vaN K "NothingLeft"] (DX.ga K "DuplicateName"), DX.fvB "DuplicateName", DX.vaB "LoomError", DX.vaB "Missing", DX.vaB "NothingLeft", DX.tlB "law", DX.olB "law"]
def endX_fb : List (PySem.W.Frag → Bool) := endX_fb0 ++ (endX_fb1)
def endX_exs0 : List DX.Ex := [⟨"DuplicateName", "DuplicateName.__init__", st_i_DuplicateName, ["name"], 0⟩, ⟨"Full", "Full.__init__", st_i_Full, ["most"], 0⟩, ⟨"InvalidCommand", "InvalidCommand.__init__", st_i_InvalidCommand, ["word"], 0⟩, ⟨"InvalidLimit", "InvalidLimit.__init__", st_i_InvalidLimit, ["given"], 0⟩, ⟨"InvalidName", "InvalidName.__init__", st_i_InvalidName, ["name"], 0⟩, ⟨"InvalidScheme", "InvalidScheme.__init__", st_i_InvalidScheme, ["path"], 0⟩, ⟨"InvalidText", "InvalidText.__init__", st_i_InvalidText, ["given"], 0⟩, ⟨"NothingLeft", "NothingLeft.__init__", st_i_NothingLeft, [], 2⟩, ⟨"UnknownName", "UnknownName.__init__", st_i_UnknownName, ["name"], 1⟩, ⟨"WrongKind", "WrongKind.__init__", st_i_WrongKind, ["name"], 0⟩]
def endX_exs : List DX.Ex := endX_exs0
def endX_tb0 : List (Str × List Str) := [("COUNTS", tb_COUNTS.map (·.1)), ("MARKS", tb_MARKS.map (·.1)), ("PARTS", tb_PARTS.map (·.1))]
def endX_tb : List (Str × List Str) := endX_tb0
def endX : DX.Tx := ⟨endX_dfs, endX_fb, endX_exs, endX_tb, PySem.Challenge.pw_planloom_k77_room_within_a_step.main.file⟩
def endX_loose0 : List Str := ["_wall", "LoomError", "Missing", "InvalidPlan", "InvalidText", "InvalidHouse", "InvalidState", "InvalidSign", "InvalidScheme", "InvalidNumber", "InvalidBeats", "TooMany", "CellsDiffer", "InvalidName", "DuplicateName", "WrongKind", "Full", "InvalidLimit", "InvalidCommand", "UnknownName", "NothingLeft", "LETTERS", "is_number", "is_within", "is_sign", "is_list", "are_signs", "is_name", "signs_within", "MOST_BRACKETS"]
def endX_loose1 : List Str := ["deepest", "read_tree", "read_row", "read_part", "read_parts", "KINDS", "rank", "levels", "together", "normal", "tree_text", "tree_end", "MOST_LEVELS", "MOST_SIGNS_plans", "MOST_BEATS", "WORDS", "plan_fault", "Plan", "plain", "NONE", "DIGITS", "is_row", "is_state", "is_piece", "idle", "then", "beside", "outcome", "word_of", "word_of_pieces"]
def endX_loose2 : List Str := ["piece_text", "read_word", "read_piece", "HIDDEN", "Doer", "GAP", "EMPTY", "are_sizes", "is_step", "read_numbers", "items_of", "read_step", "states_behind", "are_good", "House", "beside_houses", "united", "need_signs", "hidden", "MOST_NESTED", "MOST_SIGNS_schemes", "MOST_LISTED", "PARTS", "MARKS", "scheme_fault", "scheme_text", "unlike", "paired", "described", "Scheme"]
def endX_loose3 : List Str := ["COUNTS", "word_of_entries", "need_command", "thing_of", "need_room", "behind_text", "behind_made", "behind", "Store", "_law_bag", "_law_take", "_law_like", "_law_field", "_law_why"]
def endX_loose : List Str := endX_loose0 ++ (endX_loose1 ++ (endX_loose2 ++ (endX_loose3)))
end K77
end
section
open PySem PySem.W PyProof.Rows
set_option maxHeartbeats 0 in
theorem K77.endX_run_false_D (w : World) : DX.RunD (PySem.W.OpenLaw.row PySem.Challenge.rw_planloom_k77_room_within_a_step) (PySem.W.view (PySem.W.OpenLaw.row PySem.Challenge.rw_planloom_k77_room_within_a_step).prog [118]) 20000 K77.endX_loose (w.withFollow "special-get-raises" false) := by
  intro os
  kernel_rfl
set_option maxHeartbeats 0 in
theorem K77.endX_run_false_A (w : World) : DX.RunA (PySem.W.OpenLaw.row PySem.Challenge.rw_planloom_k77_room_within_a_step) K77.endX 0 2500 20000 (w.withFollow "special-get-raises" false) := by
  intro os
  kernel_rfl
set_option maxHeartbeats 0 in
theorem K77.endX_run_false_B (w : World) : DX.RunB (PySem.W.OpenLaw.row PySem.Challenge.rw_planloom_k77_room_within_a_step) K77.endX 0 2500 20000 (w.withFollow "special-get-raises" false) := by
  intro os
  kernel_rfl
set_option maxHeartbeats 0 in
theorem K77.endX_run_false_C (w : World) : DX.RunC (PySem.W.OpenLaw.row PySem.Challenge.rw_planloom_k77_room_within_a_step) K77.endX 0 2500 20000 (w.withFollow "special-get-raises" false) := by
  intro os
  kernel_rfl
set_option maxHeartbeats 0 in
theorem K77.endX_run_true_D (w : World) : DX.RunD (PySem.W.OpenLaw.row PySem.Challenge.rw_planloom_k77_room_within_a_step) (PySem.W.view (PySem.W.OpenLaw.row PySem.Challenge.rw_planloom_k77_room_within_a_step).prog [118]) 20000 K77.endX_loose (w.withFollow "special-get-raises" true) := by
  intro os
  kernel_rfl
set_option maxHeartbeats 0 in
theorem K77.endX_run_true_A (w : World) : DX.RunA (PySem.W.OpenLaw.row PySem.Challenge.rw_planloom_k77_room_within_a_step) K77.endX 0 2500 20000 (w.withFollow "special-get-raises" true) := by
  intro os
  kernel_rfl
set_option maxHeartbeats 0 in
theorem K77.endX_run_true_B (w : World) : DX.RunB (PySem.W.OpenLaw.row PySem.Challenge.rw_planloom_k77_room_within_a_step) K77.endX 0 2500 20000 (w.withFollow "special-get-raises" true) := by
  intro os
  kernel_rfl
set_option maxHeartbeats 0 in
theorem K77.endX_run_true_C (w : World) : DX.RunC (PySem.W.OpenLaw.row PySem.Challenge.rw_planloom_k77_room_within_a_step) K77.endX 0 2500 20000 (w.withFollow "special-get-raises" true) := by
  intro os
  kernel_rfl
end
namespace DL
open PySem PySem.Spec PyProof.Rows L2
def kOfV : Value → Key
  | .int i _ => .inl i
  | .str x _ => .inr x
  | _ => .inl 0
def kOfE (e : Int × Value) : Key := kOfV e.2
def GoodX (w : World) (e : Int × Value) : Prop := ∃ k, keyIs k e.2 = true ∧ e.1 = keyH w k
structure SetXd (w : World) (ks : List Key) (es : Array (Int × Value)) (t : SetTable) : Prop where
  good : ∀ e ∈ es.toList, GoodX w e
  perm : (es.toList.map kOfE).Perm ks
  nd : ks.Nodup
  small : es.size < scanBound
  fits : t.fits es.size = true
  ris : Ris t.place.toList
  led : w.params.followText "set-order" = true ∨ t.led = true
def SetX (w : World) (h : Heap) (a : Addr) (ks : List Key) : Prop := ∃ o es ep t, h.get? a = some o ∧ o.ExactSet ∧ o.data = .set es ep t ∧ SetXd w ks es t
def SetXO (w : World) (a : Addr) (ks : List Key) : HO := .ext fun h => SetX w h a ks
theorem SetX.at {w : World} {a : Addr} {ks : List Key} {h h' : Heap} (R : SetX w h a ks) (k : ∀ o, h.get? a = some o → h'.get? a = some o) : SetX w h' a ks := by
  obtain ⟨o, es, ep, t, ho, r⟩ := R
  exact ⟨o, es, ep, t, k o ho, r⟩
def cHeap (c : Addr) (q : Str) : Heap := { objs := Array.replicate (c + 1) { cls := .none, data := .fields #[.none, .str q 0] } }
theorem cHeap_get {c : Addr} {q : Str} {a : Addr} {o : Obj} (h : (cHeap c q).get? a = some o) : o.data = .fields #[.none, .str q 0] := by
  have h1 := (Heap.get?_some_iff.mp h).1
  have h2 : (Array.replicate (c + 1) ({ cls := .none, data := .fields #[.none, .str q 0] } : Obj))[a]? = some o := h1
  rw [Array.getElem?_replicate] at h2
  split at h2
  · cases h2; rfl
  · cases h2
theorem cHeap_at (c : Addr) (q : Str) : (cHeap c q).get? c = some { cls := .none, data := .fields #[.none, .str q 0] } := Heap.get?_some_iff.mpr ⟨by
  show (Array.replicate (c + 1) ({ cls := .none, data := .fields #[.none, .str q 0] } : Obj))[c]? = _
  rw [Array.getElem?_replicate, if_pos (Nat.lt_succ_self c)], rfl⟩
theorem ext_no_code {φ : Heap → Prop} (h : ∀ c q, ¬ φ (cHeap c q)) (c : Addr) (q : Str) : HO.ext φ ≠ LamX.CodeO c q := fun z => by
  unfold LamX.CodeO at z
  injection z with z
  have e := congrFun z (cHeap c q)
  refine h c q ?_
  rw [e]
  exact ⟨_, _, _, cHeap_at c q, rfl, rfl⟩
theorem setX_no_code {w : World} {a : Addr} {ks : List Key} (c : Addr) (q : Str) : SetXO w a ks ≠ LamX.CodeO c q := ext_no_code (fun c q h => by
  obtain ⟨o, es, ep, t, ho, _, hd, _⟩ := h
  rw [cHeap_get ho] at hd
  cases hd) c q
def sameN (p : NestedKey × Addr × V) (q : NestedKey × Addr × Value) : Prop := p.1 = q.1 ∧ p.2.1 = q.2.1 ∧ RelV p.2.2 q.2.2
def DictN (w : World) (h : Heap) (d : Addr) (vs : List (NestedKey × Addr × Value)) : Prop := ∃ o es ep, h.get? d = some o ∧ o.ExactDict ∧ o.data = .dict es ep ∧ es.toList = vs.map (fun x => ⟨x.1.hash w, .ref x.2.1, x.2.2⟩) ∧ (vs.map (·.1)).Nodup
def DicX (w : World) (h : Heap) (d : Addr) (xs : List (NestedKey × Addr × V)) : Prop := (d == sysModules) = false ∧ xs.length ≤ sizeLine ∧ ∃ vs, Paired sameN xs vs ∧ DictN w h d vs
def DicO (w : World) (d : Addr) (xs : List (NestedKey × Addr × V)) : HO := .ext fun h => DicX w h d xs
theorem DicX.at {w : World} {d : Addr} {xs : List (NestedKey × Addr × V)} {h h' : Heap} (R : DicX w h d xs) (k : ∀ o, h.get? d = some o → h'.get? d = some o) : DicX w h' d xs := by
  obtain ⟨a, b, vs, r, o, es, ep, ho, c⟩ := R
  exact ⟨a, b, vs, r, o, es, ep, k o ho, c⟩
theorem dicO_no_code {w : World} {d : Addr} {xs : List (NestedKey × Addr × V)} (c : Addr) (q : Str) : DicO w d xs ≠ LamX.CodeO c q := ext_no_code (fun c q h => by
  obtain ⟨_, _, _, _, o, _, _, ho, _, hd, _⟩ := h
  rw [cHeap_get ho] at hd
  cases hd) c q
end DL
namespace DL
open PySem PySem.Spec PyProof.Rows L2
def CXm (μ : Bool) (P : Program) (w : World) : CXT := match μ with
  | true => L2N.CX P w
  | false => L2.CX P w
def TakesM (μ : Bool) (X : Cx) (W : WX) : Prop := match μ with
  | true => L2N.Takes X W
  | false => L2.Takes X W
theorem cxm_no {μ : Bool} {P : Program} {w : World} {o : List PySem.Env} {H : Hp} {s s' : Shared} {e : Value} (h : CXm μ P w o H s (fun _ _ _ => False) e s') : False := by
  cases μ with
  | true => obtain ⟨_, _, _, _, _, _, _, _, _, _, _, _, z⟩ := h; exact z
  | false => obtain ⟨_, _, _, _, _, _, _, _, _, _, _, _, z⟩ := h; exact z
theorem passAtM {μ : Bool} {X : Cx} {W : WX} (tk : TakesM μ X W) (σ : L2.St) : PassesAt (CXm μ X.prog X.w) X σ (WE W σ) := by
  cases μ with
  | true => exact L2N.passAt tk σ
  | false => exact L2.passAt tk σ
theorem flyingW {B h : Heap} {l : List PySem.Env} {a : Addr} {Z Z' : Obj → Prop} (z : ∀ o, Z o → Z' o) (x : HandSPX.FlyingZ B l a Z h) : HandSPX.FlyingZ B l a Z' h := L2H.flyingZ_imp z x
theorem skyW {B h : Heap} {l : List PySem.Env} {a L : Addr} {Z Z' : Obj → Prop} (z : ∀ o, Z o → Z' o) (x : L2.Sky B l a Z L h) : L2.Sky B l a Z' L h := by
  rcases x with ⟨h1, h2, h3, oe, vs, h4, h5, h6, h7⟩ | x | ⟨k1, k2, k3, oe, vs, T, oT, ts, k4, k5, r⟩
  · exact .inl ⟨h1, h2, h3, oe, vs, h4, z _ h5, h6, h7⟩
  · exact .inr (.inl (flyingW z x))
  · exact .inr (.inr ⟨k1, k2, k3, oe, vs, T, oT, ts, k4, z _ k5, r⟩)
theorem TakesM.of_weak {μ : Bool} {X : Cx} {W : WX} (tk : L2.Takes X W) : TakesM μ X W := by
  cases μ with
  | false => exact tk
  | true => exact fun u s' ⟨a, B, sI, pins, σ, H, cls, d, e, I, nb, up, sky, na, os, ag, w⟩ => tk u s' ⟨a, B, sI, pins, σ, H, cls, d, e, I, nb, up, skyW (fun _ z => z.zc) sky, na, os, ag, w⟩
theorem TakesM.to {ν μ : Bool} {X : Cx} {W : WX} (tk : TakesM ν X W) (e : (!ν || μ) = true := by rfl) : TakesM μ X W := by
  cases ν with
  | false => exact .of_weak tk
  | true => cases μ with
    | true => exact tk
    | false => cases e
theorem takesM0 {μ : Bool} {X : Cx} : TakesM μ X (fun _ _ _ _ => False) := .of_weak fun _ _ x => by
  obtain ⟨_, _, _, _, _, _, _, _, _, _, _, _, _, _, _, _, z⟩ := x
  exact z.elim
theorem takesM_of {μ : Bool} {X : Cx} {E : XK} (hs : X.stack = X.env :: X.outer) (hf : X.env.frame = some X.env.locals) (hex : X.ex = []) {E₁ : Value → Shared → Prop}
    (hx : X.xe = fun e s' => wpAny (model X.prog X.w) X.A (leaving X.env e) (fun _ s'' => CXm μ X.prog X.w X.outer X.H_0 X.s_0 E e s'') E₁ s') : TakesM μ X (fun cls d _ H => E cls d H) := by
  cases μ with
  | true => exact L2N.takes_of hs hf hex hx
  | false => exact L2.takes_of hs hf hex hx
theorem ds_raiseM {μ : Bool} {X : Cx} {W : WX} {e : Expr} {t : L2.St → Hp → XK → Prop} {pos : Pos} (hc : X.calm = true) (tk : TakesM μ X W) (he : L2N.PMk X e t) : PS X (.Raise (some e) none pos) (fun _ σ H => t σ H fun cls d H' => W cls d σ H') :=
  L2N.ps_raise hc (tk.to (μ := true) (by cases μ <;> rfl)) he
end DL
namespace DL
open PySem L2
variable [Wld]
def MO.live : MO → Bool
  | .gone => false
  | .dil _ => false
  | _ => true
theorem TupAt.sq {K : PySem.W.Frag} {G : Hp} {a : Addr} {vs : List V} (h : TupAt K G a vs) : SqT K G a vs := h.elim (fun z => .inl (.inl z)) .inr
def kdD : Key → D
  | .inl i => .int i
  | .inr x => .str x
mutual
def nkD : NestedKey → D
  | .none => .non
  | .num i => .int i
  | .text x => .str x
  | .tup ks => .tup (nkDs ks)
def nkDs : List NestedKey → List D
  | [] => []
  | k :: ks => nkD k :: nkDs ks
end
def isKV (K : PySem.W.Frag) (w : Wd) (p : Key × V) (q : D × D) : Prop := kdD p.1 = q.1 ∧ Is K w p.2 q.2
def isNV (K : PySem.W.Frag) (w : Wd) (p : NestedKey × Addr × V) (q : D × D) : Prop := nkD p.1 = q.1 ∧ p.1.depth ≤ 8 ∧ Is K w (.ref p.2.1) q.1 ∧ Is K w p.2.2 q.2
def IsO (K : PySem.W.Frag) (w : Wd) (H : Hp) (a : Addr) : MO → Prop
  | .lst ds => ∃ vs, H a = some (.lst vs) ∧ Iss K w vs ds
  | .ins x ns ds => ∃ c dx fs, PySem.W.nsIn K mainGlobals x = some (some (.ref c)) ∧ H a = some (.ins c dx fs) ∧ fs.map (·.1) = ns ∧ Iss K w (fs.map (·.2)) ds
  | .gone => False
  | .dic kvs => (∃ ks, H a = some (.dK ks) ∧ Paired (isKV K w) ks kvs) ∨ ∃ xs, xs ≠ [] ∧ H a = some (DicO Wld.w a xs) ∧ Paired (isNV K w) xs kvs
  | .st ks => H a = some (SetXO Wld.w a ks)
  | .dil _ => False
def NoTb (o : HO) : Prop := ∀ ps, o ≠ .tbl ps
structure Ext (w : Wd) (H : Hp) (w' : Wd) (H' : Hp) : Prop where
  r : ∃ l, w'.r = w.r ++ l
  g : ∀ a o, w.g a = some o → w'.g a = some o
  keep : ∀ a o, H a = some o → a ∉ w.r → NoTb o → H' a = some o
  nn : ∀ a, H a ≠ none → H' a ≠ none
  gx : ∀ a o, w'.g a = some o → w.g a = some o ∨ H a = none ∨ a ∈ w.r
  rn : ∀ a, a ∈ w'.r → a ∈ w.r ∨ H a = none
  tb : ∀ a ps, H a = some (.tbl ps) → ∃ more, H' a = some (.tbl (ps ++ more))
def Sealed : HO → Prop
  | .ins _ _ _ => True
  | .lst _ => True
  | _ => False
def FxOk (K : PySem.W.Frag) (w : Wd) : MO → HO → Prop
  | .gone, u => Sealed u
  | .dil kvs, u => ∃ od ks, u = .frz od (.dK ks) ∧ Paired (isKV K w) ks kvs
  | _, _ => False
theorem Ext.gn {w w' : Wd} {H H' : Hp} (e : Ext w H w' H') (a : Addr) (o : HO) (h : w'.g a = some o) (n : a ∉ w.r) : w.g a = some o ∨ H a = none := by
  rcases e.gx a o h with z | z | z
  · exact .inl z
  · exact .inr z
  · exact absurd z n
structure Ok (K : PySem.W.Frag) (w : Wd) (H : Hp) (M : Mem) : Prop where
  g : ∀ a o, w.g a = some o → H a = some o
  m : ∀ (k : Nat) (o : MO), M[k]? = some o → ∃ a, w.r[k]? = some a ∧ ((∃ u, w.g a = some u ∧ FxOk K w o u) ∨ (w.g a = none ∧ IsO K w H a o))
  nd : w.r.Nodup
  len : w.r.length = M.length
  tt : LamX.Tabs (TK K) H
  gt : ∀ a ps, w.g a ≠ some (.tbl ps)
theorem Ok.mo {K : PySem.W.Frag} {w : Wd} {H : Hp} {M : Mem} (x : Ok K w H M) {k : Nat} {o : MO} (h : M[k]? = some o) (n : o.live = true := by rfl) : ∃ a, w.r[k]? = some a ∧ w.g a = none ∧ IsO K w H a o := by
  obtain ⟨a, h1, ⟨u, _, h2⟩ | h2⟩ := x.m k o h
  · cases o <;> first | exact h2.elim | cases n
  · exact ⟨a, h1, h2.1, h2.2⟩
theorem Ext.refl (w : Wd) (H : Hp) : Ext w H w H :=
  ⟨⟨[], by simp⟩, fun _ _ h => h, fun _ _ h _ _ => h, fun _ h => h, fun _ _ h => .inl h, fun _ h => .inl h, fun _ ps h => ⟨#[], by simpa using h⟩⟩
theorem Ext.trans {w w1 w2 : Wd} {H H1 H2 : Hp} (a : Ext w H w1 H1) (b : Ext w1 H1 w2 H2) : Ext w H w2 H2 := by
  have back : ∀ p, H1 p = none → H p = none := fun p h => by
    cases q : H p with
    | none => rfl
    | some o => exact absurd h (a.nn p (by rw [q]; simp))
  obtain ⟨l1, e1⟩ := a.r
  obtain ⟨l2, e2⟩ := b.r
  refine ⟨⟨l1 ++ l2, by rw [e2, e1, List.append_assoc]⟩, fun p o h => b.g p o (a.g p o h), fun p o h hr hn => b.keep p o (a.keep p o h hr hn) (fun z => ?_) hn, fun p h => b.nn p (a.nn p h), fun p o h => ?_, fun p h => ?_, fun p ps h => ?_⟩
  · rcases a.rn p z with z | z
    · exact hr z
    · rw [h] at z; cases z
  · rcases b.gx p o h with z | z | z
    · exact a.gx p o z
    · exact .inr (.inl (back p z))
    · rcases a.rn p z with z | z
      · exact .inr (.inr z)
      · exact .inr (.inl z)
  · rcases b.rn p h with z | z
    · exact a.rn p z
    · exact .inr (back p z)
  · obtain ⟨m1, h1⟩ := a.tb p ps h
    obtain ⟨m2, h2⟩ := b.tb p _ h1
    exact ⟨m1 ++ m2, by rw [h2, Array.append_assoc]⟩
theorem Ext.new {w w1 : Wd} {H H1 : Hp} (e : Ext w H w1 H1) {a : Addr} (h : H1 a = none) : H a = none := by
  cases q : H a with
  | none => rfl
  | some o => exact absurd h (e.nn a (by rw [q]; simp))
theorem sqt_mono {K : PySem.W.Frag} {G G' : Hp} {a : Addr} {vs : List V} (h : ∀ a o, G a = some o → G' a = some o) (s : SqT K G a vs) : SqT K G' a vs := by
  rcases s with (s | ⟨o, s⟩) | s
  · exact .inl (.inl (h _ _ s))
  · exact .inl (.inr ⟨o, h _ _ s⟩)
  · exact .inr s
theorem tupAt_mono {K : PySem.W.Frag} {G G' : Hp} {a : Addr} {vs : List V} (h : ∀ a o, G a = some o → G' a = some o) (s : TupAt K G a vs) : TupAt K G' a vs := s.elim (fun z => .inl (h _ _ z)) .inr
theorem sql_mono {K : PySem.W.Frag} {G G' : Hp} {a : Addr} {vs : List V} (h : ∀ a o, G a = some o → G' a = some o) (s : SqL K G a vs) : SqL K G' a vs := by
  rcases s with (s | ⟨o, s⟩) | s
  · exact .inl (.inl (h _ _ s))
  · exact .inl (.inr ⟨o, h _ _ s⟩)
  · exact .inr s
structure More (w w' : Wd) : Prop where
  r : ∃ l, w'.r = w.r ++ l
  g : ∀ a o, w.g a = some o → w'.g a = some o
theorem Ext.more {w w' : Wd} {H H' : Hp} (e : Ext w H w' H') : More w w' := ⟨e.r, e.g⟩
theorem More.refl (w : Wd) : More w w := ⟨⟨[], by simp⟩, fun _ _ h => h⟩
theorem More.trans {w w1 w2 : Wd} (a : More w w1) (b : More w1 w2) : More w w2 := by
  obtain ⟨l1, e1⟩ := a.r
  obtain ⟨l2, e2⟩ := b.r
  exact ⟨⟨l1 ++ l2, by rw [e2, e1, List.append_assoc]⟩, fun p o h => b.g p o (a.g p o h)⟩
theorem More.at {w w' : Wd} (e : More w w') {k : Nat} {a : Addr} (h : w.r[k]? = some a) : w'.r[k]? = some a := by
  obtain ⟨l, q⟩ := e.r
  rw [q, List.getElem?_append_left (List.getElem?_eq_some_iff.mp h).1, h]
mutual
theorem Is.mono {K : PySem.W.Frag} {w w' : Wd} (e : More w w') : ∀ {v : V} {d : D}, Is K w v d → Is K w' v d
  | _, _, .non => .non
  | _, _, .bl b => .bl b
  | _, _, .int i => .int i
  | _, _, .str x => .str x
  | _, _, .ty n => .ty n
  | _, _, .cst a => .cst a
  | _, _, .tup s h => .tup (tupAt_mono e.g s) (Iss.mono e h)
  | _, _, .lst s h => .lst (e.g _ _ s) (Iss.mono e h)
  | _, _, .rl s h => .rl (sql_mono e.g s) (Iss.mono e h)
  | _, _, .obj n s h => .obj n (e.g _ _ s) (Iss.mono e h)
  | _, _, .ref h => .ref (e.at h)
  | _, _, .exv s h => .exv (e.g _ _ s) (Iss.mono e h)
  | _, _, .fnv h => .fnv h
  | _, _, .unk => .unk
  | _, _, .exn n s1 s2 h => .exn n (e.g _ _ s1) (e.g _ _ s2) (Iss.mono e h)
theorem Iss.mono {K : PySem.W.Frag} {w w' : Wd} (e : More w w') : ∀ {vs : List V} {ds : List D}, Iss K w vs ds → Iss K w' vs ds
  | _, _, .nil => .nil
  | _, _, .cons h t => .cons (Is.mono e h) (Iss.mono e t)
end
theorem isKV_mono {K : PySem.W.Frag} {w w' : Wd} (e : More w w') {ks : List (Key × V)} {kvs : List (D × D)} (h : Paired (isKV K w) ks kvs) : Paired (isKV K w') ks kvs := L2.Paired.mapP h fun _ _ z => ⟨z.1, z.2.mono e⟩
theorem isNV_mono {K : PySem.W.Frag} {w w' : Wd} (e : More w w') {xs : List (NestedKey × Addr × V)} {kvs : List (D × D)} (h : Paired (isNV K w) xs kvs) : Paired (isNV K w') xs kvs := L2.Paired.mapP h fun _ _ z => ⟨z.1, z.2.1, z.2.2.1.mono e, z.2.2.2.mono e⟩
theorem IsO.mono {K : PySem.W.Frag} {w w' : Wd} {H H' : Hp} {a : Addr} {o : MO} (e : More w w') (h : H' a = H a) (x : IsO K w H a o) : IsO K w' H' a o := by
  cases o with
  | gone => exact x.elim
  | lst ds => obtain ⟨vs, h1, h2⟩ := x; exact ⟨vs, by rw [h]; exact h1, h2.mono e⟩
  | ins c ns ds => obtain ⟨C, dx, fs, h0, h1, h2, h3⟩ := x; exact ⟨C, dx, fs, h0, by rw [h]; exact h1, h2, h3.mono e⟩
  | dic kvs =>
    rcases x with ⟨ks, h1, h2⟩ | ⟨xs, h0, h1, h2⟩
    · exact .inl ⟨ks, by rw [h]; exact h1, isKV_mono e h2⟩
    · exact .inr ⟨xs, h0, by rw [h]; exact h1, isNV_mono e h2⟩
  | st ks => exact h.trans x
  | dil kvs => exact x.elim
theorem IsO.there' {K : PySem.W.Frag} {w : Wd} {H : Hp} {a : Addr} {o : MO} (x : IsO K w H a o) : ∃ u, H a = some u ∧ NoTb u := by
  cases o with
  | gone => exact x.elim
  | lst ds => obtain ⟨vs, h1, h2⟩ := x; exact ⟨_, h1, fun _ z => by cases z⟩
  | ins c ns ds => obtain ⟨C, dx, fs, h0, h1, h2, h3⟩ := x; exact ⟨_, h1, fun _ z => by cases z⟩
  | dic kvs =>
    rcases x with ⟨ks, h1, h2⟩ | ⟨xs, h0, h1, h2⟩
    · exact ⟨_, h1, fun _ z => by cases z⟩
    · exact ⟨_, h1, fun _ z => by unfold DicO at z; cases z⟩
  | st ks => exact ⟨_, x, fun _ z => by unfold SetXO at z; cases z⟩
  | dil kvs => exact x.elim
theorem IsO.there {K : PySem.W.Frag} {w : Wd} {H : Hp} {a : Addr} {o : MO} (x : IsO K w H a o) : ∃ u, H a = some u := by
  obtain ⟨u, h, _⟩ := x.there'
  exact ⟨u, h⟩
theorem Ok.mut {K : PySem.W.Frag} {w : Wd} {H : Hp} {M : Mem} (x : Ok K w H M) {a : Addr} (h : a ∈ w.r) : ∃ u, H a = some u := by
  obtain ⟨k, hk⟩ := List.mem_iff_getElem?.mp h
  have hl : k < M.length := by rw [← x.len]; exact (List.getElem?_eq_some_iff.mp hk).1
  obtain ⟨b, h1, h2⟩ := x.m k _ (List.getElem?_eq_getElem hl)
  rw [hk] at h1
  cases h1
  rcases h2 with ⟨_, h2, _⟩ | ⟨_, h2⟩
  · exact ⟨_, x.g a _ h2⟩
  · exact h2.there
theorem tabs_keep {T : List (Addr × Str)} {H H' : Hp} (t : LamX.Tabs T H) (e : ∀ b o, H b = some o → (∃ ps, o = .tbl ps) ∨ (∃ c q, o = LamX.CodeO c q) → H' b = some o) : LamX.Tabs T H' := fun p hp => by
  obtain ⟨ps, h1, h2, h3⟩ := t p hp
  refine ⟨ps, e _ _ h1 (.inl ⟨_, rfl⟩), h2, fun pos cv hc => ?_⟩
  obtain ⟨c, e1, e2⟩ := h3 pos cv hc
  exact ⟨c, e1, e _ _ e2 (.inr ⟨_, _, rfl⟩)⟩
theorem tabs_new {T : List (Addr × Str)} {H : Hp} {a : Addr} {o : HO} (t : LamX.Tabs T H) (h : H a = none) : LamX.Tabs T (upd H a o) := tabs_keep t fun b u q _ => by rw [upd_ne (by rintro rfl; rw [h] at q; cases q)]; exact q
def PlainO (u : HO) : Prop := (∀ ps, u ≠ .tbl ps) ∧ ∀ c q, u ≠ LamX.CodeO c q
theorem tabs_upd {T : List (Addr × Str)} {H : Hp} {a : Addr} {o u : HO} (t : LamX.Tabs T H) (h : H a = some u) (n : PlainO u) : LamX.Tabs T (upd H a o) := tabs_keep t fun b v q z => by
  rw [upd_ne (by
    rintro rfl
    rw [h] at q
    cases q
    rcases z with ⟨ps, z⟩ | ⟨c, q, z⟩
    · exact n.1 ps z
    · exact n.2 c q z)]
  exact q
theorem plain_lst {xs : List V} : PlainO (.lst xs) := ⟨fun _ z => (by cases z), fun c q z => (by unfold LamX.CodeO at z; cases z)⟩
theorem plain_ins {c dx : Addr} {fs : List (Str × V)} : PlainO (.ins c dx fs) := ⟨fun _ z => (by cases z), fun c q z => (by unfold LamX.CodeO at z; cases z)⟩
theorem IsO.plain {K : PySem.W.Frag} {w : Wd} {H : Hp} {a : Addr} {o : MO} {u : HO} (x : IsO K w H a o) (h : H a = some u) : PlainO u := by
  cases o with
  | gone => exact x.elim
  | lst ds => obtain ⟨vs, h1, h2⟩ := x; rw [h] at h1; cases h1; exact plain_lst
  | ins c ns ds => obtain ⟨C, dx, fs, h0, h1, h2, h3⟩ := x; rw [h] at h1; cases h1; exact plain_ins
  | dic kvs =>
    rcases x with ⟨ks, h1, h2⟩ | ⟨xs, h0, h1, h2⟩
    · rw [h] at h1; cases h1
      exact ⟨fun _ z => (by cases z), fun c q z => (by unfold LamX.CodeO at z; cases z)⟩
    · rw [h] at h1; cases h1
      exact ⟨fun _ z => (by unfold DicO at z; cases z), fun c q => dicO_no_code c q⟩
  | st ks =>
    have x : H a = some (SetXO Wld.w a ks) := x
    rw [h] at x; cases x
    exact ⟨fun _ z => (by unfold SetXO at z; cases z), fun c q => setX_no_code c q⟩
  | dil kvs => exact x.elim
theorem Iss.get {K : PySem.W.Frag} {w : Wd} : ∀ {vs : List V} {ds : List D} {i : Nat} {d : D}, Iss K w vs ds → ds[i]? = some d → ∃ v, vs[i]? = some v ∧ Is K w v d
  | _, _, _, _, .nil, h => by simp at h
  | _, _, 0, _, .cons h _, e => by
    have z : _ = _ := Option.some.inj e
    subst z
    exact ⟨_, rfl, h⟩
  | _, _, i + 1, _, .cons _ t, e => by
    obtain ⟨v, h1, h2⟩ := Iss.get (i := i) t (by simpa using e)
    exact ⟨v, by simpa using h1, h2⟩
theorem Iss.take {K : PySem.W.Frag} {w : Wd} : ∀ {vs : List V} {ds : List D} (n : Nat), Iss K w vs ds → Iss K w (vs.take n) (ds.take n)
  | _, _, 0, _ => .nil
  | _, _, _ + 1, .nil => .nil
  | _, _, n + 1, .cons h t => .cons h (Iss.take n t)
theorem Iss.drop {K : PySem.W.Frag} {w : Wd} : ∀ {vs : List V} {ds : List D} (n : Nat), Iss K w vs ds → Iss K w (vs.drop n) (ds.drop n)
  | _, _, 0, s => s
  | _, _, _ + 1, .nil => .nil
  | _, _, n + 1, .cons _ t => Iss.drop n t
theorem Iss.set {K : PySem.W.Frag} {w : Wd} {v : V} {d : D} (h : Is K w v d) : ∀ {vs : List V} {ds : List D} (i : Nat), Iss K w vs ds → Iss K w (vs.set i v) (ds.set i d)
  | _, _, _, .nil => .nil
  | _, _, 0, .cons _ t => .cons h t
  | _, _, i + 1, .cons q t => .cons q (Iss.set h i t)
inductive Sl where
  | no
  | val (d : D)
  | own (o : MO)
abbrev Env := List Sl
structure EnvOk (K : PySem.W.Frag) (w0 : Wd) (H0 : Hp) (w : Wd) (H : Hp) (M : Mem) (env : Env) (σ : St) : Prop where
  ext : Ext w0 H0 w H
  ok : Ok K w H M
  len : σ.length = env.length
  val : ∀ (i : Nat) (d : D), env[i]? = some (.val d) → ∃ v, σ[i]? = some (some v) ∧ Is K w v d
  own : ∀ (i : Nat) (o : MO), env[i]? = some (.own o) → ∃ a, σ[i]? = some (some (.ref a)) ∧ H0 a = none ∧ w.g a = none ∧ a ∉ w.r ∧ IsO K w H a o
  ap : ∀ (i j : Nat) (o u : MO) (a : Addr), env[i]? = some (.own o) → env[j]? = some (.own u) → σ[i]? = some (some (.ref a)) → σ[j]? = some (some (.ref a)) → i = j
theorem EnvOk.step {K : PySem.W.Frag} {w0 w w' : Wd} {H0 H H' : Hp} {M M' : Mem} {env : Env} {σ : St} (x : EnvOk K w0 H0 w H M env σ) (e : Ext w H w' H') (k : Ok K w' H' M') : EnvOk K w0 H0 w' H' M' env σ := by
  refine ⟨x.ext.trans e, k, x.len, fun i d h => ?_, fun i o h => ?_, x.ap⟩
  · obtain ⟨v, h1, h2⟩ := x.val i d h
    exact ⟨v, h1, h2.mono e.more⟩
  · obtain ⟨a, h1, h2, h3, h4, h5⟩ := x.own i o h
    obtain ⟨u, hu, hn⟩ := h5.there'
    have hk := e.keep a u hu h4 hn
    refine ⟨a, h1, h2, ?_, fun z => ?_, h5.mono e.more (by rw [hk, hu])⟩
    · cases q : w'.g a with
      | none => rfl
      | some o' =>
        rcases e.gn a o' q h4 with z | z
        · rw [h3] at z; cases z
        · rw [hu] at z; cases z
    · rcases e.rn a z with z | z
      · exact h4 z
      · rw [hu] at z; cases z
abbrev Sm (α : Type) := Mem → R α
def R.bind {α β : Type} (x : R α) (f : α → Mem → R β) : R β := match x with
  | .ok a M => f a M
  | .ex c ns vs M => .ex c ns vs M
  | .bad => .bad
theorem R.bind_ok {α β : Type} {a : α} {M : Mem} {f : α → Mem → R β} : (R.ok a M).bind f = f a M := rfl
def Post {α β : Type} (K : PySem.W.Frag) (Rl : Wd → Hp → β → α → Prop) (w : Wd) (H : Hp) (σ : St) (W : WX) (Q : β → Hp → Prop) : R α → Prop
  | .ok d M' => ∀ v w' H', Ext w H w' H' → Ok K w' H' M' → Rl w' H' v d → Q v H'
  | .ex c ns ds M' => ∀ C dx fs w' H', PySem.W.nsIn K mainGlobals c = some (some (.ref C)) → Ext w H w' H' → Ok K w' H' M' → H dx = none → H' dx = some (.xd fs) → fs.map (·.1) = ns → Iss K w' (fs.map (·.2)) ds → W (.ref C) (some dx) σ H'
  | .bad => False
section
variable {α β γ δ : Type} {K : PySem.W.Frag} {Ra : Wd → Hp → β → α → Prop} {Rb : Wd → Hp → δ → γ → Prop} {w : Wd} {H : Hp} {σ : St} {W : WX}
theorem Post.shift {w1 : Wd} {H1 : Hp} {Q : β → Hp → Prop} {r : R α} (e : Ext w H w1 H1) (h : Post K Ra w H σ W Q r) : Post K Ra w1 H1 σ W Q r := by
  cases r with
  | ok d M => exact fun v w' H' e' => h v w' H' (e.trans e')
  | ex c ns ds M => exact fun C dx fs w' H' hC e' o' hd => h C dx fs w' H' hC (e.trans e') o' (e.new hd)
  | bad => exact h
theorem Post.bind {Q : δ → Hp → Prop} {Q1 : β → Hp → Prop} {f : R α} {g : α → Mem → R γ} (h : Post K Rb w H σ W Q (f.bind g))
    (k : ∀ d M v w1 H1, Ext w H w1 H1 → Ok K w1 H1 M → Ra w1 H1 v d → Post K Rb w1 H1 σ W Q (g d M) → Q1 v H1) : Post K Ra w H σ W Q1 f := by
  cases f with
  | ok d M => exact fun v w1 H1 e o r => k d M v w1 H1 e o r (Post.shift e h)
  | ex c ns ds M => exact h
  | bad => exact h
end
abbrev RlE (K : PySem.W.Frag) : Wd → Hp → V → D → Prop := fun w _ v d => Is K w v d
abbrev RlA (K : PySem.W.Frag) : Wd → Hp → List V → List D → Prop := fun w _ v d => Iss K w v d
abbrev RlT : Wd → Hp → Bool → Bool → Prop := fun _ _ v d => v = d
abbrev RlO (K : PySem.W.Frag) (H : Hp) : Wd → Hp → V → MO → Prop := fun w' H' v o => ∃ a, v = .ref a ∧ H a = none ∧ w'.g a = none ∧ a ∉ w'.r ∧ IsO K w' H' a o
abbrev Fe := Env → Sm D
abbrev Fa := Env → Sm (List D)
abbrev Ft := Env → Sm Bool
abbrev Fo := Env → Sm MO
def SndE (K : PySem.W.Frag) (W : WX) (t : TE) (f : Fe) : Prop := ∀ env M σ w H w0 H0 Q, EnvOk K w0 H0 w H M env σ → Post K (RlE K) w H σ W Q (f env M) → t σ H Q
def SndA (K : PySem.W.Frag) (W : WX) (t : TA) (f : Fa) : Prop := ∀ env M σ w H w0 H0 Q, EnvOk K w0 H0 w H M env σ → Post K (RlA K) w H σ W Q (f env M) → t σ H Q
def SndT (K : PySem.W.Frag) (W : WX) (t : TT) (f : Ft) : Prop := ∀ env M σ w H w0 H0 Q, EnvOk K w0 H0 w H M env σ → Post K RlT w H σ W Q (f env M) → t σ H Q
def SndO (K : PySem.W.Frag) (W : WX) (t : TE) (f : Fo) : Prop := ∀ env M σ w H w0 H0 Q, EnvOk K w0 H0 w H M env σ → Post K (RlO K H) w H σ W Q (f env M) → t σ H Q
def DE (X : Cx) (W : WX) (e : Expr) (f : Fe) : Prop := ∃ t, PE X e t ∧ SndE X.K W t f
def DA (X : Cx) (W : WX) (es : List Expr) (f : Fa) : Prop := ∃ t, PA X es t ∧ SndA X.K W t f
def DT (X : Cx) (W : WX) (e : Expr) (f : Ft) : Prop := ∃ t, PT X e t ∧ SndT X.K W t f
def DO (X : Cx) (W : WX) (e : Expr) (f : Fo) : Prop := ∃ t, PE X e t ∧ SndO X.K W t f
theorem FxOk.mono {K : PySem.W.Frag} {w w' : Wd} {o : MO} {u : HO} (e : More w w') (h : FxOk K w o u) : FxOk K w' o u := by
  cases o with
  | gone => exact h
  | dil kvs => obtain ⟨od, ks, h1, h2⟩ := h; exact ⟨od, ks, h1, isKV_mono e h2⟩
  | _ => exact h.elim
theorem mo_mono {K : PySem.W.Frag} {w w' : Wd} {H H' : Hp} {a : Addr} {o : MO} (e : More w w') (hg : w'.g a = w.g a) (h : H' a = H a) (x : (∃ u, w.g a = some u ∧ FxOk K w o u) ∨ (w.g a = none ∧ IsO K w H a o)) : (∃ u, w'.g a = some u ∧ FxOk K w' o u) ∨ (w'.g a = none ∧ IsO K w' H' a o) := by
  rcases x with ⟨u, h1, h2⟩ | ⟨h1, h2⟩
  · exact .inl ⟨u, by rw [hg]; exact h1, h2.mono e⟩
  · exact .inr ⟨by rw [hg]; exact h1, h2.mono e h⟩
theorem Ok.fix {K : PySem.W.Frag} {w : Wd} {H : Hp} {M : Mem} {a : Addr} {o : HO} (x : Ok K w H M) (h : H a = none) (n : NoTb o := by intro _ z; cases z) : Ok K { w with g := upd w.g a o } (upd H a o) M ∧ Ext w H { w with g := upd w.g a o } (upd H a o) := by
  have ga : w.g a = none := by
    cases q : w.g a with
    | none => rfl
    | some u => rw [x.g _ _ q] at h; cases h
  have up : ∀ b u, w.g b = some u → (upd w.g a o) b = some u := fun b u q => by
    rw [upd_ne (by rintro rfl; rw [ga] at q; cases q)]; exact q
  have ra : ∀ b, b ∈ w.r → b ≠ a := fun b hb z => by
    subst z
    obtain ⟨u, hu⟩ := x.mut hb
    rw [h] at hu; cases hu
  refine ⟨⟨fun b u q => ?_, fun k m q => ?_, x.nd, x.len, tabs_new x.tt h, fun b ps z => ?_⟩, ⟨⟨[], by simp⟩, up, fun b u q _ _ => ?_, fun b q => ?_, fun b u q => ?_, fun b q => .inl q, fun b ps q => ⟨#[], by rw [upd_ne (by rintro rfl; rw [h] at q; cases q)]; simpa using q⟩⟩⟩
  · have q : upd w.g a o b = some u := q
    by_cases e : b = a
    · subst e; rw [upd_same] at q ⊢; exact q
    · rw [upd_ne e] at q ⊢; exact x.g _ _ q
  · obtain ⟨b, h1, h2⟩ := x.m k m q
    have ne := ra b (List.mem_of_getElem? h1)
    exact ⟨b, h1, mo_mono ⟨⟨[], by simp⟩, up⟩ (upd_ne ne) (upd_ne ne) h2⟩
  · have z : upd w.g a o b = some (.tbl ps) := z
    by_cases e : b = a
    · subst e; rw [upd_same] at z; exact n ps (Option.some.inj z)
    · rw [upd_ne e] at z; exact x.gt _ _ z
  · rw [upd_ne (by rintro rfl; rw [h] at q; cases q)]; exact q
  · by_cases e : b = a
    · subst e; rw [upd_same]; simp
    · rw [upd_ne e]; exact q
  · by_cases e : b = a
    · subst e; exact .inr (.inl h)
    · left
      have q' : upd w.g a o b = some u := q
      rw [upd_ne e] at q'; exact q'
theorem Ok.put {K : PySem.W.Frag} {w : Wd} {H : Hp} {M : Mem} {a : Addr} {o : HO} (x : Ok K w H M) (h : H a = none) : Ok K w (upd H a o) M ∧ Ext w H w (upd H a o) := by
  have ra : ∀ b, b ∈ w.r → b ≠ a := fun b hb z => by
    subst z
    obtain ⟨u, hu⟩ := x.mut hb
    rw [h] at hu; cases hu
  refine ⟨⟨fun b u q => ?_, fun k m q => ?_, x.nd, x.len, tabs_new x.tt h, x.gt⟩, ⟨⟨[], by simp⟩, fun _ _ q => q, fun b u q _ _ => ?_, fun b q => ?_, fun b u q => .inl q, fun b q => .inl q, fun b ps q => ⟨#[], by rw [upd_ne (by rintro rfl; rw [h] at q; cases q)]; simpa using q⟩⟩⟩
  · rw [upd_ne (by rintro rfl; rw [x.g _ _ q] at h; cases h)]; exact x.g _ _ q
  · obtain ⟨b, h1, h2⟩ := x.m k m q
    have ne := ra b (List.mem_of_getElem? h1)
    exact ⟨b, h1, mo_mono (More.refl w) rfl (upd_ne ne) h2⟩
  · rw [upd_ne (by rintro rfl; rw [h] at q; cases q)]; exact q
  · by_cases e : b = a
    · subst e; rw [upd_same]; simp
    · rw [upd_ne e]; exact q
theorem Ok.new {K : PySem.W.Frag} {w : Wd} {H : Hp} {M : Mem} {a : Addr} (x : Ok K w H M) (h : H a = none) : w.g a = none ∧ a ∉ w.r := by
  refine ⟨?_, fun z => ?_⟩
  · cases q : w.g a with
    | none => rfl
    | some u => rw [x.g _ _ q] at h; cases h
  · obtain ⟨u, hu⟩ := x.mut z
    rw [h] at hu; cases hu
theorem Ok.freeze {K : PySem.W.Frag} {w : Wd} {H : Hp} {M : Mem} {a : Addr} {o : HO} (x : Ok K w H M) (ha : H a = some o) (ga : w.g a = none) (ra : a ∉ w.r) (n : NoTb o) : Ok K { w with g := upd w.g a o } H M := by
  have up : ∀ b u, w.g b = some u → (upd w.g a o) b = some u := fun b u q => by
    rw [upd_ne (by rintro rfl; rw [ga] at q; cases q)]; exact q
  refine ⟨fun b u q => ?_, fun k m q => ?_, x.nd, x.len, x.tt, fun b ps z => ?_⟩
  · by_cases e : b = a
    · subst e
      have q' : upd w.g b o b = some u := q
      rw [upd_same] at q'
      rw [ha, q']
    · have q' : upd w.g a o b = some u := q
      rw [upd_ne e] at q'
      exact x.g _ _ q'
  · obtain ⟨b, h1, h2⟩ := x.m k m q
    have ne : b ≠ a := fun z => ra (z ▸ List.mem_of_getElem? h1)
    exact ⟨b, h1, mo_mono ⟨⟨[], by simp⟩, up⟩ (upd_ne ne) rfl h2⟩
  · have z : upd w.g a o b = some (.tbl ps) := z
    by_cases e : b = a
    · subst e; rw [upd_same] at z; exact n ps (Option.some.inj z)
    · rw [upd_ne e] at z; exact x.gt _ _ z
structure ExtT (H H1 : Hp) : Prop where
  n : LamX.ExtN H H1
  nn : ∀ a, H a ≠ none → H1 a ≠ none
  tb : ∀ a ps, H a = some (.tbl ps) → ∃ more, H1 a = some (.tbl (ps ++ more))
theorem Ok.grow {K : PySem.W.Frag} {w : Wd} {H H1 : Hp} {M : Mem} (x : Ok K w H M) (e : ExtT H H1) (t : LamX.Tabs (TK K) H1) : Ok K w H1 M ∧ Ext w H w H1 := by
  refine ⟨⟨fun a o q => e.n a o (x.g a o q) fun ps z => x.gt a ps (z ▸ q), fun k m q => ?_, x.nd, x.len, t, x.gt⟩, ⟨⟨[], by simp⟩, fun _ _ q => q, fun a o q _ n => e.n a o q n, e.nn, fun _ _ q => .inl q, fun _ q => .inl q, e.tb⟩⟩
  obtain ⟨b, h1, h2 | ⟨h2, h3⟩⟩ := x.m k m q
  · exact ⟨b, h1, .inl h2⟩
  · obtain ⟨u, hu, hn⟩ := h3.there'
    exact ⟨b, h1, .inr ⟨h2, h3.mono (More.refl w) (by rw [hu]; exact e.n b u hu hn)⟩⟩
end DL
namespace DL
open PySem L2
variable [Wld]
def fVar (i : Nat) : Fe := fun env M => match env[i]? with
  | some (.val d) => .ok d M
  | _ => .bad
def fK (d : D) : Fe := fun _ M => .ok d M
def fNil : Fa := fun _ M => .ok [] M
def fCons (a : Fe) (r : Fa) : Fa := fun env M => (a env M).bind fun d M1 => (r env M1).bind fun ds M2 => .ok (d :: ds) M2
def fTup (a : Fa) : Fe := fun env M => (a env M).bind fun ds M1 => .ok (.tup ds) M1
def oLst (a : Fa) : Fo := fun env M => (a env M).bind fun ds M1 => .ok (.lst ds) M1
def MO.toD : MO → D
  | .lst ds => .lst ds
  | .ins c ns vs => .obj c ns vs
  | .gone => .non
  | .dic _ => .unk
  | .st _ => .unk
  | .dil _ => .unk
def fFz (o : Fo) : Fe := fun env M => (o env M).bind fun m M1 => .ok m.toD M1
def fAl (o : Fo) : Fe := fun env M => (o env M).bind fun m M1 => .ok (.ref M1.length) (M1 ++ [m])
abbrev G2 := Mem → D → D → Option D
def fOp (g : G2) (a b : Fe) : Fe := fun env M => (a env M).bind fun d M1 => (b env M1).bind fun e M2 => match g M2 d e with
  | some z => .ok z M2
  | none => .bad
abbrev G1 := Mem → D → Option D
def fUn (g : G1) (a : Fe) : Fe := fun env M => (a env M).bind fun d M1 => match g M1 d with
  | some z => .ok z M1
  | none => .bad
abbrev GA := Mem → List D → Option D
def fB (g : GA) (a : Fa) : Fe := fun env M => (a env M).bind fun ds M1 => match g M1 ds with
  | some z => .ok z M1
  | none => .bad
abbrev GO := Mem → List D → Option MO
def oB (g : GO) (a : Fa) : Fo := fun env M => (a env M).bind fun ds M1 => match g M1 ds with
  | some z => .ok z M1
  | none => .bad
def fIf (t : Ft) (a b : Fe) : Fe := fun env M => (t env M).bind fun c M1 => if c = true then a env M1 else b env M1
def tVal (a : Fe) : Ft := fun env M => (a env M).bind fun d M1 => match d with
  | .bl b => .ok b M1
  | _ => .bad
def tAndF (a b : Ft) : Ft := fun env M => (a env M).bind fun c M1 => if c = true then b env M1 else .ok false M1
def tOrF (a b : Ft) : Ft := fun env M => (a env M).bind fun c M1 => if c = true then .ok true M1 else b env M1
def tNotF (a : Ft) : Ft := fun env M => (a env M).bind fun c M1 => .ok (!c) M1
abbrev Fn := List D → Sm D
def fCall (F : Fn) (dvs : List D) (a : Fa) : Fe := fun env M => (a env M).bind fun ds M1 => F (ds ++ dvs) M1
def fCallK (F : Fn) (g : List D → List D → List D) (a k : Fa) : Fe := fun env M => (a env M).bind fun ds M1 => (k env M1).bind fun es M2 => F (g ds es) M2
def fChain (g g' : G2) (a b c : Fe) : Fe := fun env M => (a env M).bind fun d M1 => (b env M1).bind fun e M2 => match g M2 d e with
  | some (.bl true) => (c env M2).bind fun h M3 => match g' M3 e h with
    | some z => .ok z M3
    | none => .bad
  | some (.bl false) => .ok (.bl false) M2
  | _ => .bad
def SndR2 (K : PySem.W.Frag) (r : R2) (g : G2) : Prop := ∀ w H M v1 v2 d1 d2 d Q, Ok K w H M → Is K w v1 d1 → Is K w v2 d2 → g M d1 d2 = some d → (∀ v w' H', Ext w H w' H' → Ok K w' H' M → Is K w' v d → Q v H') → r v1 v2 H Q
def SndR1 (K : PySem.W.Frag) (r : V → Hp → VK → Prop) (g : G1) : Prop := ∀ w H M v1 d1 d Q, Ok K w H M → Is K w v1 d1 → g M d1 = some d → (∀ v w' H', Ext w H w' H' → Ok K w' H' M → Is K w' v d → Q v H') → r v1 H Q
def SndC (K : PySem.W.Frag) (r : List V → Hp → VK → Prop) (g : GA) : Prop := ∀ w H M vs ds d Q, Ok K w H M → Iss K w vs ds → g M ds = some d → (∀ v w' H', Ext w H w' H' → Ok K w' H' M → Is K w' v d → Q v H') → r vs H Q
def SndCO (K : PySem.W.Frag) (r : List V → Hp → VK → Prop) (g : GO) : Prop := ∀ w H M vs ds o Q, Ok K w H M → Iss K w vs ds → g M ds = some o → (∀ v w' H', Ext w H w' H' → Ok K w' H' M → RlO K H w' H' v o → Q v H') → r vs H Q
theorem Ext.freeze {K : PySem.W.Frag} {w w1 : Wd} {H H1 : Hp} {M : Mem} {v : V} {o : MO} (e : Ext w H w1 H1) (x : Ok K w1 H1 M) (h : RlO K H w1 H1 v o) : ∃ w2, Ext w H w2 H1 ∧ Ok K w2 H1 M ∧ Is K w2 v o.toD ∧ More w1 w2 := by
  obtain ⟨a, rfl, ha, ga, ra, io⟩ := h
  obtain ⟨u, hu, hn⟩ := io.there'
  have up : ∀ b q, w1.g b = some q → (upd w1.g a u) b = some q := fun b q h => by
    rw [upd_ne (by rintro rfl; rw [ga] at h; cases h)]; exact h
  have mr : More w1 { w1 with g := upd w1.g a u } := ⟨⟨[], by simp⟩, up⟩
  refine ⟨{ w1 with g := upd w1.g a u }, ⟨e.r, fun b q h => up b q (e.g b q h), e.keep, e.nn, fun b q h => ?_, e.rn, e.tb⟩, x.freeze hu ga ra hn, ?_, mr⟩
  · by_cases z : b = a
    · subst z; exact .inr (.inl ha)
    · have h' : upd w1.g a u b = some q := h
      rw [upd_ne z] at h'
      exact e.gx b q h'
  · cases o with
    | gone => exact io.elim
    | lst ds =>
      obtain ⟨vs, h1, h2⟩ := io
      rw [hu] at h1; cases h1
      exact .lst upd_same (h2.mono mr)
    | ins c ns ds =>
      obtain ⟨C, dx, fs, h0, h1, h2, h3⟩ := io
      rw [hu] at h1; cases h1
      subst h2
      exact .obj h0 upd_same (h3.mono mr)
    | dic kvs => exact .unk
    | st ks => exact .unk
    | dil kvs => exact .unk
theorem Ext.lay {K : PySem.W.Frag} {w w1 : Wd} {H H1 : Hp} {M : Mem} {v : V} {o : MO} (e : Ext w H w1 H1) (x : Ok K w1 H1 M) (h : RlO K H w1 H1 v o) : ∃ w2, Ext w H w2 H1 ∧ Ok K w2 H1 (M ++ [o]) ∧ Is K w2 v (.ref M.length) ∧ More w1 w2 := by
  obtain ⟨a, rfl, ha, ga, ra, io⟩ := h
  have mr : More w1 { w1 with r := w1.r ++ [a] } := ⟨⟨[a], rfl⟩, fun _ _ h => h⟩
  refine ⟨{ w1 with r := w1.r ++ [a] }, ⟨?_, e.g, e.keep, e.nn, e.gx, fun b hb => ?_, e.tb⟩, ⟨x.g, fun k m hk => ?_, ?_, ?_, x.tt, x.gt⟩, .ref ?_, mr⟩
  · obtain ⟨l, q⟩ := e.r
    exact ⟨l ++ [a], by show w1.r ++ [a] = _; rw [q, List.append_assoc]⟩
  · rcases List.mem_append.mp hb with hb | hb
    · exact e.rn b hb
    · have z : b = a := by simpa using hb
      subst z; exact .inr ha
  · by_cases hl : k < M.length
    · rw [List.getElem?_append_left hl] at hk
      obtain ⟨b, h1, h2⟩ := x.m k m hk
      exact ⟨b, mr.at h1, mo_mono mr rfl rfl h2⟩
    · have hk' : k = M.length := by
        have := (List.getElem?_eq_some_iff.mp hk).1
        rw [List.length_append] at this
        simp at this; omega
      subst hk'
      rw [List.getElem?_append_right (Nat.le_refl _)] at hk
      simp at hk
      subst hk
      refine ⟨a, ?_, .inr ⟨ga, io.mono mr rfl⟩⟩
      show (w1.r ++ [a])[M.length]? = some a
      rw [← x.len, List.getElem?_append_right (Nat.le_refl _)]
      simp
  · show (w1.r ++ [a]).Nodup
    rw [List.nodup_append]
    refine ⟨x.nd, by simp, fun b hb c hc z => ?_⟩
    have : c = a := by simpa using hc
    subst this; subst z
    exact ra hb
  · show (w1.r ++ [a]).length = _
    rw [List.length_append, List.length_append, x.len]; rfl
  · show (w1.r ++ [a])[M.length]? = some a
    rw [← x.len, List.getElem?_append_right (Nat.le_refl _)]
    simp
section
variable {X : Cx} {W : WX} {e e1 e2 e3 : Expr} {es : List Expr} {pos p : Pos}
theorem de_var (i : Nat) {x : Str} (hN : X.N[i]? = some x := by rfl) (hv : Vis X.env.scope x := by first | exact Or.inl rfl | exact Or.inr (Or.inl rfl) | exact Or.inr (Or.inr rfl)) (hd : (x == ("__debug__" : Str)) = false := by decide)
    (hcd : (x == ("__classdict__" : Str)) = false := by decide) : DE X W (.Name x pos) (fVar i) := by
  refine ⟨_, pe_var hN hv hd hcd, fun env M σ w H w0 H0 Q I h => ?_⟩
  unfold fVar at h
  split at h
  · rename_i d hd
    obtain ⟨v, h1, h2⟩ := I.val i d hd
    exact ⟨v, h1, h v w H (.refl _ _) I.ok h2⟩
  · exact h.elim
theorem snd_c {K : PySem.W.Frag} {v : V} {d : D} (hd : ∀ w, Is K w v d) : SndE K W (tC v) (fK d) := fun env M σ w H w0 H0 Q I h => h v w H (.refl _ _) I.ok (hd w)
theorem de_int {i : Int} {j} : DE X W (.Constant (.int i) j pos) (fK (.int i)) := ⟨_, pe_int, snd_c fun _ => .int i⟩
theorem de_bl {b : Bool} {j} : DE X W (.Constant (.bool b) j pos) (fK (.bl b)) := ⟨_, pe_bl, snd_c fun _ => .bl b⟩
theorem de_non {j} : DE X W (.Constant .none j pos) (fK .non) := ⟨_, pe_non, snd_c fun _ => .non⟩
theorem de_str {x : Str} {j} : DE X W (.Constant (.str x) j pos) (fK (.str x)) := ⟨_, pe_str, snd_c fun _ => .str x⟩
theorem de_glob {x : Str} {v : V} {u : Value} {d : D} (hg : Gl X x) (hm : X.mg x = some u) (r : RelV v u) (hi : ∀ w, Is X.K w v d) (hd : (x == ("__debug__" : Str)) = false := by decide) : DE X W (.Name x pos) (fK d) :=
  ⟨_, pe_glob hg hm r hd, snd_c hi⟩
theorem de_ty {x : Str} {n : String} (hg : Gl X x) (hm : X.mg x = none) (hv : bootBuiltins x = some (.type n)) (hn : x ≠ "__name__" := by decide) (hd : (x == ("__debug__" : Str)) = false := by decide) : DE X W (.Name x pos) (fK (.ty n)) :=
  ⟨_, pe_bltn (v := .ty n) hg hm hv rfl hn hd, snd_c fun _ => .ty n⟩
theorem da_nil : DA X W [] fNil := ⟨_, pa_nil, fun env M σ w H w0 H0 Q I h => h [] w H (.refl _ _) I.ok .nil⟩
theorem snd_cons {K : PySem.W.Frag} {ta : TE} {tr : TA} {fa : Fe} {fr : Fa} (ha : SndE K W ta fa) (hr : SndA K W tr fr) : SndA K W (tCons ta tr) (fCons fa fr) := fun env M σ w H w0 H0 Q I h => by
  refine ha env M σ w H w0 H0 _ I (Post.bind h fun d M1 v w1 H1 x1 o1 r1 h1 => ?_)
  refine hr env M1 σ w1 H1 w0 H0 _ (I.step x1 o1) (Post.bind h1 fun ds M2 vs w2 H2 x2 o2 r2 h2 => ?_)
  exact h2 (v :: vs) w2 H2 (.refl _ _) o2 (.cons (r1.mono x2.more) r2)
theorem da_cons {f : Fe} {g : Fa} (ha : DE X W e f) (hr : DA X W es g) (hs : starEach (e :: es) X.env = (false, eval e X.env) :: starEach es X.env := by rfl) : DA X W (e :: es) (fCons f g) := by
  obtain ⟨t, p, s⟩ := ha
  obtain ⟨t', p', s'⟩ := hr
  exact ⟨_, pa_cons p p' hs, snd_cons s s'⟩
def LenOk (n : Nat) (f : Fa) : Prop := ∀ env M ds M', f env M = .ok ds M' → ds.length = n
theorem len_nil : LenOk 0 fNil := fun env M ds M' h => by
  injection h with h1 h2
  subst h1; rfl
theorem len_cons {n : Nat} {a : Fe} {f : Fa} (h : LenOk n f) : LenOk (n + 1) (fCons a f) := fun env M ds M' q => by
  unfold fCons at q
  cases ha : a env M with
  | ok d M1 =>
    rw [ha, R.bind_ok] at q
    cases hf : f env M1 with
    | ok es M2 =>
      rw [hf, R.bind_ok] at q
      injection q with h1 h2
      subst h1
      rw [List.length_cons, h env M1 es M2 hf]
    | ex c ns vs M2 => rw [hf] at q; cases q
    | bad => rw [hf] at q; cases q
  | ex c ns vs M1 => rw [ha] at q; cases q
  | bad => rw [ha] at q; cases q
theorem de_tup {f : Fa} {x1} {n : Nat} (h : DA X W es f) (hl : LenOk n f := by first | exact len_nil | exact len_cons (len_cons len_nil) | repeat (first | exact len_nil | refine len_cons ?_)) (hn : n ≤ 1000 := by decide) : DE X W (.Tuple es x1 pos) (fTup f) := by
  obtain ⟨t, p, s⟩ := h
  refine ⟨_, pe_tup p, fun env M σ w H w0 H0 Q I h => ?_⟩
  refine s env M σ w H w0 H0 _ I ?_
  unfold fTup at h
  cases q : f env M with
  | ok ds M1 =>
    rw [q] at h
    intro vs w1 H1 x1 o1 r1
    have hz : vs.length ≤ sizeLine := by
      rw [r1.length, hl env M ds M1 q]
      exact Nat.le_trans hn (by decide)
    refine ⟨hz, fun a ha => ?_⟩
    obtain ⟨o2, x2⟩ := o1.fix (o := .tup vs) ha
    exact h (.ref a) _ _ (x1.trans x2) o2 (.tup (.inl upd_same) (r1.mono x2.more))
  | ex c ns vs M1 => rw [q] at h; exact h
  | bad => rw [q] at h; exact h
theorem do_lst {f : Fa} {n : Nat} (h : DA X W es f) (hl : LenOk n f := by first | exact len_nil | exact len_cons (len_cons len_nil) | repeat (first | exact len_nil | refine len_cons ?_)) (hn : n ≤ 1000 := by decide) : DO X W (.List es pos) (oLst f) := by
  obtain ⟨t, p, s⟩ := h
  refine ⟨_, pe_lst p, fun env M σ w H w0 H0 Q I h => ?_⟩
  refine s env M σ w H w0 H0 _ I ?_
  unfold oLst at h
  cases q : f env M with
  | ok ds M1 =>
    rw [q] at h
    intro vs w1 H1 x1 o1 r1
    have hz : vs.length ≤ sizeLine := by
      rw [r1.length, hl env M ds M1 q]
      exact Nat.le_trans hn (by decide)
    refine ⟨hz, fun a ha => ?_⟩
    obtain ⟨o2, x2⟩ := o1.put (o := .lst vs) ha
    obtain ⟨n1, n2⟩ := o1.new ha
    have ha0 : H a = none := by
      cases z : H a with
      | none => rfl
      | some u => exact absurd ha (x1.nn a (by rw [z]; simp))
    exact h (.ref a) _ _ (x1.trans x2) o2 ⟨a, rfl, ha0, n1, n2, vs, upd_same, r1⟩
  | ex c ns vs M1 => rw [q] at h; exact h
  | bad => rw [q] at h; exact h
theorem de_fz {f : Fo} (h : DO X W e f) : DE X W e (fFz f) := by
  obtain ⟨t, p, s⟩ := h
  refine ⟨t, p, fun env M σ w H w0 H0 Q I h => ?_⟩
  refine s env M σ w H w0 H0 _ I ?_
  unfold fFz at h
  cases q : f env M with
  | ok m M1 =>
    rw [q] at h
    intro v w1 H1 x1 o1 r1
    obtain ⟨w2, x2, o2, i2, _⟩ := x1.freeze o1 r1
    exact h v w2 H1 x2 o2 i2
  | ex c ns vs M1 => rw [q] at h; exact h
  | bad => rw [q] at h; exact h
theorem de_al {f : Fo} (h : DO X W e f) : DE X W e (fAl f) := by
  obtain ⟨t, p, s⟩ := h
  refine ⟨t, p, fun env M σ w H w0 H0 Q I h => ?_⟩
  refine s env M σ w H w0 H0 _ I ?_
  unfold fAl at h
  cases q : f env M with
  | ok m M1 =>
    rw [q] at h
    intro v w1 H1 x1 o1 r1
    obtain ⟨w2, x2, o2, i2, _⟩ := x1.lay o1 r1
    exact h v w2 H1 x2 o2 i2
  | ex c ns vs M1 => rw [q] at h; exact h
  | bad => rw [q] at h; exact h
theorem snd_op {K : PySem.W.Frag} {r : R2} {g : G2} {ta tb : TE} {fa fb : Fe} (hr : SndR2 K r g) (ha : SndE K W ta fa) (hb : SndE K W tb fb) : SndE K W (tOp r ta tb) (fOp g fa fb) := fun env M σ w H w0 H0 Q I h => by
  refine ha env M σ w H w0 H0 _ I (Post.bind h fun d M1 v w1 H1 x1 o1 r1 h1 => ?_)
  refine hb env M1 σ w1 H1 w0 H0 _ (I.step x1 o1) (Post.bind h1 fun e M2 u w2 H2 x2 o2 r2 h2 => ?_)
  cases q : g M2 d e with
  | none => rw [q] at h2; exact h2.elim
  | some z =>
    rw [q] at h2
    exact hr w2 H2 M2 v u d e z Q o2 (r1.mono x2.more) r2 q h2
theorem de_op {op : Operator} {r : R2} {g : G2} {fa fb : Fe} (hr : OpR X (binaryOp op) r) (hs : SndR2 X.K r g) (ha : DE X W e1 fa) (hb : DE X W e2 fb) : DE X W (.BinOp e1 op e2 pos) (fOp g fa fb) := by
  obtain ⟨t, p, s⟩ := ha
  obtain ⟨t', p', s'⟩ := hb
  exact ⟨_, pe_op hr p p', snd_op hs s s'⟩
theorem de_cmp {op : CmpOp} {r : R2} {g : G2} {fa fb : Fe} (hr : OpR X (compareOp op) r) (hs : SndR2 X.K r g) (ha : DE X W e1 fa) (hb : DE X W e2 fb) (hm : behindInMarks op e2 = false := by first | exact nobehind _ (by decide) (by decide) | rfl) : DE X W (.Compare e1 [op] [e2] pos) (fOp g fa fb) := by
  obtain ⟨t, p, s⟩ := ha
  obtain ⟨t', p', s'⟩ := hb
  exact ⟨_, pe_cmpR hr p p' hm, snd_op hs s s'⟩
theorem de_ix {r : R2} {g : G2} {fa fb : Fe} (hr : IxR X r) (hs : SndR2 X.K r g) (ha : DE X W e1 fa) (hb : DE X W e2 fb) (hp : PlainIx e2 := by exact fun _ _ => rfl) : DE X W (.Subscript e1 e2 pos) (fOp g fa fb) := by
  obtain ⟨t, p, s⟩ := ha
  obtain ⟨t', p', s'⟩ := hb
  exact ⟨_, pe_ix hr p p' hp, snd_op hs s s'⟩
theorem de_un {op : UnaryOp} {r : V → Hp → VK → Prop} {g : G1} {fa : Fe} (hr : UnR X (unaryOp op) r) (hs : SndR1 X.K r g) (ha : DE X W e1 fa) : DE X W (.UnaryOp op e1 pos) (fUn g fa) := by
  obtain ⟨t, p, s⟩ := ha
  refine ⟨_, pe_un hr p, fun env M σ w H w0 H0 Q I h => ?_⟩
  refine s env M σ w H w0 H0 _ I (Post.bind h fun d M1 v w1 H1 x1 o1 r1 h1 => ?_)
  cases q : g M1 d with
  | none => rw [q] at h1; exact h1.elim
  | some z =>
    rw [q] at h1
    exact hs w1 H1 M1 v d z Q o1 r1 q h1
theorem snd_tval {K : PySem.W.Frag} {ta : TE} {fa : Fe} (ha : SndE K W ta fa) : SndT K W (tTest ta) (tVal fa) := fun env M σ w H w0 H0 Q I h => by
  refine ha env M σ w H w0 H0 _ I (Post.bind h fun d M1 v w1 H1 x1 o1 r1 h1 => ?_)
  cases r1 with
  | bl b => exact ⟨b, rfl, h1 b w1 H1 (.refl _ _) o1 rfl⟩
  | _ => exact h1.elim
theorem dt_cmp {op : CmpOp} {r : R2} {g : G2} {fa fb : Fe} (hr : OpR X (compareOp op) r) (hs : SndR2 X.K r g) (ha : DE X W e1 fa) (hb : DE X W e2 fb) (hm : behindInMarks op e2 = false := by first | exact nobehind _ (by decide) (by decide) | rfl) : DT X W (.Compare e1 [op] [e2] pos) (tVal (fOp g fa fb)) := by
  obtain ⟨t, p, s⟩ := ha
  obtain ⟨t', p', s'⟩ := hb
  exact ⟨_, pt_cmpR hr p p' hm, snd_tval (snd_op hs s s')⟩
theorem dt_val {f : Fe} (h : DE X W e f) (he : ∀ whole, isTrue e X.env whole = (do let v ← whole; standAt e.pos; holding [v] (truthy v)) := by intro _; rfl) : DT X W e (tVal f) := by
  obtain ⟨t, p, s⟩ := h
  exact ⟨_, pt_val p he, snd_tval s⟩
def DW (X : Cx) (W : WX) (e : Expr) (f : Ft) : Prop := ∃ t, PW X e t ∧ SndT X.K W t f
theorem DW.t {f : Ft} (h : DW X W e f) : DT X W e f := by
  obtain ⟨t, p, s⟩ := h
  exact ⟨t, p.pt, s⟩
theorem dw_and1 {f : Ft} (h : DT X W e f) : DW X W (.BoolOp .And [e] pos) f := by
  obtain ⟨t, p, s⟩ := h
  exact ⟨_, pw_and1 p, s⟩
theorem dw_or1 {f : Ft} (h : DT X W e f) : DW X W (.BoolOp .Or [e] pos) f := by
  obtain ⟨t, p, s⟩ := h
  exact ⟨_, pw_or1 p, s⟩
theorem snd_and {K : PySem.W.Frag} {t t' : TT} {f g : Ft} (s : SndT K W t f) (s' : SndT K W t' g) : SndT K W (tAnd t t') (tAndF f g) := fun env M σ w H w0 H0 Q I h => by
  refine s env M σ w H w0 H0 _ I (Post.bind h fun c M1 v w1 H1 x1 o1 r1 h1 => ?_)
  have r1 : v = c := r1
  subst r1
  cases v with
  | true => exact s' env M1 σ w1 H1 w0 H0 Q (I.step x1 o1) h1
  | false => exact h1 false w1 H1 (.refl _ _) o1 rfl
theorem snd_or {K : PySem.W.Frag} {t t' : TT} {f g : Ft} (s : SndT K W t f) (s' : SndT K W t' g) : SndT K W (tOr t t') (tOrF f g) := fun env M σ w H w0 H0 Q I h => by
  refine s env M σ w H w0 H0 _ I (Post.bind h fun c M1 v w1 H1 x1 o1 r1 h1 => ?_)
  have r1 : v = c := r1
  subst r1
  cases v with
  | true => exact h1 true w1 H1 (.refl _ _) o1 rfl
  | false => exact s' env M1 σ w1 H1 w0 H0 Q (I.step x1 o1) h1
theorem dw_and {b : Expr} {rest : List Expr} {f g : Ft} (h : DT X W e f) (h' : DW X W (.BoolOp .And (b :: rest) pos) g) : DW X W (.BoolOp .And (e :: b :: rest) pos) (tAndF f g) := by
  obtain ⟨t, p, s⟩ := h
  obtain ⟨t', p', s'⟩ := h'
  exact ⟨_, pw_and p p', snd_and s s'⟩
theorem dw_or {b : Expr} {rest : List Expr} {f g : Ft} (h : DT X W e f) (h' : DW X W (.BoolOp .Or (b :: rest) pos) g) : DW X W (.BoolOp .Or (e :: b :: rest) pos) (tOrF f g) := by
  obtain ⟨t, p, s⟩ := h
  obtain ⟨t', p', s'⟩ := h'
  exact ⟨_, pw_or p p', snd_or s s'⟩
theorem dt_not {f : Ft} (h : DT X W e f) : DT X W (.UnaryOp .Not e pos) (tNotF f) := by
  obtain ⟨t, p, s⟩ := h
  refine ⟨_, pt_not p, fun env M σ w H w0 H0 Q I h => ?_⟩
  refine s env M σ w H w0 H0 _ I (Post.bind h fun c M1 v w1 H1 x1 o1 r1 h1 => ?_)
  have r1 : v = c := r1
  subst r1
  exact h1 (!v) w1 H1 (.refl _ _) o1 rfl
def fAnd (a b : Fe) : Fe := fun env M => (a env M).bind fun d M1 => match d with
  | .bl true => b env M1
  | .bl false => .ok (.bl false) M1
  | _ => .bad
def fOr (a b : Fe) : Fe := fun env M => (a env M).bind fun d M1 => match d with
  | .bl true => .ok (.bl true) M1
  | .bl false => b env M1
  | _ => .bad
def gNot : G1 := fun _ d => match d with
  | .bl b => some (.bl (!b))
  | _ => none
theorem de_one {op} {f : Fe} (h : DE X W e f) : DE X W (.BoolOp op [e] pos) f := by
  obtain ⟨t, p, s⟩ := h
  exact ⟨_, pe_one p, s⟩
theorem de_and {b : Expr} {rest : List Expr} {f g : Fe} (h : DE X W e f) (h' : DE X W (.BoolOp .And (b :: rest) pos) g) : DE X W (.BoolOp .And (e :: b :: rest) pos) (fAnd f g) := by
  obtain ⟨t, p, s⟩ := h
  obtain ⟨t', p', s'⟩ := h'
  refine ⟨_, pe_and p p', fun env M σ w H w0 H0 Q I h => ?_⟩
  refine s env M σ w H w0 H0 _ I (Post.bind h fun c M1 v w1 H1 x1 o1 r1 h1 => ?_)
  cases r1 with
  | bl b =>
    cases b with
    | true => exact ⟨true, rfl, s' env M1 σ w1 H1 w0 H0 Q (I.step x1 o1) h1⟩
    | false => exact ⟨false, rfl, h1 (.bl false) w1 H1 (.refl _ _) o1 (.bl false)⟩
  | _ => exact h1.elim
theorem de_not {f : Fe} (h : DE X W e f) : DE X W (.UnaryOp .Not e pos) (fUn gNot f) := by
  obtain ⟨t, p, s⟩ := h
  refine ⟨_, pe_not p, fun env M σ w H w0 H0 Q I h => ?_⟩
  refine s env M σ w H w0 H0 _ I (Post.bind h fun c M1 v w1 H1 x1 o1 r1 h1 => ?_)
  cases r1 with
  | bl b => exact ⟨b, rfl, h1 (.bl (!b)) w1 H1 (.refl _ _) o1 (.bl _)⟩
  | _ => exact h1.elim
theorem de_if {c : Expr} {t : Ft} {f g : Fe} (hc : DT X W c t) (ha : DE X W e1 f) (hb : DE X W e2 g) : DE X W (.IfExp c e1 e2 pos) (fIf t f g) := by
  obtain ⟨t', p, s⟩ := hc
  obtain ⟨ta, pa, sa⟩ := ha
  obtain ⟨tb, pb, sb⟩ := hb
  refine ⟨_, pe_ifExp p pa pb, fun env M σ w H w0 H0 Q I h => ?_⟩
  refine s env M σ w H w0 H0 _ I (Post.bind h fun c M1 v w1 H1 x1 o1 r1 h1 => ?_)
  have r1 : v = c := r1
  subst r1
  cases v with
  | true => exact sa env M1 σ w1 H1 w0 H0 Q (I.step x1 o1) h1
  | false => exact sb env M1 σ w1 H1 w0 H0 Q (I.step x1 o1) h1
theorem snd_b {K : PySem.W.Frag} {r : List V → Hp → VK → Prop} {g : GA} {t : TA} {f : Fa} (hr : SndC K r g) (s : SndA K W t f) : SndE K W (tCB r t) (fB g f) := fun env M σ w H w0 H0 Q I h => by
  refine s env M σ w H w0 H0 _ I (Post.bind h fun ds M1 vs w1 H1 x1 o1 r1 h1 => ?_)
  cases q : g M1 ds with
  | none => rw [q] at h1; exact h1.elim
  | some z =>
    rw [q] at h1
    exact hr w1 H1 M1 vs ds z Q o1 r1 q h1
theorem snd_bo {K : PySem.W.Frag} {r : List V → Hp → VK → Prop} {g : GO} {t : TA} {f : Fa} (hr : SndCO K r g) (s : SndA K W t f) : SndO K W (tCB r t) (oB g f) := fun env M σ w H w0 H0 Q I h => by
  refine s env M σ w H w0 H0 _ I ?_
  unfold oB at h
  cases qf : f env M with
  | ok ds M1 =>
    rw [qf, R.bind_ok] at h
    intro vs w1 H1 x1 o1 r1
    cases q : g M1 ds with
    | none => rw [q] at h; exact h.elim
    | some z =>
      rw [q] at h
      refine hr w1 H1 M1 vs ds z Q o1 r1 q fun v w' H' x2 o2 r2 => ?_
      obtain ⟨a, h1, h2, h3⟩ := r2
      refine h v w' H' (x1.trans x2) o2 ⟨a, h1, ?_, h3⟩
      cases z' : H a with
      | none => rfl
      | some u => exact absurd h2 (x1.nn a (by rw [z']; simp))
  | ex c ns vs M1 => rw [qf] at h; exact h
  | bad => rw [qf] at h; exact h
theorem de_callB {x : Str} {id : String} {r : List V → Hp → VK → Prop} {g : GA} {f : Fa} (hc : CallR X (.builtin id) r) (hs : SndC X.K r g) (hg : Gl X x) (hm : X.mg x = none) (hv : bootBuiltins x = some (.builtin id)) (ha : DA X W (e :: es) f) (hn : x ≠ "__name__" := by decide) (hdb : (x == ("__debug__" : Str)) = false := by decide)
    (he : starEach (e :: es) X.env = (false, eval e X.env) :: starEach es X.env := by rfl) (hpl : (backTo pos (starEach es X.env)).any (·.1) = false := by rfl) : DE X W (.Call (.Name x p) (e :: es) [] pos) (fB g f) := by
  obtain ⟨t, q, s⟩ := ha
  exact ⟨_, pe_callB hc hg hm hv q hn hdb he hpl, snd_b hs s⟩
theorem de_callT {x : Str} {T : String} {r : List V → Hp → VK → Prop} {g : GA} {f : Fa} (hc : CallR X (.type T) r) (hs : SndC X.K r g) (hg : Gl X x) (hm : X.mg x = none) (hv : bootBuiltins x = some (.type T)) (ha : DA X W (e :: es) f) (hn : x ≠ "__name__" := by decide) (hdb : (x == ("__debug__" : Str)) = false := by decide)
    (he : starEach (e :: es) X.env = (false, eval e X.env) :: starEach es X.env := by rfl) (hpl : (backTo pos (starEach es X.env)).any (·.1) = false := by rfl) : DE X W (.Call (.Name x p) (e :: es) [] pos) (fB g f) := by
  obtain ⟨t, q, s⟩ := ha
  exact ⟨_, pe_callTy hc hg hm hv q hn hdb he hpl, snd_b hs s⟩
theorem do_callT {x : Str} {T : String} {r : List V → Hp → VK → Prop} {g : GO} {f : Fa} (hc : CallR X (.type T) r) (hs : SndCO X.K r g) (hg : Gl X x) (hm : X.mg x = none) (hv : bootBuiltins x = some (.type T)) (ha : DA X W (e :: es) f) (hn : x ≠ "__name__" := by decide) (hdb : (x == ("__debug__" : Str)) = false := by decide)
    (he : starEach (e :: es) X.env = (false, eval e X.env) :: starEach es X.env := by rfl) (hpl : (backTo pos (starEach es X.env)).any (·.1) = false := by rfl) : DO X W (.Call (.Name x p) (e :: es) [] pos) (oB g f) := by
  obtain ⟨t, q, s⟩ := ha
  exact ⟨_, pe_callTy hc hg hm hv q hn hdb he hpl, snd_bo hs s⟩
def spD (K : PySem.W.Frag) (n : Nat) (F : Fn) : Sp := fun vs H Q E => ∃ ds M w, Ok K w H M ∧ Iss K w vs ds ∧ ds.length = n ∧ Post K (RlE K) w H [] (fun c d _ H' => E c d H') Q (F ds M)
theorem spD_len {K : PySem.W.Frag} {n : Nat} {F : Fn} : ∀ vs H Q E, spD K n F vs H Q E → vs.length = n := fun vs H Q E ⟨ds, M, w, _, h1, h2, _⟩ => by rw [h1.length, h2]
theorem snd_call {K : PySem.W.Frag} {n m : Nat} {F : Fn} {dvs : List V} {dds : List D} {t : TA} {f : Fa} (s : SndA K W t f) (hd : ∀ w, Iss K w dvs dds) (hl : LenOk m f) (hn : m + dds.length = n) : SndE K W (tCallSD (spD K n F) dvs (WE W) t) (fCall F dds f) := fun env M σ w H w0 H0 Q I h => by
  refine s env M σ w H w0 H0 _ I ?_
  unfold fCall at h
  cases q : f env M with
  | ok ds M1 =>
    rw [q, R.bind_ok] at h
    intro vs w1 H1 x1 o1 r1
    refine ⟨ds ++ dds, M1, w1, o1, r1.append (hd w1), by rw [List.length_append, hl env M ds M1 q, hn], ?_⟩
    have h' := Post.shift (Ra := RlE K) (K := K) x1 h
    cases qF : F (ds ++ dds) M1 with
    | ok d M2 => rw [qF] at h'; exact h'
    | ex c ns vs M2 => rw [qF] at h'; exact h'
    | bad => rw [qF] at h'; exact h'
  | ex c ns vs M1 => rw [q] at h; exact h
  | bad => rw [q] at h; exact h
theorem de_call {x : Str} {k n m : Nat} {fa : Addr} {fd : FuncData} {ps : List Str} {dvs : List V} {dds : List D} {dV : List Value} {F : Fn} {f : Fa} (G : FnOk X.prog X.w X.K X.mg X.base (CXm μ X.prog X.w) k fa fd ps (spD X.K n F)) (hr : Room k X.A) (tk : TakesM μ X W) (hg : Gl X x) (hm : X.mg x = some (.ref fa)) (hk : PySem.W.keepIn X.K (.ref fa) = true)
    (hb : Binds X.K fd ps dV) (hv : Vals dvs dV) (hd : ∀ w, Iss X.K w dvs dds) (ha : DA X W (e :: es) f)
    (hl : LenOk m f := by first | exact len_cons len_nil | exact len_cons (len_cons len_nil) | repeat (first | exact len_nil | refine len_cons ?_)) (hn : m + dds.length = n := by rfl)
    (hdb : (x == ("__debug__" : Str)) = false := by decide) (he : starEach (e :: es) X.env = (false, eval e X.env) :: starEach es X.env := by rfl) (hpl : (backTo pos (starEach es X.env)).any (·.1) = false := by rfl) :
    DE X W (.Call (.Name x p) (e :: es) [] pos) (fCall F dds f) := by
  obtain ⟨t, q, s⟩ := ha
  exact ⟨_, pe_callSD G hr hg hm hk hb hv (fun σ => passAtM tk σ) q hdb he hpl, snd_call s hd hl hn⟩
end
end DL
namespace DL
open PySem L2
variable [Wld]
inductive RS where
  | nx (env : Env) (M : Mem)
  | rt (d : D) (M : Mem)
  | bk (env : Env) (M : Mem)
  | ct (env : Env) (M : Mem)
  | ex (c : Str) (ns : List Str) (vs : List D) (env : Env) (M : Mem)
  | bad
abbrev Fs := Env → Mem → RS
def R.thn {α : Type} (x : R α) (env : Env) (f : α → Mem → RS) : RS := match x with
  | .ok a M => f a M
  | .ex c ns vs M => .ex c ns vs env M
  | .bad => .bad
def RS.seq (x : RS) (f : Fs) : RS := match x with
  | .nx env M => f env M
  | r => r
def PostS (K : PySem.W.Frag) (w0 : Wd) (H0 : Hp) (w : Wd) (W : WX) (B : Ends) : RS → Prop
  | .nx env' M' => ∀ σ' w' H', EnvOk K w0 H0 w' H' M' env' σ' → More w w' → B.nx σ' H'
  | .bk env' M' => ∀ σ' w' H', EnvOk K w0 H0 w' H' M' env' σ' → More w w' → B.bk σ' H'
  | .ct env' M' => ∀ σ' w' H', EnvOk K w0 H0 w' H' M' env' σ' → More w w' → B.ct σ' H'
  | .rt d M' => ∀ v w' H', Ext w0 H0 w' H' → Ok K w' H' M' → Is K w' v d → B.rt v H'
  | .ex c ns ds env' M' => ∀ σ' C dx fs w' H', PySem.W.nsIn K mainGlobals c = some (some (.ref C)) → EnvOk K w0 H0 w' H' M' env' σ' → More w w' → H0 dx = none → H' dx = some (.xd fs) → fs.map (·.1) = ns → Iss K w' (fs.map (·.2)) ds → W (.ref C) (some dx) σ' H'
  | .bad => False
theorem PostS.shift {K : PySem.W.Frag} {w0 w w1 : Wd} {H0 : Hp} {W : WX} {B : Ends} {r : RS} (e : More w w1) (h : PostS K w0 H0 w W B r) : PostS K w0 H0 w1 W B r := by
  cases r with
  | nx env' M' => exact fun σ' w' H' I m => h σ' w' H' I (e.trans m)
  | rt d M' => exact h
  | bk env' M' => exact fun σ' w' H' I m => h σ' w' H' I (e.trans m)
  | ct env' M' => exact fun σ' w' H' I m => h σ' w' H' I (e.trans m)
  | ex c ns ds env' M' => exact fun σ' C dx fs w' H' hC I m => h σ' C dx fs w' H' hC I (e.trans m)
  | bad => exact h
def SndS (K : PySem.W.Frag) (W : WX) (t : TS) (f : Fs) : Prop := ∀ env M σ w H w0 H0 B, EnvOk K w0 H0 w H M env σ → PostS K w0 H0 w W B (f env M) → t B σ H
def DS (X : Cx) (W : WX) (st : Stmt) (f : Fs) : Prop := ∃ t, PS X st t ∧ SndS X.K W t f
def DSs (X : Cx) (W : WX) (sts : List Stmt) (f : Fs) : Prop := ∃ t, PSs X sts t ∧ SndS X.K W t f
section
variable {K : PySem.W.Frag} {W : WX} {α β : Type} {Ra : Wd → Hp → β → α → Prop} {w w0 : Wd} {H H0 : Hp} {M : Mem} {env : Env} {σ : St} {B : Ends}
theorem Post.thn {Q1 : β → Hp → Prop} {f : R α} {g : α → Mem → RS} (I : EnvOk K w0 H0 w H M env σ) (h : PostS K w0 H0 w W B (f.thn env g))
    (k : ∀ d M1 v w1 H1, Ext w H w1 H1 → EnvOk K w0 H0 w1 H1 M1 env σ → Ra w1 H1 v d → PostS K w0 H0 w1 W B (g d M1) → Q1 v H1) : Post K Ra w H σ W Q1 f := by
  cases f with
  | ok d M1 => exact fun v w1 H1 e o r => k d M1 v w1 H1 e (I.step e o) r (PostS.shift e.more h)
  | ex c ns ds M1 => exact fun C dx fs w1 H1 hC e o hd h1 h2 h3 => h σ C dx fs w1 H1 hC (I.step e o) e.more (I.ext.new hd) h1 h2 h3
  | bad => exact h
theorem PostS.seq {r : RS} {f : Fs} {t : TS} (s : SndS K W t f) (h : PostS K w0 H0 w W B (r.seq f)) : PostS K w0 H0 w W { B with nx := t B } r := by
  cases r with
  | nx env' M' => exact fun σ' w' H' I m => s env' M' σ' w' H' w0 H0 B I (PostS.shift m h)
  | rt d M' => exact h
  | bk env' M' => exact h
  | ct env' M' => exact h
  | ex c ns ds env' M' => exact h
  | bad => exact h
end
def sNil : Fs := fun env M => .nx env M
def sSeq (a b : Fs) : Fs := fun env M => (a env M).seq b
def sSet (i : Nat) (a : Fe) : Fs := fun env M => (a env M).thn env fun d M1 => .nx (env.set i (.val d)) M1
def sSetO (i : Nat) (a : Fo) : Fs := fun env M => (a env M).thn env fun m M1 => .nx (env.set i (.own m)) M1
def sIf (t : Ft) (a b : Fs) : Fs := fun env M => (t env M).thn env fun c M1 => if c = true then a env M1 else b env M1
def sRet (a : Fe) : Fs := fun env M => (a env M).thn env fun d M1 => .rt d M1
def sRetN : Fs := fun _ M => .rt .non M
def sDrop (a : Fe) : Fs := fun env M => (a env M).thn env fun _ M1 => .nx env M1
def sBrk : Fs := fun env M => .bk env M
def sCont : Fs := fun env M => .ct env M
def Sl.fz : Sl → Sl
  | .own o => .val o.toD
  | s => s
def sFz (i : Nat) (f : Fs) : Fs := fun env M => f (env.set i ((env.getD i .no).fz)) M
def small (n : Nat) : Bool := decide (n < 16000000)
theorem small_lt {n : Nat} (h : small n = true) : n < sizeLine := Nat.lt_of_lt_of_le (of_decide_eq_true h) (by decide)
def sApp (i : Nat) (a : Fe) : Fs := fun env M => match env[i]? with
  | some (.own (.lst ds)) => (a env M).thn env fun d M1 => if small ds.length = true then .nx (env.set i (.own (.lst (ds ++ [d])))) M1 else .bad
  | _ => .bad
def sPut (a o i : Fe) : Fs := fun env M => (a env M).thn env fun d M1 => (o env M1).thn env fun e M2 => (i env M2).thn env fun z M3 => match e, z with
  | .ref k, .int z => match M3[k]? with
    | some (.lst ds) => match ixN ds.length z with
      | some j => .nx env (M3.set k (.lst (ds.set j d)))
      | none => .bad
    | _ => .bad
  | _, _ => .bad
theorem EnvOk.set {K : PySem.W.Frag} {w0 w : Wd} {H0 H : Hp} {M : Mem} {env : Env} {σ : St} {i : Nat} {v : V} {d : D} (x : EnvOk K w0 H0 w H M env σ) (h : Is K w v d) : EnvOk K w0 H0 w H M (env.set i (.val d)) (σ.set i (some v)) := by
  refine ⟨x.ext, x.ok, by rw [List.length_set, List.length_set, x.len], fun j e q => ?_, fun j o q => ?_, fun j k o u a q1 q2 q3 q4 => ?_⟩
  · by_cases hj : i = j
    · subst hj
      have hl : i < env.length := by
        have z := (List.getElem?_eq_some_iff.mp q).1
        rw [List.length_set] at z; exact z
      rw [List.getElem?_set_self hl] at q
      cases q
      exact ⟨v, List.getElem?_set_self (by rw [x.len]; exact hl), h⟩
    · rw [List.getElem?_set_ne hj] at q
      obtain ⟨u, h1, h2⟩ := x.val j e q
      exact ⟨u, by rw [List.getElem?_set_ne hj]; exact h1, h2⟩
  · by_cases hj : i = j
    · subst hj
      have hl : i < env.length := by
        have z := (List.getElem?_eq_some_iff.mp q).1
        rw [List.length_set] at z; exact z
      rw [List.getElem?_set_self hl] at q
      cases q
    · rw [List.getElem?_set_ne hj] at q
      obtain ⟨a, h1, h2⟩ := x.own j o q
      exact ⟨a, by rw [List.getElem?_set_ne hj]; exact h1, h2⟩
  · have nn : ∀ {j : Nat} {o : MO}, (env.set i (.val d))[j]? = some (.own o) → i ≠ j := fun {j o} q z => by
      subst z
      have hl : i < env.length := by
        have z := (List.getElem?_eq_some_iff.mp q).1
        rw [List.length_set] at z; exact z
      rw [List.getElem?_set_self hl] at q
      cases q
    have n1 := nn q1
    have n2 := nn q2
    rw [List.getElem?_set_ne n1] at q1 q3
    rw [List.getElem?_set_ne n2] at q2 q4
    exact x.ap j k o u a q1 q2 q3 q4
theorem getSet {α : Type} {l : List α} {i j : Nat} {x y : α} (h : (l.set i x)[j]? = some y) : (i = j ∧ i < l.length ∧ y = x) ∨ (i ≠ j ∧ l[j]? = some y) := by
  by_cases hj : i = j
  · subst hj
    have hl : i < l.length := by
      have z := (List.getElem?_eq_some_iff.mp h).1
      rw [List.length_set] at z; exact z
    rw [List.getElem?_set_self hl] at h
    cases h
    exact .inl ⟨rfl, hl, rfl⟩
  · rw [List.getElem?_set_ne hj] at h
    exact .inr ⟨hj, h⟩
theorem setAt {α : Type} {l : List α} {i : Nat} {x : α} (h : i < l.length) : (l.set i x)[i]? = some x := List.getElem?_set_self h
theorem EnvOk.setO {K : PySem.W.Frag} {w0 w : Wd} {H0 H : Hp} {M : Mem} {env : Env} {σ : St} {i : Nat} {a : Addr} {o : MO} (x : EnvOk K w0 H0 w H M env σ) (h0 : H0 a = none) (hg : w.g a = none) (hr : a ∉ w.r) (h : IsO K w H a o)
    (hn : ∀ j u, i ≠ j → env[j]? = some (.own u) → σ[j]? ≠ some (some (.ref a))) : EnvOk K w0 H0 w H M (env.set i (.own o)) (σ.set i (some (.ref a))) := by
  refine ⟨x.ext, x.ok, by rw [List.length_set, List.length_set, x.len], fun j e q => ?_, fun j u q => ?_, fun j k u u' b q1 q2 q3 q4 => ?_⟩
  · rcases getSet q with ⟨_, _, z⟩ | ⟨hj, q⟩
    · cases z
    · obtain ⟨v, h1, h2⟩ := x.val j e q
      exact ⟨v, by rw [List.getElem?_set_ne hj]; exact h1, h2⟩
  · rcases getSet q with ⟨rfl, hl, z⟩ | ⟨hj, q⟩
    · cases z
      exact ⟨a, setAt (by rw [x.len]; exact hl), h0, hg, hr, h⟩
    · obtain ⟨b, h1, h2⟩ := x.own j u q
      exact ⟨b, by rw [List.getElem?_set_ne hj]; exact h1, h2⟩
  · rcases getSet q1 with ⟨rfl, hl, z⟩ | ⟨hj, p1⟩
    · rcases getSet q2 with ⟨z2, _, _⟩ | ⟨hk, p2⟩
      · exact z2
      · rw [setAt (by rw [x.len]; exact hl)] at q3
        cases q3
        rw [List.getElem?_set_ne hk] at q4
        exact absurd q4 (hn k u' hk p2)
    · rcases getSet q2 with ⟨rfl, hl, z⟩ | ⟨hk, p2⟩
      · rw [setAt (by rw [x.len]; exact hl)] at q4
        cases q4
        rw [List.getElem?_set_ne hj] at q3
        exact absurd q3 (hn j u hj p1)
      · rw [List.getElem?_set_ne hj] at q3
        rw [List.getElem?_set_ne hk] at q4
        exact x.ap j k u u' b p1 p2 q3 q4
theorem EnvOk.setN {K : PySem.W.Frag} {w0 w w1 : Wd} {H0 H H1 : Hp} {M M1 : Mem} {env : Env} {σ : St} {i : Nat} {v : V} {o : MO} (x : EnvOk K w0 H0 w H M env σ) (e : Ext w H w1 H1) (k : Ok K w1 H1 M1) (h : RlO K H w1 H1 v o) : EnvOk K w0 H0 w1 H1 M1 (env.set i (.own o)) (σ.set i (some v)) := by
  obtain ⟨a, rfl, ha, hg, hr, io⟩ := h
  refine (x.step e k).setO ?_ hg hr io fun j u hj q z => ?_
  · cases q : H0 a with
    | none => rfl
    | some u => exact absurd ha (x.ext.nn a (by rw [q]; simp))
  · obtain ⟨b, h1, _, _, _, h5⟩ := x.own j u q
    rw [h1] at z
    cases z
    obtain ⟨p, hp⟩ := h5.there
    rw [ha] at hp; cases hp
theorem fz_at {K : PySem.W.Frag} {w : Wd} {H : Hp} {M : Mem} {a : Addr} {o : MO} {u : HO} (x : Ok K w H M) (hu : H a = some u) (ga : w.g a = none) (ra : a ∉ w.r) (io : IsO K w H a o) :
    Ok K { w with g := upd w.g a u } H M ∧ Is K { w with g := upd w.g a u } (.ref a) o.toD ∧ More w { w with g := upd w.g a u } := by
  have hn : NoTb u := by
    obtain ⟨u', h1, h2⟩ := io.there'
    rw [hu] at h1
    cases h1
    exact h2
  have up : ∀ b q, w.g b = some q → (upd w.g a u) b = some q := fun b q h => by
    rw [upd_ne (by rintro rfl; rw [ga] at h; cases h)]; exact h
  have mr : More w { w with g := upd w.g a u } := ⟨⟨[], by simp⟩, up⟩
  refine ⟨x.freeze hu ga ra hn, ?_, mr⟩
  cases o with
  | gone => exact io.elim
  | lst ds =>
    obtain ⟨vs, h1, h2⟩ := io
    rw [hu] at h1; cases h1
    exact .lst upd_same (h2.mono mr)
  | ins c ns ds =>
    obtain ⟨C, dx, fs, h0, h1, h2, h3⟩ := io
    rw [hu] at h1; cases h1
    subst h2
    exact .obj h0 upd_same (h3.mono mr)
  | dic kvs => exact .unk
  | st ks => exact .unk
  | dil kvs => exact .unk
theorem EnvOk.fz {K : PySem.W.Frag} {w0 w : Wd} {H0 H : Hp} {M : Mem} {env : Env} {σ : St} (x : EnvOk K w0 H0 w H M env σ) (i : Nat) : ∃ w1, EnvOk K w0 H0 w1 H M (env.set i ((env.getD i .no).fz)) σ ∧ More w w1 := by
  have same : ∀ s, env[i]? = some s → s.fz = s → env.set i ((env.getD i .no).fz) = env := fun s h1 h2 => by
    have e : env.getD i .no = s := by rw [List.getD_eq_getElem?_getD, h1]; rfl
    rw [e, h2]
    apply List.ext_getElem?
    intro j
    by_cases hj : i = j
    · subst hj
      rw [setAt (List.getElem?_eq_some_iff.mp h1).1, h1]
    · rw [List.getElem?_set_ne hj]
  cases q : env[i]? with
  | none =>
    refine ⟨w, ?_, More.refl w⟩
    have e : env.set i ((env.getD i .no).fz) = env := List.set_eq_of_length_le (List.getElem?_eq_none_iff.mp q)
    rw [e]; exact x
  | some s =>
    cases s with
    | no => exact ⟨w, by rw [same _ q rfl]; exact x, More.refl w⟩
    | val d => exact ⟨w, by rw [same _ q rfl]; exact x, More.refl w⟩
    | own o =>
      have e : env.getD i .no = .own o := by rw [List.getD_eq_getElem?_getD, q]; rfl
      rw [e]
      obtain ⟨a, h1, h2, h3, h4, h5⟩ := x.own i o q
      obtain ⟨u, hu⟩ := h5.there
      obtain ⟨k1, i1, m1⟩ := fz_at x.ok hu h3 h4 h5
      have hi : i < env.length := (List.getElem?_eq_some_iff.mp q).1
      refine ⟨{ w with g := upd w.g a u }, ⟨⟨x.ext.r, fun b p hp => m1.g b p (x.ext.g b p hp), x.ext.keep, x.ext.nn, fun b p hp => ?_, x.ext.rn, x.ext.tb⟩, k1, by rw [List.length_set]; exact x.len, fun j d qj => ?_, fun j v qj => ?_, fun j k v v' b q1 q2 q3 q4 => ?_⟩, m1⟩
      · by_cases z : b = a
        · subst z; exact .inr (.inl h2)
        · have hp' : upd w.g a u b = some p := hp
          rw [upd_ne z] at hp'
          exact x.ext.gx b p hp'
      · rcases getSet qj with ⟨rfl, _, z⟩ | ⟨hj, qj⟩
        · have z : Sl.val d = .val o.toD := z
          cases z
          exact ⟨_, h1, i1⟩
        · obtain ⟨v, g1, g2⟩ := x.val j d qj
          exact ⟨v, g1, g2.mono m1⟩
      · rcases getSet qj with ⟨rfl, _, z⟩ | ⟨hj, qj⟩
        · have z : Sl.own v = .val o.toD := z
          cases z
        · obtain ⟨b, g1, g2, g3, g4, g5⟩ := x.own j v qj
          have hb : b ≠ a := fun z => by
            subst z
            exact hj (x.ap i j o v b q qj h1 g1)
          exact ⟨b, g1, g2, by show upd w.g a u b = none; rw [upd_ne hb]; exact g3, g4, g5.mono m1 rfl⟩
      · rcases getSet q1 with ⟨_, _, z⟩ | ⟨_, q1⟩
        · have z : Sl.own v = .val o.toD := z
          cases z
        · rcases getSet q2 with ⟨_, _, z⟩ | ⟨_, q2⟩
          · have z : Sl.own v' = .val o.toD := z
            cases z
          · exact x.ap j k v v' b q1 q2 q3 q4
theorem Ok.write {K : PySem.W.Frag} {w : Wd} {H : Hp} {M : Mem} {k : Nat} {p : Addr} {o o' : MO} {u : HO} (x : Ok K w H M) (hk : M[k]? = some o) (hp : w.r[k]? = some p) (n : IsO K w (upd H p u) p o') (ho : o.live = true := by rfl) :
    Ok K w (upd H p u) (M.set k o') ∧ Ext w H w (upd H p u) := by
  have hpr : p ∈ w.r := List.mem_of_getElem? hp
  obtain ⟨b0, hb1, gp, h3⟩ := x.mo hk ho
  rw [hp] at hb1
  cases hb1
  obtain ⟨v, hv, hnt⟩ := h3.there'
  have hn : ∀ ps, H p ≠ some (.tbl ps) := fun ps z => by
    rw [hv] at z
    cases z
    exact hnt _ rfl
  refine ⟨⟨fun b q hb => ?_, fun j m hm => ?_, x.nd, by rw [List.length_set]; exact x.len, tabs_upd x.tt hv (h3.plain hv), x.gt⟩, ⟨⟨[], by simp⟩, fun _ _ h => h, fun b q hb hr _ => ?_, fun b hb => ?_, fun b q h => .inl h, fun b h => .inl h, fun b ps hb => ⟨#[], by rw [upd_ne (by rintro rfl; exact hn _ hb)]; simpa using hb⟩⟩⟩
  · rw [upd_ne (by rintro rfl; rw [gp] at hb; cases hb)]; exact x.g _ _ hb
  · rcases getSet hm with ⟨rfl, _, z⟩ | ⟨hj, hm⟩
    · subst z
      exact ⟨p, hp, .inr ⟨gp, n⟩⟩
    · obtain ⟨b, h1, h2⟩ := x.m j m hm
      have hb : b ≠ p := fun z => by
        subst z
        exact hj ((List.getElem?_inj (List.getElem?_eq_some_iff.mp hp).1 x.nd).mp (by rw [hp, h1]))
      exact ⟨b, h1, mo_mono (More.refl w) rfl (upd_ne hb) h2⟩
  · rw [upd_ne (by rintro rfl; exact hr hpr)]; exact hb
  · by_cases e : b = p
    · subst e; rw [upd_same]; simp
    · rw [upd_ne e]; exact hb
theorem Iss.ix {K : PySem.W.Frag} {w : Wd} {vs : List V} {ds : List D} {z : Int} {d : D} (h : Iss K w vs ds) (q : atI ds z = some d) : ∃ v, atI vs z = some v ∧ Is K w v d := by
  unfold atI at q ⊢
  rw [h.length]
  cases e : ixN ds.length z with
  | none => rw [e] at q; cases q
  | some j =>
    rw [e] at q
    exact h.get q
section
variable {X : Cx} {W : WX} {e e1 e2 e3 : Expr} {es : List Expr} {st : Stmt} {sts : List Stmt} {pos p : Pos} {f g : Fs}
theorem dss_nil : DSs X W [] sNil := ⟨_, pss_nil, fun env M σ w H w0 H0 B I h => h σ w H I (More.refl w)⟩
theorem dss_cons (h : DS X W st f) (h' : DSs X W sts g) : DSs X W (st :: sts) (sSeq f g) := by
  obtain ⟨t, p, s⟩ := h
  obtain ⟨t', p', s'⟩ := h'
  exact ⟨_, pss_cons p p', fun env M σ w H w0 H0 B I h => s env M σ w H w0 H0 _ I (PostS.seq s' h)⟩
theorem dss_one (h : DS X W st f) : DSs X W [st] f := by
  obtain ⟨t, p, s⟩ := h
  exact ⟨_, pss_one p, s⟩
theorem dss_fz (i : Nat) (h : DSs X W sts f) : DSs X W sts (sFz i f) := by
  obtain ⟨t, p, s⟩ := h
  refine ⟨t, p, fun env M σ w H w0 H0 B I h => ?_⟩
  obtain ⟨w1, I1, m1⟩ := I.fz i
  exact s _ M σ w1 H w0 H0 B I1 (PostS.shift m1 h)
theorem ds_set (i : Nat) {x : Str} {a : Fe} {pos' : Pos} (ha : DE X W e a) (hN : X.N.Nodup) (hi : X.N[i]? = some x := by rfl) (hx : Loc X.env.scope x := by first | exact Or.inl rfl | exact Or.inr rfl) (hs : swapsWith e (some (.Name x pos')) pos.line X.env = pure false := by rfl)
    (hf : X.fn x = true ∨ X.env.scope.names.lookup x = some .local := by first | exact .inl rfl | exact .inr rfl | assumption) : DS X W (.Assign [.Name x pos'] e pos) (sSet i a) := by
  obtain ⟨t, p, s⟩ := ha
  refine ⟨_, ps_set hN hi hx p hs hf, fun env M σ w H w0 H0 B I h => ?_⟩
  exact s env M σ w H w0 H0 _ I (Post.thn I h fun d M1 v w1 H1 x1 I1 r1 h1 => h1 _ w1 H1 (I1.set r1) (More.refl _))
theorem ds_setO (i : Nat) {x : Str} {a : Fo} {pos' : Pos} (ha : DO X W e a) (hN : X.N.Nodup) (hi : X.N[i]? = some x := by rfl) (hx : Loc X.env.scope x := by first | exact Or.inl rfl | exact Or.inr rfl) (hs : swapsWith e (some (.Name x pos')) pos.line X.env = pure false := by rfl)
    (hf : X.fn x = true ∨ X.env.scope.names.lookup x = some .local := by first | exact .inl rfl | exact .inr rfl | assumption) : DS X W (.Assign [.Name x pos'] e pos) (sSetO i a) := by
  obtain ⟨t, p, s⟩ := ha
  refine ⟨_, ps_set hN hi hx p hs hf, fun env M σ w H w0 H0 B I h => ?_⟩
  refine s env M σ w H w0 H0 _ I ?_
  unfold sSetO at h
  cases q : a env M with
  | ok m M1 =>
    rw [q] at h
    intro v w1 H1 x1 o1 r1
    exact h _ w1 H1 (I.setN x1 o1 r1) x1.more
  | ex c ns vs M1 =>
    rw [q] at h
    exact fun C dx fs w1 H1 hC x o hd h1 h2 h3 => h σ C dx fs w1 H1 hC (I.step x o) x.more (I.ext.new hd) h1 h2 h3
  | bad => rw [q] at h; exact h
theorem ds_if {c : Expr} {a b : List Stmt} {t : Ft} (hc : DT X W c t) (ha : DSs X W a f) (hb : DSs X W b g) : DS X W (.If c a b pos) (sIf t f g) := by
  obtain ⟨tc, pc, sc⟩ := hc
  obtain ⟨ta, pa, sa⟩ := ha
  obtain ⟨tb, pb, sb⟩ := hb
  refine ⟨_, ps_if pc pa pb, fun env M σ w H w0 H0 B I h => ?_⟩
  refine sc env M σ w H w0 H0 _ I (Post.thn I h fun d M1 v w1 H1 x1 I1 r1 h1 => ?_)
  have r1 : v = d := r1
  subst r1
  cases v with
  | true => exact sa env M1 σ w1 H1 w0 H0 B I1 h1
  | false => exact sb env M1 σ w1 H1 w0 H0 B I1 h1
theorem ds_ret {a : Fe} (ha : DE X W e a) : DS X W (.Return (some e) pos) (sRet a) := by
  obtain ⟨t, p, s⟩ := ha
  refine ⟨_, ps_ret p, fun env M σ w H w0 H0 B I h => ?_⟩
  exact s env M σ w H w0 H0 _ I (Post.thn I h fun d M1 v w1 H1 x1 I1 r1 h1 => h1 v w1 H1 I1.ext I1.ok r1)
theorem ds_drop {a : Fe} (ha : DE X W e a) (hs : swapsWith e none pos.line X.env = pure false := by rfl) : DS X W (.Expr e pos) (sDrop a) := by
  obtain ⟨t, p, s⟩ := ha
  refine ⟨_, ps_expr p hs, fun env M σ w H w0 H0 B I h => ?_⟩
  exact s env M σ w H w0 H0 _ I (Post.thn I h fun d M1 v w1 H1 x1 I1 r1 h1 => h1 σ w1 H1 I1 (More.refl _))
def sBad : Fs := fun _ _ => .bad
theorem ds_bad : DS X W st sBad := ⟨_, ps_never, fun env M σ w H w0 H0 B I h => h⟩
theorem ds_app (i : Nat) {a : Fe} {c : Expr} (ha : DE X W e a) (hb : ∀ t, PE X e t → PE X c (tBM X.K "list" rAppend (tVar i) (tCons t tNil)))
    (hs : swapsWith c none pos.line X.env = pure false := by rfl) : DS X W (.Expr c pos) (sApp i a) := by
  obtain ⟨t, q, s⟩ := ha
  refine ⟨_, ps_expr (hb t q) hs, fun env M σ w H w0 H0 B I h => ?_⟩
  unfold sApp at h
  split at h
  · rename_i ds hds
    obtain ⟨l, h1, h2, h3, h4, vs, h5, h6⟩ := I.own i _ hds
    refine ⟨.ref l, h1, .inl ⟨rfl, vs, .inl (.inl h5)⟩, ?_⟩
    refine s env M σ w H w0 H0 _ I (Post.thn I h fun d M1 v w1 H1 x1 I1 r1 k1 => ?_)
    obtain ⟨l', g1, g2, g3, g4, us, g5, g6⟩ := I1.own i _ hds
    rw [h1] at g1
    cases g1
    by_cases hz : small ds.length = true
    · rw [if_pos hz] at k1
      refine ⟨l, us, v, rfl, rfl, g5, by rw [g6.length]; exact small_lt hz, ?_⟩
      refine k1 σ w1 _ ?_ (More.refl _)
      have hi : i < env.length := (List.getElem?_eq_some_iff.mp hds).1
      have nr : ∀ b o, w1.g b = some o → b ≠ l := fun b o hb z => by subst z; rw [g3] at hb; cases hb
      have hs' : σ.set i (some (.ref l)) = σ := by
        apply List.ext_getElem?
        intro j
        by_cases hj : i = j
        · subst hj
          rw [setAt (by rw [I.len]; exact hi), h1]
        · rw [List.getElem?_set_ne hj]
      have I2 : EnvOk X.K w0 H0 w1 (upd H1 l (.lst (us ++ [v]))) M1 (env.set i .no) σ := by
        refine ⟨⟨I1.ext.r, I1.ext.g, fun b o hb hr hn => ?_, fun b hb => ?_, I1.ext.gx, I1.ext.rn, fun b ps hb => ?_⟩, ⟨fun b o hb => ?_, fun k m hk => ?_, I1.ok.nd, I1.ok.len, tabs_upd I1.ok.tt g5 plain_lst, I1.ok.gt⟩, by rw [List.length_set]; exact I1.len, fun j d' hj => ?_, fun j o hj => ?_, fun j k o u b q1 q2 q3 q4 => ?_⟩
        · rw [upd_ne (by rintro rfl; rw [h2] at hb; cases hb)]; exact I1.ext.keep b o hb hr hn
        · by_cases z : b = l
          · subst z; rw [upd_same]; simp
          · rw [upd_ne z]; exact I1.ext.nn b hb
        · rw [upd_ne (by rintro rfl; exact absurd (I1.ext.tb _ _ hb) (by rintro ⟨m, z⟩; rw [g5] at z; cases z))]; exact I1.ext.tb b ps hb
        · rw [upd_ne (nr b o hb)]; exact I1.ok.g b o hb
        · obtain ⟨b, k1, k2⟩ := I1.ok.m k m hk
          have hb : b ≠ l := fun z => by subst z; exact g4 (List.mem_of_getElem? k1)
          exact ⟨b, k1, mo_mono (More.refl _) rfl (upd_ne hb) k2⟩
        · rcases getSet hj with ⟨_, _, z⟩ | ⟨_, hj⟩
          · cases z
          · exact I1.val j d' hj
        · rcases getSet hj with ⟨_, _, z⟩ | ⟨hne, hj⟩
          · cases z
          · obtain ⟨b, k1, k2, k3, k4, k5⟩ := I1.own j o hj
            have hb : b ≠ l := fun z => by
              subst z
              exact hne (I1.ap i j _ o b hds hj h1 k1)
            exact ⟨b, k1, k2, k3, k4, k5.mono (More.refl _) (upd_ne hb)⟩
        · rcases getSet q1 with ⟨_, _, z⟩ | ⟨_, q1⟩
          · cases z
          · rcases getSet q2 with ⟨_, _, z⟩ | ⟨_, q2⟩
            · cases z
            · exact I1.ap j k o u b q1 q2 q3 q4
      have I3 := I2.setO (i := i) (a := l) (o := .lst (ds ++ [d])) h2 g3 g4 ⟨us ++ [v], upd_same, g6.append (.cons r1 .nil)⟩ (fun j u hj q z => by
        rw [List.getElem?_set_ne hj] at q
        exact hj (I1.ap i j _ u l hds q h1 z))
      rw [hs', List.set_set] at I3
      exact I3
    · rw [if_neg hz] at k1
      exact k1.elim
  · exact h.elim
theorem ds_put {a fo fi : Fe} {tpos : Pos} (ha : DE X W e a) (ho : DE X W e1 fo) (hi : DE X W e2 fi) (h1 : ∀ v, assign (.Subscript e1 e2 tpos) X.env v = (do
      let ov ← holding [v] (eval e1 X.env)
      let iv ← holding [v, ov] (eval e2 X.env)
      standAt tpos
      holding [v, ov, iv] (setItem ov iv v)
      release [v, ov, iv] []) := by intro _; rfl)
    (hs : swapsWithSole [.Subscript e1 e2 tpos] e pos.line X.env = pure false := by rfl) (hw : swappedStores [.Subscript e1 e2 tpos] e X.env = pure none := by rfl)
    (h2 : (assignEach [.Subscript e1 e2 tpos] X.env).map (·.2) = [assign (.Subscript e1 e2 tpos) X.env] := by rfl) : DS X W (.Assign [.Subscript e1 e2 tpos] e pos) (sPut a fo fi) := by
  obtain ⟨t, q, s⟩ := ha
  obtain ⟨t', q', s'⟩ := ho
  obtain ⟨t'', q'', s''⟩ := hi
  refine ⟨_, ps_asg q (pg_sub q' q'' set_list h1) hs hw h2, fun env M σ w H w0 H0 B I h => ?_⟩
  refine s env M σ w H w0 H0 _ I (Post.thn I h fun d M1 v w1 H1 x1 I1 r1 k1 => ?_)
  refine s' env M1 σ w1 H1 w0 H0 _ I1 (Post.thn I1 k1 fun c M2 u w2 H2 x2 I2 r2 k2 => ?_)
  refine s'' env M2 σ w2 H2 w0 H0 _ I2 (Post.thn I2 k2 fun z M3 u' w3 H3 x3 I3 r3 k3 => ?_)
  split at k3
  · rename_i k z
    split at k3
    · rename_i ds hds
      split at k3
      · rename_i j hj
        have r2 := r2.mono x3.more
        cases r3
        cases r2 with
        | @ref a0 _ h0 =>
          obtain ⟨b, g1, g2, vs, g3, g4⟩ := I3.ok.mo hds
          rw [h0] at g1
          cases g1
          obtain ⟨o4, x4⟩ := I3.ok.write (o' := .lst (ds.set j d)) (u := .lst (vs.set j v)) hds h0 ⟨_, upd_same, g4.set ((r1.mono x2.more).mono x3.more) j⟩
          exact ⟨a0, vs, z, j, rfl, rfl, g3, by rw [g4.length]; exact hj, k3 σ _ _ (I3.step x4 o4) x4.more⟩
      · exact k3.elim
    · exact k3.elim
  · exact k3.elim
end
end DL
namespace DL
open PySem L2
variable [Wld]
abbrev Fg := D → Env → Option Env
abbrev Fgs := List D → Env → Option Env
def Agree (vs : List Nat) (σ σ' : St) : Prop := σ'.length = σ.length ∧ ∀ j, j ∉ vs → σ'[j]? = σ[j]?
theorem wipe_get {σ : St} {j : Nat} : ∀ {vs : List Nat}, (wipe σ vs)[j]? = if j ∈ vs then (if j < σ.length then some none else none) else σ[j]?
  | [] => by simp [wipe]
  | v :: vs => by
    unfold wipe
    by_cases hj : v = j
    · subst hj
      rw [if_pos List.mem_cons_self]
      by_cases hl : v < σ.length
      · rw [if_pos hl, setAt (by rw [wipe_length]; exact hl)]
      · rw [if_neg hl]
        exact List.getElem?_eq_none_iff.mpr (by rw [List.length_set, wipe_length]; omega)
    · rw [List.getElem?_set_ne hj, wipe_get (vs := vs)]
      have : (j ∈ v :: vs) ↔ j ∈ vs := by simp [Ne.symm hj]
      simp only [this]
theorem Agree.wipe {vs : List Nat} {σ σ' : St} (h : Agree vs σ σ') : L2.wipe σ' vs = L2.wipe σ vs := by
  apply List.ext_getElem?
  intro j
  rw [wipe_get, wipe_get, h.1]
  by_cases hj : j ∈ vs
  · rw [if_pos hj, if_pos hj]
  · rw [if_neg hj, if_neg hj, h.2 j hj]
def SndG (K : PySem.W.Frag) (t : TG) (g : Fg) (vs : List Nat) : Prop := ∀ d v env env' M σ w H w0 H0 Q, EnvOk K w0 H0 w H M env σ → Is K w v d → g d env = some env' → (∀ σ', EnvOk K w0 H0 w H M env' σ' → Agree vs σ σ' → Q σ' H) → t v σ H Q
def SndGs (K : PySem.W.Frag) (t : TGs) (g : Fgs) (vs : List Nat) : Prop := ∀ ds us env env' M σ w H w0 H0 Q, EnvOk K w0 H0 w H M env σ → Iss K w us ds → g ds env = some env' → (∀ σ', EnvOk K w0 H0 w H M env' σ' → Agree vs σ σ' → Q σ' H) → t us σ H Q
def DG (X : Cx) (tg : Expr) (g : Fg) (vs : List Nat) : Prop := ∃ t, PG X tg t ∧ SndG X.K t g vs
def DGs (X : Cx) (tg : List Expr) (g : Fgs) (vs : List Nat) : Prop := ∃ t, PGs X tg t ∧ SndGs X.K t g vs
def gN (i : Nat) : Fg := fun d env => some (env.set i (.val d))
def gT (n : Nat) (g : Fgs) : Fg := fun d env => match d with
  | .tup ds => if ds.length = n then g ds env else none
  | _ => none
def gsN : Fgs := fun ds env => match ds with
  | [] => some env
  | _ :: _ => none
def gsC (g : Fg) (r : Fgs) : Fgs := fun ds env => match ds with
  | d :: ds => (g d env).bind fun env1 => r ds env1
  | [] => none
section
variable {X : Cx} {W : WX} {e e1 e2 : Expr} {es : List Expr} {pos p : Pos}
theorem dg_name (i : Nat) {x : Str} (hN : X.N.Nodup) (hi : X.N[i]? = some x := by rfl) (hx : Loc X.env.scope x := by first | exact Or.inl rfl | exact Or.inr rfl) (hf : X.fn x = true ∨ X.env.scope.names.lookup x = some .local := by first | exact .inl rfl | exact .inr rfl | assumption) :
    DG X (.Name x pos) (gN i) [i] := by
  refine ⟨_, pg_name hN hi hx hf, fun d v env env' M σ w H w0 H0 Q I h q k => ?_⟩
  cases q
  exact k _ (I.set h) ⟨List.length_set .., fun j hj => List.getElem?_set_ne (by simpa using Ne.symm (by simpa using hj))⟩
theorem dgs_nil : DGs X [] gsN [] := by
  refine ⟨_, pgs_nil, fun ds us env env' M σ w H w0 H0 Q I h q k => ?_⟩
  cases h with
  | nil =>
    cases q
    exact ⟨rfl, k σ I ⟨rfl, fun _ _ => rfl⟩⟩
  | cons _ _ => cases q
theorem dgs_cons {g : Fg} {r : Fgs} {v1 v2 : List Nat} (h1 : DG X e g v1) (h2 : DGs X es r v2) (hs : (assignEach (e :: es) X.env).map (·.2) = assign e X.env :: (assignEach es X.env).map (·.2) := by rfl) : DGs X (e :: es) (gsC g r) (v1 ++ v2) := by
  obtain ⟨t, p, s⟩ := h1
  obtain ⟨t', p', s'⟩ := h2
  refine ⟨_, pgs_cons p p' hs, fun ds us env env' M σ w H w0 H0 Q I h q k => ?_⟩
  cases h with
  | nil => cases q
  | @cons v vs d ds hd hds =>
    unfold gsC at q
    cases qg : g d env with
    | none => simp only [qg, Option.bind_none] at q; cases q
    | some env1 =>
      simp only [qg, Option.bind_some] at q
      refine ⟨v, vs, rfl, s d v env env1 M σ w H w0 H0 _ I hd qg fun σ1 I1 a1 => ?_⟩
      refine s' ds vs env1 env' M σ1 w H w0 H0 _ I1 hds q fun σ2 I2 a2 => k σ2 I2 ⟨a2.1.trans a1.1, fun j hj => ?_⟩
      have hj' : j ∉ v1 ∧ j ∉ v2 := by simpa using hj
      rw [a2.2 j hj'.2, a1.2 j hj'.1]
theorem dg_tup {g : Fgs} {vs : List Nat} {k n : Nat} (hc : X.calm = true) (h : DGs X es g vs)
    (hn : (assignEach es X.env).length = n := by rfl) (hst : (assignEach es X.env).findIdx? (·.1) = none := by rfl) : DG X (.Tuple es k pos) (gT n g) vs := by
  obtain ⟨t, p, s⟩ := h
  refine ⟨_, pg_tup hc p hn hst, fun d v env env' M σ w H w0 H0 Q I h q k => ?_⟩
  cases h with
  | @tup a xs ds h1 h2 =>
    unfold gT at q
    by_cases hl : ds.length = n
    · simp only [hl, if_pos] at q
      exact ⟨a, xs, rfl, sqt_mono I.ok.g h1.sq, by rw [h2.length, hl], s ds xs env env' M σ w H w0 H0 Q I h2 q k⟩
    · simp only [if_neg hl] at q; cases q
  | _ => cases q
def sAsg (g : Fg) (a : Fe) : Fs := fun env M => (a env M).thn env fun d M1 => match g d env with
  | some env' => .nx env' M1
  | none => .bad
theorem ds_asg {tg : Expr} {g : Fg} {a : Fe} {vs : List Nat} (ha : DE X W e a) (hg : DG X tg g vs) (hs : swapsWithSole [tg] e pos.line X.env = pure false := by rfl) (hw : swappedStores [tg] e X.env = pure none := by rfl)
    (h1 : (assignEach [tg] X.env).map (·.2) = [assign tg X.env] := by rfl) : DS X W (.Assign [tg] e pos) (sAsg g a) := by
  obtain ⟨t, p, s⟩ := ha
  obtain ⟨t', p', s'⟩ := hg
  refine ⟨_, ps_asg p p' hs hw h1, fun env M σ w H w0 H0 B I h => ?_⟩
  refine s env M σ w H w0 H0 _ I (Post.thn I h fun d M1 v w1 H1 x1 I1 r1 k1 => ?_)
  split at k1
  · rename_i env' q
    exact s' d v env env' M1 σ w1 H1 w0 H0 _ I1 r1 q fun σ' I' _ => k1 σ' w1 H1 I' (More.refl _)
  · exact k1.elim
inductive EV where
  | v (d : D) | o (m : MO)
def EV.sl : EV → Sl
  | .v d => .val d
  | .o m => .own m
abbrev Fx := Env → Sm EV
def xV (a : Fe) : Fx := fun env M => (a env M).bind fun d M1 => .ok (.v d) M1
def xO (a : Fo) : Fx := fun env M => (a env M).bind fun m M1 => .ok (.o m) M1
def RlX (K : PySem.W.Frag) (H : Hp) : Wd → Hp → V → EV → Prop := fun w' H' v x => match x with
  | .v d => Is K w' v d
  | .o m => RlO K H w' H' v m
def SndX (K : PySem.W.Frag) (W : WX) (t : TE) (f : Fx) : Prop := ∀ env M σ w H w0 H0 Q, EnvOk K w0 H0 w H M env σ → Post K (RlX K H) w H σ W Q (f env M) → t σ H Q
def DX (X : Cx) (W : WX) (e : Expr) (f : Fx) : Prop := ∃ t, PE X e t ∧ SndX X.K W t f
theorem dx_v {f : Fe} (h : DE X W e f) : DX X W e (xV f) := by
  obtain ⟨t, p, s⟩ := h
  refine ⟨t, p, fun env M σ w H w0 H0 Q I h => s env M σ w H w0 H0 Q I ?_⟩
  unfold xV at h
  cases q : f env M with
  | ok d M1 => rw [q] at h; exact h
  | ex c ns vs M1 => rw [q] at h; exact h
  | bad => rw [q] at h; exact h
def sPar (i j : Nat) (a b : Fx) : Fs := fun env M => (a env M).thn env fun d M1 => (b env M1).thn env fun e M2 => .nx ((env.set i d.sl).set j e.sl) M2
theorem RlX.step {K : PySem.W.Frag} {H : Hp} {w w' : Wd} {H1 H2 : Hp} {M : Mem} {v : V} {x : EV} (h : RlX K H w H1 v x) (e : Ext w H1 w' H2) : RlX K H w' H2 v x := by
  cases x with
  | v d => exact Is.mono e.more h
  | o m =>
    obtain ⟨a, rfl, h1, h2, h3, h4⟩ := h
    obtain ⟨u, hu, hn⟩ := h4.there'
    refine ⟨a, rfl, h1, ?_, fun z => ?_, h4.mono e.more (by rw [e.keep a u hu h3 hn, hu])⟩
    · cases q : w'.g a with
      | none => rfl
      | some o' =>
        rcases e.gn a o' q h3 with z | z
        · rw [h2] at z; cases z
        · rw [hu] at z; cases z
    · rcases e.rn a z with z | z
      · exact h3 z
      · rw [hu] at z; cases z
theorem ds_par (i j : Nat) {x y : Str} {px py pt : Pos} {kt k2 pt2} {fa fb : Fx} (hc : X.calm = true) (hN : X.N.Nodup) (h1 : DX X W e1 fa) (h2 : DX X W e2 fb) (hi : X.N[i]? = some x := by rfl) (hj : X.N[j]? = some y := by rfl) (hij : i ≠ j := by decide)
    (hx : X.env.scope.names.lookup x = some .local := by rfl) (hy : X.env.scope.names.lookup y = some .local := by rfl)
    (n1 : starEach [e1, e2] X.env = (false, eval e1 X.env) :: starEach [e2] X.env := by rfl) (n2 : starEach [e2] X.env = (false, eval e2 X.env) :: starEach [] X.env := by rfl)
    (hw : swappedStores [.Tuple [.Name x px, .Name y py] kt pt] (.Tuple [e1, e2] k2 pt2) X.env = pure (some [x, y]) := by rfl)
    (hs : swapsWithSole [.Tuple [.Name x px, .Name y py] kt pt] (.Tuple [e1, e2] k2 pt2) pos.line X.env = pure false := by rfl) :
    DS X W (.Assign [.Tuple [.Name x px, .Name y py] kt pt] (.Tuple [e1, e2] k2 pt2) pos) (sPar i j fa fb) := by
  obtain ⟨t, p, s⟩ := h1
  obtain ⟨t', p', s'⟩ := h2
  refine ⟨_, ps_par hc hN hi hj hij hx hy (pa_cons p (pa_cons p' pa_nil n2) n1) hw hs, fun env M σ w H w0 H0 B I h => ?_⟩
  have il : i < X.N.length := (List.getElem?_eq_some_iff.mp hi).1
  refine s env M σ w H w0 H0 _ I ?_
  unfold sPar at h
  cases qa : fa env M with
  | bad => rw [qa] at h; exact h
  | ex c ns vs M1 =>
    rw [qa] at h
    exact fun C dx fs w1 H1 hC x o hd h1 h2 h3 => h σ C dx fs w1 H1 hC (I.step x o) x.more (I.ext.new hd) h1 h2 h3
  | ok d M1 =>
    rw [qa] at h
    intro v w1 H1 x1 o1 r1
    have I1 := I.step x1 o1
    have h : PostS X.K w0 H0 w W B ((fb env M1).thn env fun e M2 => .nx ((env.set i d.sl).set j e.sl) M2) := h
    refine s' env M1 σ w1 H1 w0 H0 _ I1 ?_
    cases qb : fb env M1 with
    | bad => rw [qb] at h; exact h
    | ex c ns vs M2 =>
      rw [qb] at h
      exact fun C dx fs w2 H2 hC x o hd h1 h2 h3 => h σ C dx fs w2 H2 hC (I1.step x o) (x1.more.trans x.more) (I1.ext.new hd) h1 h2 h3
    | ok e M2 =>
      rw [qb] at h
      intro u w2 H2 x2 o2 r2
      refine ⟨v, u, rfl, h _ w2 H2 ?_ (x1.more.trans x2.more)⟩
      have r1' := r1.step (M := M2) x2
      have I2 := I1.step x2 o2
      -- the first, then the second
      have J1 : EnvOk X.K w0 H0 w2 H2 M2 (env.set i d.sl) (σ.set i (some v)) := by
        cases d with
        | v d => exact I2.set r1'
        | o m => exact I.setN (x1.trans x2) o2 r1'
      cases e with
      | v e => exact J1.set r2
      | o m =>
        obtain ⟨b, rfl, g1, g2, g3, g4⟩ := r2
        refine J1.setO (o := m) ?_ g2 g3 g4 fun j' o hj' q z => ?_
        · cases z : H0 b with
          | none => rfl
          | some u => exact absurd g1 (I1.ext.nn b (by rw [z]; simp))
        · rcases getSet z with ⟨rfl, _, z2⟩ | ⟨hij', z2⟩
          · -- the first one's address was there when the second was made
            cases z2
            rcases getSet q with ⟨_, _, q2⟩ | ⟨q2, _⟩
            · cases d with
              | v d => cases q2
              | o m' =>
                obtain ⟨c, hc, _, _, _, k4⟩ := r1
                cases hc
                obtain ⟨p, hp⟩ := k4.there
                rw [g1] at hp; cases hp
            · exact q2 rfl
          · rcases getSet q with ⟨rfl, _, _⟩ | ⟨_, q2⟩
            · exact hij' rfl
            · obtain ⟨c, k1, _, _, _, k5⟩ := I1.own j' o q2
              rw [k1] at z2
              cases z2
              obtain ⟨p, hp⟩ := k5.there
              rw [g1] at hp; cases hp
end
end DL
namespace DL
open PySem L2
variable [Wld]
structure ItOk (K : PySem.W.Frag) (J : It) (w : Wd) (ds : List D) : Prop where
  go : ∀ i H, i < ds.length → (∀ a o, w.g a = some o → H a = some o) → J.go i H
  stop : ∀ i H, ds.length ≤ i → (∀ a o, w.g a = some o → H a = some o) → J.stop i H
  yld : ∀ i H v H' d, ds[i]? = some d → J.yld i H v H' → ∀ w1 M, More w w1 → Ok K w1 H M → ∃ w2, Ext w1 H w2 H' ∧ Ok K w2 H' M ∧ Is K w2 v d
def RlI (K : PySem.W.Frag) : Wd → Hp → It → List D → Prop := fun w _ J ds => ItOk K J w ds
def SndI (K : PySem.W.Frag) (W : WX) (t : TI) (f : Fa) : Prop := ∀ env M σ w H w0 H0 Q, EnvOk K w0 H0 w H M env σ → Post K (RlI K) w H σ W Q (f env M) → t σ H Q
def DI (X : Cx) (W : WX) (tg e : Expr) (f : Fa) : Prop := ∃ t, PI X tg e t ∧ SndI X.K W t f
def iSeq (a : Fe) : Fa := fun env M => (a env M).bind fun d M1 => match d with
  | .tup ds => .ok ds M1
  | .lst ds => .ok ds M1
  | .rl ds => .ok ds M1
  | _ => .bad
def inRange (j : Int) : Bool := decide (-(2 ^ 62) ≤ j) && decide (j < 2 ^ 62)
def rngD (lo : Int) (n : Nat) : List D := (List.range n).map fun i => D.int (lo + (i : Nat))
def iRange1 (a : Fa) : Fa := fun env M => (a env M).bind fun ds M1 => match ds with
  | [.int j] => if inRange j = true then .ok (rngD 0 j.toNat) M1 else .bad
  | _ => .bad
def iRange2 (a : Fa) : Fa := fun env M => (a env M).bind fun ds M1 => match ds with
  | [.int i, .int j] => if (inRange i && inRange j) = true then .ok (rngD i (j - i).toNat) M1 else .bad
  | _ => .bad
theorem itok_tup {K : PySem.W.Frag} {w : Wd} {a : Addr} {vs : List V} {ds : List D} (h : SqT K w.g a vs) (hs : Iss K w vs ds) : ItOk K (Itt K a) w ds := by
  refine ⟨fun i H hi hg => ?_, fun i H hi hg => ⟨vs, sqt_mono hg h, by rw [hs.length]; exact hi⟩, fun i H v H' d hd y w1 M m o => ?_⟩
  · obtain ⟨v, hv, _⟩ := hs.get (List.getElem?_eq_getElem hi)
    exact ⟨vs, v, sqt_mono hg h, hv⟩
  · obtain ⟨rfl, y⟩ := y
    obtain ⟨u, hu, iu⟩ := hs.get hd
    have e := y vs (sqt_mono (fun b p hb => o.g b p (m.g b p hb)) h)
    rw [hu] at e
    cases e
    exact ⟨w1, .refl _ _, o, iu.mono m⟩
section
variable {X : Cx} {W : WX} {e e1 e2 tg : Expr} {es : List Expr} {pos p : Pos}
theorem pi_seq {l : Expr} {tl : TE} (hl : PE X l tl) : PI X tg l (fun σ H R => tl σ H fun x H1 => ∃ a, x = .ref a ∧ ((∃ xs, SqL X.K H1 a xs ∧ R (Itl X.K a) H1) ∨ (∃ xs, SqT X.K H1 a xs ∧ R (Itt X.K a) H1))) := by
  refine ⟨fun pins s σ H R I h => ?_⟩
  refine thn (hl.run pins s σ H _ I h) fun v s1 ⟨x, H1, I1, r1, q1⟩ => ?_
  obtain ⟨a, e, q⟩ := q1
  subst e
  cases r1
  rcases q with ⟨xs, hq, q⟩ | ⟨xs, hq, q⟩
  · obtain ⟨its, rv, p, hz⟩ := I1.list hq
    refine wpAny_pyIter_list p.isList ?_
    refine ⟨s1.heap.objs.size, [s1.heap.objs.size], _, _, H1, rfl, I1.kept (t' := s1.toks) fun b o e => Heap.get?_push_of_some _ e, turn_list a _, ⟨_, Heap.get?_push_size _ rfl, rfl, rfl⟩, fun b hb => ?_, q⟩
    have e : b = s1.heap.objs.size := by simpa using hb
    subst e
    exact I1.fpOk (Nat.le_refl _) (I1.hok.fresh (Nat.le_refl _))
  · obtain ⟨its, rv, p, hz⟩ := I1.tuple hq
    refine wpAny_pyIter_tuple (show s1.heap.IsTuple a its.toArray from p) ?_
    refine ⟨s1.heap.objs.size, [s1.heap.objs.size], _, _, H1, rfl, I1.kept (t' := s1.toks) fun b o e => Heap.get?_push_of_some _ e, turn_tuple a _, ⟨_, Heap.get?_push_size _ rfl, rfl, rfl⟩, fun b hb => ?_, q⟩
    have e : b = s1.heap.objs.size := by simpa using hb
    subst e
    exact I1.fpOk (Nat.le_refl _) (I1.hok.fresh (Nat.le_refl _))
theorem itok_list' {K : PySem.W.Frag} {w : Wd} {a : Addr} {vs : List V} {ds : List D} (h : w.g a = some (.lst vs) ∨ SqL K w.g a vs) (hs : Iss K w vs ds) : ItOk K (Itl K a) w ds := by
  have h : SqL K w.g a vs := h.elim (fun z => .inl (.inl z)) id
  refine ⟨fun i H hi hg => ?_, fun i H hi hg => ⟨vs, sql_mono hg h, by rw [hs.length]; exact hi⟩, fun i H v H' d hd y w1 M m o => ?_⟩
  · obtain ⟨v, hv, _⟩ := hs.get (List.getElem?_eq_getElem hi)
    exact ⟨vs, v, sql_mono hg h, hv⟩
  · obtain ⟨rfl, y⟩ := y
    obtain ⟨u, hu, iu⟩ := hs.get hd
    have e := y vs (sql_mono (fun b p hb => o.g b p (m.g b p hb)) h)
    rw [hu] at e
    cases e
    exact ⟨w1, .refl _ _, o, iu.mono m⟩
theorem di_seq {a : Fe} (h : DE X W e a) : DI X W tg e (iSeq a) := by
  obtain ⟨t, p, s⟩ := h
  refine ⟨_, pi_seq p, fun env M σ w H w0 H0 Q I h => ?_⟩
  refine s env M σ w H w0 H0 _ I (Post.bind h fun d M1 v w1 H1 x1 o1 r1 k1 => ?_)
  cases r1 with
  | @tup a xs ds h1 h2 => exact ⟨a, rfl, .inr ⟨xs, sqt_mono o1.g h1.sq, k1 _ w1 H1 (.refl _ _) o1 (itok_tup h1.sq h2)⟩⟩
  | @lst a xs ds h1 h2 => exact ⟨a, rfl, .inl ⟨xs, .inl (.inl (o1.g _ _ h1)), k1 _ w1 H1 (.refl _ _) o1 (itok_list' (.inl h1) h2)⟩⟩
  | @rl a xs ds h1 h2 => exact ⟨a, rfl, .inl ⟨xs, sql_mono o1.g h1, k1 _ w1 H1 (.refl _ _) o1 (itok_list' (.inr h1) h2)⟩⟩
  | _ => exact k1.elim
def RS.turn (r : RS) (f : Fs) : RS := match r with
  | .nx env M => f env M
  | .ct env M => f env M
  | .bk env M => .nx env M
  | .rt d M => .rt d M
  | .ex c ns vs env M => .ex c ns vs env M
  | .bad => .bad
def forL (g : Fg) (b : Fs) : List D → Fs
  | [], env, M => .nx env M
  | d :: ds, env, M => match g d env with
    | none => .bad
    | some env1 => (b env1 M).turn (forL g b ds)
def sFor (it : Fa) (g : Fg) (b : Fs) : Fs := fun env M => (it env M).thn env fun ds M1 => forL g b ds env M1
theorem PostS.turn {K : PySem.W.Frag} {w0 w : Wd} {H0 : Hp} {W : WX} {B : Ends} {r : RS} {f : Fs} {N : St → Hp → Prop} (h : PostS K w0 H0 w W B (r.turn f)) (k : ∀ env M σ' w' H', EnvOk K w0 H0 w' H' M env σ' → More w w' → PostS K w0 H0 w W B (f env M) → N σ' H') :
    PostS K w0 H0 w W { B with nx := N, ct := N, bk := B.nx } r := by
  cases r with
  | nx env' M' => exact fun σ' w' H' I m => k env' M' σ' w' H' I m h
  | ct env' M' => exact fun σ' w' H' I m => k env' M' σ' w' H' I m h
  | bk env' M' => exact h
  | rt d M' => exact h
  | ex c ns ds env' M' => exact h
  | bad => exact h
theorem ds_for {body : List Stmt} {it : Fa} {g : Fg} {f : Fs} {vs : List Nat} (hp : PassesOwn (model X.prog X.w) X.A X.env X.xe) (hc : X.calm = true) (hi : DI X W tg e it) (hg : DG X tg g vs) (hb : DSs X W body f)
    (hs : ∀ x, foldedSetIterable e X.env x = pure x := by intro _; rfl) : DS X W (.For tg e body [] pos) (sFor it g f) := by
  obtain ⟨ti, pi, si⟩ := hi
  obtain ⟨t1, p1, s1⟩ := hg
  obtain ⟨tb, pb, sb⟩ := hb
  refine ⟨_, ps_for hp hc pi p1 pb hs, fun env M σ w H w0 H0 B I h => ?_⟩
  refine si env M σ w H w0 H0 _ I (Post.thn I h fun ds M1 J w1 H1 x1 I1 J1 k1 => ?_)
  refine ⟨fun i m σ' H' => m = ds.length - i ∧ i ≤ ds.length ∧ ∃ env' M' w', EnvOk X.K w0 H0 w' H' M' env' σ' ∧ More w1 w' ∧ PostS X.K w0 H0 w1 W B (forL g f (ds.drop i) env' M'),
    ⟨ds.length, by simp, Nat.zero_le _, env, M1, w1, I1, More.refl _, by rw [List.drop_zero]; exact k1⟩, ?_⟩
  rintro i m σ' H' ⟨rfl, hi, env', M', w', I', m', k'⟩
  by_cases hlt : i < ds.length
  · right
    refine ⟨J1.go i H' hlt fun a o q => I'.ok.g a o (m'.g a o q), fun σ2 H2 => ∃ m, m < ds.length - i ∧ (m = ds.length - (i + 1) ∧ i + 1 ≤ ds.length ∧ ∃ env2 M2 w2, EnvOk X.K w0 H0 w2 H2 M2 env2 σ2 ∧ More w1 w2 ∧ PostS X.K w0 H0 w1 W B (forL g f (ds.drop (i + 1)) env2 M2)), fun σ2 H2 z => z, fun x H2 y => ?_⟩
    have hd : ds[i]? = some ds[i] := List.getElem?_eq_getElem hlt
    obtain ⟨w2, x2, o2, i2⟩ := J1.yld i H' x H2 _ hd y w' M' m' I'.ok
    have I2 := I'.step x2 o2
    have m2 := m'.trans x2.more
    rw [List.drop_eq_getElem_cons hlt] at k'
    unfold forL at k'
    cases qg : g ds[i] env' with
    | none => rw [qg] at k'; exact k'.elim
    | some env2 =>
      rw [qg] at k'
      refine s1 _ x env' env2 M' σ' w2 H2 w0 H0 _ I2 i2 qg fun σ3 I3 _ => ?_
      refine sb env2 M' σ3 w2 H2 w0 H0 _ I3 (PostS.shift m2 (PostS.turn k' fun env4 M4 σ4 w4 H4 I4 m4 h4 => ?_))
      exact ⟨_, by omega, rfl, hlt, env4, M4, w4, I4, m4, h4⟩
  · left
    have e : i = ds.length := by omega
    subst e
    rw [List.drop_length] at k'
    exact ⟨J1.stop _ H' (Nat.le_refl _) fun a o q => I'.ok.g a o (m'.g a o q), k' σ' w' H' I' m'⟩
def whL (c : Ft) (b : Fs) : Nat → Fs
  | 0, _, _ => .bad
  | n + 1, env, M => (c env M).thn env fun t M1 => if t = true then (b env M1).turn (whL c b n) else .nx env M1
def sWh (fuel : Env → Mem → Nat) (c : Ft) (b : Fs) : Fs := fun env M => whL c b (fuel env M) env M
theorem ds_wh (fuel : Env → Mem → Nat) {c : Expr} {body : List Stmt} {t : Ft} {f : Fs} (hp : PassesOwn (model X.prog X.w) X.A X.env X.xe) (hc : DT X W c t) (hb : DSs X W body f) : DS X W (.While c body [] pos) (sWh fuel t f) := by
  obtain ⟨tc, pc, sc⟩ := hc
  obtain ⟨tb, pb, sb⟩ := hb
  refine ⟨_, ps_while hp pc pb, fun env M σ w H w0 H0 B I h => ?_⟩
  refine ⟨fun m σ' H' => ∃ env' M' w', EnvOk X.K w0 H0 w' H' M' env' σ' ∧ PostS X.K w0 H0 w' W B (whL t f m env' M'), ⟨fuel env M, env, M, w, I, h⟩, ?_⟩
  rintro m σ' H' ⟨env', M', w', I', k'⟩
  cases m with
  | zero => exact k'.elim
  | succ m =>
    unfold whL at k'
    refine sc env' M' σ' w' H' w0 H0 _ I' (Post.thn I' k' fun b M1 v w1 H1 x1 I1 r1 k1 => ?_)
    have r1 : v = b := r1
    subst r1
    cases v with
    | false => exact k1 σ' w1 H1 I1 (More.refl _)
    | true =>
      refine ⟨fun σ2 H2 => ∃ m2, m2 < m + 1 ∧ ∃ env2 M2 w2, EnvOk X.K w0 H0 w2 H2 M2 env2 σ2 ∧ PostS X.K w0 H0 w2 W B (whL t f m2 env2 M2), fun σ2 H2 z => z, ?_⟩
      have k1 : PostS X.K w0 H0 w1 W B ((f env' M1).turn (whL t f m)) := k1
      exact sb env' M1 σ' w1 H1 w0 H0 _ I1 (PostS.turn k1 fun env4 M4 σ4 w4 H4 I4 m4 h4 => ⟨m, Nat.lt_succ_self _, env4, M4, w4, I4, PostS.shift m4 h4⟩)
theorem EnvOk.wipe {K : PySem.W.Frag} {w0 w : Wd} {H0 H : Hp} {M : Mem} {env : Env} {σ : St} (x : EnvOk K w0 H0 w H M env σ) : ∀ vs : List Nat, EnvOk K w0 H0 w H M (vs.foldr (fun i e => e.set i .no) env) (L2.wipe σ vs)
  | [] => x
  | v :: vs => by
    have y := EnvOk.wipe x vs
    show EnvOk K w0 H0 w H M ((vs.foldr (fun i e => e.set i .no) env).set v .no) ((L2.wipe σ vs).set v none)
    refine ⟨y.ext, y.ok, by rw [List.length_set, List.length_set, y.len], fun j e q => ?_, fun j u q => ?_, fun j k u u' b q1 q2 q3 q4 => ?_⟩
    · rcases getSet q with ⟨_, _, z⟩ | ⟨hj, q⟩
      · cases z
      · obtain ⟨a, h1, h2⟩ := y.val j e q
        exact ⟨a, by rw [List.getElem?_set_ne hj]; exact h1, h2⟩
    · rcases getSet q with ⟨_, _, z⟩ | ⟨hj, q⟩
      · cases z
      · obtain ⟨a, h1, h2⟩ := y.own j u q
        exact ⟨a, by rw [List.getElem?_set_ne hj]; exact h1, h2⟩
    · rcases getSet q1 with ⟨_, _, z⟩ | ⟨hj, p1⟩
      · cases z
      · rcases getSet q2 with ⟨_, _, z⟩ | ⟨hk, p2⟩
        · cases z
        · rw [List.getElem?_set_ne hj] at q3
          rw [List.getElem?_set_ne hk] at q4
          exact y.ap j k u u' b p1 p2 q3 q4
def wipeE (env : Env) (vs : List Nat) : Env := vs.foldr (fun i e => e.set i .no) env
def R.nox {α : Type} (x : R α) : R α := match x with
  | .ok a M => .ok a M
  | _ => .bad
theorem Ok.own {K : PySem.W.Frag} {w : Wd} {H : Hp} {M : Mem} {a : Addr} {u : HO} (x : Ok K w H M) (h1 : w.g a = none) (h2 : a ∉ w.r) {v : HO} (h3 : H a = some v) (h4 : PlainO v := by exact plain_lst) : Ok K w (upd H a u) M := by
  refine ⟨fun b p hb => ?_, fun k m hk => ?_, x.nd, x.len, tabs_upd x.tt h3 h4, x.gt⟩
  · rw [upd_ne (by rintro rfl; rw [h1] at hb; cases hb)]; exact x.g _ _ hb
  · obtain ⟨b, g1, g2⟩ := x.m k m hk
    have hb : b ≠ a := fun z => by subst z; exact h2 (List.mem_of_getElem? g1)
    exact ⟨b, g1, mo_mono (More.refl _) rfl (upd_ne hb) g2⟩
theorem Ext.own {w0 w : Wd} {H0 H : Hp} {a : Addr} {u : HO} (x : Ext w0 H0 w H) (h : H0 a = none) : Ext w0 H0 w (upd H a u) := by
  refine ⟨x.r, x.g, fun b p hb hr hn => ?_, fun b hb => ?_, x.gx, x.rn, fun b ps hb => ?_⟩
  · rw [upd_ne (by rintro rfl; rw [h] at hb; cases hb)]; exact x.keep b p hb hr hn
  · by_cases z : b = a
    · subst z; rw [upd_same]; simp
    · rw [upd_ne z]; exact x.nn b hb
  · rw [upd_ne (by rintro rfl; rw [h] at hb; cases hb)]; exact x.tb b ps hb
def lcL (g : Fg) (t : Ft) (f : Fe) (env : Env) : List D → Mem → R (List D)
  | [], M => .ok [] M
  | d :: ds, M => match g d env with
    | none => .bad
    | some env1 => (t env1 M).nox.bind fun c M1 => if c = true then (f env1 M1).nox.bind fun x M2 => (lcL g t f env ds M2).bind fun xs M3 => .ok (x :: xs) M3 else lcL g t f env ds M1
def oLc (it : Fa) (g : Fg) (t : Ft) (f : Fe) (vs : List Nat) : Fo := fun env M => (it env M).bind fun ds M1 => if small ds.length = true then (lcL g t f (wipeE env vs) ds M1).bind fun xs M2 => .ok (.lst xs) M2 else .bad
def tYesF : Ft := fun _ M => .ok true M
abbrev W0 : WX := fun _ _ _ _ => False
def tE (K : PySem.W.Frag) (W : WX) (f : Fe) : TE := fun σ H Q => ∃ env M w w0 H0, EnvOk K w0 H0 w H M env σ ∧ Post K (RlE K) w H σ W Q (f env M)
def tT (K : PySem.W.Frag) (W : WX) (f : Ft) : TT := fun σ H Q => ∃ env M w w0 H0, EnvOk K w0 H0 w H M env σ ∧ Post K RlT w H σ W Q (f env M)
def tG (K : PySem.W.Frag) (g : Fg) (vs : List Nat) : TG := fun v σ H Q => ∃ d env env' M w w0 H0, EnvOk K w0 H0 w H M env σ ∧ Is K w v d ∧ g d env = some env' ∧ ∀ σ', EnvOk K w0 H0 w H M env' σ' → Agree vs σ σ' → Q σ' H
theorem DE.pe {f : Fe} (h : DE X W e f) : PE X e (tE X.K W f) := by
  obtain ⟨t, p, s⟩ := h
  exact ⟨fun pins s1 σ H Q I ⟨env, M, w, w0, H0, k, q⟩ => p.run pins s1 σ H Q I (s env M σ w H w0 H0 Q k q)⟩
theorem DT.pt {f : Ft} (h : DT X W e f) : PT X e (tT X.K W f) := by
  obtain ⟨t, p, s⟩ := h
  exact ⟨fun pins s1 σ H Q I ⟨env, M, w, w0, H0, k, q⟩ => p.run pins s1 σ H Q I (s env M σ w H w0 H0 Q k q)⟩
theorem DG.pg {g : Fg} {vs : List Nat} (h : DG X tg g vs) : PG X tg (tG X.K g vs) := by
  obtain ⟨t, p, s⟩ := h
  exact ⟨fun pins s1 σ H v u Q I r ⟨d, env, env', M, w, w0, H0, k, i, q, z⟩ => p.run pins s1 σ H v u Q I r (s d v env env' M σ w H w0 H0 Q k i q z)⟩
def DTs (X : Cx) (ifs : List Expr) (f : Ft) : Prop := ∃ t, PTs X ifs t ∧ SndT X.K W0 t f
theorem dts_nil : DTs X [] tYesF := ⟨_, pts_nil, fun env M σ w H w0 H0 Q I h => h true w H (.refl _ _) I.ok rfl⟩
theorem dts_one {f : Ft} (h : DT X W0 e f) : DTs X [e] f := by
  obtain ⟨t, p, s⟩ := h
  exact ⟨_, pts_one p, s⟩
theorem DTs.pts {ifs : List Expr} {f : Ft} (h : DTs X ifs f) : PTs X ifs (tT X.K W0 f) := by
  obtain ⟨t, p, s⟩ := h
  exact ⟨fun pins s1 σ H Q I ⟨env, M, w, w0, H0, k, q⟩ => p.run pins s1 σ H Q I (s env M σ w H w0 H0 Q k q)⟩
theorem snd_lc {K : PySem.W.Frag} {ti : TI} {it : Fa} {g : Fg} {t : Ft} {f : Fe} {vs : List Nat} (si : SndI K W ti it) : SndO K W (tLc ti (tG K g vs) (tT K W0 t) (tE K W0 f) vs) (oLc it g t f vs) := fun env M σ w H w0 H0 Q I h => by
  refine si env M σ w H w0 H0 _ I ?_
  unfold oLc at h
  cases qi : it env M with
  | bad => rw [qi] at h; exact h
  | ex c ns us M1 => rw [qi] at h; exact h
  | ok ds M1 =>
    rw [qi, R.bind_ok] at h
    intro J w1 H1 x1 o1 J1 a ha
    by_cases hz : small ds.length = true
    · rw [if_pos hz] at h
      have ha0 : H a = none := by
        cases z : H a with
        | none => rfl
        | some u => exact absurd ha (x1.nn a (by rw [z]; simp))
      obtain ⟨o2, x2⟩ := o1.put (o := .lst []) ha
      obtain ⟨n1, n2⟩ := o1.new ha
      refine ⟨fun i m H' => m = ds.length - i ∧ i ≤ ds.length ∧ ∃ M' w' us acc, Ext w H w' H' ∧ More w1 w' ∧ Ok K w' H' M' ∧ w'.g a = none ∧ a ∉ w'.r ∧ H' a = some (.lst us) ∧ Iss K w' us acc ∧ acc.length ≤ i ∧
        Post K (RlO K H) w H σ W Q ((lcL g t f (wipeE env vs) (ds.drop i) M').bind fun xs M2 => .ok (.lst (acc ++ xs)) M2),
        ⟨ds.length, by simp, Nat.zero_le _, M1, w1, [], [], x1.trans x2, More.refl _, o2, n1, n2, upd_same, .nil, Nat.le_refl _, by rw [List.drop_zero]; exact h⟩, ?_⟩
      rintro i m H' ⟨rfl, hi, M', w', us, acc, xx, mm, o', g', r', h', i', l', k'⟩
      by_cases hlt : i < ds.length
      · right
        refine ⟨J1.go i H' hlt fun b p q => o'.g b p (mm.g b p q), fun H2 => ∃ m, m < ds.length - i ∧ (m = ds.length - (i + 1) ∧ i + 1 ≤ ds.length ∧ ∃ M2 w2 us2 acc2, Ext w H w2 H2 ∧ More w1 w2 ∧ Ok K w2 H2 M2 ∧ w2.g a = none ∧ a ∉ w2.r ∧ H2 a = some (.lst us2) ∧ Iss K w2 us2 acc2 ∧ acc2.length ≤ i + 1 ∧
          Post K (RlO K H) w H σ W Q ((lcL g t f (wipeE env vs) (ds.drop (i + 1)) M2).bind fun xs M2 => .ok (.lst (acc2 ++ xs)) M2)), fun H2 z => z, fun x H2 y => ?_⟩
        have hd : ds[i]? = some ds[i] := List.getElem?_eq_getElem hlt
        obtain ⟨w2, y2, o2', i2⟩ := J1.yld i H' x H2 _ hd y w' M' mm o'
        -- what a step leaves of the list that grows
        have keepA : ∀ {w3 w4 : Wd} {H3 H4 : Hp}, w3.g a = none → a ∉ w3.r → H3 a = some (.lst us) → Ext w3 H3 w4 H4 → w4.g a = none ∧ a ∉ w4.r ∧ H4 a = some (.lst us) := fun {w3 w4 H3 H4} e1 e2 e3 e4 => by
          refine ⟨?_, fun z => ?_, e4.keep a _ e3 e2 (fun _ z => by cases z)⟩
          · cases z : w4.g a with
            | none => rfl
            | some p =>
              rcases e4.gn a p z e2 with z | z
              · rw [e1] at z; cases z
              · rw [e3] at z; cases z
          · rcases e4.rn a z with z | z
            · exact e2 z
            · rw [e3] at z; cases z
        obtain ⟨g2, r2, h2⟩ := keepA g' r' h' y2
        rw [List.drop_eq_getElem_cons hlt] at k'
        unfold lcL at k'
        have I2 : EnvOk K w0 H0 w2 H2 M' (wipeE env vs) (L2.wipe σ vs) := (I.wipe vs).step (xx.trans y2) o2'
        cases qg : g ds[i] (wipeE env vs) with
        | none => rw [qg] at k'; exact k'.elim
        | some env2 =>
          rw [qg] at k'
          refine ⟨ds[i], wipeE env vs, env2, M', w2, w0, H0, I2, i2, qg, fun σ3 I3 ag => ⟨?_, ?_⟩⟩
          · have z := ag.wipe
            rw [z]
            apply List.ext_getElem?
            intro j
            rw [wipe_get, wipe_get, wipe_length]
            by_cases hj : j ∈ vs
            · rw [if_pos hj, if_pos hj]
            · rw [if_neg hj, if_neg hj]
          · have xx2 : Ext w H w2 H2 := xx.trans y2
            refine ⟨env2, M', w2, w0, H0, I3, ?_⟩
            have k2 : Post K (RlO K H) w H σ W Q (((t env2 M').nox.bind fun c M1 => if c = true then (f env2 M1).nox.bind fun x M2 => (lcL g t f (wipeE env vs) (ds.drop (i + 1)) M2).bind fun xs M3 => .ok (x :: xs) M3 else lcL g t f (wipeE env vs) (ds.drop (i + 1)) M1).bind fun xs M2 => .ok (.lst (acc ++ xs)) M2) := k'
            cases qt : t env2 M' with
            | bad => rw [qt] at k2; exact k2
            | ex c ns us' M3 => rw [qt] at k2; exact k2.elim
            | ok c M3 =>
              rw [qt] at k2
              intro v w3 H3 x3 o3 r3
              have r3 : v = c := r3
              subst r3
              obtain ⟨g3, n3, h3⟩ := keepA g2 r2 h2 x3
              have xx3 := xx2.trans x3
              have mm3 := (mm.trans y2.more).trans x3.more
              cases v with
              | false =>
                show ∃ m, _ ∧ _
                exact ⟨_, by omega, rfl, hlt, M3, w3, us, acc, xx3, mm3, o3, g3, n3, h3, i'.mono (y2.more.trans x3.more), by omega, k2⟩
              | true =>
                show tE K W0 f σ3 H3 _
                refine ⟨env2, M3, w3, w0, H0, I3.step x3 o3, ?_⟩
                have k3 : Post K (RlO K H) w H σ W Q (((f env2 M3).nox.bind fun x M2 => (lcL g t f (wipeE env vs) (ds.drop (i + 1)) M2).bind fun xs M3 => .ok (x :: xs) M3).bind fun xs M2 => .ok (.lst (acc ++ xs)) M2) := k2
                cases qf : f env2 M3 with
                | bad => rw [qf] at k3; exact k3
                | ex c ns us' M4 => rw [qf] at k3; exact k3.elim
                | ok z M4 =>
                  rw [qf] at k3
                  intro u w4 H4 x4 o4 r4
                  obtain ⟨g4, n4, h4⟩ := keepA g3 n3 h3 x4
                  have il : us.length = acc.length := i'.length
                  have iu : Iss K w4 (us ++ [u]) (acc ++ [z]) := (i'.mono ((y2.more.trans x3.more).trans x4.more)).append (.cons r4 .nil)
                  refine ⟨us, h4, ?_, _, by omega, rfl, hlt, M4, w4, us ++ [u], acc ++ [z], (xx3.trans x4).own ha0, mm3.trans x4.more, o4.own g4 n4 h4, g4, n4, upd_same, iu, ?_, ?_⟩
                  · have := small_lt hz
                    omega
                  · rw [List.length_append]
                    show acc.length + 1 ≤ i + 1
                    omega
                  · have k4 : Post K (RlO K H) w H σ W Q (((lcL g t f (wipeE env vs) (ds.drop (i + 1)) M4).bind fun xs M3 => .ok (z :: xs) M3).bind fun xs M2 => .ok (.lst (acc ++ xs)) M2) := k3
                    cases ql : lcL g t f (wipeE env vs) (ds.drop (i + 1)) M4 with
                    | bad => rw [ql] at k4; exact k4
                    | ex c ns us' M5 => rw [ql] at k4; exact k4
                    | ok xs M5 =>
                      rw [ql] at k4
                      have e : acc ++ [z] ++ xs = acc ++ z :: xs := by simp
                      show Post K (RlO K H) w H σ W Q (R.ok (MO.lst (acc ++ [z] ++ xs)) M5)
                      rw [e]
                      exact k4
      · left
        have e : i = ds.length := by omega
        subst e
        rw [List.drop_length] at k'
        have k2 : Post K (RlO K H) w H σ W Q (R.ok (MO.lst (acc ++ [])) M') := k'
        rw [List.append_nil] at k2
        exact ⟨J1.stop _ H' (Nat.le_refl _) fun b p q => o'.g b p (mm.g b p q), k2 _ w' H' xx o' ⟨a, rfl, ha0, g', r', us, h', i'⟩⟩
    · rw [if_neg hz] at h; exact h.elim
theorem do_lc {elt : Expr} {ifs : List Expr} {scope : Scope} {own : List (Str × Nat)} {it : Fa} {g : Fg} {t : Ft} {f : Fe} (hc : X.calm = true) (hN : X.N.Nodup) (hi : DI X W tg e it) (ok : BlkOk X.N X.env.scope scope own)
    (hg : ∀ (s : Shared) (H : Hp) (C : Addr) (cl : List (Str × Addr)) (fp : List Addr), DG (X.blk s H scope (compEnvC scope cl C X.env) fp) tg g (own.map (·.2)))
    (ht : ∀ (s : Shared) (H : Hp) (C : Addr) (cl : List (Str × Addr)) (fp : List Addr), DTs (X.blk s H scope (compEnvC scope cl C X.env) fp) ifs t)
    (he : ∀ (s : Shared) (H : Hp) (C : Addr) (cl : List (Str × Addr)) (fp : List Addr), DE (X.blk s H scope (compEnvC scope cl C X.env) fp) W0 elt f) (hs : ∀ x, foldedSetIterable e X.env x = pure x := by intro _; rfl) :
    DO X W (.ListComp elt [⟨tg, e, ifs, 0⟩] scope pos) (oLc it g t f (own.map (·.2))) := by
  obtain ⟨ti, p, si⟩ := hi
  exact ⟨_, pe_lc (g := tG X.K g (own.map (·.2))) (tt := tT X.K W0 t) (te := tE X.K W0 f) hc hN p ok (fun s H C cl fp => (hg s H C cl fp).pg) (fun s H C cl fp => (ht s H C cl fp).pts) (fun s H C cl fp => (he s H C cl fp).pe) hs, snd_lc si⟩
def bodyF (f : Fs) (n : Nat) : Fn := fun ds M => match f (ds.map Sl.val ++ List.replicate (n - ds.length) Sl.no) M with
  | .nx _ M' => .ok .non M'
  | .rt d M' => .ok d M'
  | .ex c ns vs _ M' => .ex c ns vs M'
  | _ => .bad
theorem env_start {K : PySem.W.Frag} {w : Wd} {H : Hp} {M : Mem} {N : List Str} {vs : List V} {ds : List D} (o : Ok K w H M) (h : Iss K w vs ds) : EnvOk K w H w H M (ds.map Sl.val ++ List.replicate (N.length - ds.length) Sl.no) (L2.start N vs) := by
  have noown : ∀ (i : Nat) (m : MO), (ds.map Sl.val ++ List.replicate (N.length - ds.length) Sl.no)[i]? ≠ some (.own m) := fun i m q => by
    rcases List.mem_append.mp (List.mem_of_getElem? q) with z | z
    · obtain ⟨d, _, e⟩ := List.mem_map.mp z
      cases e
    · cases (List.mem_replicate.mp z).2
  refine ⟨.refl _ _, o, ?_, fun i d q => ?_, fun i m q => absurd q (noown i m), fun i j m u a q => absurd q (noown i m)⟩
  · unfold L2.start
    rw [List.length_append, List.length_map, List.length_replicate, List.length_append, List.length_map, List.length_replicate, h.length]
  · by_cases hi : i < ds.length
    · rw [List.getElem?_append_left (by rw [List.length_map]; exact hi), List.getElem?_map] at q
      cases e : ds[i]? with
      | none => rw [e] at q; cases q
      | some d' =>
        rw [e] at q
        cases q
        obtain ⟨v, h1, h2⟩ := h.get e
        refine ⟨v, ?_, h2⟩
        unfold L2.start
        rw [List.getElem?_append_left (by rw [List.length_map, h.length]; exact hi), List.getElem?_map, h1]
        rfl
    · rw [List.getElem?_append_right (by rw [List.length_map]; omega)] at q
      cases (List.mem_replicate.mp (List.mem_of_getElem? q)).2
theorem fn_D {P : Program} {w : World} {K : PySem.W.Frag} {mg : Str → Option Value} {base : Heap} {x qual : Str} {st : Stmt} {fa : Addr} {fd : FuncData} {N ps : List Str} {k n m : Nat} {f : Fs} (F : Fun K x qual st fa fd) (S : FnScope N ps (defScope st)) (hn : ps.length = n) (hm : N.length = m)
    (hb : ∀ (cdv : Value) (A : Around) (outer : List PySem.Env) (s : Shared) (H : Hp) (E : XK), Room k (A.deeper (PyProof.Rows.envOfC qual (defScope st) s.heap.objs.size fa cdv)) →
      DSs (cxOf (CXm μ P w) P w K mg base N qual (defScope st) fa cdv A outer s H E) (fun c d _ H' => E c d H') (defBody st) f) : FnOk P w K mg base (CXm μ P w) (k + 1) fa fd ps (spD K n (bodyF f m)) := by
  subst hn
  subst hm
  obtain ⟨oc, od, kV, doc, pm, an, cdv, ct, osl, rfl, lk, hcd⟩ := F.ex
  refine fn_of lk hcd S spD_len fun A outer s H vs Q E hr h => ?_
  obtain ⟨ds, M, w1, o, i, l, h⟩ := h
  obtain ⟨t, p, sn⟩ := hb cdv A outer s H E hr
  refine ⟨t, p, ?_⟩
  refine sn (ds.map Sl.val ++ List.replicate (N.length - ds.length) Sl.no) M _ w1 H w1 H _ (env_start (N := N) o i) ?_
  unfold bodyF at h
  cases q : f (ds.map Sl.val ++ List.replicate (N.length - ds.length) Sl.no) M with
  | nx env' M' =>
    rw [q] at h
    exact fun σ' w' H' I m => h .non w' H' I.ext I.ok .non
  | rt d M' => rw [q] at h; exact h
  | bk env' M' => rw [q] at h; exact h.elim
  | ct env' M' => rw [q] at h; exact h.elim
  | ex c ns us env' M' =>
    rw [q] at h
    exact fun σ' C dx fs w' H' hC I m hd h1 h2 h3 => h C dx fs w' H' hC I.ext I.ok hd h1 h2 h3
  | bad => rw [q] at h; exact h
def noF : Fn := fun _ _ => .bad
theorem fn_no {P : Program} {w : World} {K : PySem.W.Frag} {mg : Str → Option Value} {base : Heap} {fa : Addr} {fd : FuncData} {ps : List Str} {k n : Nat} (hn : ps.length = n) : FnOk P w K mg base (CXm μ P w) k fa fd ps (spD K n noF) :=
  ⟨fun vs H Q E h => by rw [spD_len vs H Q E h, hn], fun A outer s H args us vs Q E _ _ _ _ h => by
    obtain ⟨ds, M, w1, _, _, _, z⟩ := h
    exact z.elim⟩
end
end DL
namespace DLZ
open PySem
theorem wp_forIn {α β : Type} {M : Model} {A : Around} {E : Value → Shared → Prop} {Q : β → Shared → Prop} {f : α → β → Sem (ForInStep β)} (I : Nat → β → Shared → Prop) : ∀ (l : List α) (n : Nat) (b : β) (s : Shared), I n b s →
    (∀ i a b s, l[i]? = some a → I (n + i) b s → wpAny M A (f a b) (fun r s' => match r with
      | .yield b' => I (n + i + 1) b' s'
      | .done b' => Q b' s') E s) → (∀ b s, I (n + l.length) b s → Q b s) → wpAny M A (forIn l b f) Q E s
  | [], n, b, s, h, _, hd => by
    rw [List.forIn_nil]
    exact wpAny_pure (hd b s h)
  | a :: l, n, b, s, h, hs, hd => by
    rw [List.forIn_cons]
    refine wpAny_bind (wpAny_mono (hs 0 a b s rfl h) (fun r s' hr => ?_) fun _ _ x => x)
    cases r with
    | done b' => exact wpAny_pure hr
    | yield b' =>
      refine wp_forIn I l (n + 1) b' s' hr (fun i a b s ha hi => ?_) fun b s hb => hd b s (by rw [List.length_cons, show n + (l.length + 1) = n + 1 + l.length by omega]; exact hb)
      have e : n + (i + 1) = n + 1 + i := by omega
      have z := hs (i + 1) a b s (by simpa using ha) (by rw [e]; exact hi)
      rw [e] at z
      exact z
def ItAt (h : Heap) (it src : Addr) (b : Bool) (k : Nat) : Prop := if b = true then h.IsTupleIter it src k else h.IsListIter it src k
def SrcAt (h : Heap) (src : Addr) (b : Bool) (xs : Array Value) : Prop := if b = true then h.IsTuple src xs else h.IsList src xs
section
variable {prog : Program} {w : World} {A : Around} {E : Value → Shared → Prop} {s : Shared}
theorem next_item {it l : Addr} {i : Nat} {b : Bool} {items : Array Value} {x : Value} {Q : Value → Shared → Prop} (hit : ItAt s.heap it l b i) (hl : SrcAt s.heap l b items) (hx : items[i]? = some x)
    (hQ : ∀ h', ItAt h' it l b (i + 1) → Heap.SameBut it s.heap h' → Q x { s with heap := h' }) : wpAny (model prog w) A (Builtin.SmallTypes.nextOf (.ref it)) Q E s := by
  cases b with
  | true => exact RZ.nextOf_tuple_item hit hl hx hQ
  | false => exact wpAny_nextOf_list_item hit hl hx hQ
theorem next_end {it l : Addr} {i : Nat} {b : Bool} {items : Array Value} {Q : Value → Shared → Prop} (hh : A.handled = none) (hit : ItAt s.heap it l b i) (hl : SrcAt s.heap l b items) (hx : items[i]? = none)
    (hE : ∀ h' e, Heap.ExtBut it s.heap h' → (∃ o, h'.get? e = some o ∧ o.cls = .type "StopIteration") → E (.ref e) { s with heap := h' }) : wpAny (model prog w) A (Builtin.SmallTypes.nextOf (.ref it)) Q E s := by
  cases b with
  | true => exact RZ.nextOf_tuple_end hh hit hl hx hE
  | false => exact wpAny_nextOf_list_end hh hit hl hx hE
theorem ItAt.keep {h h' : Heap} {it src : Addr} {b : Bool} {k : Nat} (x : ItAt h it src b k) (e : ∀ o, h.get? it = some o → h'.get? it = some o) : ItAt h' it src b k := by
  cases b with
  | true => exact Heap.IsTupleIter.at x e
  | false => exact Heap.IsListIter.at x e
theorem SrcAt.keep {h h' : Heap} {src : Addr} {b : Bool} {xs : Array Value} (x : SrcAt h src b xs) (e : ∀ o, h.get? src = some o → h'.get? src = some o) : SrcAt h' src b xs := by
  cases b with
  | true =>
    obtain ⟨o, h1, h2⟩ := x
    exact ⟨o, e o h1, h2⟩
  | false =>
    obtain ⟨o, h1, h2⟩ := x
    exact ⟨o, e o h1, h2⟩
theorem ItAt.some {h : Heap} {it src : Addr} {b : Bool} {k : Nat} (x : ItAt h it src b k) : ∃ o, h.get? it = some o ∧ ∀ v, o.data ≠ .cell v := by
  cases b with
  | true =>
    obtain ⟨o, h1, h2, h3⟩ := x
    exact ⟨o, h1, fun v q => by rw [h3] at q; cases q⟩
  | false =>
    obtain ⟨o, h1, h2, h3⟩ := x
    exact ⟨o, h1, fun v q => by rw [h3] at q; cases q⟩
structure ZS where
  it : Addr
  src : Addr
  b : Bool
  xs : Array Value
abbrev IsSq (h : Heap) (T : Addr) (vs : Array Value) : Prop := h.get? T = some { cls := .type "tuple", data := .seq vs }
structure Apart (z TI TO : Addr) (S : List ZS) : Prop where
  zTI : TI ≠ z
  zTO : TO ≠ z
  TT : TI ≠ TO
  nd : (S.map (·.it)).Nodup
  iz : ∀ r ∈ S, r.it ≠ z ∧ r.it ≠ TI ∧ r.it ≠ TO
  sz : ∀ r ∈ S, r.src ≠ z ∧ r.src ≠ TO ∧ ∀ q ∈ S, r.src ≠ q.it
def small (S : List ZS) : Prop := S.length ≤ 8
theorem updSq {T : Addr} {vs : Array Value} {x : Value} {k : Nat} {Q : Unit → Shared → Prop} (hT : IsSq s.heap T vs) (hz : vs.size ≤ 8)
    (h : ∀ h', IsSq h' T (vs.setIfInBounds k x) → Heap.SameBut T s.heap h' → Q () { s with heap := h' }) : wpAny (model prog w) A (updateSeq T (·.setIfInBounds k x)) Q E s := by
  refine wpAny_updateSeq hT rfl (h _ ?_ (Heap.SameBut.update ..)) (Nat.le_trans hz (by decide)) (by rw [Array.size_setIfInBounds]; exact Nat.le_trans hz (by decide))
  show Heap.get? _ _ = _
  rw [Heap.get?_update_self _ hT rfl]
  simp [Obj.mapSeq]
structure ZipSt (h : Heap) (z TI TO : Addr) (S : List ZS) (k : Nat) : Prop where
  hz : IsZip h z TI TO .none
  hTI : IsSq h TI (S.map fun r => Value.ref r.it).toArray
  hTO : ∃ vs : Array Value, vs.size = S.length ∧ IsSq h TO vs
  it : ∀ r ∈ S, ItAt h r.it r.src r.b k
structure ZMid (h0 h : Heap) (z TI TO : Addr) (S : List ZS) (k j : Nat) (os : OsState) : Prop where
  hz : IsZip h z TI TO .ellipsis
  hTO : ∃ vs : Array Value, vs.size = S.length ∧ IsSq h TO vs ∧ ∀ i r, i < j → S[i]? = some r → vs[i]? = r.xs[k]?
  it : ∀ i r, S[i]? = some r → ItAt h r.it r.src r.b (if i < j then k + 1 else k)
  keep : ∀ c o, c ≠ z → c ≠ TO → (∀ r ∈ S, c ≠ r.it) → h0.get? c = some o → h.get? c = some o
  sz : h.objs.size = h0.objs.size
theorem get_of {S : List ZS} {i : Nat} {r : ZS} (h : S[i]? = some r) : r ∈ S := List.mem_of_getElem? h
theorem it_inj {S : List ZS} (nd : (S.map (·.it)).Nodup) {i j : Nat} {r q : ZS} (h1 : S[i]? = some r) (h2 : S[j]? = some q) (e : r.it = q.it) : i = j := by
  have g1 : (S.map (·.it))[i]? = some r.it := by rw [List.getElem?_map, h1]; rfl
  have g2 : (S.map (·.it))[j]? = some q.it := by rw [List.getElem?_map, h2]; rfl
  exact (List.getElem?_inj (List.getElem?_eq_some_iff.mp g1).1 nd).mp (by rw [g1, g2, e])
theorem zipN_item {z TI TO : Addr} {S : List ZS} {k : Nat} {Q : Value → Shared → Prop} (D : Apart z TI TO S) (hn : S ≠ []) (h8 : S.length ≤ 8) (st : ZipSt s.heap z TI TO S k) (src : ∀ r ∈ S, SrcAt s.heap r.src r.b r.xs) (hx : ∀ r ∈ S, ∃ x, r.xs[k]? = some x)
    (hQ : ∀ h' vs, IsZip h' z TI TO (rawInt s.heap.objs.size) → IsSq h' TI (S.map fun r => Value.ref r.it).toArray → IsSq h' TO vs → vs.size = S.length → (∀ r ∈ S, ItAt h' r.it r.src r.b (k + 1)) → IsSq h' s.heap.objs.size vs → (∀ (i : Nat) r, S[i]? = some r → vs[i]? = r.xs[k]?) →
      (∀ c o, c ≠ z → c ≠ TO → (∀ r ∈ S, c ≠ r.it) → s.heap.get? c = some o → h'.get? c = some o) → Q (.ref s.heap.objs.size) { s with heap := h' }) :
    wpAny (model prog w) A (Builtin.«zip.__next__» ⟨[.ref z], []⟩) (fun fin s' => ∃ v, fin = .done (.ret v) ∧ Q v s') E s := by
  obtain ⟨hz, hTI, ⟨v0, hv0, hTO⟩, hit⟩ := st
  show wpAny _ _ (field (.ref z) 2 >>= _) _ _ _
  refine wpAny_bind (wpAny_field hz rfl (x := .bool false) rfl ?_)
  show wpAny _ _ (field (.ref z) 3 >>= _) _ _ _
  refine wpAny_bind (wpAny_field hz rfl (x := .ref TI) rfl ?_)
  refine wpAny_bind (wpAny_seqItems hTI rfl ?_)
  have hne : ((S.map fun r => Value.ref r.it).toArray).isEmpty = false := by
    cases S with
    | nil => exact absurd rfl hn
    | cons a l => rfl
  simp only [hne, Bool.false_eq_true, if_false]
  refine wpAny_bind ?_
  unfold Builtin.SmallTypes.ownedTupleIsFree
  refine wpAny_bind (wpAny_field hz rfl (x := .none) rfl (wpAny_pure ?_))
  simp only [if_true]
  refine wpAny_bind (wpAny_rule ?_)
  refine wpAny_bind (wpAny_field hz rfl (x := .ref TO) rfl ?_)
  refine wpAny_bind (wpAny_setField_rec hz (by simp) fun h1 hz1 hs1 => ?_)
  replace hz1 : IsZip h1 z TI TO .ellipsis := hz1
  refine wpAny_bind ?_
  have e1 : ∀ {c : Addr} {o : Obj}, c ≠ z → s.heap.get? c = some o → h1.get? c = some o := fun {c o} hc e => (hs1.2 c hc).trans e
  refine wp_forIn (fun j b s' => b = (none, ()) ∧ ∃ h', s' = { s with heap := h' } ∧ ZMid s.heap h' z TI TO S k j s.os) _ 0 _ _ ⟨rfl, h1, rfl, hz1, ⟨v0, hv0, e1 D.zTO hTO, fun i r hi => absurd hi (Nat.not_lt_zero _)⟩, fun i r hr => ?_, fun c o c1 c2 c3 e => e1 c1 e, hs1.1⟩ ?_ ?_
  · rw [if_neg (Nat.not_lt_zero _)]
    exact (hit r (get_of hr)).keep fun o e => e1 (D.iz r (get_of hr)).1 e
  · rintro j ⟨iv, jj⟩ b s' hj ⟨rfl, h', rfl, m⟩
    rw [Nat.zero_add] at m ⊢
    rw [List.getElem?_zipIdx, List.getElem?_map] at hj
    cases hr : S[j]? with
    | none => rw [hr] at hj; cases hj
    | some r =>
      rw [hr] at hj
      simp at hj
      obtain ⟨rfl, rfl⟩ := hj
      have rS := get_of hr
      obtain ⟨d1, d2, d3⟩ := D.iz r rS
      obtain ⟨x, hxr⟩ := hx r rS
      have ij := m.it j r hr
      rw [if_neg (Nat.lt_irrefl _)] at ij
      have sj : SrcAt h' r.src r.b r.xs := (src r rS).keep fun o e => m.keep r.src o (D.sz r rS).1 (D.sz r rS).2.1 (fun q hq => (D.sz r rS).2.2 q hq) e
      refine wpAny_bind (wpAny_onRaise ?_)
      show wpAny _ _ (Builtin.SmallTypes.nextOf (.ref r.it) >>= _) _ _ _
      refine wpAny_bind (next_item (s := { s with heap := h' }) ij sj hxr fun h2 i2 b2 => wpAny_pure ?_)
      obtain ⟨vs, z1, z2, z3⟩ := m.hTO
      have hTO2 : IsSq h2 TO vs := (b2.2 TO (Ne.symm d3)).trans z2
      refine wpAny_bind (wpAny_seqItems hTO2 rfl ?_)
      refine wpAny_bind (updSq hTO2 (by omega) fun h3 hTO3 b3 => ?_)
      refine wpAny_bind (wpAny_letGo (wpAny_pure ⟨rfl, h3, rfl, ?_⟩))
      have hzz : IsZip h3 z TI TO .ellipsis := (b3.2 z (Ne.symm D.zTO)).trans ((b2.2 z (Ne.symm d1)).trans m.hz)
      refine ⟨hzz, ⟨_, by rw [Array.size_setIfInBounds]; exact z1, hTO3, fun i q hi hq => ?_⟩, fun i q hq => ?_, fun c o c1 c2 c3 e => (b3.2 c c2).trans ((b2.2 c (c3 r rS)).trans (m.keep c o c1 c2 c3 e)), by rw [b3.1, b2.1, m.sz]⟩
      · have hjl : j < vs.size := by rw [z1]; exact (List.getElem?_eq_some_iff.mp hr).1
        by_cases hij : i = j
        · subst hij
          rw [hr] at hq; cases hq
          rw [Array.getElem?_setIfInBounds_self_of_lt hjl, hxr]
        · rw [Array.getElem?_setIfInBounds_ne (Ne.symm hij)]
          exact z3 i q (by omega) hq
      · by_cases hij : i = j
        · subst hij
          rw [hr] at hq; cases hq
          rw [if_pos (Nat.lt_succ_self _)]
          exact i2.keep fun o e => (b3.2 r.it d3).trans e
        · have qi : q.it ≠ r.it := fun e => hij (it_inj D.nd hq hr e)
          have e0 : (if i < j + 1 then k + 1 else k) = (if i < j then k + 1 else k) := by
            by_cases hl : i < j
            · rw [if_pos hl, if_pos (by omega)]
            · rw [if_neg hl, if_neg (by omega)]
          rw [e0]
          exact (m.it i q hq).keep fun o e => (b3.2 q.it (D.iz q (get_of hq)).2.2).trans ((b2.2 q.it qi).trans e)
  · rintro b s' ⟨rfl, h', rfl, m⟩
    obtain ⟨vs, z1, z2, z3⟩ := m.hTO
    have hl : 0 + (List.map (fun r => Value.ref r.it) S).zipIdx.length = S.length := by simp
    rw [hl] at z3
    refine wpAny_bind (wpAny_seqItems z2 rfl ?_)
    refine wpAny_bind (wpAny_newTuple ?_ (by rw [Array.length_toList, z1]; exact Nat.le_trans h8 (by decide)))
    have hsz : h'.objs.size = s.heap.objs.size := m.sz
    have hzlt : z < h'.objs.size := Heap.lt_size m.hz
    show wpAny _ _ (Builtin.SmallTypes.ownedTupleHandOut (.ref z) (.ref h'.objs.size) >>= _) _ _ _
    refine wpAny_bind ?_
    unfold Builtin.SmallTypes.ownedTupleHandOut
    have hz6 : IsZip (h'.push { cls := .type "tuple", data := .seq vs.toList.toArray }) z TI TO .ellipsis := Heap.get?_push_of_some _ m.hz
    refine wpAny_bind (wpAny_setField_rec hz6 (by simp) fun h7 hz7 hs7 => ?_)
    replace hz7 : IsZip h7 z TI TO (rawInt h'.objs.size) := hz7
    refine wpAny_setField_rec hz7 (by simp) fun h8' hz8 hs8 => ?_
    replace hz8 : IsZip h8' z TI TO (rawInt h'.objs.size) := hz8
    have up : ∀ c o, c ≠ z → h'.get? c = some o → h8'.get? c = some o := fun c o c1 e => (hs8.2 c c1).trans ((hs7.2 c c1).trans (Heap.get?_push_of_some _ e))
    have hT8 : IsSq h8' h'.objs.size vs := by
      have q : (h'.push { cls := .type "tuple", data := .seq vs.toList.toArray }).get? h'.objs.size = some { cls := .type "tuple", data := .seq vs.toList.toArray } := Heap.get?_push_size _ rfl
      have q2 := (hs8.2 _ (Nat.ne_of_gt hzlt)).trans ((hs7.2 _ (Nat.ne_of_gt hzlt)).trans q)
      simpa using q2
    refine wpAny_pure ⟨_, rfl, ?_⟩
    show Q (.ref h'.objs.size) _
    rw [hsz] at hz8 hT8 ⊢
    refine hQ h8' vs hz8 ?_ (up _ _ D.zTO z2) z1 (fun r hr => ?_) hT8 (fun i r hr => z3 i r ?_ hr) fun c o c1 c2 c3 e => up c o c1 (m.keep c o c1 c2 c3 e)
    · exact up _ _ D.zTI (m.keep TI _ D.zTI D.TT (fun r hr => Ne.symm (D.iz r hr).2.1) hTI)
    · obtain ⟨i, hi⟩ := List.mem_iff_getElem?.mp hr
      have q := m.it i r hi
      rw [hl, if_pos (List.getElem?_eq_some_iff.mp hi).1] at q
      exact q.keep fun o e => up _ o (D.iz r hr).1 e
    · exact (List.getElem?_eq_some_iff.mp hr).1
theorem zipN_end {z TI TO : Addr} {S : List ZS} {k : Nat} {Q : Fin → Shared → Prop} (hh : A.handled = none) (D : Apart z TI TO S) (hn : S ≠ []) (h8 : S.length ≤ 8) (st : ZipSt s.heap z TI TO S k) (src : ∀ r ∈ S, SrcAt s.heap r.src r.b r.xs) (hx : ∃ r ∈ S, r.xs[k]? = none)
    (hE : ∀ h' e, (∀ c o, c ≠ z → c ≠ TO → (∀ r ∈ S, c ≠ r.it) → s.heap.get? c = some o → h'.get? c = some o) → (∃ o, h'.get? e = some o ∧ o.cls = .type "StopIteration") → E (.ref e) { s with heap := h' }) :
    wpAny (model prog w) A (Builtin.«zip.__next__» ⟨[.ref z], []⟩) Q E s := by
  obtain ⟨hz, hTI, ⟨v0, hv0, hTO⟩, hit⟩ := st
  show wpAny _ _ (field (.ref z) 2 >>= _) _ _ _
  refine wpAny_bind (wpAny_field hz rfl (x := .bool false) rfl ?_)
  show wpAny _ _ (field (.ref z) 3 >>= _) _ _ _
  refine wpAny_bind (wpAny_field hz rfl (x := .ref TI) rfl ?_)
  refine wpAny_bind (wpAny_seqItems hTI rfl ?_)
  have hne : ((S.map fun r => Value.ref r.it).toArray).isEmpty = false := by
    cases S with
    | nil => exact absurd rfl hn
    | cons a l => rfl
  simp only [hne, Bool.false_eq_true, if_false]
  refine wpAny_bind ?_
  unfold Builtin.SmallTypes.ownedTupleIsFree
  refine wpAny_bind (wpAny_field hz rfl (x := .none) rfl (wpAny_pure ?_))
  simp only [if_true]
  refine wpAny_bind (wpAny_rule ?_)
  refine wpAny_bind (wpAny_field hz rfl (x := .ref TO) rfl ?_)
  refine wpAny_bind (wpAny_setField_rec hz (by simp) fun h1 hz1 hs1 => ?_)
  replace hz1 : IsZip h1 z TI TO .ellipsis := hz1
  refine wpAny_bind ?_
  have e1 : ∀ {c : Addr} {o : Obj}, c ≠ z → s.heap.get? c = some o → h1.get? c = some o := fun {c o} hc e => (hs1.2 c hc).trans e
  refine wp_forIn (fun j b s' => b = (none, ()) ∧ ∃ h', s' = { s with heap := h' } ∧ ZMid s.heap h' z TI TO S k j s.os ∧ ∀ i r, i < j → S[i]? = some r → ∃ x, r.xs[k]? = some x) _ 0 _ _ ⟨rfl, h1, rfl, ⟨hz1, ⟨v0, hv0, e1 D.zTO hTO, fun i r hi => absurd hi (Nat.not_lt_zero _)⟩, fun i r hr => ?_, fun c o c1 c2 c3 e => e1 c1 e, hs1.1⟩, fun i r hi => absurd hi (Nat.not_lt_zero _)⟩ ?_ ?_
  · rw [if_neg (Nat.not_lt_zero _)]
    exact (hit r (get_of hr)).keep fun o e => e1 (D.iz r (get_of hr)).1 e
  · rintro j ⟨iv, jj⟩ b s' hj ⟨rfl, h', rfl, m, seen⟩
    rw [Nat.zero_add] at m seen ⊢
    rw [List.getElem?_zipIdx, List.getElem?_map] at hj
    cases hr : S[j]? with
    | none => rw [hr] at hj; cases hj
    | some r =>
      rw [hr] at hj
      simp at hj
      obtain ⟨rfl, rfl⟩ := hj
      have rS := get_of hr
      obtain ⟨d1, d2, d3⟩ := D.iz r rS
      have ij := m.it j r hr
      rw [if_neg (Nat.lt_irrefl _)] at ij
      have sj : SrcAt h' r.src r.b r.xs := (src r rS).keep fun o e => m.keep r.src o (D.sz r rS).1 (D.sz r rS).2.1 (fun q hq => (D.sz r rS).2.2 q hq) e
      refine wpAny_bind (wpAny_onRaise ?_)
      show wpAny _ _ (Builtin.SmallTypes.nextOf (.ref r.it) >>= _) _ _ _
      cases hxr : r.xs[k]? with
      | none =>
        refine wpAny_bind (next_end (s := { s with heap := h' }) hh ij sj hxr fun h2 e b2 he => ?_)
        obtain ⟨oe, hoe, hce⟩ := he
        have hz2 : IsZip h2 z TI TO .ellipsis := b2 _ _ (Ne.symm d1) m.hz
        have hez : e ≠ z := fun x => by subst x; rw [hz2] at hoe; cases hoe; simp at hce
        refine wpAny_setField_rec hz2 (by simp) fun h3 _ b3 => hE h3 e (fun c o c1 c2 c3 x => (b3.2 c c1).trans (b2 c o (c3 r rS) (m.keep c o c1 c2 c3 x))) ⟨oe, (b3.2 e hez).trans hoe, hce⟩
      | some x =>
        refine wpAny_bind (next_item (s := { s with heap := h' }) ij sj hxr fun h2 i2 b2 => wpAny_pure ?_)
        obtain ⟨vs, z1, z2, z3⟩ := m.hTO
        have hTO2 : IsSq h2 TO vs := (b2.2 TO (Ne.symm d3)).trans z2
        refine wpAny_bind (wpAny_seqItems hTO2 rfl ?_)
        refine wpAny_bind (updSq hTO2 (by omega) fun h3 hTO3 b3 => ?_)
        refine wpAny_bind (wpAny_letGo (wpAny_pure ⟨rfl, h3, rfl, ?_, ?_⟩))
        · have hzz : IsZip h3 z TI TO .ellipsis := (b3.2 z (Ne.symm D.zTO)).trans ((b2.2 z (Ne.symm d1)).trans m.hz)
          refine ⟨hzz, ⟨_, by rw [Array.size_setIfInBounds]; exact z1, hTO3, fun i q hi hq => ?_⟩, fun i q hq => ?_, fun c o c1 c2 c3 e => (b3.2 c c2).trans ((b2.2 c (c3 r rS)).trans (m.keep c o c1 c2 c3 e)), by rw [b3.1, b2.1, m.sz]⟩
          · have hjl : j < vs.size := by rw [z1]; exact (List.getElem?_eq_some_iff.mp hr).1
            by_cases hij : i = j
            · subst hij
              rw [hr] at hq; cases hq
              rw [Array.getElem?_setIfInBounds_self_of_lt hjl, hxr]
            · rw [Array.getElem?_setIfInBounds_ne (Ne.symm hij)]
              exact z3 i q (by omega) hq
          · by_cases hij : i = j
            · subst hij
              rw [hr] at hq; cases hq
              rw [if_pos (Nat.lt_succ_self _)]
              exact i2.keep fun o e => (b3.2 r.it d3).trans e
            · have qi : q.it ≠ r.it := fun e => hij (it_inj D.nd hq hr e)
              have e0 : (if i < j + 1 then k + 1 else k) = (if i < j then k + 1 else k) := by
                by_cases hl : i < j
                · rw [if_pos hl, if_pos (by omega)]
                · rw [if_neg hl, if_neg (by omega)]
              rw [e0]
              exact (m.it i q hq).keep fun o e => (b3.2 q.it (D.iz q (get_of hq)).2.2).trans ((b2.2 q.it qi).trans e)
        · intro i q hi hq
          by_cases hij : i = j
          · subst hij
            rw [hr] at hq; cases hq
            exact ⟨x, hxr⟩
          · exact seen i q (by omega) hq
  · rintro b s' ⟨rfl, h', rfl, m, seen⟩
    have hl : 0 + (List.map (fun r => Value.ref r.it) S).zipIdx.length = S.length := by simp
    obtain ⟨r, hr, hr2⟩ := hx
    obtain ⟨i, hi⟩ := List.mem_iff_getElem?.mp hr
    obtain ⟨x, hxx⟩ := seen i r (by rw [hl]; exact (List.getElem?_eq_some_iff.mp hi).1) hi
    rw [hr2] at hxx
    cases hxx
theorem pyNext_item {z TI TO : Addr} {S : List ZS} {k : Nat} {Q : Option Value → Shared → Prop} (D : Apart z TI TO S) (hn : S ≠ []) (h8 : S.length ≤ 8) (st : ZipSt s.heap z TI TO S k) (src : ∀ r ∈ S, SrcAt s.heap r.src r.b r.xs) (hx : ∀ r ∈ S, ∃ x, r.xs[k]? = some x)
    (hQ : ∀ h' vs, IsZip h' z TI TO (rawInt s.heap.objs.size) → IsSq h' TI (S.map fun r => Value.ref r.it).toArray → IsSq h' TO vs → vs.size = S.length → (∀ r ∈ S, ItAt h' r.it r.src r.b (k + 1)) → IsSq h' s.heap.objs.size vs → (∀ (i : Nat) r, S[i]? = some r → vs[i]? = r.xs[k]?) →
      (∀ c o, c ≠ z → c ≠ TO → (∀ r ∈ S, c ≠ r.it) → s.heap.get? c = some o → h'.get? c = some o) → Q (some (.ref s.heap.objs.size)) { s with heap := h' }) :
    wpAny (model prog w) A (pyNext (.ref z)) Q E s := by
  have hT : s.TypeIs (.ref z) "zip" := ⟨_, st.hz, rfl⟩
  unfold pyNext
  exact wpAny_bind (wpAny_attempt (wpAny_callSpecial?_slot (name := Str.ofString "__next__") hT F.slot_zip_next
    (wpAny_call_entry F.slot_zip_next hT F.entry_zip_next
      (zipN_item D hn h8 st src hx fun h' vs a1 a2 a3 a4 a5 a6 a7 a8 => wpAny_pure (hQ h' vs a1 a2 a3 a4 a5 a6 a7 a8)) (F.args_zip_next_1 _))))
theorem pyNext_end {z TI TO : Addr} {S : List ZS} {k : Nat} {Q : Option Value → Shared → Prop} (hh : A.handled = none) (D : Apart z TI TO S) (hn : S ≠ []) (h8 : S.length ≤ 8) (st : ZipSt s.heap z TI TO S k) (src : ∀ r ∈ S, SrcAt s.heap r.src r.b r.xs) (hx : ∃ r ∈ S, r.xs[k]? = none)
    (hQ : ∀ h', (∀ c o, c ≠ z → c ≠ TO → (∀ r ∈ S, c ≠ r.it) → s.heap.get? c = some o → h'.get? c = some o) → Q none { s with heap := h' }) : wpAny (model prog w) A (pyNext (.ref z)) Q E s := by
  have hT : s.TypeIs (.ref z) "zip" := ⟨_, st.hz, rfl⟩
  unfold pyNext
  refine wpAny_bind (wpAny_attempt (wpAny_callSpecial?_slot (name := Str.ofString "__next__") hT F.slot_zip_next
    (wpAny_call_entry F.slot_zip_next hT F.entry_zip_next (zipN_end hh D hn h8 st src hx fun h' e hk he => ?_) (F.args_zip_next_1 _))))
  obtain ⟨o, ho, hc⟩ := he
  refine wpAny_bind (wpAny_isInstance (T := "StopIteration") (b := true) ⟨o, ho, hc⟩ isSubtype_stop ?_)
  exact wpAny_pure (hQ _ hk)
theorem iter_one {src : Addr} {b : Bool} {xs : Array Value} {Q : Value → Shared → Prop} (h : SrcAt s.heap src b xs) (hQ : ∀ h', h'.objs.size = s.heap.objs.size + 1 → (∀ c o, s.heap.get? c = some o → h'.get? c = some o) → ItAt h' s.heap.objs.size src b 0 → Q (.ref s.heap.objs.size) { s with heap := h' }) :
    wpAny (model prog w) A (pyIter (.ref src)) Q E s := by
  cases b with
  | true =>
    refine wpAny_pyIter_tuple (show s.heap.IsTuple src xs from h) (hQ _ (Heap.size_push ..) (fun c o e => Heap.get?_push_of_some _ e) ?_)
    exact ⟨_, Heap.get?_push_size _ rfl, rfl, rfl⟩
  | false =>
    refine wpAny_pyIter_list (show s.heap.IsList src xs from h) (hQ _ (Heap.size_push ..) (fun c o e => Heap.get?_push_of_some _ e) ?_)
    exact ⟨_, Heap.get?_push_size _ rfl, rfl, rfl⟩
theorem newClass_zip (us : List Value) : Builtin.SmallTypes.newClass "zip" ⟨.type "zip" :: us, []⟩ = pure (.type "zip", us) := by
  unfold Builtin.SmallTypes.newClass
  simp only [isType, sub_zip, pure_bind, Bool.not_true, Bool.false_eq_true, if_false]
abbrev PS0 := Addr × Bool × Array Value
def mkS (n : Nat) (ps : List PS0) : List ZS := ps.zipIdx.map fun p => ⟨n + p.2, p.1.1, p.1.2.1, p.1.2.2⟩
theorem mkS_len (n : Nat) (ps : List PS0) : (mkS n ps).length = ps.length := by simp [mkS]
theorem mkS_get {n : Nat} {ps : List PS0} {i : Nat} {p : PS0} (h : ps[i]? = some p) : (mkS n ps)[i]? = some ⟨n + i, p.1, p.2.1, p.2.2⟩ := by
  unfold mkS
  rw [List.getElem?_map, List.getElem?_zipIdx, h]
  simp
theorem mkS_of {n : Nat} {ps : List PS0} {r : ZS} (h : r ∈ mkS n ps) : ∃ i p, ps[i]? = some p ∧ r = ⟨n + i, p.1, p.2.1, p.2.2⟩ := by
  obtain ⟨i, hi⟩ := List.mem_iff_getElem?.mp h
  cases hp : ps[i]? with
  | none =>
    have : ps.length ≤ i := List.getElem?_eq_none_iff.mp hp
    have l : i < (mkS n ps).length := (List.getElem?_eq_some_iff.mp hi).1
    rw [mkS_len] at l
    omega
  | some p =>
    rw [mkS_get hp] at hi
    exact ⟨i, p, hp, (Option.some.inj hi).symm⟩
theorem mkS_apart {n : Nat} {ps : List PS0} (h : ∀ p ∈ ps, @LT.lt Nat _ p.1 n) : Apart (n + ps.length + 2) (n + ps.length) (n + ps.length + 1) (mkS n ps) := by
  have lt : ∀ r ∈ mkS n ps, @LE.le Nat _ n r.it ∧ @LT.lt Nat _ r.it (n + ps.length) ∧ @LT.lt Nat _ r.src n := fun r hr => by
    obtain ⟨i, p, hp, rfl⟩ := mkS_of hr
    have := (List.getElem?_eq_some_iff.mp hp).1
    exact ⟨Nat.le_add_right _ _, Nat.add_lt_add_left this n, h p (List.mem_of_getElem? hp)⟩
  have ne : ∀ {a b : Nat}, a < b → a ≠ b ∧ b ≠ a := fun h => ⟨Nat.ne_of_lt h, Nat.ne_of_gt h⟩
  refine ⟨(ne (by omega)).1, (ne (by omega)).1, (ne (by omega)).1, ?_, fun r hr => ?_, fun r hr => ⟨?_, ?_, fun q hq => ?_⟩⟩
  · have e : (mkS n ps).map (·.it) = (List.range ps.length).map fun i => n + i := by
      apply List.ext_getElem?
      intro i
      rw [List.getElem?_map, List.getElem?_map]
      cases hp : ps[i]? with
      | none =>
        have l : ps.length ≤ i := List.getElem?_eq_none_iff.mp hp
        rw [List.getElem?_eq_none_iff.mpr (by rw [mkS_len]; exact l), List.getElem?_eq_none_iff.mpr (by simpa using l)]
        rfl
      | some p =>
        rw [mkS_get hp, List.getElem?_range (List.getElem?_eq_some_iff.mp hp).1]
        rfl
    rw [e]
    exact List.Pairwise.map _ (fun a b h z => h (Nat.add_left_cancel z)) List.nodup_range
  · obtain ⟨h1, h2, h3⟩ := lt r hr
    exact ⟨(ne (Nat.lt_of_lt_of_le h2 (by omega))).1, (ne h2).1, (ne (Nat.lt_of_lt_of_le h2 (by omega))).1⟩
  · obtain ⟨h1, h2, h3⟩ := lt r hr
    exact (ne (Nat.lt_of_lt_of_le h3 (by omega))).1
  · obtain ⟨h1, h2, h3⟩ := lt r hr
    exact (ne (Nat.lt_of_lt_of_le h3 (by omega))).1
  · obtain ⟨h1, h2, h3⟩ := lt r hr
    obtain ⟨g1, g2, g3⟩ := lt q hq
    exact (ne (Nat.lt_of_lt_of_le h3 g1)).1
theorem iter_all {ps : List PS0} {Q : List Value → Shared → Prop} (src : ∀ p ∈ ps, SrcAt s.heap p.1 p.2.1 p.2.2)
    (hQ : ∀ h', h'.objs.size = s.heap.objs.size + ps.length → (∀ c o, s.heap.get? c = some o → h'.get? c = some o) → (∀ r ∈ mkS s.heap.objs.size ps, ItAt h' r.it r.src r.b 0) → Q ((mkS s.heap.objs.size ps).map fun r => Value.ref r.it) { s with heap := h' }) :
    wpAny (model prog w) A (Builtin.SmallTypes.iterAll (ps.map fun p => Value.ref p.1)) Q E s := by
  unfold Builtin.SmallTypes.iterAll
  refine wpAny_bind ?_
  refine wp_forIn (fun j b s' => b = (((mkS s.heap.objs.size ps).map fun r => Value.ref r.it).take j).toArray ∧ ∃ h', s' = { s with heap := h' } ∧ h'.objs.size = s.heap.objs.size + j ∧ (∀ c o, s.heap.get? c = some o → h'.get? c = some o) ∧
    ∀ i r, i < j → (mkS s.heap.objs.size ps)[i]? = some r → ItAt h' r.it r.src r.b 0) _ 0 _ _ ⟨by simp, s.heap, rfl, rfl, fun _ _ e => e, fun i r hi => absurd hi (Nat.not_lt_zero _)⟩ ?_ ?_
  · rintro j u b s' hj ⟨rfl, h', rfl, hz, kp, its⟩
    rw [Nat.zero_add] at hz its ⊢
    rw [List.getElem?_map] at hj
    cases hp : ps[j]? with
    | none => rw [hp] at hj; cases hj
    | some p =>
      rw [hp] at hj
      have hj : Value.ref p.1 = u := Option.some.inj hj
      subst hj
      refine wpAny_bind (wpAny_holding ?_)
      have sp : SrcAt h' p.1 p.2.1 p.2.2 := (src p (List.mem_of_getElem? hp)).keep fun o e => kp p.1 o e
      refine iter_one (s := { s with heap := h' }) sp fun h2 z2 k2 i2 => wpAny_pure ⟨?_, h2, rfl, by rw [z2]; show h'.objs.size + 1 = _; rw [hz]; omega, fun c o e => k2 c o (kp c o e), fun i r hi hr => ?_⟩
      · have g := mkS_get (n := s.heap.objs.size) hp
        have e : ((mkS s.heap.objs.size ps).map fun r => Value.ref r.it)[j]? = some (Value.ref (s.heap.objs.size + j)) := by rw [List.getElem?_map, g]; rfl
        rw [List.take_add_one, e]
        show _ = _
        simp [hz]
      · by_cases hij : i = j
        · subst hij
          rw [mkS_get hp] at hr
          cases hr
          rw [← hz]
          exact i2
        · exact (its i r (by omega) hr).keep fun o e => k2 _ o e
  · rintro b s' ⟨rfl, h', rfl, hz, kp, its⟩
    have hl : 0 + (ps.map fun p => Value.ref p.1).length = ps.length := by simp
    rw [hl] at hz its ⊢
    refine wpAny_pure ?_
    have e : (((mkS s.heap.objs.size ps).map fun r => Value.ref r.it).take ps.length).toArray.toList = (mkS s.heap.objs.size ps).map fun r => Value.ref r.it := by
      show List.take _ _ = _
      exact List.take_of_length_le (by rw [List.length_map, mkS_len]; exact Nat.le_refl _)
    rw [e]
    refine hQ h' hz kp fun r hr => ?_
    obtain ⟨i, hi⟩ := List.mem_iff_getElem?.mp hr
    exact its i r (by have := (List.getElem?_eq_some_iff.mp hi).1; rw [mkS_len] at this; exact this) hi
def SpZip (ps : List PS0) : PySem.Spec := fun _ R s => (∀ p ∈ ps, SrcAt s.heap p.1 p.2.1 p.2.2) ∧ ∀ h', (∀ c o, s.heap.get? c = some o → h'.get? c = some o) →
  ZipSt h' (s.heap.objs.size + ps.length + 2) (s.heap.objs.size + ps.length) (s.heap.objs.size + ps.length + 1) (mkS s.heap.objs.size ps) 0 → R (.ok (.ret (.ref (s.heap.objs.size + ps.length + 2)))) { s with heap := h' }
theorem meets_zip (ps : List PS0) (h8 : ps.length ≤ 8) : Meets (Builtin.«zip.__new__» ⟨.type "zip" :: ps.map fun p => Value.ref p.1, []⟩) (SpZip ps) :=
  .of_wp fun prog w A R s ⟨src, h⟩ => by
    unfold Builtin.«zip.__new__»
    refine wpAny_bind (wpAny_of_eq (newClass_zip _) ?_)
    show wpAny _ _ (Builtin.SmallTypes.iterAll (ps.map fun p => Value.ref p.1) >>= _) _ _ _
    refine wpAny_bind (iter_all src fun h1 z1 k1 i1 => ?_)
    have l8 : (mkS s.heap.objs.size ps).length ≤ sizeLine := by rw [mkS_len]; exact Nat.le_trans h8 (by decide)
    refine wpAny_bind (wpAny_newTuple ?_ (by rw [List.length_map]; exact l8))
    refine wpAny_bind (wpAny_newTuple ?_ (by rw [List.length_map, List.length_map]; exact l8))
    show wpAny _ _ (Builtin.SmallTypes.newRecord (.type "zip") _ >>= _) _ _ _
    refine wpAny_bind ?_
    unfold Builtin.SmallTypes.newRecord
    refine wpAny_newObj_type (wpAny_pure ?_) (by show (5 : Nat) ≤ sizeLine + 2; decide)
    generalize hL : (List.map (fun r => Value.ref r.it) (mkS s.heap.objs.size ps)) = L
    have lL : L.length = ps.length := by rw [← hL, List.length_map, mkS_len]
    have q1 : (h1.push { cls := .type "tuple", data := .seq L.toArray }).objs.size = s.heap.objs.size + ps.length + 1 := by rw [Heap.size_push, z1]
    have q2 : ((h1.push { cls := .type "tuple", data := .seq L.toArray }).push { cls := .type "tuple", data := .seq (L.map fun _ => Value.none).toArray }).objs.size = s.heap.objs.size + ps.length + 2 := by rw [Heap.size_push, q1]
    refine ⟨_, rfl, ?_⟩
    have g0 := h (((h1.push { cls := .type "tuple", data := .seq L.toArray }).push { cls := .type "tuple", data := .seq (L.map fun _ => Value.none).toArray }).push { cls := .type "zip", data := .fields #[.none, .bool false, .bool false, .ref (s.heap.objs.size + ps.length), .ref (s.heap.objs.size + ps.length + 1)] })
      (fun c o e => Heap.get?_push_of_some _ (Heap.get?_push_of_some _ (Heap.get?_push_of_some _ (k1 c o e)))) ?_
    · have go : ∀ (a b c : Nat), a = h1.objs.size → b = (h1.push { cls := .type "tuple", data := .seq L.toArray }).objs.size → c = ((h1.push { cls := .type "tuple", data := .seq L.toArray }).push { cls := .type "tuple", data := .seq (L.map fun _ => Value.none).toArray }).objs.size →
          R (.ok (.ret (.ref c))) { s with heap := ((h1.push { cls := .type "tuple", data := .seq L.toArray }).push { cls := .type "tuple", data := .seq (L.map fun _ => Value.none).toArray }).push { cls := .type "zip", data := .fields #[.none, .bool false, .bool false, .ref a, .ref b] } } →
          R (.ok (.ret (.ref ((h1.push { cls := .type "tuple", data := .seq L.toArray }).push { cls := .type "tuple", data := .seq (L.map fun _ => Value.none).toArray }).objs.size)))
            { s with heap := ((h1.push { cls := .type "tuple", data := .seq L.toArray }).push { cls := .type "tuple", data := .seq (L.map fun _ => Value.none).toArray }).push { cls := .type "zip", data := .fields #[.none, .bool false, .bool false, .ref h1.objs.size, .ref (h1.push { cls := .type "tuple", data := .seq L.toArray }).objs.size] } } := fun a b c ea eb ec z => by
        subst ea eb ec
        exact z
      exact go _ _ _ z1.symm q1.symm q2.symm g0
    · refine ⟨?_, ?_, ⟨(L.map fun _ => Value.none).toArray, ?_, ?_⟩, fun r hr => ?_⟩
      · rw [← q2]
        exact Heap.get?_push_size _ rfl
      · rw [hL, ← z1]
        exact Heap.get?_push_of_some _ (Heap.get?_push_of_some _ (Heap.get?_push_size _ rfl))
      · rw [List.size_toArray, List.length_map, lL, mkS_len]
      · rw [← q1]
        exact Heap.get?_push_of_some _ (Heap.get?_push_size _ rfl)
      · exact (i1 r hr).keep fun o e => Heap.get?_push_of_some _ (Heap.get?_push_of_some _ (Heap.get?_push_of_some _ e))
theorem call_zipN {ps : List PS0} {Q : Value → Shared → Prop} (h8 : ps.length ≤ 8) (c1 : checkTypeCall "zip" ⟨ps.map fun p => Value.ref p.1, []⟩ = pure ()) (c2 : checkBuiltinCall "zip.__new__" ⟨.type "zip" :: ps.map fun p => Value.ref p.1, []⟩ = pure ())
    (c3 : ∀ obj, argsOk "object.__init__" ⟨obj :: ps.map fun p => Value.ref p.1, []⟩) (src : ∀ p ∈ ps, SrcAt s.heap p.1 p.2.1 p.2.2)
    (hQ : ∀ h', (∀ c o, s.heap.get? c = some o → h'.get? c = some o) → ZipSt h' (s.heap.objs.size + ps.length + 2) (s.heap.objs.size + ps.length) (s.heap.objs.size + ps.length + 1) (mkS s.heap.objs.size ps) 0 →
      Q (.ref (s.heap.objs.size + ps.length + 2)) { s with heap := h' }) : wpAny (model prog w) A (call (.type "zip") (ps.map fun p => Value.ref p.1)) Q E s := by
  refine callType_new F.called_zip (by decide) c1 c2 c3 F.entry_zip_new (meets_zip ps h8) ⟨src, fun h' k st => ?_⟩
  exact ⟨⟨_, st.hz, rfl⟩, hQ h' k st⟩
end
end DLZ
namespace DLZ
open PySem PySem.Spec PyProof.Rows L2
def SqB (K : PySem.W.Frag) (H : Hp) (p : Addr × Bool) (vs : List V) : Prop := if p.2 = true then SqT K H p.1 vs else SqL K H p.1 vs
def ItzN (K : PySem.W.Frag) (ps : List (Addr × Bool)) : It :=
  ⟨fun i H => ∃ us : List V, Paired (fun p u => ∃ vs, SqB K H p vs ∧ vs[i]? = some u) ps us,
    fun i H v H' => ∃ T us, v = .ref T ∧ H T = none ∧ H' = upd H T (.tup us) ∧ Paired (fun p u => ∀ vs, SqB K H p vs → vs[i]? = some u) ps us,
    fun i H => (∀ p ∈ ps, ∃ vs, SqB K H p vs) ∧ ∃ p ∈ ps, ∃ vs, SqB K H p vs ∧ vs.length ≤ i⟩
def key (r : ZS) : Addr × Addr × Bool := (r.it, r.src, r.b)
theorem key_mem {S S' : List ZS} (e : S.map key = S'.map key) {r : ZS} (h : r ∈ S') : ∃ q ∈ S, key q = key r := by
  have : key r ∈ S.map key := by rw [e]; exact List.mem_map_of_mem h
  obtain ⟨q, hq, hk⟩ := List.mem_map.mp this
  exact ⟨q, hq, hk⟩
theorem key_map {α : Type} {S S' : List ZS} (e : S.map key = S'.map key) (f : Addr × Addr × Bool → α) : (S.map fun r => f (key r)) = S'.map fun r => f (key r) := by
  have := congrArg (List.map f) e
  rw [List.map_map, List.map_map] at this
  exact this
theorem Apart.re {z TI TO : Addr} {S S' : List ZS} (D : Apart z TI TO S) (e : S.map key = S'.map key) : Apart z TI TO S' := by
  refine ⟨D.zTI, D.zTO, D.TT, ?_, fun r hr => ?_, fun r hr => ?_⟩
  · have := key_map e fun k => k.1
    have h : S.map (·.it) = S'.map (·.it) := this
    rw [← h]; exact D.nd
  · obtain ⟨q, hq, hk⟩ := key_mem e hr
    have h1 : q.it = r.it := congrArg (fun k => k.1) hk
    rw [← h1]; exact D.iz q hq
  · obtain ⟨q, hq, hk⟩ := key_mem e hr
    have h1 : q.src = r.src := congrArg (fun k => k.2.1) hk
    rw [← h1]
    refine ⟨(D.sz q hq).1, (D.sz q hq).2.1, fun p hp => ?_⟩
    obtain ⟨p', hp', hk'⟩ := key_mem e hp
    have h2 : p'.it = p.it := congrArg (fun k => k.1) hk'
    rw [← h2]; exact (D.sz q hq).2.2 p' hp'
theorem ZipSt.re {h : Heap} {z TI TO : Addr} {S S' : List ZS} {k : Nat} (x : ZipSt h z TI TO S k) (e : S.map key = S'.map key) : ZipSt h z TI TO S' k := by
  refine ⟨x.hz, ?_, ?_, fun r hr => ?_⟩
  · have := key_map e fun k => Value.ref k.1
    have h1 : (S.map fun r => Value.ref r.it) = S'.map fun r => Value.ref r.it := this
    rw [← h1]; exact x.hTI
  · have := congrArg List.length e
    rw [List.length_map, List.length_map] at this
    rw [← this]; exact x.hTO
  · obtain ⟨q, hq, hk⟩ := key_mem e hr
    have h1 : q.it = r.it := congrArg (fun k => k.1) hk
    have h2 : q.src = r.src := congrArg (fun k => k.2.1) hk
    have h3 : q.b = r.b := congrArg (fun k => k.2.2) hk
    have := x.it q hq
    rw [h1, h2, h3] at this
    exact this
section
variable {X : Cx} {pins : List (Addr × Obj)} {σ : L2.St} {H : Hp} {s : Shared}
theorem sqb_src (I : Inv X pins σ H s) {p : Addr × Bool} {vs : List V} (h : SqB X.K H p vs) : ∃ its : List Value, Vals vs its ∧ SrcAt s.heap p.1 p.2 its.toArray := by
  obtain ⟨a, b⟩ := p
  cases b with
  | true =>
    obtain ⟨its, r, p, _⟩ := I.tuple (show SqT X.K H a vs from h)
    exact ⟨its, r, show s.heap.IsTuple a its.toArray from p⟩
  | false =>
    obtain ⟨its, r, p, _⟩ := I.list (show SqL X.K H a vs from h)
    exact ⟨its, r, p.isList⟩
theorem sqb_inj (I : Inv X pins σ H s) {p : Addr × Bool} {vs us : List V} (h : SqB X.K H p vs) (h' : SqB X.K H p us) : vs = us := by
  obtain ⟨a, b⟩ := p
  cases b with
  | true => exact I.tuple_inj (show SqT X.K H a vs from h) h'
  | false => exact I.list_inj (show SqL X.K H a vs from h) h'
theorem with_items (I : Inv X pins σ H s) : ∀ (S0 : List ZS) (vss : List (List V)), Paired (fun r vs => SqB X.K H (r.src, r.b) vs) S0 vss →
    ∃ S, S0.map key = S.map key ∧ (∀ r ∈ S, SrcAt s.heap r.src r.b r.xs) ∧ Paired (fun (r : ZS) vs => ∃ its : List Value, r.xs = its.toArray ∧ Vals vs its) S vss
  | [], _, .nil => ⟨[], rfl, fun r hr => absurd hr (by simp), .nil⟩
  | r :: S0, _, .cons h t => by
    obtain ⟨S, e, g, q⟩ := with_items I S0 _ t
    obtain ⟨its, rv, sr⟩ := sqb_src I h
    exact ⟨⟨r.it, r.src, r.b, its.toArray⟩ :: S, by rw [List.map_cons, List.map_cons, e]; rfl, fun p hp => by
      rcases List.mem_cons.mp hp with rfl | hp
      · exact sr
      · exact g p hp, .cons ⟨its, rfl, rv⟩ q⟩
end
theorem pick {X : Cx} {H : Hp} {i : Nat} : ∀ {S0 : List ZS} {us : List V}, Paired (fun p u => ∃ vs, SqB X.K H p vs ∧ vs[i]? = some u) (S0.map fun r => (r.src, r.b)) us →
    ∃ vss, Paired (fun (r : ZS) vs => SqB X.K H (r.src, r.b) vs) S0 vss ∧ Paired (fun vs (u : V) => vs[i]? = some u) vss us
  | [], _, .nil => ⟨[], .nil, .nil⟩
  | r :: S0, _, .cons ⟨vs, h1, h2⟩ t => by
    obtain ⟨vss, g1, g2⟩ := pick (S0 := S0) t
    exact ⟨vs :: vss, .cons h1 g1, .cons h2 g2⟩
theorem vals_at {i : Nat} : ∀ {S : List ZS} {vss : List (List V)} {us : List V}, Paired (fun (r : ZS) vs => ∃ its : List Value, r.xs = its.toArray ∧ Vals vs its) S vss → Paired (fun vs (u : V) => vs[i]? = some u) vss us →
    ∃ xs, Vals us xs ∧ Paired (fun (r : ZS) x => r.xs[i]? = some x) S xs
  | _, _, _, .nil, .nil => ⟨[], .nil, .nil⟩
  | _, _, _, .cons ⟨its, e, rv⟩ t, .cons h t' => by
    obtain ⟨xs, h1, h2⟩ := vals_at t t'
    obtain ⟨x, g1, g2⟩ := rv.get h
    exact ⟨x :: xs, .cons g2 h1, .cons (by rw [e]; simpa using g1) h2⟩
theorem paired_get {α β : Type} {F : α → β → Prop} : ∀ {l : List α} {m : List β} {i : Nat} {a : α}, Paired F l m → l[i]? = some a → ∃ b, m[i]? = some b ∧ F a b
  | _, _, _, _, .nil, h => by simp at h
  | _, _, 0, _, .cons r _, h => by
    have z := Option.some.inj h
    subst z
    exact ⟨_, rfl, r⟩
  | _, _, i + 1, _, .cons _ t, h => by
    obtain ⟨b, h1, h2⟩ := paired_get (i := i) t (by simpa using h)
    exact ⟨b, by simpa using h1, h2⟩
theorem turn_zipN {P : Program} {w : World} {K : PySem.W.Frag} {elts : List Expr} {kk : Nat} {tpos : Pos} {z TI TO : Addr} {S0 : List ZS} (D : Apart z TI TO S0) (hn : S0 ≠ []) (h8 : S0.length ≤ 8) :
    Turn P w K (.Tuple elts kk tpos) (ItzN K (S0.map fun r => (r.src, r.b))) (z :: TI :: TO :: S0.map (·.it)) z (fun i h => ZipSt h z TI TO S0 i) where
  mem := List.mem_cons_self
  obj := fun i h st b hb => by
    rcases List.mem_cons.mp hb with rfl | hb
    · exact ⟨_, st.hz, fun v q => nomatch q⟩
    rcases List.mem_cons.mp hb with rfl | hb
    · exact ⟨_, st.hTI, fun v q => nomatch q⟩
    rcases List.mem_cons.mp hb with rfl | hb
    · obtain ⟨vs, _, e⟩ := st.hTO
      exact ⟨_, e, fun v q => nomatch q⟩
    · obtain ⟨r, hr, rfl⟩ := List.mem_map.mp hb
      exact (st.it r hr).some
  keep := fun i h h' st k => by
    refine ⟨k z (by simp) _ st.hz, k TI (by simp) _ st.hTI, ?_, fun r hr => (st.it r hr).keep fun o e => k r.it ?_ o e⟩
    · obtain ⟨vs, z1, z2⟩ := st.hTO
      exact ⟨vs, z1, k TO (by simp) _ z2⟩
    · simp only [List.mem_cons]
      exact .inr (.inr (.inr (List.mem_map_of_mem hr)))
  item := by
    intro X hP hw hK hc i pins s σ H E I hf st hg
    subst hP hw hK
    obtain ⟨us, hus⟩ := hg
    obtain ⟨vss, p1, p2⟩ := pick hus
    obtain ⟨S, e, src, p3⟩ := with_items I S0 vss p1
    obtain ⟨xs, rv, p4⟩ := vals_at p3 p2
    have hl : S0.length = S.length := by
      have := congrArg List.length e
      rwa [List.length_map, List.length_map] at this
    have hne : S ≠ [] := fun q => hn (by rw [q] at hl; exact List.length_eq_zero_iff.mp hl)
    have inS : ∀ r ∈ S, r.it ∈ S0.map (·.it) := fun r hr => by
      obtain ⟨q, hq, hk⟩ := key_mem e hr
      have h1 : q.it = r.it := congrArg (fun k => k.1) hk
      exact List.mem_map.mpr ⟨q, hq, h1⟩
    refine pyNext_item (D.re e) hne (by omega) (st.re e) src (fun r hr => ?_) fun h' vs z1 z2 z3 z4 z5 z6 z7 z8 => ?_
    · obtain ⟨j, hj⟩ := List.mem_iff_getElem?.mp hr
      obtain ⟨x, _, hx⟩ := paired_get p4 hj
      exact ⟨x, hx⟩
    refine ⟨_, rfl, wpAny_letOwnedTupleGo_zip (s := { s with heap := h' }) z1 fun h2 y1 sb => ?_⟩
    have zlt : z < s.heap.objs.size := Heap.lt_size st.hz
    have hxs : vs = xs.toArray := by
      have hlen : xs.length = S.length := (Paired.length p4).symm
      apply Array.ext'
      show vs.toList = xs
      apply List.ext_getElem?
      intro j
      cases hj : S[j]? with
      | none =>
        have l : S.length ≤ j := List.getElem?_eq_none_iff.mp hj
        rw [List.getElem?_eq_none_iff.mpr (by rw [Array.length_toList, z4]; exact l), List.getElem?_eq_none_iff.mpr (by omega)]
      | some r =>
        obtain ⟨x, h1, h2⟩ := paired_get p4 hj
        rw [h1, ← h2, ← z7 j r hj]
        simp
    subst hxs
    have hT2 : h2.get? s.heap.objs.size = some { cls := .type "tuple", data := .seq xs.toArray } := (sb.2 _ (Nat.ne_of_gt zlt)).trans z6
    have new : ObjOk X.prog X.w (upd H s.heap.objs.size (.tup us)) h2 s.heap.objs.size (.tup us) :=
      ⟨by rw [rv.length, (Paired.length p4).symm, ← hl]; exact Nat.le_trans h8 (by decide), xs, rv, ⟨_, hT2, rfl, _, rfl⟩⟩
    have I1 : Inv X pins σ (upd H s.heap.objs.size (.tup us)) { s with heap := h2 } :=
      I.turnedNew (t' := s.toks) (ch := z :: TI :: TO :: S0.map (·.it)) (fun c o hb q => (sb.2 c (fun q' => hb (by simp [q']))).trans (z8 c o (fun q' => hb (by simp [q'])) (fun q' => hb (by simp [q'])) (fun r hr q' => hb (by
        simp only [List.mem_cons]
        exact .inr (.inr (.inr (by rw [q']; exact inS r hr))))) q)) hf (Nat.le_refl _) new
    refine ⟨.ref s.heap.objs.size, _, I1, rfl, ⟨_, us, rfl, I.hok.fresh (Nat.le_refl _), rfl, ?_⟩, ?_, fun c hcm => ?_⟩
    · exact Paired.mapP hus fun p u ⟨vs, h1, h2⟩ ws h3 => by rw [sqb_inj I h3 h1]; exact h2
    · refine ZipSt.re (S := S) ⟨y1, ?_, ⟨xs.toArray, z4, ?_⟩, fun r hr => ?_⟩ e.symm
      · exact (sb.2 TI D.zTI).trans z2
      · exact (sb.2 TO D.zTO).trans z3
      · exact (z5 r hr).keep fun o q => (sb.2 r.it ((D.re e).iz r hr).1).trans q
    · have hlt : c < s.heap.objs.size := by
        rcases List.mem_cons.mp hcm with rfl | hcm
        · exact zlt
        rcases List.mem_cons.mp hcm with rfl | hcm
        · exact Heap.lt_size st.hTI
        rcases List.mem_cons.mp hcm with rfl | hcm
        · obtain ⟨vs, _, q⟩ := st.hTO
          exact Heap.lt_size q
        · obtain ⟨r, hr, rfl⟩ := List.mem_map.mp hcm
          obtain ⟨o, q, _⟩ := (st.it r hr).some
          exact Heap.lt_size q
      rw [upd_ne (Nat.ne_of_lt hlt)]
      exact (hf c hcm).1
  done := by
    intro X hP hw hK hc i pins s σ H E I hf st hg
    subst hP hw hK
    obtain ⟨all, p0, hp0, vs0, g0, l0⟩ := hg
    have mk : ∀ S1 : List ZS, (∀ r ∈ S1, ∃ vs, SqB X.K H (r.src, r.b) vs) → ∃ vss, Paired (fun (r : ZS) vs => SqB X.K H (r.src, r.b) vs) S1 vss := fun S1 => by
      induction S1 with
      | nil => exact fun _ => ⟨[], .nil⟩
      | cons r S1 ih =>
        intro h
        obtain ⟨vs, hv⟩ := h r List.mem_cons_self
        obtain ⟨vss, hvs⟩ := ih fun q hq => h q (List.mem_cons_of_mem _ hq)
        exact ⟨vs :: vss, .cons hv hvs⟩
    obtain ⟨vss, p1⟩ := mk S0 fun r hr => all _ (List.mem_map.mpr ⟨r, hr, rfl⟩)
    obtain ⟨S, e, src, p3⟩ := with_items I S0 vss p1
    have hl : S0.length = S.length := by
      have := congrArg List.length e
      rwa [List.length_map, List.length_map] at this
    have hne : S ≠ [] := fun q => hn (by rw [q] at hl; exact List.length_eq_zero_iff.mp hl)
    have inS : ∀ r ∈ S, r.it ∈ S0.map (·.it) := fun r hr => by
      obtain ⟨q, hq, hk⟩ := key_mem e hr
      have h1 : q.it = r.it := congrArg (fun k => k.1) hk
      exact List.mem_map.mpr ⟨q, hq, h1⟩
    refine pyNext_end (I.ok.hd hc) (D.re e) hne (by omega) (st.re e) src ?_ fun h' hk => ⟨rfl, I.turnedL (t' := s.toks) (ch := z :: TI :: TO :: S0.map (·.it)) (fun c o hb q => hk c o (fun q' => hb (by simp [q'])) (fun q' => hb (by simp [q'])) (fun r hr q' => hb (by
        simp only [List.mem_cons]
        exact .inr (.inr (.inr (by rw [q']; exact inS r hr))))) q) hf⟩
    obtain ⟨r0, hr0, er⟩ := List.mem_map.mp hp0
    obtain ⟨j, hj⟩ := List.mem_iff_getElem?.mp hr0
    have hjS : j < S.length := by rw [← hl]; exact (List.getElem?_eq_some_iff.mp hj).1
    refine ⟨S[j], List.getElem_mem hjS, ?_⟩
    obtain ⟨vs1, h1, h2⟩ := paired_get p1 hj
    obtain ⟨vs2, h3, its, h4, h5⟩ := paired_get p3 (List.getElem?_eq_getElem hjS)
    rw [h1] at h3
    cases h3
    subst er
    have ev := sqb_inj I h2 g0
    subst ev
    rw [h4]
    have := h5.length
    exact Array.getElem?_eq_none (by simp; omega)
  self := fun A i s Q E st h => wpAny_pyIter_zip st.hz h
theorem vals_refs : ∀ {ps : List (Addr × Bool)} {us : List Value}, Vals (ps.map fun p => V.ref p.1) us → us = ps.map fun p => Value.ref p.1
  | [], _, .nil => rfl
  | p :: ps, _, .cons r t => by
    rw [vals_refs t]
    cases r
    rfl
theorem srcs_of {X : Cx} {pins : List (Addr × Obj)} {σ : L2.St} {H : Hp} {s : Shared} (I : Inv X pins σ H s) : ∀ ps : List (Addr × Bool), (∀ p ∈ ps, ∃ xs, SqB X.K H p xs) → ∃ qs : List PS0, (qs.map fun q => (q.1, q.2.1)) = ps ∧ ∀ q ∈ qs, SrcAt s.heap q.1 q.2.1 q.2.2
  | [], _ => ⟨[], rfl, fun q hq => absurd hq (by simp)⟩
  | p :: ps, h => by
    obtain ⟨qs, e, g⟩ := srcs_of I ps fun q hq => h q (List.mem_cons_of_mem _ hq)
    obtain ⟨xs, hx⟩ := h p List.mem_cons_self
    obtain ⟨its, _, sr⟩ := sqb_src I hx
    exact ⟨(p.1, p.2, its.toArray) :: qs, by rw [List.map_cons, e], fun q hq => by
      rcases List.mem_cons.mp hq with rfl | hq
      · exact sr
      · exact g q hq⟩
theorem SrcAt.lt {h : Heap} {a : Addr} {b : Bool} {xs : Array Value} (x : SrcAt h a b xs) : @LT.lt Nat _ a h.objs.size := by
  cases b with
  | true =>
    obtain ⟨o, h1, _⟩ := x
    exact Heap.lt_size h1
  | false =>
    obtain ⟨o, h1, _⟩ := x
    exact Heap.lt_size h1
theorem pi_zipN {X : Cx} {e : Expr} {es : List Expr} {ta : TA} {p pos tpos : Pos} {elts : List Expr} {kk : Nat} (n : Nat) (h8 : n ≤ 8) (hg : Gl X "zip") (hm : X.mg "zip" = none) (ha : PA X (e :: es) ta) (hn : ∀ us : List Value, us.length = n → checkTypeCall "zip" ⟨us, []⟩ = pure () ∧ checkBuiltinCall "zip.__new__" ⟨.type "zip" :: us, []⟩ = pure () ∧ ∀ obj, argsOk "object.__init__" ⟨obj :: us, []⟩)
    (h0 : n ≠ 0) (hs : starEach (e :: es) X.env = (false, eval e X.env) :: starEach es X.env := by rfl) (hpl : (backTo pos (starEach es X.env)).any (·.1) = false := by rfl) :
    PI X (.Tuple elts kk tpos) (.Call (.Name "zip" p) (e :: es) [] pos) (fun σ H R => ta σ H fun vs H1 => ∃ ps : List (Addr × Bool), ps.length = n ∧ vs = ps.map (fun p => V.ref p.1) ∧ (∀ p ∈ ps, ∃ xs, SqB X.K H1 p xs) ∧ R (ItzN X.K ps) H1) := by
  refine ⟨fun pins s σ H R I h => ?_⟩
  refine Call_ (ld_blt I hg hm PyProof.Rows.boot_zip (PyProof.Rows.callWith_type1 (thn (ha.run pos pins s σ H _ I h) fun us s1 ⟨vs, H1, I1, r1, q1⟩ => ?_) hs hpl))
  obtain ⟨ps, hlen, rfl, hps, q⟩ := q1
  have eu := vals_refs r1
  obtain ⟨qs, eq, hqs⟩ := srcs_of I1 ps hps
  have el : qs.length = ps.length := by rw [← eq, List.length_map]
  have eu2 : us = qs.map fun q => Value.ref q.1 := by
    rw [eu, ← eq, List.map_map]
    rfl
  subst eu2
  obtain ⟨c1, c2, c3⟩ := hn (qs.map fun q => Value.ref q.1) (by rw [List.length_map, el, hlen])
  refine call_zipN (by omega) c1 c2 c3 hqs fun h' kp st => wpAny_pyIter_zip st.hz ?_
  have I2 : Inv X pins σ H1 { s1 with heap := h' } := I1.kept (t' := s1.toks) kp
  have eps : (mkS s1.heap.objs.size qs).map (fun r => (r.src, r.b)) = ps := by
    rw [← eq]
    apply List.ext_getElem?
    intro j
    rw [List.getElem?_map, List.getElem?_map]
    cases hj : qs[j]? with
    | none =>
      have l : qs.length ≤ j := List.getElem?_eq_none_iff.mp hj
      rw [List.getElem?_eq_none_iff.mpr (by rw [mkS_len]; exact l)]
      rfl
    | some q => rw [mkS_get hj]; rfl
  have D := mkS_apart (n := s1.heap.objs.size) (ps := qs) fun q hq => SrcAt.lt (hqs q hq)
  have T := turn_zipN (P := X.prog) (w := X.w) (K := X.K) (elts := elts) (kk := kk) (tpos := tpos) D (fun z => by
    have := congrArg List.length z
    rw [mkS_len, List.length_nil] at this
    omega) (by rw [mkS_len]; omega)
  rw [eps] at T
  refine ⟨_, _, _, _, H1, rfl, I2, T, st, fun c hcm => ?_, q⟩
  have hle : s1.heap.objs.size ≤ c := by
    rcases List.mem_cons.mp hcm with rfl | hcm
    · exact Nat.le_trans (Nat.le_add_right _ _) (Nat.le_add_right _ _)
    rcases List.mem_cons.mp hcm with rfl | hcm
    · exact Nat.le_add_right _ _
    rcases List.mem_cons.mp hcm with rfl | hcm
    · exact Nat.le_trans (Nat.le_add_right _ _) (Nat.le_add_right _ _)
    · obtain ⟨r, hr, rfl⟩ := List.mem_map.mp hcm
      obtain ⟨i, p, _, rfl⟩ := mkS_of hr
      exact Nat.le_add_right _ _
  exact I1.fpOk hle (I1.hok.fresh hle)
theorem ok_zip2 : ∀ us : List Value, us.length = 2 → checkTypeCall "zip" ⟨us, []⟩ = pure () ∧ checkBuiltinCall "zip.__new__" ⟨.type "zip" :: us, []⟩ = pure () ∧ ∀ obj, argsOk "object.__init__" ⟨obj :: us, []⟩
  | [a, b], _ => ⟨F.typeCall_zip_2 a b, F.newCall_zip_2 a b, fun obj => F.args_object_init_3 obj a b⟩
end DLZ
namespace DL
open PySem L2
variable [Wld]
def seqOf : D → Option (List D)
  | .tup ds => some ds
  | .lst ds => some ds
  | .rl ds => some ds
  | _ => none
def seqsOf : List D → Option (List (List D))
  | [] => some []
  | d :: ds => match seqOf d, seqsOf ds with
    | some x, some r => some (x :: r)
    | _, _ => none
def column (i : Nat) : List (List D) → Option (List D)
  | [] => some []
  | x :: r => match x[i]?, column i r with
    | some d, some c => some (d :: c)
    | _, _ => none
def shortest : List (List D) → Nat
  | [] => 0
  | [x] => x.length
  | x :: r => min x.length (shortest r)
def zipped (l : List (List D)) : List D := (List.range (shortest l)).map fun i => .tup ((column i l).getD [])
def iZip (a : Fa) : Fa := fun env M => (a env M).bind fun ds M1 => match seqsOf ds with
  | some l => .ok (zipped l) M1
  | none => .bad
open DLZ
theorem sqb_mono {K : PySem.W.Frag} {G G' : Hp} {p : Addr × Bool} {vs : List V} (h : ∀ a o, G a = some o → G' a = some o) (s : SqB K G p vs) : SqB K G' p vs := by
  obtain ⟨a, b⟩ := p
  cases b with
  | true => exact sqt_mono h (show SqT K G a vs from s)
  | false => exact sql_mono h (show SqL K G a vs from s)
inductive SrcOk (K : PySem.W.Frag) (w : Wd) : Addr × Bool → List D → Prop
  | mk {p : Addr × Bool} {xs : List V} {ds : List D} : SqB K w.g p xs → Iss K w xs ds → SrcOk K w p ds
theorem seq_src {K : PySem.W.Frag} {w : Wd} {v : V} {d : D} {x : List D} (h : Is K w v d) (e : seqOf d = some x) : ∃ p : Addr × Bool, v = .ref p.1 ∧ SrcOk K w p x := by
  cases h with
  | @tup a xs ds h1 h2 =>
    cases e
    exact ⟨(a, true), rfl, .mk (show SqT K w.g a xs from h1.sq) h2⟩
  | @lst a xs ds h1 h2 =>
    cases e
    exact ⟨(a, false), rfl, .mk (show SqL K w.g a xs from .inl (.inl h1)) h2⟩
  | @rl a xs ds h1 h2 =>
    cases e
    exact ⟨(a, false), rfl, .mk (show SqL K w.g a xs from h1) h2⟩
  | _ => cases e
theorem seqs_src {K : PySem.W.Frag} {w : Wd} : ∀ {vs : List V} {ds : List D} {l : List (List D)}, Iss K w vs ds → seqsOf ds = some l → ∃ ps : List (Addr × Bool), vs = ps.map (fun p => V.ref p.1) ∧ Paired (SrcOk K w) ps l
  | _, _, _, .nil, e => by
    cases e
    exact ⟨[], rfl, .nil⟩
  | _, _, _, .cons (d := d) (ds := ds) h t, e => by
    unfold seqsOf at e
    cases q1 : seqOf d with
    | none => simp only [q1] at e; cases e
    | some x =>
      cases q2 : seqsOf ds with
      | none => simp only [q1, q2] at e; cases e
      | some r =>
        simp only [q1, q2] at e
        cases e
        obtain ⟨p, e1, h1⟩ := seq_src h q1
        obtain ⟨ps, e2, h2⟩ := seqs_src t q2
        exact ⟨p :: ps, by rw [List.map_cons, e1, e2], .cons h1 h2⟩
theorem col_go {K : PySem.W.Frag} {w : Wd} {H : Hp} {i : Nat} (g : ∀ a o, w.g a = some o → H a = some o) : ∀ {ps : List (Addr × Bool)} {l : List (List D)}, Paired (SrcOk K w) ps l → (∀ x ∈ l, i < x.length) → ∃ us : List V, Paired (fun p u => ∃ vs, SqB K H p vs ∧ vs[i]? = some u) ps us
  | _, _, .nil, _ => ⟨[], .nil⟩
  | _, _, .cons (.mk (xs := xs) h1 h2) t, hl => by
    obtain ⟨us, h⟩ := col_go g t fun x hx => hl x (List.mem_cons_of_mem _ hx)
    have := hl _ List.mem_cons_self
    have hi : i < xs.length := by rw [h2.length]; exact this
    exact ⟨xs[i] :: us, .cons ⟨xs, sqb_mono g h1, List.getElem?_eq_getElem hi⟩ h⟩
theorem col_yld {K : PySem.W.Frag} {w : Wd} {H : Hp} {i : Nat} (g : ∀ a o, w.g a = some o → H a = some o) : ∀ {ps : List (Addr × Bool)} {l : List (List D)} {us : List V}, Paired (SrcOk K w) ps l → (∀ x ∈ l, i < x.length) → Paired (fun p u => ∀ vs, SqB K H p vs → vs[i]? = some u) ps us → ∃ c, column i l = some c ∧ Iss K w us c
  | _, _, _, .nil, _, .nil => ⟨[], rfl, .nil⟩
  | _, _, _, .cons (.mk (xs := xs) (ds := ds) h1 h2) t, hl, .cons hu tu => by
    obtain ⟨c, e, h⟩ := col_yld g t (fun x hx => hl x (List.mem_cons_of_mem _ hx)) tu
    have hi := hl _ List.mem_cons_self
    obtain ⟨v, h3, h4⟩ := h2.get (List.getElem?_eq_getElem hi)
    have h5 := hu xs (sqb_mono g h1)
    rw [h3] at h5
    cases h5
    refine ⟨ds[i] :: c, ?_, .cons h4 h⟩
    unfold column
    rw [List.getElem?_eq_getElem hi, e]
theorem shortest_le : ∀ {l : List (List D)} {x : List D}, x ∈ l → shortest l ≤ x.length
  | [y], x, h => by
    have : x = y := by simpa using h
    subst this
    exact Nat.le_refl _
  | y :: z :: r, x, h => by
    show min y.length (shortest (z :: r)) ≤ _
    rcases List.mem_cons.mp h with rfl | h
    · exact Nat.min_le_left _ _
    · exact Nat.le_trans (Nat.min_le_right _ _) (shortest_le h)
theorem shortest_is : ∀ {l : List (List D)}, l ≠ [] → ∃ x ∈ l, x.length = shortest l
  | [y], _ => ⟨y, by simp, rfl⟩
  | y :: z :: r, _ => by
    obtain ⟨x, h1, h2⟩ := shortest_is (l := z :: r) (by simp)
    show ∃ x ∈ y :: z :: r, x.length = min y.length (shortest (z :: r))
    rcases Nat.le_total y.length (shortest (z :: r)) with h | h
    · exact ⟨y, by simp, by rw [Nat.min_eq_left h]⟩
    · exact ⟨x, List.mem_cons_of_mem _ h1, by rw [Nat.min_eq_right h, h2]⟩
theorem itok_zip {K : PySem.W.Frag} {w : Wd} {ps : List (Addr × Bool)} {l : List (List D)} (h : Paired (SrcOk K w) ps l) (hn : l ≠ []) (h8 : l.length ≤ 8) : ItOk K (ItzN K ps) w (zipped l) := by
  have hlen : (zipped l).length = shortest l := by simp [zipped]
  have all : ∀ {H : Hp}, (∀ a o, w.g a = some o → H a = some o) → ∀ p ∈ ps, ∃ vs, SqB K H p vs := fun {H} g p hp => by
    obtain ⟨j, hj⟩ := List.mem_iff_getElem?.mp hp
    obtain ⟨x, h1, h2⟩ := DLZ.paired_get h hj
    cases h2 with
    | mk h3 h4 => exact ⟨_, sqb_mono g h3⟩
  refine ⟨fun i H hi g => ?_, fun i H hi g => ⟨all g, ?_⟩, fun i H v H' d hd y w1 M m o => ?_⟩
  · rw [hlen] at hi
    exact col_go g h fun x hx => Nat.lt_of_lt_of_le hi (shortest_le hx)
  · rw [hlen] at hi
    obtain ⟨x, hx, ex⟩ := shortest_is hn
    obtain ⟨j, hj⟩ := List.mem_iff_getElem?.mp hx
    have hjp : j < ps.length := by
      rw [Paired.length h]
      exact (List.getElem?_eq_some_iff.mp hj).1
    obtain ⟨x', h1, h2⟩ := DLZ.paired_get h (List.getElem?_eq_getElem hjp)
    rw [hj] at h1
    cases h1
    cases h2 with
    | mk h3 h4 => exact ⟨ps[j], List.getElem_mem hjp, _, sqb_mono g h3, by rw [h4.length, ex]; exact hi⟩
  · have hi : i < shortest l := by rw [← hlen]; exact (List.getElem?_eq_some_iff.mp hd).1
    obtain ⟨T, us, rfl, hT, rfl, hus⟩ := y
    have g : ∀ a p, w.g a = some p → H a = some p := fun a p q => o.g a p (m.g a p q)
    obtain ⟨c, ec, ic⟩ := col_yld g h (fun x hx => Nat.lt_of_lt_of_le hi (shortest_le hx)) hus
    have ed : d = .tup c := by
      unfold zipped at hd
      rw [List.getElem?_map, List.getElem?_range hi] at hd
      have z : d = .tup ((column i l).getD []) := (Option.some.inj hd).symm
      rw [z, ec]
      rfl
    subst ed
    obtain ⟨o2, x2⟩ := o.fix (o := .tup us) hT
    exact ⟨_, x2, o2, .tup (.inl upd_same) ((ic.mono m).mono x2.more)⟩
theorem di_zip {X : Cx} {W : WX} {e : Expr} {es : List Expr} {f : Fa} {p pos tpos : Pos} {elts : List Expr} {kk : Nat} (n : Nat) (hg : Gl X "zip") (hm : X.mg "zip" = none) (ha : DA X W (e :: es) f) (hl : LenOk n f) (h8 : n ≤ 8) (h0 : n ≠ 0)
    (hn : ∀ us : List Value, us.length = n → checkTypeCall "zip" ⟨us, []⟩ = pure () ∧ checkBuiltinCall "zip.__new__" ⟨.type "zip" :: us, []⟩ = pure () ∧ ∀ obj, argsOk "object.__init__" ⟨obj :: us, []⟩)
    (hs : starEach (e :: es) X.env = (false, eval e X.env) :: starEach es X.env := by rfl) (hpl : (backTo pos (starEach es X.env)).any (·.1) = false := by rfl) :
    DI X W (.Tuple elts kk tpos) (.Call (.Name "zip" p) (e :: es) [] pos) (iZip f) := by
  obtain ⟨t, q, s⟩ := ha
  refine ⟨_, pi_zipN n h8 hg hm q hn h0 hs hpl, fun env M σ w H w0 H0 Q I h => ?_⟩
  refine s env M σ w H w0 H0 _ I ?_
  unfold iZip at h
  cases qf : f env M with
  | bad => rw [qf] at h; exact h
  | ex c ns us M1 => rw [qf] at h; exact h
  | ok ds M1 =>
    rw [qf, R.bind_ok] at h
    intro vs w1 H1 x1 o1 r1
    cases ql : seqsOf ds with
    | none => rw [ql] at h; exact h.elim
    | some l =>
      rw [ql] at h
      obtain ⟨ps, e1, h1⟩ := seqs_src r1 ql
      have len : l.length = n := by
        rw [← Paired.length h1]
        have := congrArg List.length e1
        rw [List.length_map] at this
        rw [← this, r1.length, hl env M ds M1 qf]
      have hne : l ≠ [] := fun z => h0 (by rw [← len, z]; rfl)
      refine ⟨ps, by rw [Paired.length h1, len], e1, fun p hp => ?_, h _ w1 H1 x1 o1 (itok_zip h1 hne (by omega))⟩
      obtain ⟨j, hj⟩ := List.mem_iff_getElem?.mp hp
      obtain ⟨x, _, h2⟩ := DLZ.paired_get h1 hj
      cases h2 with
      | mk h3 h4 => exact ⟨_, sqb_mono o1.g h3⟩
end DL
namespace DL
open PySem L2
variable [Wld]
section
variable {X : Cx}
theorem OpR.alt {f : Value → Value → Sem Value} {r r' : R2} (h : OpR X f r) (h' : OpR X f r') : OpR X f (fun x y H Q => r x y H Q ∨ r' x y H Q) := by
  intro pins s σ H x y v u Q I rx ry z
  rcases z with z | z
  · exact h pins s σ H x y v u Q I rx ry z
  · exact h' pins s σ H x y v u Q I rx ry z
theorem CallR.alt {f : Value} {r r' : List V → Hp → VK → Prop} (h : CallR X f r) (h' : CallR X f r') : CallR X f (fun xs H Q => r xs H Q ∨ r' xs H Q) := by
  intro pins s σ H xs us Q I rx z
  rcases z with z | z
  · exact h pins s σ H xs us Q I rx z
  · exact h' pins s σ H xs us Q I rx z
theorem SlR.alt {r r' : V → Option Int → Option Int → Hp → VK → Prop} (h : SlR X r) (h' : SlR X r') : SlR X (fun x l u H Q => r x l u H Q ∨ r' x l u H Q) := by
  intro pins s σ H x v vl vu lo hi sl Q I rx hs pl pu z
  rcases z with z | z
  · exact h pins s σ H x v vl vu lo hi sl Q I rx hs pl pu z
  · exact h' pins s σ H x v vl vu lo hi sl Q I rx hs pl pu z
end
section
variable {K : PySem.W.Frag}
theorem SndR2.alt {r r' : R2} {g g' : G2} (h : SndR2 K r g) (h' : SndR2 K r' g') : SndR2 K (fun x y H Q => r x y H Q ∨ r' x y H Q) (fun M d e => (g M d e).or (g' M d e)) := fun w H M v1 v2 d1 d2 d Q o i1 i2 e k => by
  have e : (g M d1 d2).or (g' M d1 d2) = some d := e
  cases q : g M d1 d2 with
  | some z =>
    rw [q] at e
    exact .inl (h w H M v1 v2 d1 d2 d Q o i1 i2 (by rw [q]; exact e) k)
  | none =>
    rw [q] at e
    exact .inr (h' w H M v1 v2 d1 d2 d Q o i1 i2 e k)
theorem SndC.alt {r r' : List V → Hp → VK → Prop} {g g' : GA} (h : SndC K r g) (h' : SndC K r' g') : SndC K (fun xs H Q => r xs H Q ∨ r' xs H Q) (fun M ds => (g M ds).or (g' M ds)) := fun w H M vs ds d Q o i e k => by
  have e : (g M ds).or (g' M ds) = some d := e
  cases q : g M ds with
  | some z =>
    rw [q] at e
    exact .inl (h w H M vs ds d Q o i (by rw [q]; exact e) k)
  | none =>
    rw [q] at e
    exact .inr (h' w H M vs ds d Q o i e k)
def gI (C : Int → Int → Bool) (f : Int → Int → D) : G2 := fun _ d e => match d, e with
  | .int i, .int j => if C i j = true then some (f i j) else none
  | _, _ => none
theorem snd_I {C : Int → Int → Prop} {b : Int → Int → Bool} {f : Int → Int → V} {g : Int → Int → D} (hb : ∀ i j, b i j = true → C i j) (hf : ∀ i j w, Is K w (f i j) (g i j)) : SndR2 K (rI C f) (gI b g) := fun w H M v1 v2 d1 d2 d Q o i1 i2 e k => by
  unfold gI at e
  split at e
  · rename_i i j
    cases i1
    cases i2
    by_cases h : b i j = true
    · rw [if_pos h] at e
      cases e
      exact ⟨i, j, rfl, rfl, hb i j h, k _ w H (.refl _ _) o (hf i j w)⟩
    · rw [if_neg h] at e; cases e
  · cases e
theorem snd_I0 {f : Int → Int → V} {g : Int → Int → D} (hf : ∀ i j w, Is K w (f i j) (g i j)) : SndR2 K (rI0 f) (gI (fun _ _ => true) g) := fun w H M v1 v2 d1 d2 d Q o i1 i2 e k => by
  unfold gI at e
  split at e
  · rename_i i j
    cases i1
    cases i2
    rw [if_pos rfl] at e
    cases e
    exact ⟨i, j, rfl, rfl, k _ w H (.refl _ _) o (hf i j w)⟩
  · cases e
def mulOk (i j : Int) : Bool := (decide (-(2 ^ 64) < i) && decide (i < 2 ^ 64)) || (decide (-(2 ^ 64) < j) && decide (j < 2 ^ 64))
def divOk (_ j : Int) : Bool := decide (0 < j) && decide (j < 1073741824)
def modOk (_ j : Int) : Bool := decide (0 < j)
def powOk (i j : Int) : Bool := decide (0 ≤ j) && (decide (j ≤ 1000000) && decide (i.natAbs < 2 ^ 64))
theorem mulOk_ok (i j : Int) (h : mulOk i j = true) : CMul i j := by
  rcases Bool.or_eq_true_iff.mp h with h | h
  · obtain ⟨a, b⟩ := Bool.and_eq_true_iff.mp h
    exact .inl ⟨of_decide_eq_true a, of_decide_eq_true b⟩
  · obtain ⟨a, b⟩ := Bool.and_eq_true_iff.mp h
    exact .inr ⟨of_decide_eq_true a, of_decide_eq_true b⟩
theorem divOk_ok (i j : Int) (h : divOk i j = true) : CDiv i j := by
  obtain ⟨a, b⟩ := Bool.and_eq_true_iff.mp h
  exact ⟨of_decide_eq_true a, of_decide_eq_true b⟩
theorem powOk_ok (i j : Int) (h : powOk i j = true) : CPow i j := by
  obtain ⟨a, b⟩ := Bool.and_eq_true_iff.mp h
  obtain ⟨b, c⟩ := Bool.and_eq_true_iff.mp b
  exact ⟨of_decide_eq_true a, of_decide_eq_true b, of_decide_eq_true c⟩
abbrev yes2 : Int → Int → Bool := fun _ _ => true
def gSub : G2 := gI yes2 fun i j => .int (i - j)
def gDiv : G2 := gI divOk fun i j => .int (i / j)
def gMod : G2 := gI modOk fun i j => .int (i % j)
def gPow : G2 := gI powOk fun i j => .int (i ^ j.toNat)
def gLt : G2 := gI yes2 fun i j => .bl (decide (i < j))
def gLe : G2 := gI yes2 fun i j => .bl (decide (i ≤ j))
def gGt : G2 := gI yes2 fun i j => .bl (decide (j < i))
def gGe : G2 := gI yes2 fun i j => .bl (decide (j ≤ i))
theorem snd_sub : SndR2 K (rI0 fun i j => .int (i - j)) gSub := snd_I0 fun _ _ _ => .int _
theorem snd_div : SndR2 K (rI CDiv fun i j => .int (i / j)) gDiv := snd_I divOk_ok fun _ _ _ => .int _
theorem snd_mod : SndR2 K (rI (fun _ j => 0 < j) fun i j => .int (i % j)) gMod := snd_I (fun _ _ h => of_decide_eq_true h) fun _ _ _ => .int _
theorem snd_pow : SndR2 K (rI CPow fun i j => .int (i ^ j.toNat)) gPow := snd_I powOk_ok fun _ _ _ => .int _
theorem snd_lt : SndR2 K (rI0 fun i j => .bl (decide (i < j))) gLt := snd_I0 fun _ _ _ => .bl _
theorem snd_le : SndR2 K (rI0 fun i j => .bl (decide (i ≤ j))) gLe := snd_I0 fun _ _ _ => .bl _
theorem snd_gt : SndR2 K (rI0 fun i j => .bl (decide (j < i))) gGt := snd_I0 fun _ _ _ => .bl _
theorem snd_ge : SndR2 K (rI0 fun i j => .bl (decide (j ≤ i))) gGe := snd_I0 fun _ _ _ => .bl _
def gAdd : G2 := fun _ d e => match d, e with
  | .int i, .int j => some (.int (i + j))
  | .str x, .str y => if small (x.length + y.length) = true then some (.str (x ++ y)) else none
  | .tup xs, .tup ys => if small (xs.length + ys.length) = true then some (.tup (xs ++ ys)) else none
  | .lst xs, .lst ys => if small (xs.length + ys.length) = true then some (.lst (xs ++ ys)) else none
  | _, _ => none
def rAdd4 (K : PySem.W.Frag) : R2 := fun x y H Q => rI0 (fun i j => .int (i + j)) x y H Q ∨ (∃ i j, x = .str i ∧ y = .str j ∧ i.length + j.length ≤ sizeLine ∧ Q (.str (i ++ j)) H) ∨ rCatA K x y H Q ∨ rCat x y H Q
theorem op_add4 {X : Cx} : OpR X (binaryOp .Add) (rAdd4 X.K) := OpR.alt op_add (OpR.alt op_add_str (OpR.alt op_catA op_cat))
theorem small_le {n : Nat} (h : small n = true) : n ≤ sizeLine := Nat.le_of_lt (small_lt h)
theorem snd_add : SndR2 K (rAdd4 K) gAdd := fun w H M v1 v2 d1 d2 d Q o i1 i2 e k => by
  unfold gAdd at e
  split at e
  · cases i1
    cases i2
    cases e
    exact .inl ⟨_, _, rfl, rfl, k _ w H (.refl _ _) o (.int _)⟩
  · cases i1
    cases i2
    split at e
    · rename_i h
      cases e
      exact .inr (.inl ⟨_, _, rfl, rfl, small_le h, k _ w H (.refl _ _) o (.str _)⟩)
    · cases e
  · rename_i xs ys
    split at e
    · rename_i h
      cases e
      cases i1 with
      | @tup a vs _ h1 h2 =>
        cases i2 with
        | @tup b us _ h3 h4 =>
          refine .inr (.inr (.inl ⟨a, b, vs, us, rfl, rfl, sqt_mono o.g h1.sq, sqt_mono o.g h3.sq, by rw [h2.length, h4.length]; exact small_le h, fun e => ?_, fun e1 e2 => ?_, fun e1 e2 p hp => ?_⟩))
          · subst e
            cases h2
            exact k _ w H (.refl _ _) o (.tup h3 h4)
          · subst e2
            cases h4
            rw [List.append_nil] at k
            exact k _ w H (.refl _ _) o (.tup h1 h2)
          · obtain ⟨o2, x2⟩ := o.fix (o := .tup (vs ++ us)) hp
            exact k _ _ _ x2 o2 (.tup (.inl upd_same) ((h2.append h4).mono x2.more))
    · cases e
  · rename_i xs ys
    split at e
    · rename_i h
      cases e
      cases i1 with
      | @lst a vs _ h1 h2 =>
        cases i2 with
        | @lst b us _ h3 h4 =>
          refine .inr (.inr (.inr ⟨a, b, vs, us, rfl, rfl, o.g _ _ h1, o.g _ _ h3, by rw [h2.length, h4.length]; exact small_le h, fun p hp => ?_⟩))
          obtain ⟨o2, x2⟩ := o.fix (o := .lst (vs ++ us)) hp
          exact k _ _ _ x2 o2 (.lst upd_same ((h2.append h4).mono x2.more))
    · cases e
  · cases e
def rep (n : Nat) (xs : List D) : List D := (List.replicate n xs).flatten
theorem Iss.rep {w : Wd} {vs : List V} {ds : List D} (h : Iss K w vs ds) : ∀ n : Nat, Iss K w (List.replicate n vs).flatten (DL.rep n ds)
  | 0 => .nil
  | n + 1 => by
    show Iss K w (List.replicate (n + 1) vs).flatten (List.replicate (n + 1) ds).flatten
    rw [List.replicate_succ, List.replicate_succ, List.flatten_cons, List.flatten_cons]
    exact h.append (Iss.rep h n)
def gMul : G2 := fun _ d e => match d, e with
  | .int i, .int j => if mulOk i j = true then some (.int (i * j)) else none
  | .lst xs, .int k => if (inRange k && small (xs.length * k.toNat)) = true then some (.lst (rep k.toNat xs)) else none
  | _, _ => none
def rMul2 : R2 := fun x y H Q => rI CMul (fun i j => .int (i * j)) x y H Q ∨ rRep x y H Q
theorem op_mul2 {X : Cx} : OpR X (binaryOp .Mult) rMul2 := OpR.alt op_mul op_rep
theorem snd_mul : SndR2 K rMul2 gMul := fun w H M v1 v2 d1 d2 d Q o i1 i2 e k => by
  unfold gMul at e
  split at e
  · cases i1
    cases i2
    split at e
    · rename_i h
      cases e
      exact .inl ⟨_, _, rfl, rfl, mulOk_ok _ _ h, k _ w H (.refl _ _) o (.int _)⟩
    · cases e
  · rename_i xs j
    split at e
    · rename_i h
      cases e
      obtain ⟨h1, h2⟩ := Bool.and_eq_true_iff.mp h
      obtain ⟨h3, h4⟩ := Bool.and_eq_true_iff.mp h1
      cases i2
      cases i1 with
      | @lst a vs _ g1 g2 =>
        refine .inr ⟨a, j, vs, rfl, rfl, o.g _ _ g1, ?_, ?_, by rw [g2.length]; exact small_le h2, fun p hp => ?_⟩
        · have := of_decide_eq_true h3; omega
        · have := of_decide_eq_true h4; omega
        · obtain ⟨o2, x2⟩ := o.fix (o := .lst (List.replicate j.toNat vs).flatten) hp
          exact k _ _ _ x2 o2 (.lst upd_same ((g2.rep j.toNat).mono x2.more))
    · cases e
  · cases e
def gNeg : G1 := fun _ d => match d with
  | .int i => some (.int (-i))
  | _ => none
theorem snd_neg : SndR1 K (rU fun i => .int (-i)) gNeg := fun w H M v d e Q o i h k => by
  unfold gNeg at h
  split at h
  · cases i
    cases h
    exact ⟨_, rfl, k _ w H (.refl _ _) o (.int _)⟩
  · cases h
mutual
def toPy : D → Option PyData
  | .non => some .none
  | .bl b => some (.bool b)
  | .int i => some (.int i)
  | .str x => some (.str x)
  | .tup ds => (toPys ds).map .tuple
  | .lst ds => (toPys ds).map .list
  | .rl ds => (toPys ds).map .list
  | .ty _ => none
  | .cst _ => none
  | .obj _ _ _ => none
  | .ref _ => none
  | .exv _ _ _ _ _ => none
  | .fnv _ => none
  | .unk => none
  | .exn _ _ _ => none
def toPys : List D → Option (List PyData)
  | [] => some []
  | d :: ds => match toPy d, toPys ds with
    | some x, some r => some (x :: r)
    | _, _ => none
end
mutual
theorem dp_of {w : Wd} {H : Hp} (g : ∀ a o, w.g a = some o → H a = some o) : ∀ {v : V} {d : D} {p : PyData}, Is K w v d → toPy d = some p → Dp K H v p
  | _, _, _, .non, e => by cases e; exact .non
  | _, _, _, .bl b, e => by cases e; exact .bl b
  | _, _, _, .int i, e => by cases e; exact .int i
  | _, _, _, .str x, e => by cases e; exact .str x
  | _, _, _, .ty _, e => by cases e
  | _, _, _, .cst _, e => by cases e
  | _, _, _, .fnv _, e => by cases e
  | _, _, _, .unk, e => by cases e
  | _, _, _, .exn _ _ _ _, e => by cases e
  | _, _, _, .tup (ds := ds) h1 h2, e => by
    unfold toPy at e
    cases q : toPys ds with
    | none => rw [q] at e; cases e
    | some ps =>
      rw [q] at e
      cases e
      exact .tup (sqt_mono g h1.sq) (dps_of g h2 q)
  | _, _, _, .lst (ds := ds) h1 h2, e => by
    unfold toPy at e
    cases q : toPys ds with
    | none => rw [q] at e; cases e
    | some ps =>
      rw [q] at e
      cases e
      exact .lst (.inl (.inl (g _ _ h1))) (dps_of g h2 q)
  | _, _, _, .rl (ds := ds) h1 h2, e => by
    unfold toPy at e
    cases q : toPys ds with
    | none => rw [q] at e; cases e
    | some ps =>
      rw [q] at e
      cases e
      exact .lst (sql_mono g h1) (dps_of g h2 q)
  | _, _, _, .obj _ _ _, e => by cases e
  | _, _, _, .ref _, e => by cases e
  | _, _, _, .exv _ _, e => by cases e
theorem dps_of {w : Wd} {H : Hp} (g : ∀ a o, w.g a = some o → H a = some o) : ∀ {vs : List V} {ds : List D} {ps : List PyData}, Iss K w vs ds → toPys ds = some ps → DpAll K H vs ps
  | _, _, _, .nil, e => by cases e; exact .nil
  | _, _, _, .cons (d := d) (ds := ds) h t, e => by
    unfold toPys at e
    cases q1 : toPy d with
    | none => simp only [q1] at e; cases e
    | some x =>
      cases q2 : toPys ds with
      | none => simp only [q1, q2] at e; cases e
      | some r =>
        simp only [q1, q2] at e
        cases e
        exact .cons (dp_of g h q1) (dps_of g t q2)
end
def gEq : G2 := fun _ d e => match toPy d, toPy e with
  | some p, some q => if (SeqAt.shaped p && SeqAt.shaped q) = true then some (.bl (PyData.eqv p q)) else none
  | _, _ => none
def gNe : G2 := fun _ d e => match toPy d, toPy e with
  | some p, some q => if (SeqAt.shaped p && SeqAt.shaped q) = true then some (.bl (!PyData.eqv p q)) else none
  | _, _ => none
theorem snd_eq : SndR2 K (rEqD K) gEq := fun w H M v1 v2 d1 d2 d Q o i1 i2 e k => by
  unfold gEq at e
  split at e
  · rename_i p q h1 h2
    split at e
    · rename_i h
      cases e
      obtain ⟨h3, h4⟩ := Bool.and_eq_true_iff.mp h
      exact ⟨p, q, dp_of o.g i1 h1, dp_of o.g i2 h2, h3, h4, k _ w H (.refl _ _) o (.bl _)⟩
    · cases e
  · cases e
theorem snd_ne : SndR2 K (rNeD K) gNe := fun w H M v1 v2 d1 d2 d Q o i1 i2 e k => by
  unfold gNe at e
  split at e
  · rename_i p q h1 h2
    split at e
    · rename_i h
      cases e
      obtain ⟨h3, h4⟩ := Bool.and_eq_true_iff.mp h
      exact ⟨p, q, dp_of o.g i1 h1, dp_of o.g i2 h2, h3, h4, k _ w H (.refl _ _) o (.bl _)⟩
    · cases e
  · cases e
def D.isNon : D → Bool
  | .non => true
  | _ => false
theorem Is.non_iff {w : Wd} {v : V} {d : D} (h : Is K w v d) : decide (v = .non) = d.isNon := by
  cases h <;> simp [D.isNon]
def gIs : G2 := fun _ d e => match e with
  | .non => some (.bl d.isNon)
  | _ => none
def gIsNot : G2 := fun _ d e => match e with
  | .non => some (.bl (!d.isNon))
  | _ => none
theorem snd_is : SndR2 K (fun x y H Q => y = .non ∧ Q (.bl (decide (x = .non))) H) gIs := fun w H M v1 v2 d1 d2 d Q o i1 i2 e k => by
  unfold gIs at e
  split at e
  · cases i2
    cases e
    exact ⟨rfl, by rw [i1.non_iff]; exact k _ w H (.refl _ _) o (.bl _)⟩
  · cases e
theorem snd_isnot : SndR2 K (fun x y H Q => y = .non ∧ Q (.bl (!decide (x = .non))) H) gIsNot := fun w H M v1 v2 d1 d2 d Q o i1 i2 e k => by
  unfold gIsNot at e
  split at e
  · cases i2
    cases e
    exact ⟨rfl, by rw [i1.non_iff]; exact k _ w H (.refl _ _) o (.bl _)⟩
  · cases e
def gIx : G2 := fun M d e => match d, e with
  | .tup ds, .int i => atI ds i
  | .lst ds, .int i => atI ds i
  | .rl ds, .int i => atI ds i
  | .ref k, .int i => match M[k]? with
    | some (.lst ds) => atI ds i
    | _ => none
  | .str x, .int i => if small x.length = true then (atI x.cps.toList i).map fun c => .str ⟨#[c]⟩ else none
  | _, _ => none
theorem snd_ix : SndR2 K (rIx K) gIx := fun w H M v1 v2 d1 d2 d Q o i1 i2 e k => by
  unfold gIx at e
  split at e
  · cases i2
    cases i1 with
    | @tup a vs _ h1 h2 =>
      obtain ⟨u, hu, iu⟩ := h2.ix e
      exact .inr (.inl ⟨a, vs, _, u, rfl, rfl, sqt_mono o.g h1.sq, hu, k _ w H (.refl _ _) o iu⟩)
  · cases i2
    cases i1 with
    | @lst a vs _ h1 h2 =>
      obtain ⟨u, hu, iu⟩ := h2.ix e
      exact .inl ⟨a, vs, _, u, rfl, rfl, .inl (.inl (o.g _ _ h1)), hu, k _ w H (.refl _ _) o iu⟩
  · cases i2
    cases i1 with
    | @rl a vs _ h1 h2 =>
      obtain ⟨u, hu, iu⟩ := h2.ix e
      exact .inl ⟨a, vs, _, u, rfl, rfl, sql_mono o.g h1, hu, k _ w H (.refl _ _) o iu⟩
  · cases i2
    cases i1 with
    | @ref a k' h1 =>
      split at e
      · rename_i ds hds
        obtain ⟨b, g1, g2, vs, g3, g4⟩ := o.mo hds
        rw [h1] at g1
        cases g1
        obtain ⟨u, hu, iu⟩ := g4.ix e
        exact .inl ⟨a, vs, _, u, rfl, rfl, .inl (.inl g3), hu, k _ w H (.refl _ _) o iu⟩
      · cases e
  · cases i2
    cases i1
    split at e
    · rename_i x i h
      cases q : atI x.cps.toList i with
      | none => rw [q] at e; cases e
      | some c =>
        rw [q] at e
        cases e
        exact .inr (.inr ⟨x, i, c, rfl, rfl, small_le h, q, k _ w H (.refl _ _) o (.str _)⟩)
    · cases e
  · cases e
def cutD (xs : List D) (lo hi : Option Int) : List D := (xs.drop (HT.sIx xs.length 0 lo)).take (HT.sIx xs.length xs.length hi - HT.sIx xs.length 0 lo)
theorem Iss.cut {w : Wd} {vs : List V} {ds : List D} (h : Iss K w vs ds) (lo hi : Option Int) : Iss K w (cutV vs lo hi) (cutD ds lo hi) := by
  unfold cutV cutD
  rw [h.length]
  exact (h.drop _).take _
abbrev Fp := Env → Sm (Option Int)
def pNo : Fp := fun _ M => .ok none M
def pSome (a : Fe) : Fp := fun env M => (a env M).bind fun d M1 => match d with
  | .int i => .ok (some i) M1
  | _ => .bad
def RlP : Wd → Hp → Option Int → Option Int → Prop := fun _ _ v d => v = d
def SndP (K : PySem.W.Frag) (W : WX) (t : TO) (f : Fp) : Prop := ∀ env M σ w H w0 H0 Q, EnvOk K w0 H0 w H M env σ → Post K RlP w H σ W Q (f env M) → t σ H Q
def DP (X : Cx) (W : WX) (e : Option Expr) (f : Fp) : Prop := ∃ t, PO X e t ∧ SndP X.K W t f
theorem dp_no {X : Cx} {W : WX} : DP X W none pNo := ⟨_, po_none, fun env M σ w H w0 H0 Q I h => h none w H (.refl _ _) I.ok rfl⟩
theorem dp_some {X : Cx} {W : WX} {e : Expr} {a : Fe} (h : DE X W e a) : DP X W (some e) (pSome a) := by
  obtain ⟨t, p, s⟩ := h
  refine ⟨_, po_some p, fun env M σ w H w0 H0 Q I h => ?_⟩
  refine s env M σ w H w0 H0 _ I (Post.bind h fun d M1 v w1 H1 x1 o1 r1 h1 => ?_)
  cases r1 with
  | int i => exact ⟨i, rfl, h1 (some i) w1 H1 (.refl _ _) o1 rfl⟩
  | _ => exact h1.elim
def cutOf (d : D) (lo hi : Option Int) : Option D := match d with
  | .tup ds => some (.tup (cutD ds lo hi))
  | .lst ds => some (.lst (cutD ds lo hi))
  | .rl ds => some (.lst (cutD ds lo hi))
  | .str z => if small z.length = true then some (.str (cutS z lo hi)) else none
  | _ => none
def fCut (a : Fe) (l u : Fp) : Fe := fun env M => (a env M).bind fun d M1 => (l env M1).bind fun lo M2 => (u env M2).bind fun hi M3 => match cutOf d lo hi with
  | some z => .ok z M3
  | none => .bad
theorem de_cut {X : Cx} {W : WX} {e : Expr} {lo hi : Option Expr} {a : Fe} {l u : Fp} {p2 pos : Pos} (ha : DE X W e a) (hl : DP X W lo l) (hu : DP X W hi u) : DE X W (.Subscript e (.Slice lo hi none p2) pos) (fCut a l u) := by
  obtain ⟨t, p, s⟩ := ha
  obtain ⟨t1, p1, s1⟩ := hl
  obtain ⟨t2, q2, s2⟩ := hu
  refine ⟨_, pe_slice (SlR.alt sl_tupA (SlR.alt sl_list sl_str)) p p1 q2, fun env M σ w H w0 H0 Q I h => ?_⟩
  refine s env M σ w H w0 H0 _ I (Post.bind h fun d M1 v w1 H1 x1 o1 r1 h1 => ?_)
  have I1 := I.step x1 o1
  refine s1 env M1 σ w1 H1 w0 H0 _ I1 (Post.bind h1 fun lo M2 lv w2 H2 x2 o2 r2 h2 => ?_)
  have r2 : lv = lo := r2
  subst r2
  have I2 := I1.step x2 o2
  refine s2 env M2 σ w2 H2 w0 H0 _ I2 (Post.bind h2 fun hi M3 hv w3 H3 x3 o3 r3 h3 => ?_)
  have r3 : hv = hi := r3
  subst r3
  have r1 := (r1.mono x2.more).mono x3.more
  unfold cutOf at h3
  cases r1 with
  | @tup b vs ds g1 g2 =>
    have e : ∀ z : List V, z.length = ds.length → HT.sIx z.length 0 lv = HT.sIx ds.length 0 lv ∧ HT.sIx z.length z.length hv = HT.sIx ds.length ds.length hv := fun z hz => by rw [hz]; exact ⟨rfl, rfl⟩
    refine .inl ⟨b, vs, rfl, sqt_mono o3.g g1.sq, fun hw => ?_, fun hw q hq => ?_⟩
    · refine h3 _ w3 H3 (.refl _ _) o3 ?_
      have := g2.length
      rw [(e vs this).1, (e vs this).2, this] at hw
      have ec : cutD ds lv hv = ds := by
        unfold cutD
        rw [hw.1, hw.2]
        simp
      rw [ec]
      exact .tup g1 g2
    · obtain ⟨o4, x4⟩ := o3.fix (o := .tup (cutV vs lv hv)) hq
      exact h3 _ _ _ x4 o4 (.tup (.inl upd_same) ((g2.cut lv hv).mono x4.more))
  | @lst b vs ds g1 g2 =>
    refine .inr (.inl ⟨b, vs, rfl, .inl (.inl (o3.g _ _ g1)), fun q hq => ?_⟩)
    obtain ⟨o4, x4⟩ := o3.fix (o := .lst (cutV vs lv hv)) hq
    exact h3 _ _ _ x4 o4 (.lst upd_same ((g2.cut lv hv).mono x4.more))
  | @rl b vs ds g1 g2 =>
    refine .inr (.inl ⟨b, vs, rfl, sql_mono o3.g g1, fun q hq => ?_⟩)
    obtain ⟨o4, x4⟩ := o3.fix (o := .lst (cutV vs lv hv)) hq
    exact h3 _ _ _ x4 o4 (.lst upd_same ((g2.cut lv hv).mono x4.more))
  | str z =>
    by_cases hz : small z.length = true
    · simp only [hz, if_true] at h3
      exact .inr (.inr ⟨z, rfl, small_le hz, h3 _ w3 H3 (.refl _ _) o3 (.str _)⟩)
    · simp only [hz] at h3; exact h3.elim
  | _ => exact h3.elim
def gLen : GA := fun M ds => match ds with
  | [.tup xs] => some (.int xs.length)
  | [.lst xs] => some (.int xs.length)
  | [.rl xs] => some (.int xs.length)
  | [.ref k] => match M[k]? with
    | some (.lst xs) => some (.int xs.length)
    | _ => none
  | [.str x] => if small x.length = true then some (.int x.length) else none
  | _ => none
def rLen (K : PySem.W.Frag) : List V → Hp → VK → Prop := fun xs H Q => (∃ p ys, xs = [.ref p] ∧ (SqL K H p ys ∨ SqT K H p ys) ∧ Q (.int ys.length) H) ∨ (∃ z, xs = [.str z] ∧ z.length ≤ sizeLine ∧ Q (.int z.length) H)
theorem call_len2 {X : Cx} : CallR X (.builtin "len") (rLen X.K) := CallR.alt call_len_seq call_len_str
theorem snd_len : SndC K (rLen K) gLen := fun w H M vs ds d Q o i e k => by
  unfold gLen at e
  split at e
  · cases e
    cases i with
    | cons i1 i2 =>
      cases i2
      cases i1 with
      | @tup a us _ h1 h2 => exact .inl ⟨a, us, rfl, .inr (sqt_mono o.g h1.sq), by rw [h2.length]; exact k _ w H (.refl _ _) o (.int _)⟩
  · cases e
    cases i with
    | cons i1 i2 =>
      cases i2
      cases i1 with
      | @lst a us _ h1 h2 => exact .inl ⟨a, us, rfl, .inl (.inl (.inl (o.g _ _ h1))), by rw [h2.length]; exact k _ w H (.refl _ _) o (.int _)⟩
  · cases e
    cases i with
    | cons i1 i2 =>
      cases i2
      cases i1 with
      | @rl a us _ h1 h2 => exact .inl ⟨a, us, rfl, .inl (sql_mono o.g h1), by rw [h2.length]; exact k _ w H (.refl _ _) o (.int _)⟩
  · split at e
    · rename_i xs hxs
      cases e
      cases i with
      | cons i1 i2 =>
        cases i2
        cases i1 with
        | @ref a _ h1 =>
          obtain ⟨b, g1, g2, us, g3, g4⟩ := o.mo hxs
          rw [h1] at g1
          cases g1
          exact .inl ⟨a, us, rfl, .inl (.inl (.inl g3)), by rw [g4.length]; exact k _ w H (.refl _ _) o (.int _)⟩
    · cases e
  · split at e
    · rename_i x h
      cases e
      cases i with
      | cons i1 i2 =>
        cases i2
        cases i1
        exact .inr ⟨x, rfl, small_le h, k _ w H (.refl _ _) o (.int _)⟩
    · cases e
  · cases e
def gList : GO := fun _ ds => match ds with
  | [.tup xs] => some (.lst xs)
  | [.lst xs] => some (.lst xs)
  | [.rl xs] => some (.lst xs)
  | _ => none
theorem own_new {w : Wd} {H : Hp} {M : Mem} {l : Addr} {vs : List V} {ds : List D} (o : Ok K w H M) (hl : H l = none) (h : Iss K w vs ds) : Ext w H w (upd H l (.lst vs)) ∧ Ok K w (upd H l (.lst vs)) M ∧ RlO K H w (upd H l (.lst vs)) (.ref l) (.lst ds) := by
  obtain ⟨o2, x2⟩ := o.put (o := .lst vs) hl
  obtain ⟨n1, n2⟩ := o.new hl
  exact ⟨x2, o2, l, rfl, hl, n1, n2, vs, upd_same, h⟩
theorem snd_list : SndCO K (fun xs H Q => ∃ p ys, xs = [.ref p] ∧ (SqL K H p ys ∨ SqT K H p ys) ∧ ∀ l, H l = none → Q (.ref l) (upd H l (.lst ys))) gList := fun w H M vs ds d Q o i e k => by
  unfold gList at e
  split at e
  · cases e
    cases i with
    | cons i1 i2 =>
      cases i2
      cases i1 with
      | @tup a us _ h1 h2 =>
        refine ⟨a, us, rfl, .inr (sqt_mono o.g h1.sq), fun l hl => ?_⟩
        obtain ⟨g1, g2, g3⟩ := own_new o hl h2
        exact k _ _ _ g1 g2 g3
  · cases e
    cases i with
    | cons i1 i2 =>
      cases i2
      cases i1 with
      | @lst a us _ h1 h2 =>
        refine ⟨a, us, rfl, .inl (.inl (.inl (o.g _ _ h1))), fun l hl => ?_⟩
        obtain ⟨g1, g2, g3⟩ := own_new o hl h2
        exact k _ _ _ g1 g2 g3
  · cases e
    cases i with
    | cons i1 i2 =>
      cases i2
      cases i1 with
      | @rl a us _ h1 h2 =>
        refine ⟨a, us, rfl, .inl (sql_mono o.g h1), fun l hl => ?_⟩
        obtain ⟨g1, g2, g3⟩ := own_new o hl h2
        exact k _ _ _ g1 g2 g3
  · cases e
def boolsOf : List D → Option (List Bool)
  | [] => some []
  | .bl b :: ds => (boolsOf ds).map (b :: ·)
  | _ :: _ => none
theorem bools_vs {w : Wd} : ∀ {vs : List V} {ds : List D} {bs : List Bool}, Iss K w vs ds → boolsOf ds = some bs → vs = bs.map V.bl
  | _, _, _, .nil, e => by cases e; rfl
  | _, _, _, .cons (ds := ds) (.bl b) t, e => by
    unfold boolsOf at e
    cases q : boolsOf ds with
    | none => rw [q] at e; cases e
    | some r =>
      rw [q] at e
      cases e
      rw [List.map_cons, bools_vs t q]
  | _, _, _, .cons .non _, e => by cases e
  | _, _, _, .cons (.int _) _, e => by cases e
  | _, _, _, .cons (.str _) _, e => by cases e
  | _, _, _, .cons (.ty _) _, e => by cases e
  | _, _, _, .cons (.cst _) _, e => by cases e
  | _, _, _, .cons (.tup _ _) _, e => by cases e
  | _, _, _, .cons (.lst _ _) _, e => by cases e
  | _, _, _, .cons (.rl _ _) _, e => by cases e
  | _, _, _, .cons (.obj _ _ _) _, e => by cases e
  | _, _, _, .cons (.ref _) _, e => by cases e
  | _, _, _, .cons (.exv _ _) _, e => by cases e
def gAll : GA := fun _ ds => match ds with
  | [.lst xs] => (boolsOf xs).map fun bs => .bl (bs.all id)
  | _ => none
theorem snd_all : SndC K (rAll K) gAll := fun w H M vs ds d Q o i e k => by
  unfold gAll at e
  split at e
  · rename_i xs
    cases q : boolsOf xs with
    | none => rw [q] at e; cases e
    | some bs =>
      rw [q] at e
      cases e
      cases i with
      | cons i1 i2 =>
        cases i2
        cases i1 with
        | @lst a us _ h1 h2 => exact ⟨a, bs, rfl, by rw [← bools_vs h2 q]; exact .inl (.inl (o.g _ _ h1)), k _ w H (.refl _ _) o (.bl _)⟩
  · cases e
def gInt : GA := fun _ ds => match ds with
  | [.int i] => some (.int i)
  | [.bl b] => some (.int (if b then 1 else 0))
  | _ => none
theorem snd_int : SndC K (fun xs H Q => (∃ i, xs = [.int i] ∧ Q (.int i) H) ∨ ∃ k, xs = [.bl k] ∧ Q (.int (if k then 1 else 0)) H) gInt := fun w H M vs ds d Q o i e k => by
  unfold gInt at e
  split at e
  · cases e
    cases i with
    | cons i1 i2 =>
      cases i2
      cases i1
      exact .inl ⟨_, rfl, k _ w H (.refl _ _) o (.int _)⟩
  · cases e
    cases i with
    | cons i1 i2 =>
      cases i2
      cases i1
      exact .inr ⟨_, rfl, k _ w H (.refl _ _) o (.int _)⟩
  · cases e
def gMax2 : GA := fun _ ds => match ds with
  | [.int i, .int j] => some (.int (if j > i then j else i))
  | _ => none
theorem snd_max2 : SndC K (fun xs H Q => ∃ i j, xs = [.int i, .int j] ∧ Q (.int (if j > i then j else i)) H) gMax2 := fun w H M vs ds d Q o i e k => by
  unfold gMax2 at e
  split at e
  · cases e
    cases i with
    | cons i1 i2 =>
      cases i1
      cases i2 with
      | cons i1 i2 =>
        cases i1
        cases i2
        exact ⟨_, _, rfl, k _ w H (.refl _ _) o (.int _)⟩
  · cases e
end
end DL
namespace DL
open PySem L2
variable [Wld]
section
variable {K : PySem.W.Frag}
def tyD : D → Option String
  | .non => some "NoneType"
  | .bl _ => some "bool"
  | .int _ => some "int"
  | .str _ => some "str"
  | .tup _ => some "tuple"
  | .lst _ => some "list"
  | _ => none
theorem tyx_of {w : Wd} {H : Hp} {v : V} {d : D} {t : String} (g : ∀ a o, w.g a = some o → H a = some o) (h : Is K w v d) (e : tyD d = some t) : TyX K H v (.type t) := by
  cases h with
  | non => cases e; exact .base .non
  | bl b => cases e; exact .base (.bl b)
  | int i => cases e; exact .base (.int i)
  | str x => cases e; exact .base (.str x)
  | tup h1 _ =>
    cases e
    rcases h1 with h1 | ⟨o, its, n, h1, h2, _⟩
    · exact .base (.tup (g _ _ h1))
    · exact .kTuple h1 h2
  | lst h1 _ => cases e; exact .base (.lst (g _ _ h1))
  | _ => cases e
def anyTy (t : String) : List D → Option Bool
  | [] => some false
  | .ty n :: cs => match kitB t n with
    | some true => some true
    | some false => anyTy t cs
    | none => none
  | _ :: _ => none
def tysOf : List D → Option (List String)
  | [] => some []
  | .ty n :: cs => (tysOf cs).map (n :: ·)
  | _ :: _ => none
def gIsi : GA := fun _ ds => match ds with
  | [x, .ty n] => match tyD x with
    | some t => (kitB t n).map .bl
    | none => none
  | [x, .tup cs] => match tyD x, tysOf cs with
    | some t, some _ => (anyTy t cs).map .bl
    | _, _ => none
  | _ => none
def rIsi3 (K : PySem.W.Frag) : List V → Hp → VK → Prop := fun xs H Q => rIsi K xs H Q ∨ rIsiT K xs H Q ∨ rIsiK K xs H Q
theorem call_isi3 {X : Cx} : CallR X (.builtin "isinstance") (rIsi3 X.K) := CallR.alt call_isi (CallR.alt call_isiT call_isiK)
theorem tys_vs {w : Wd} : ∀ {vs : List V} {ds : List D} {ns : List String}, Iss K w vs ds → tysOf ds = some ns → vs = ns.map V.ty
  | _, _, _, .nil, e => by cases e; rfl
  | _, _, _, .cons (ds := ds) (.ty b) t, e => by
    unfold tysOf at e
    cases q : tysOf ds with
    | none => rw [q] at e; cases e
    | some r =>
      rw [q] at e
      cases e
      rw [List.map_cons, tys_vs t q]
  | _, _, _, .cons .non _, e => by cases e
  | _, _, _, .cons (.int _) _, e => by cases e
  | _, _, _, .cons (.str _) _, e => by cases e
  | _, _, _, .cons (.bl _) _, e => by cases e
  | _, _, _, .cons (.cst _) _, e => by cases e
  | _, _, _, .cons (.tup _ _) _, e => by cases e
  | _, _, _, .cons (.lst _ _) _, e => by cases e
  | _, _, _, .cons (.rl _ _) _, e => by cases e
  | _, _, _, .cons (.obj _ _ _) _, e => by cases e
  | _, _, _, .cons (.ref _) _, e => by cases e
theorem tys_cls : ∀ ns : List String, Paired ClsV (ns.map V.ty) (ns.map Value.type)
  | [] => .nil
  | n :: ns => .cons (.ty n) (tys_cls ns)
theorem tys_any {t : String} : ∀ {cs : List D} {ns : List String} {b : Bool}, tysOf cs = some ns → anyTy t cs = some b → PySem.W.kitAny K (.type t) (ns.map Value.type) = some b
  | [], _, _, e, q => by
    cases e
    cases q
    exact kitAny_nil
  | .ty n :: cs, _, b, e, q => by
    unfold tysOf at e
    cases q1 : tysOf cs with
    | none => rw [q1] at e; cases e
    | some r =>
      rw [q1] at e
      cases e
      unfold anyTy at q
      cases q2 : kitB t n with
      | none => rw [q2] at q; cases q
      | some c =>
        rw [q2] at q
        cases c with
        | true =>
          cases q
          exact kitAny_cons (kit_ty q2) (fun z => nomatch z) fun _ => rfl
        | false => exact kitAny_cons (kit_ty q2) (fun _ => tys_any q1 q) fun z => nomatch z
  | .non :: _, _, _, e, _ => by cases e
  | .int _ :: _, _, _, e, _ => by cases e
  | .str _ :: _, _, _, e, _ => by cases e
  | .bl _ :: _, _, _, e, _ => by cases e
  | .cst _ :: _, _, _, e, _ => by cases e
  | .tup _ :: _, _, _, e, _ => by cases e
  | .lst _ :: _, _, _, e, _ => by cases e
  | .rl _ :: _, _, _, e, _ => by cases e
  | .obj _ _ _ :: _, _, _, e, _ => by cases e
  | .ref _ :: _, _, _, e, _ => by cases e
theorem vals_tys : ∀ {ns : List String} {us : List Value}, Vals (ns.map V.ty) us → us = ns.map Value.type
  | [], _, .nil => rfl
  | n :: ns, _, .cons r t => by
    rw [vals_tys t]
    cases r
    rfl
theorem snd_isi : SndC K (rIsi3 K) gIsi := fun w H M vs ds d Q o i e k => by
  unfold gIsi at e
  split at e
  · rename_i x n
    cases q : tyD x with
    | none => rw [q] at e; cases e
    | some t =>
      rw [q] at e
      have e : (kitB t n).map D.bl = some d := e
      cases q2 : kitB t n with
      | none => rw [q2] at e; cases e
      | some b =>
        rw [q2] at e
        cases e
        cases i with
        | cons i1 i2 =>
          cases i2 with
          | cons i2 i3 =>
            cases i3
            cases i2
            exact .inl ⟨_, .ty n, .type t, .type n, b, rfl, .ty n, tyx_of o.g i1 q, kit_ty q2, k _ w H (.refl _ _) o (.bl _)⟩
  · rename_i x cs
    cases q : tyD x with
    | none => rw [q] at e; cases e
    | some t =>
      cases q1 : tysOf cs with
      | none => rw [q, q1] at e; cases e
      | some ns =>
        rw [q, q1] at e
        have e : (anyTy t cs).map D.bl = some d := e
        cases q2 : anyTy t cs with
        | none => rw [q2] at e; cases e
        | some b =>
          rw [q2] at e
          cases e
          cases i with
          | cons i1 i2 =>
            cases i2 with
            | cons i2 i3 =>
              cases i3
              cases i2 with
              | @tup a us _ h1 h2 =>
                have ev := tys_vs h2 q1
                subst ev
                rcases h1 with h1 | ⟨ob, its, m, h1, h3, h4, h5, h6⟩
                · exact .inr (.inl ⟨_, a, _, .type t, ns.map Value.type, b, rfl, o.g _ _ h1, tys_cls ns, tyx_of o.g i1 q, tys_any q1 q2, k _ w H (.refl _ _) o (.bl _)⟩)
                · obtain ⟨oc, od, dt, sl⟩ := ob
                  simp only at h3 h4
                  subst h3 h4
                  have eu := vals_tys h6
                  refine .inr (.inr ⟨_, a, od, ns.map Value.type, m, sl, .type t, b, rfl, ?_, tyx_of o.g i1 q, tys_any q1 q2, k _ w H (.refl _ _) o (.bl _)⟩)
                  rw [h1, ← eu]
  · cases e
end
section
variable {X : Cx} {W : WX} {e : Expr} {es : List Expr} {pos p kpos : Pos} {kws : List Keyword} {nm : Option Str}
def DK (X : Cx) (W : WX) (kws : List Keyword) (f : Fa) : Prop := ∃ t, PK X kws t ∧ SndA X.K W t f
theorem dk_nil : DK X W [] fNil := ⟨_, pk_nil, fun env M σ w H w0 H0 Q I h => h [] w H (.refl _ _) I.ok .nil⟩
theorem dk_cons {f : Fe} {g : Fa} (ha : DE X W e f) (hr : DK X W kws g) : DK X W (⟨nm, e, kpos⟩ :: kws) (fCons f g) := by
  obtain ⟨t, q, s⟩ := ha
  obtain ⟨t', q', s'⟩ := hr
  exact ⟨_, pk_cons q q', snd_cons s s'⟩
variable {x : Str} {k : Nat} {fa : Addr} {fd : FuncData} {ps ks : List Str} {sp : Sp} {E : St → XK} {t tk : TA} {g : List Value → List Value → List Value} {gV : List V → List V → List V} {n : Nat} {CX : CXT}
end
end DL
namespace DL
open PySem L2
variable [Wld]
structure Has (μ : Bool) (P : Program) (w : World) (K : PySem.W.Frag) (mg : Str → Option Value) (base : Heap) (x : Str) (st : Stmt) (k : Nat) (ps : List Str) (F : Fn) : Prop where
  ex : ∃ fa fd, mg x = some (.ref fa) ∧ Fun K x x st fa fd ∧ Binds K fd ps [] ∧ FnOk P w K mg base (CXm μ P w) k fa fd ps (spD K ps.length F)
section
variable {X : Cx} {W : WX} {e e1 e2 e3 : Expr} {es : List Expr} {pos p : Pos} {kws : List Keyword} {x : Str} {st : Stmt} {k j : Nat} {ps ks : List Str} {F : Fn} {f fk : Fa}
theorem de_own (h : Has μ X.prog X.w X.K X.mg X.base x st k ps F) (hr : Room j X.A) (hk : k ≤ j) (tk : TakesM μ X W) (hg : Gl X x) (ha : DA X W (e :: es) f) (hl : LenOk ps.length f) (hdb : (x == ("__debug__" : Str)) = false := by decide)
    (he : starEach (e :: es) X.env = (false, eval e X.env) :: starEach es X.env := by rfl) (hpl : (backTo pos (starEach es X.env)).any (·.1) = false := by rfl) : DE X W (.Call (.Name x p) (e :: es) [] pos) (fCall F [] f) := by
  obtain ⟨fa, fd, h1, h2, h3, h4⟩ := h.ex
  exact de_call h4 (hr.mono hk) tk hg h1 h2.kp h3 .nil (fun w => .nil) ha hl rfl hdb he hpl
theorem snd_chain {K : PySem.W.Frag} {r r' : R2} {g g' : G2} {ta tb tc : TE} {fa fb fc : Fe} (hr : SndR2 K r g) (hr' : SndR2 K r' g') (ha : SndE K W ta fa) (hb : SndE K W tb fb) (hc : SndE K W tc fc) : SndE K W (tChain r r' ta tb tc) (fChain g g' fa fb fc) := fun env M σ w H w0 H0 Q I h => by
  refine ha env M σ w H w0 H0 _ I (Post.bind h fun d M1 v w1 H1 x1 o1 r1 h1 => ?_)
  have I1 := I.step x1 o1
  refine hb env M1 σ w1 H1 w0 H0 _ I1 (Post.bind h1 fun e M2 u w2 H2 x2 o2 r2 h2 => ?_)
  have I2 := I1.step x2 o2
  cases q : g M2 d e with
  | none => rw [q] at h2; exact h2.elim
  | some z =>
    rw [q] at h2
    refine hr w2 H2 M2 v u d e z _ o2 (r1.mono x2.more) r2 q fun v3 w3 H3 x3 o3 i3 => ?_
    cases i3 with
    | bl b =>
      cases b with
      | true =>
        refine ⟨true, rfl, ?_⟩
        have h2 : Post K (RlE K) w2 H2 σ W Q ((fc env M2).bind fun h M3 => match g' M3 e h with
          | some z => .ok z M3
          | none => .bad) := h2
        show tc σ H3 _
        refine hc env M2 σ w3 H3 w0 H0 _ (I2.step x3 o3) (Post.bind (Post.shift x3 h2) fun h M4 y w4 H4 x4 o4 r4 h4 => ?_)
        cases q' : g' M4 e h with
        | none => rw [q'] at h4; exact h4.elim
        | some z' =>
          rw [q'] at h4
          exact hr' w4 H4 M4 u y e h z' Q o4 ((r2.mono x3.more).mono x4.more) r4 q' h4
      | false => exact ⟨false, rfl, h2 (.bl false) w3 H3 x3 o3 (.bl false)⟩
    | _ => exact h2.elim
theorem de_chain {op op' : CmpOp} {r r' : R2} {g g' : G2} {fa fb fc : Fe} (ho : OpR X (compareOp op) r) (hs : SndR2 X.K r g) (ho' : OpR X (compareOp op') r') (hs' : SndR2 X.K r' g') (ha : DE X W e1 fa) (hb : DE X W e2 fb) (hc : DE X W e3 fc)
    (hm : lastMarks [op, op'] [e2, e3] = false := by with_unfolding_all rfl) : DE X W (.Compare e1 [op, op'] [e2, e3] pos) (fChain g g' fa fb fc) := by
  obtain ⟨t, q, s⟩ := ha
  obtain ⟨t', q', s'⟩ := hb
  obtain ⟨t'', q'', s''⟩ := hc
  exact ⟨_, pe_chain ho ho' q q' q'' hm, snd_chain hs hs' s s' s''⟩
theorem dt_chain {op op' : CmpOp} {r r' : R2} {g g' : G2} {fa fb fc : Fe} (ho : OpR X (compareOp op) r) (hs : SndR2 X.K r g) (ho' : OpR X (compareOp op') r') (hs' : SndR2 X.K r' g') (ha : DE X W e1 fa) (hb : DE X W e2 fb) (hc : DE X W e3 fc)
    (hm : lastMarks [op, op'] [e2, e3] = false := by with_unfolding_all rfl) : DT X W (.Compare e1 [op, op'] [e2, e3] pos) (tVal (fChain g g' fa fb fc)) := by
  obtain ⟨t, q, s⟩ := ha
  obtain ⟨t', q', s'⟩ := hb
  obtain ⟨t'', q'', s''⟩ := hc
  exact ⟨_, pt_chain ho ho' q q' q'' hm, snd_tval (snd_chain hs hs' s s' s'')⟩
end
def DefAt (K : PySem.W.Frag) (mg : Str → Option Value) (x : Str) (st : Stmt) (ps : List Str) : Prop := ∃ fa fd, mg x = some (.ref fa) ∧ Fun K x x st fa fd ∧ Binds K fd ps []
theorem has_of {P : Program} {w : World} {K : PySem.W.Frag} {mg : Str → Option Value} {base : Heap} {x : Str} {st : Stmt} {N ps : List Str} {k m : Nat} {f : Fs} (h : DefAt K mg x st ps) (S : FnScope N ps (defScope st)) (hm : N.length = m)
    (hb : ∀ (fa : Addr) (cdv : Value) (A : Around) (outer : List PySem.Env) (s : Shared) (H : Hp) (E : XK), Room k (A.deeper (PyProof.Rows.envOfC x (defScope st) s.heap.objs.size fa cdv)) →
      DSs (cxOf (CXm μ P w) P w K mg base N x (defScope st) fa cdv A outer s H E) (fun c d _ H' => E c d H') (defBody st) f) : Has μ P w K mg base x st (k + 1) ps (bodyF f m) := by
  obtain ⟨fa, fd, h1, h2, h3⟩ := h
  exact ⟨fa, fd, h1, h2, h3, fn_D h2 S rfl hm fun cdv A outer s H E hr => hb fa cdv A outer s H E hr⟩
theorem has_no {P : Program} {w : World} {K : PySem.W.Frag} {mg : Str → Option Value} {base : Heap} {x : Str} {st : Stmt} {ps : List Str} {k : Nat} (h : DefAt K mg x st ps) : Has μ P w K mg base x st k ps noF := by
  obtain ⟨fa, fd, h1, h2, h3⟩ := h
  exact ⟨fa, fd, h1, h2, h3, fn_no rfl⟩
def GlobD (K : PySem.W.Frag) (mg : Str → Option Value) (x : Str) (d : D) : Prop := ∃ u v, mg x = some u ∧ RelV v u ∧ ∀ w, Is K w v d
theorem de_globD {X : Cx} {W : WX} {x : Str} {d : D} {pos : Pos} (hg : Gl X x) (h : GlobD X.K X.mg x d) (hd : (x == ("__debug__" : Str)) = false := by decide) : DE X W (.Name x pos) (fK d) := by
  obtain ⟨u, v, h1, h2, h3⟩ := h
  exact de_glob hg h1 h2 h3 hd
theorem ds_app2 {X : Cx} {W : WX} {e : Expr} {x at_ : Str} {pos p1 p2 p3 : Pos} (i : Nat) {a : Fe} (ha : DE X W e a) (hb : ∀ t, PE X e t → PE X (.Call (.Attribute (.Name x p1) at_ p2) [e] [] p3) (tBM X.K "list" rAppend (tVar i) (tCons t tNil)))
    (hs : swapsWith (.Call (.Attribute (.Name x p1) at_ p2) [e] [] p3) none pos.line X.env = pure false := by rfl) : DS X W (.Expr (.Call (.Attribute (.Name x p1) at_ p2) [e] [] p3) pos) (sApp i a) := ds_app i ha hb hs
def scriptD (ns : List Int) : D := .rl (ns.map .int)
theorem script_iss {K : PySem.W.Frag} {w : Wd} : ∀ ns : List Int, Iss K w (ns.map V.int) (ns.map D.int)
  | [] => .nil
  | n :: ns => .cons (.int n) (script_iss ns)
def noTb (H : Hp) : Hp := fun b => match H b with
  | some (.tbl _) => none
  | x => x
theorem noTb_of {H : Hp} {b : Addr} {o : HO} (h : H b = some o) (n : ∀ ps, o ≠ .tbl ps) : noTb H b = some o := by
  unfold noTb
  rw [h]
  cases o <;> first | rfl | exact absurd rfl (n _)
theorem of_noTb {H : Hp} {b : Addr} {o : HO} (h : noTb H b = some o) : H b = some o ∧ ∀ ps, o ≠ .tbl ps := by
  unfold noTb at h
  split at h
  · cases h
  · rename_i x hx
    refine ⟨h, fun ps z => ?_⟩
    subst z
    exact hx ps h
theorem law_spT {K : PySem.W.Frag} {F : Fn} (h : ∀ ns : List Int, ns.length ≤ 63 → ∃ M, F [scriptD ns] [] = .ok (.bl true) M) (H : Hp) (hT : LamX.Tabs (TK K) H) (a : Addr) (ns : List Int) (hn : ns.length ≤ 63) (hS : SqL K H a (ns.map V.int)) :
    spD K 1 F [.ref a] H (fun v _ => v = .bl true) fun _ _ _ => False := by
  obtain ⟨M, hM⟩ := h ns hn
  have hS' : SqL K (noTb H) a (ns.map V.int) := by
    rcases hS with (s | ⟨o, s⟩) | s
    · exact .inl (.inl (noTb_of s fun _ z => by cases z))
    · exact .inl (.inr ⟨o, noTb_of s fun _ z => by cases z⟩)
    · exact .inr s
  refine ⟨[scriptD ns], [], ⟨[], noTb H⟩, ⟨fun _ _ z => (of_noTb z).1, fun k o z => by simp at z, List.nodup_nil, rfl, hT, fun b ps z => (of_noTb z).2 ps rfl⟩, .cons (.rl hS' (script_iss ns)) .nil, rfl, ?_⟩
  rw [hM]
  intro v w' H' _ _ i
  cases i
  rfl
theorem cx_no {P : Program} {w : World} {o : List PySem.Env} {H : Hp} {s s' : Shared} {e : Value} (h : L2.CX P w o H s (fun _ _ _ => False) e s') : False := by
  obtain ⟨_, _, _, _, _, _, _, _, _, _, _, _, z⟩ := h
  exact z
end DL
namespace DL
open PySem L2
variable [Wld]
def bagS : Fs := sSeq (sSet 1 (fFz (oB gList (fCons (fCut (fVar 0) pNo (pSome (fK (.int 63)))) (fNil))))) (sSeq (sSet 2 (fOp gAdd (fK (.int 5623)) (fOp gMul (fK (.int 31)) (fB gLen (fCons (fVar 1) (fNil)))))) (sSeq (sFor (iSeq (fVar 1)) (gN 3) (sSet 2 (fOp gMod (fB gInt (fCons (fOp gAdd (fOp gAdd (fOp gMul (fVar 2) (fK (.int 45131))) (fOp gMod (fB gInt (fCons (fVar 3) (fNil))) (fK (.int 2147483399)))) (fK (.int 17))) (fNil))) (fK (.int 2147483549))))) (sRet (fAl (oLst (fCons (fVar 1) (fCons (fK (.int 0)) (fCons (fK (.int 0)) (fCons (fVar 2) (fCons (fK (.int 0)) (fNil)))))))))))
def F_bag : Fn := bodyF bagS 4
def takeS2 : Fs := sSeq (sIf (tVal (fOp gGt (fOp gIx (fVar 0) (fK (.int 2))) (fK (.int 0)))) (sSeq (sSet 3 (fOp gMod (fB gInt (fCons (fOp gIx (fVar 0) (fK (.int 2))) (fNil))) (fVar 1))) (sSeq (sPut (fOp gDiv (fOp gIx (fVar 0) (fK (.int 2))) (fVar 1)) (fVar 0) (fK (.int 2))) (sRet (fVar 3)))) (sNil)) (sSeq (sSet 4 (fOp gIx (fVar 0) (fK (.int 3)))) (sSeq (sPut (fOp gMod (fB gInt (fCons (fOp gAdd (fOp gAdd (fOp gAdd (fOp gPow (fVar 4) (fK (.int 3))) (fOp gMul (fVar 4) (fK (.int 38461)))) (fOp gMul (fOp gIx (fVar 0) (fK (.int 4))) (fK (.int 1299637)))) (fK (.int 65239))) (fNil))) (fK (.int 2147483549))) (fVar 0) (fK (.int 3))) (sRet (fOp gMod (fB gInt (fCons (fOp gAdd (fOp gDiv (fOp gIx (fVar 0) (fK (.int 3))) (fK (.int 89))) (fOp gMul (fOp gMod (fB gInt (fCons (fOp gIx (fVar 0) (fK (.int 3))) (fNil))) (fK (.int 7907))) (fK (.int 67)))) (fNil))) (fVar 1)))))
def takeS : Fs := sSeq (sPut (fOp gAdd (fOp gIx (fVar 0) (fK (.int 4))) (fK (.int 1))) (fVar 0) (fK (.int 4))) (sSeq (sIf (tAndF (tVal (fOp gEq (fOp gIx (fVar 0) (fK (.int 2))) (fK (.int 0)))) (tVal (fOp gLt (fOp gIx (fVar 0) (fK (.int 1))) (fB gLen (fCons (fOp gIx (fVar 0) (fK (.int 0))) (fNil)))))) (sSeq (sSet 2 (fOp gIx (fOp gIx (fVar 0) (fK (.int 0))) (fOp gIx (fVar 0) (fK (.int 1))))) (sSeq (sPut (fOp gAdd (fOp gIx (fVar 0) (fK (.int 1))) (fK (.int 1))) (fVar 0) (fK (.int 1))) (sIf (tVal (fOp gGe (fVar 2) (fOp gPow (fK (.int 10)) (fK (.int 18))))) (sPut (fVar 2) (fVar 0) (fK (.int 2))) (sPut (fOp gMod (fB gInt (fCons (fOp gAdd (fOp gAdd (fOp gMul (fOp gIx (fVar 0) (fK (.int 3))) (fK (.int 39199))) (fOp gMul (fOp gMod (fB gInt (fCons (fVar 2) (fNil))) (fK (.int 2147483399))) (fK (.int 40351)))) (fK (.int 43))) (fNil))) (fK (.int 2147483549))) (fVar 0) (fK (.int 3)))))) (sNil)) takeS2)
def F_take : Fn := bodyF takeS 5
def F_like : Nat → Fn
  | 0 => noF
  | k + 1 => bodyF (sSeq (sIf (tVal (fB gIsi (fCons (fVar 1) (fCons (fTup (fCons (fK (.ty "list")) (fCons (fK (.ty "tuple")) (fNil)))) (fNil))))) (sSeq (sIf (tOrF (tVal (fOp gNe (fB gIsi (fCons (fVar 0) (fCons (fK (.ty "list")) (fNil)))) (fB gIsi (fCons (fVar 1) (fCons (fK (.ty "list")) (fNil)))))) (tVal (fOp gNe (fB gIsi (fCons (fVar 0) (fCons (fK (.ty "tuple")) (fNil)))) (fB gIsi (fCons (fVar 1) (fCons (fK (.ty "tuple")) (fNil))))))) (sRet (fK (.bl false))) (sNil)) (sRet (fAnd (fOp gEq (fB gLen (fCons (fVar 0) (fNil))) (fB gLen (fCons (fVar 1) (fNil)))) (fB gAll (fCons (fFz (oLc (iZip (fCons (fVar 0) (fCons (fVar 1) (fNil)))) (gT 2 (gsC (gN 2) (gsC (gN 3) (gsN)))) (tYesF) (fCall (F_like k) [] (fCons (fVar 2) (fCons (fVar 3) (fNil)))) [2, 3])) (fNil)))))) (sNil)) (sSeq (sIf (tOrF (tVal (fOp gIs (fVar 1) (fK .non))) (tVal (fOp gIs (fVar 0) (fK .non)))) (sRet (fAnd (fOp gIs (fVar 1) (fK .non)) (fOp gIs (fVar 0) (fK .non)))) (sNil)) (sSeq (sIf (tOrF (tVal (fOp gNe (fB gIsi (fCons (fVar 1) (fCons (fK (.ty "bool")) (fNil)))) (fB gIsi (fCons (fVar 0) (fCons (fK (.ty "bool")) (fNil)))))) (tVal (fOp gNe (fB gIsi (fCons (fVar 1) (fCons (fK (.ty "int")) (fNil)))) (fB gIsi (fCons (fVar 0) (fCons (fK (.ty "int")) (fNil))))))) (sRet (fK (.bl false))) (sNil)) (sRet (fAnd (fOp gEq (fB gIsi (fCons (fVar 1) (fCons (fK (.ty "str")) (fNil)))) (fB gIsi (fCons (fVar 0) (fCons (fK (.ty "str")) (fNil))))) (fOp gEq (fVar 0) (fVar 1))))))) 4
section
variable {α β : Type}
@[simp] theorem bind_okS {a : α} {M : Mem} {f : α → Mem → R β} : (R.ok a M).bind f = f a M := rfl
@[simp] theorem bind_badS {f : α → Mem → R β} : (R.bad : R α).bind f = .bad := rfl
@[simp] theorem thn_okS {a : α} {M : Mem} {env : Env} {f : α → Mem → RS} : (R.ok a M).thn env f = f a M := rfl
@[simp] theorem thn_badS {env : Env} {f : α → Mem → RS} : (R.bad : R α).thn env f = .bad := rfl
@[simp] theorem nox_okS {a : α} {M : Mem} : (R.ok a M).nox = .ok a M := rfl
@[simp] theorem seq_nxS {env : Env} {M : Mem} {f : Fs} : (RS.nx env M).seq f = f env M := rfl
@[simp] theorem seq_rtS {d : D} {M : Mem} {f : Fs} : (RS.rt d M).seq f = .rt d M := rfl
@[simp] theorem seq_bkS {env : Env} {M : Mem} {f : Fs} : (RS.bk env M).seq f = .bk env M := rfl
@[simp] theorem seq_ctS {env : Env} {M : Mem} {f : Fs} : (RS.ct env M).seq f = .ct env M := rfl
@[simp] theorem turn_nxS {env : Env} {M : Mem} {f : Fs} : (RS.nx env M).turn f = f env M := rfl
@[simp] theorem turn_ctS {env : Env} {M : Mem} {f : Fs} : (RS.ct env M).turn f = f env M := rfl
@[simp] theorem turn_bkS {env : Env} {M : Mem} {f : Fs} : (RS.bk env M).turn f = .nx env M := rfl
@[simp] theorem turn_rtS {d : D} {M : Mem} {f : Fs} : (RS.rt d M).turn f = .rt d M := rfl
end
theorem atI_nat {ds : List D} {i : Nat} {d : D} (h : ds[i]? = some d) : atI ds (i : Int) = some d := by
  have hl : i < ds.length := (List.getElem?_eq_some_iff.mp h).1
  unfold atI ixN
  rw [if_pos (Int.natCast_nonneg i), if_pos (by exact_mod_cast hl)]
  exact h
def bagO (row : List Int) (i : Nat) (g m c : Int) : MO := .lst [.lst (row.map .int), .int i, .int g, .int m, .int c]
def Bag (R : List MO) (M : Mem) : Prop := ∃ (row : List Int) (i : Nat) (g m c : Int), M = bagO row i g m c :: R ∧ i ≤ row.length ∧ row.length ≤ 63 ∧ 0 ≤ g ∧ 0 ≤ m ∧ m < 2147483549
theorem body_rt {f : Fs} {n : Nat} {ds : List D} {M M' : Mem} {d : D} {env : Env} (he : ds.map Sl.val ++ List.replicate (n - ds.length) Sl.no = env) (h : f env M = .rt d M') : bodyF f n ds M = .ok d M' := by
  unfold bodyF
  rw [he, h]
section
variable {α : Type} {a b c d e f : α} {l : List α}
@[simp] theorem atI_0 : atI (a :: l) 0 = some a := by simp [atI, ixN]
@[simp] theorem atI_1 : atI (a :: b :: l) 1 = some b := by
  unfold atI ixN
  rw [if_pos (by decide), if_pos (by simp; omega)]
  rfl
@[simp] theorem atI_2 : atI (a :: b :: c :: l) 2 = some c := by
  unfold atI ixN
  rw [if_pos (by decide), if_pos (by simp; omega)]
  rfl
@[simp] theorem atI_3 : atI (a :: b :: c :: d :: l) 3 = some d := by
  unfold atI ixN
  rw [if_pos (by decide), if_pos (by simp; omega)]
  rfl
@[simp] theorem atI_4 : atI (a :: b :: c :: d :: e :: l) 4 = some e := by
  unfold atI ixN
  rw [if_pos (by decide), if_pos (by simp; omega)]
  rfl
@[simp] theorem atI_5 : atI (a :: b :: c :: d :: e :: f :: l) 5 = some f := by
  unfold atI ixN
  rw [if_pos (by decide), if_pos (by simp; omega)]
  rfl
end
theorem seq_of {a b : Fs} {env env1 : Env} {M M1 : Mem} (h : a env M = .nx env1 M1) : sSeq a b env M = b env1 M1 := by
  unfold sSeq
  rw [h]
  rfl
theorem for_of {it : Fa} {g : Fg} {b : Fs} {env : Env} {M M1 : Mem} {ds : List D} (h : it env M = .ok ds M1) : sFor it g b env M = forL g b ds env M1 := by
  unfold sFor
  rw [h]
  rfl
theorem ret_of {a : Fe} {env : Env} {M M1 : Mem} {d : D} (h : a env M = .ok d M1) : sRet a env M = .rt d M1 := by
  unfold sRet
  rw [h]
  rfl
theorem set_of {i : Nat} {a : Fe} {env : Env} {M M1 : Mem} {d : D} (h : a env M = .ok d M1) : sSet i a env M = .nx (env.set i (.val d)) M1 := by
  unfold sSet
  rw [h]
  rfl
theorem if_of {t : Ft} {a b : Fs} {env : Env} {M M1 : Mem} {c : Bool} (h : t env M = .ok c M1) : sIf t a b env M = if c = true then a env M1 else b env M1 := by
  unfold sIf
  rw [h]
  rfl
theorem ints_small (i : Int) (h1 : 0 ≤ i) (h2 : i < 2147483549) : i.natAbs < 2 ^ 64 := by omega
theorem emod_in (x y : Int) (hy : 0 < y) : 0 ≤ x % y ∧ x % y < y := ⟨Int.emod_nonneg _ (by omega), Int.emod_lt_of_pos _ hy⟩
theorem take2_ok {R : List MO} {n : Int} (h0 : 0 < n) (h1 : n < 1073741824) (row : List Int) (i : Nat) (g m c : Int) (hg : 0 ≤ g) (hm : 0 ≤ m) (hm2 : m < 2147483549) (hi : i ≤ row.length) (hr : row.length ≤ 63) (e2 : Sl) :
    ∃ r M', takeS2 [.val (.ref 0), .val (.int n), e2, .no, .no] (bagO row i g m c :: R) = .rt (.int r) M' ∧ 0 ≤ r ∧ r < n ∧ Bag R M' := by
  by_cases hg0 : 0 < g
  · refine ⟨g % n, bagO row i (g / n) m c :: R, ?_, Int.emod_nonneg _ (by omega), Int.emod_lt_of_pos _ h0, row, i, g / n, m, c, rfl, hi, hr, Int.ediv_nonneg hg (by omega), hm, hm2⟩
    simp [takeS2, sSeq, sIf, sPut, sSet, sRet, sNil, tVal, fOp, fVar, fK, fB, fCons, fNil, gInt, gI, gGt, gMod, gDiv, gIx, bagO, atI, ixN, hg0, modOk, divOk, h0, h1]
  · have hm3 := ints_small m hm hm2
    obtain ⟨m', hm'⟩ : ∃ m', m' = (m ^ 3 + m * 38461 + c * 1299637 + 65239) % 2147483549 := ⟨_, rfl⟩
    have z := emod_in (m ^ 3 + m * 38461 + c * 1299637 + 65239) 2147483549 (by decide)
    rw [← hm'] at z
    refine ⟨(m' / 89 + m' % 7907 * 67) % n, bagO row i g m' c :: R, ?_, (emod_in _ n h0).1, (emod_in _ n h0).2, row, i, g, m', c, rfl, hi, hr, hg, z.1, z.2⟩
    simp [takeS2, sSeq, sIf, sPut, sSet, sRet, sNil, tVal, fOp, fVar, fK, fB, fCons, fNil, gInt, gI, gGt, gMod, gDiv, gIx, bagO, atI, ixN, hg0, modOk, divOk, h0, h1, gPow, gMul, gAdd, powOk, mulOk, hm3, ← hm']
theorem take_ok {R : List MO} {M : Mem} {n : Int} (h : Bag R M) (h0 : 0 < n) (h1 : n < 1073741824) : ∃ r M', F_take [.ref 0, .int n] M = .ok (.int r) M' ∧ 0 ≤ r ∧ r < n ∧ Bag R M' := by
  obtain ⟨row, i, g, m, c, rfl, hi, hr, hg, hm, hm2⟩ := h
  suffices q : ∃ (i' : Nat) (g' m' c' : Int) (e2 : Sl), 0 ≤ g' ∧ 0 ≤ m' ∧ m' < 2147483549 ∧ i' ≤ row.length ∧ takeS [.val (.ref 0), .val (.int n), .no, .no, .no] (bagO row i g m c :: R) = takeS2 [.val (.ref 0), .val (.int n), e2, .no, .no] (bagO row i' g' m' c' :: R) by
    obtain ⟨i', g', m', c', e2, a1, a2, a3, a4, q⟩ := q
    obtain ⟨r, M', h1, h2⟩ := take2_ok (R := R) h0 h1 row i' g' m' c' a1 a2 a3 a4 hr e2
    exact ⟨r, M', body_rt rfl (q.trans h1), h2⟩
  by_cases a : g = 0 ∧ i < row.length
  · obtain ⟨rfl, hi2⟩ := a
    have hx : row[i]? = some row[i] := List.getElem?_eq_getElem hi2
    have hx2 : (row.map D.int)[i]? = some (.int row[i]) := by simp [hx]
    have hx3 := atI_nat hx2
    by_cases b : (1000000000000000000 : Int) ≤ row[i]
    · refine ⟨i + 1, row[i], m, c + 1, .val (.int row[i]), by omega, hm, hm2, hi2, ?_⟩
      simp [takeS, sSeq, sIf, sPut, sSet, sNil, tVal, tAndF, fOp, fVar, fK, fB, fCons, fNil, gInt, gI, gGt, gGe, gLt, gLen, gMod, gIx, bagO, ixN, modOk, gPow, gMul, gAdd, gEq, toPy, powOk, mulOk, SeqAt.shaped, PyData.canLay0, PyData.depth, PyData.eqv, hi2, hx, hx2, hx3, b]
    · have z := emod_in (m * 39199 + row[i] % 2147483399 * 40351 + 43) 2147483549 (by decide)
      refine ⟨i + 1, 0, (m * 39199 + row[i] % 2147483399 * 40351 + 43) % 2147483549, c + 1, .val (.int row[i]), by omega, z.1, z.2, hi2, ?_⟩
      simp [takeS, sSeq, sIf, sPut, sSet, sNil, tVal, tAndF, fOp, fVar, fK, fB, fCons, fNil, gInt, gI, gGt, gGe, gLt, gLen, gMod, gIx, bagO, ixN, modOk, gPow, gMul, gAdd, gEq, toPy, powOk, mulOk, SeqAt.shaped, PyData.canLay0, PyData.depth, PyData.eqv, hi2, hx, hx2, hx3, b]
  · refine ⟨i, g, m, c + 1, .no, hg, hm, hm2, hi, ?_⟩
    by_cases hg0 : g = 0
    · have hi3 : ¬ i < row.length := fun z => a ⟨hg0, z⟩
      subst hg0
      simp [takeS, sSeq, sIf, sPut, sSet, sNil, tVal, tAndF, fOp, fVar, fK, fB, fCons, fNil, gInt, gI, gGt, gGe, gLt, gLen, gMod, gIx, bagO, ixN, modOk, gPow, gMul, gAdd, gEq, toPy, powOk, mulOk, SeqAt.shaped, PyData.canLay0, PyData.depth, PyData.eqv, hi3]
    · simp [takeS, sSeq, sIf, sPut, sSet, sNil, tVal, tAndF, fOp, fVar, fK, fB, fCons, fNil, gInt, gI, gGt, gGe, gLt, gLen, gMod, gIx, bagO, ixN, modOk, gPow, gMul, gAdd, gEq, toPy, powOk, mulOk, SeqAt.shaped, PyData.canLay0, PyData.depth, PyData.eqv, hg0]
theorem bag_loop {ns : List Int} : ∀ (xs : List Int) (m : Int) (e3 : Sl), 0 ≤ m → m < 2147483549 → ∃ m' e3', 0 ≤ m' ∧ m' < 2147483549 ∧ forL (gN 3) (sSet 2 (fOp gMod (fB gInt (fCons (fOp gAdd (fOp gAdd (fOp gMul (fVar 2) (fK (.int 45131))) (fOp gMod (fB gInt (fCons (fVar 3) (fNil))) (fK (.int 2147483399)))) (fK (.int 17))) (fNil))) (fK (.int 2147483549)))) (xs.map D.int) [.val (scriptD ns), .val (.lst (ns.map D.int)), .val (.int m), e3] [] = .nx [.val (scriptD ns), .val (.lst (ns.map D.int)), .val (.int m'), e3'] []
  | [], m, e3, h0, h1 => ⟨m, e3, h0, h1, rfl⟩
  | x :: xs, m, e3, h0, h1 => by
    have z := emod_in (m * 45131 + x % 2147483399 + 17) 2147483549 (by decide)
    obtain ⟨m', e3', g1, g2, g3⟩ := bag_loop (ns := ns) xs _ (.val (.int x)) z.1 z.2
    refine ⟨m', e3', g1, g2, ?_⟩
    rw [List.map_cons]
    unfold forL
    rw [← g3]
    simp [gN, sSet, fOp, fVar, fK, fB, fCons, fNil, gMod, gI, gInt, gAdd, gMul, mulOk, modOk]
theorem bag_ok {ns : List Int} (h : ns.length ≤ 63) : ∃ M, F_bag [scriptD ns] [] = .ok (.ref 0) M ∧ Bag [] M := by
  obtain ⟨m', e3', g1, g2, g3⟩ := bag_loop (ns := ns) ns (5623 + 31 * ns.length) .no (by omega) (by omega)
  refine ⟨[bagO ns 0 0 m' 0], body_rt (env := [.val (scriptD ns), .no, .no, .no]) rfl ?_, ns, 0, 0, m', 0, rfl, by omega, h, by decide, g1, g2⟩
  have e : cutD (ns.map D.int) none (some 63) = ns.map D.int := by
    have e1 : HT.sIx (ns.map D.int).length 0 none = 0 := rfl
    have e2 : HT.sIx (ns.map D.int).length (ns.map D.int).length (some 63) = ns.length := by
      show HT.sIx _ _ (some ((63 : Nat) : Int)) = _
      rw [HT.sIx_nat, List.length_map]; omega
    unfold cutD
    rw [e1, e2, List.drop_zero, Nat.sub_zero, List.take_of_length_le (by simp)]
  have e4 : scriptD ns = .rl (ns.map D.int) := rfl
  have s1 : (sSet 1 (fFz (oB gList (fCons (fCut (fVar 0) pNo (pSome (fK (.int 63)))) (fNil))))) [.val (scriptD ns), .no, .no, .no] [] = .nx [.val (scriptD ns), .val (.lst (ns.map D.int)), .no, .no] [] := by
    show (((((R.ok (scriptD ns) []).bind fun d M1 => (pNo [] M1).bind fun lo M2 => (R.ok (some 63) M2).bind fun hi M3 => match cutOf d lo hi with | some z => R.ok z M3 | none => .bad).bind fun d M1 => (R.ok [] M1).bind fun ds M2 => R.ok (d :: ds) M2).bind fun ds M1 => match gList M1 ds with | some z => .ok z M1 | none => .bad).bind fun m M1 => .ok m.toD M1).thn [.val (scriptD ns), .no, .no, .no] (fun d M1 => .nx [.val (scriptD ns), .val d, .no, .no] M1) = _
    simp [pNo, scriptD, cutOf, e, gList, MO.toD]
  have s2 : (sSet 2 (fOp gAdd (fK (.int 5623)) (fOp gMul (fK (.int 31)) (fB gLen (fCons (fVar 1) (fNil)))))) [.val (scriptD ns), .val (.lst (ns.map D.int)), .no, .no] [] = .nx [.val (scriptD ns), .val (.lst (ns.map D.int)), .val (.int (5623 + 31 * ns.length)), .no] [] := by
    simp [sSet, fOp, fVar, fK, fB, fCons, fNil, gLen, gMul, gAdd, mulOk]
  refine (seq_of s1).trans ((seq_of s2).trans ((seq_of ((for_of (ds := ns.map D.int) rfl).trans g3)).trans (ret_of rfl)))
def pl : Nat → D → Bool
  | 0, _ => false
  | k + 1, .tup ds => small ds.length && ds.all (pl k)
  | k + 1, .lst ds => small ds.length && ds.all (pl k)
  | _ + 1, .non => true
  | _ + 1, .bl _ => true
  | _ + 1, .int _ => true
  | _ + 1, .str x => PyData.strOk x
  | _ + 1, _ => false
end DL
namespace DL
open PySem L2
variable [Wld]
theorem call_of {F : Fn} {a : Fa} {env : Env} {M M1 M2 : Mem} {ds : List D} {z : D} (h : a env M = .ok ds M1) (hF : F ds M1 = .ok z M2) : fCall F [] a env M = .ok z M2 := by
  unfold fCall
  rw [h]
  show F (ds ++ []) M1 = _
  rw [List.append_nil, hF]
@[simp] theorem kb_NoneType_bool : kitB "NoneType" "bool" = some false := by decide +kernel
@[simp] theorem kb_NoneType_int : kitB "NoneType" "int" = some false := by decide +kernel
@[simp] theorem kb_NoneType_str : kitB "NoneType" "str" = some false := by decide +kernel
@[simp] theorem kb_NoneType_tuple : kitB "NoneType" "tuple" = some false := by decide +kernel
@[simp] theorem kb_NoneType_list : kitB "NoneType" "list" = some false := by decide +kernel
@[simp] theorem kb_bool_bool : kitB "bool" "bool" = some true := by decide +kernel
@[simp] theorem kb_bool_int : kitB "bool" "int" = some true := by decide +kernel
@[simp] theorem kb_bool_str : kitB "bool" "str" = some false := by decide +kernel
@[simp] theorem kb_bool_tuple : kitB "bool" "tuple" = some false := by decide +kernel
@[simp] theorem kb_bool_list : kitB "bool" "list" = some false := by decide +kernel
@[simp] theorem kb_int_bool : kitB "int" "bool" = some false := by decide +kernel
@[simp] theorem kb_int_int : kitB "int" "int" = some true := by decide +kernel
@[simp] theorem kb_int_str : kitB "int" "str" = some false := by decide +kernel
@[simp] theorem kb_int_tuple : kitB "int" "tuple" = some false := by decide +kernel
@[simp] theorem kb_int_list : kitB "int" "list" = some false := by decide +kernel
@[simp] theorem kb_str_bool : kitB "str" "bool" = some false := by decide +kernel
@[simp] theorem kb_str_int : kitB "str" "int" = some false := by decide +kernel
@[simp] theorem kb_str_str : kitB "str" "str" = some true := by decide +kernel
@[simp] theorem kb_str_tuple : kitB "str" "tuple" = some false := by decide +kernel
@[simp] theorem kb_str_list : kitB "str" "list" = some false := by decide +kernel
@[simp] theorem kb_tuple_bool : kitB "tuple" "bool" = some false := by decide +kernel
@[simp] theorem kb_tuple_int : kitB "tuple" "int" = some false := by decide +kernel
@[simp] theorem kb_tuple_str : kitB "tuple" "str" = some false := by decide +kernel
@[simp] theorem kb_tuple_tuple : kitB "tuple" "tuple" = some true := by decide +kernel
@[simp] theorem kb_tuple_list : kitB "tuple" "list" = some false := by decide +kernel
@[simp] theorem kb_list_bool : kitB "list" "bool" = some false := by decide +kernel
@[simp] theorem kb_list_int : kitB "list" "int" = some false := by decide +kernel
@[simp] theorem kb_list_str : kitB "list" "str" = some false := by decide +kernel
@[simp] theorem kb_list_tuple : kitB "list" "tuple" = some false := by decide +kernel
@[simp] theorem kb_list_list : kitB "list" "list" = some true := by decide +kernel
end DL
namespace DL
open PySem L2
variable [Wld]
def fIxO (i : Nat) (b : Fe) : Fe := fun env M => match env[i]? with
  | some (.own (.lst ds)) => (b env M).bind fun d M1 => match d with
    | .int z => match atI ds z with
      | some x => .ok x M1
      | none => .bad
    | _ => .bad
  | _ => .bad
def fLenO (i : Nat) : Fe := fun env M => match env[i]? with
  | some (.own (.lst ds)) => .ok (.int ds.length) M
  | _ => .bad
def sPutO (i : Nat) (a b : Fe) : Fs := fun env M => (a env M).thn env fun d M1 => match env[i]? with
  | some (.own (.lst ds)) => (b env M1).thn env fun z M2 => match z with
    | .int z => match ixN ds.length z with
      | some j => .nx (env.set i (.own (.lst (ds.set j d)))) M2
      | none => .bad
    | _ => .bad
  | _ => .bad
section
variable {X : Cx} {W : WX} {e e1 e2 : Expr} {pos p : Pos} {x : Str}
end
end DL
namespace DL
open PySem L2
variable [Wld]
@[simp] theorem u_fVar {i : Nat} {env : Env} {M : Mem} : fVar i env M = match env[i]? with
  | some (.val d) => .ok d M
  | _ => .bad := by unfold fVar; rfl
@[simp] theorem u_fK {d : D} {env0 : Env} {M : Mem} : fK d env0 M = .ok d M := by unfold fK; rfl
@[simp] theorem u_fNil  {env0 : Env} {M : Mem} : fNil  env0 M = .ok [] M := by unfold fNil; rfl
@[simp] theorem u_fCons {a : Fe} {r : Fa} {env : Env} {M : Mem} : fCons a r env M = (a env M).bind fun d M1 => (r env M1).bind fun ds M2 => .ok (d :: ds) M2 := by unfold fCons; rfl
@[simp] theorem u_fTup {a : Fa} {env : Env} {M : Mem} : fTup a env M = (a env M).bind fun ds M1 => .ok (.tup ds) M1 := by unfold fTup; rfl
@[simp] theorem u_oLst {a : Fa} {env : Env} {M : Mem} : oLst a env M = (a env M).bind fun ds M1 => .ok (.lst ds) M1 := by unfold oLst; rfl
@[simp] theorem u_fFz {o : Fo} {env : Env} {M : Mem} : fFz o env M = (o env M).bind fun m M1 => .ok m.toD M1 := by unfold fFz; rfl
@[simp] theorem u_fAl {o : Fo} {env : Env} {M : Mem} : fAl o env M = (o env M).bind fun m M1 => .ok (.ref M1.length) (M1 ++ [m]) := by unfold fAl; rfl
@[simp] theorem u_fOp {g : G2} {a b : Fe} {env : Env} {M : Mem} : fOp g a b env M = (a env M).bind fun d M1 => (b env M1).bind fun e M2 => match g M2 d e with
  | some z => .ok z M2
  | none => .bad := by unfold fOp; rfl
@[simp] theorem u_fUn {g : G1} {a : Fe} {env : Env} {M : Mem} : fUn g a env M = (a env M).bind fun d M1 => match g M1 d with
  | some z => .ok z M1
  | none => .bad := by unfold fUn; rfl
@[simp] theorem u_fB {g : GA} {a : Fa} {env : Env} {M : Mem} : fB g a env M = (a env M).bind fun ds M1 => match g M1 ds with
  | some z => .ok z M1
  | none => .bad := by unfold fB; rfl
@[simp] theorem u_oB {g : GO} {a : Fa} {env : Env} {M : Mem} : oB g a env M = (a env M).bind fun ds M1 => match g M1 ds with
  | some z => .ok z M1
  | none => .bad := by unfold oB; rfl
@[simp] theorem u_fIf {t : Ft} {a b : Fe} {env : Env} {M : Mem} : fIf t a b env M = (t env M).bind fun c M1 => if c = true then a env M1 else b env M1 := by unfold fIf; rfl
@[simp] theorem u_tVal {a : Fe} {env : Env} {M : Mem} : tVal a env M = (a env M).bind fun d M1 => match d with
  | .bl b => .ok b M1
  | _ => .bad := by unfold tVal; rfl
@[simp] theorem u_tAndF {a b : Ft} {env : Env} {M : Mem} : tAndF a b env M = (a env M).bind fun c M1 => if c = true then b env M1 else .ok false M1 := by unfold tAndF; rfl
@[simp] theorem u_tOrF {a b : Ft} {env : Env} {M : Mem} : tOrF a b env M = (a env M).bind fun c M1 => if c = true then .ok true M1 else b env M1 := by unfold tOrF; rfl
@[simp] theorem u_tNotF {a : Ft} {env : Env} {M : Mem} : tNotF a env M = (a env M).bind fun c M1 => .ok (!c) M1 := by unfold tNotF; rfl
@[simp] theorem u_fAnd {a b : Fe} {env : Env} {M : Mem} : fAnd a b env M = (a env M).bind fun d M1 => match d with
  | .bl true => b env M1
  | .bl false => .ok (.bl false) M1
  | _ => .bad := by unfold fAnd; rfl
@[simp] theorem u_fOr {a b : Fe} {env : Env} {M : Mem} : fOr a b env M = (a env M).bind fun d M1 => match d with
  | .bl true => .ok (.bl true) M1
  | .bl false => b env M1
  | _ => .bad := by unfold fOr; rfl
@[simp] theorem u_fCall {F : Fn} {dvs : List D} {a : Fa} {env : Env} {M : Mem} : fCall F dvs a env M = (a env M).bind fun ds M1 => F (ds ++ dvs) M1 := by unfold fCall; rfl
@[simp] theorem u_fCallK {F : Fn} {g : List D → List D → List D} {a k : Fa} {env : Env} {M : Mem} : fCallK F g a k env M = (a env M).bind fun ds M1 => (k env M1).bind fun es M2 => F (g ds es) M2 := by unfold fCallK; rfl
@[simp] theorem u_fChain {g g' : G2} {a b c : Fe} {env : Env} {M : Mem} : fChain g g' a b c env M = (a env M).bind fun d M1 => (b env M1).bind fun e M2 => match g M2 d e with
  | some (.bl true) => (c env M2).bind fun h M3 => match g' M3 e h with
    | some z => .ok z M3
    | none => .bad
  | some (.bl false) => .ok (.bl false) M2
  | _ => .bad := by unfold fChain; rfl
@[simp] theorem u_sNil  {env : Env} {M : Mem} : sNil  env M = .nx env M := by unfold sNil; rfl
@[simp] theorem u_sSeq {a b : Fs} {env : Env} {M : Mem} : sSeq a b env M = (a env M).seq b := by unfold sSeq; rfl
@[simp] theorem u_sSet {i : Nat} {a : Fe} {env : Env} {M : Mem} : sSet i a env M = (a env M).thn env fun d M1 => .nx (env.set i (.val d)) M1 := by unfold sSet; rfl
@[simp] theorem u_sSetO {i : Nat} {a : Fo} {env : Env} {M : Mem} : sSetO i a env M = (a env M).thn env fun m M1 => .nx (env.set i (.own m)) M1 := by unfold sSetO; rfl
@[simp] theorem u_sIf {t : Ft} {a b : Fs} {env : Env} {M : Mem} : sIf t a b env M = (t env M).thn env fun c M1 => if c = true then a env M1 else b env M1 := by unfold sIf; rfl
@[simp] theorem u_sRet {a : Fe} {env : Env} {M : Mem} : sRet a env M = (a env M).thn env fun d M1 => .rt d M1 := by unfold sRet; rfl
@[simp] theorem u_sRetN  {env0 : Env} {M : Mem} : sRetN  env0 M = .rt .non M := by unfold sRetN; rfl
@[simp] theorem u_sDrop {a : Fe} {env : Env} {M : Mem} : sDrop a env M = (a env M).thn env fun _ M1 => .nx env M1 := by unfold sDrop; rfl
@[simp] theorem u_sBrk  {env : Env} {M : Mem} : sBrk  env M = .bk env M := by unfold sBrk; rfl
@[simp] theorem u_sCont  {env : Env} {M : Mem} : sCont  env M = .ct env M := by unfold sCont; rfl
@[simp] theorem u_sFz {i : Nat} {f : Fs} {env : Env} {M : Mem} : sFz i f env M = f (env.set i ((env.getD i .no).fz)) M := by unfold sFz; rfl
@[simp] theorem u_sApp {i : Nat} {a : Fe} {env : Env} {M : Mem} : sApp i a env M = match env[i]? with
  | some (.own (.lst ds)) => (a env M).thn env fun d M1 => if small ds.length = true then .nx (env.set i (.own (.lst (ds ++ [d])))) M1 else .bad
  | _ => .bad := by unfold sApp; rfl
@[simp] theorem u_sPut {a o i : Fe} {env : Env} {M : Mem} : sPut a o i env M = (a env M).thn env fun d M1 => (o env M1).thn env fun e M2 => (i env M2).thn env fun z M3 => match e, z with
  | .ref k, .int z => match M3[k]? with
    | some (.lst ds) => match ixN ds.length z with
      | some j => .nx env (M3.set k (.lst (ds.set j d)))
      | none => .bad
    | _ => .bad
  | _, _ => .bad := by unfold sPut; rfl
@[simp] theorem u_gN {i : Nat} {d : D} {env : Env} : gN i d env = some (env.set i (.val d)) := by unfold gN; rfl
@[simp] theorem u_gT {n : Nat} {g : Fgs} {d : D} {env : Env} : gT n g d env = match d with
  | .tup ds => if ds.length = n then g ds env else none
  | _ => none := by unfold gT; rfl
@[simp] theorem u_gsN  {ds : List D} {env : Env} : gsN  ds env = match ds with
  | [] => some env
  | _ :: _ => none := by unfold gsN; rfl
@[simp] theorem u_gsC {g : Fg} {r : Fgs} {ds : List D} {env : Env} : gsC g r ds env = match ds with
  | d :: ds => (g d env).bind fun env1 => r ds env1
  | [] => none := by unfold gsC; rfl
@[simp] theorem u_sAsg {g : Fg} {a : Fe} {env : Env} {M : Mem} : sAsg g a env M = (a env M).thn env fun d M1 => match g d env with
  | some env' => .nx env' M1
  | none => .bad := by unfold sAsg; rfl
@[simp] theorem u_sPar {i j : Nat} {a b : Fx} {env : Env} {M : Mem} : sPar i j a b env M = (a env M).thn env fun d M1 => (b env M1).thn env fun e M2 => .nx ((env.set i d.sl).set j e.sl) M2 := by unfold sPar; rfl
@[simp] theorem u_xV {a : Fe} {env : Env} {M : Mem} : xV a env M = (a env M).bind fun d M1 => .ok (.v d) M1 := by unfold xV; rfl
@[simp] theorem u_xO {a : Fo} {env : Env} {M : Mem} : xO a env M = (a env M).bind fun m M1 => .ok (.o m) M1 := by unfold xO; rfl
@[simp] theorem u_fIxO {i : Nat} {b : Fe} {env : Env} {M : Mem} : fIxO i b env M = match env[i]? with
  | some (.own (.lst ds)) => (b env M).bind fun d M1 => match d with
    | .int z => match atI ds z with
      | some x => .ok x M1
      | none => .bad
    | _ => .bad
  | _ => .bad := by unfold fIxO; rfl
@[simp] theorem u_fLenO {i : Nat} {env : Env} {M : Mem} : fLenO i env M = match env[i]? with
  | some (.own (.lst ds)) => .ok (.int ds.length) M
  | _ => .bad := by unfold fLenO; rfl
@[simp] theorem u_sPutO {i : Nat} {a b : Fe} {env : Env} {M : Mem} : sPutO i a b env M = (a env M).thn env fun d M1 => match env[i]? with
  | some (.own (.lst ds)) => (b env M1).thn env fun z M2 => match z with
    | .int z => match ixN ds.length z with
      | some j => .nx (env.set i (.own (.lst (ds.set j d)))) M2
      | none => .bad
    | _ => .bad
  | _ => .bad := by unfold sPutO; rfl
@[simp] theorem u_iSeq {a : Fe} {env : Env} {M : Mem} : iSeq a env M = (a env M).bind fun d M1 => match d with
  | .tup ds => .ok ds M1
  | .lst ds => .ok ds M1
  | .rl ds => .ok ds M1
  | _ => .bad := by unfold iSeq; rfl
@[simp] theorem u_iZip {a : Fa} {env : Env} {M : Mem} : iZip a env M = (a env M).bind fun ds M1 => match seqsOf ds with
  | some l => .ok (zipped l) M1
  | none => .bad := by unfold iZip; rfl
@[simp] theorem u_iRange1 {a : Fa} {env : Env} {M : Mem} : iRange1 a env M = (a env M).bind fun ds M1 => match ds with
  | [.int j] => if inRange j = true then .ok (rngD 0 j.toNat) M1 else .bad
  | _ => .bad := by unfold iRange1; rfl
@[simp] theorem u_iRange2 {a : Fa} {env : Env} {M : Mem} : iRange2 a env M = (a env M).bind fun ds M1 => match ds with
  | [.int i, .int j] => if (inRange i && inRange j) = true then .ok (rngD i (j - i).toNat) M1 else .bad
  | _ => .bad := by unfold iRange2; rfl
@[simp] theorem u_sFor {it : Fa} {g : Fg} {b : Fs} {env : Env} {M : Mem} : sFor it g b env M = (it env M).thn env fun ds M1 => forL g b ds env M1 := by unfold sFor; rfl
@[simp] theorem u_oLc {it : Fa} {g : Fg} {t : Ft} {f : Fe} {vs : List Nat} {env : Env} {M : Mem} : oLc it g t f vs env M = (it env M).bind fun ds M1 => if small ds.length = true then (lcL g t f (wipeE env vs) ds M1).bind fun xs M2 => .ok (.lst xs) M2 else .bad := by unfold oLc; rfl
@[simp] theorem u_tYesF  {env0 : Env} {M : Mem} : tYesF  env0 M = .ok true M := by unfold tYesF; rfl
@[simp] theorem u_fCut {a : Fe} {l u : Fp} {env : Env} {M : Mem} : fCut a l u env M = (a env M).bind fun d M1 => (l env M1).bind fun lo M2 => (u env M2).bind fun hi M3 => match cutOf d lo hi with
  | some z => .ok z M3
  | none => .bad := by unfold fCut; rfl
@[simp] theorem u_pNo  {env0 : Env} {M : Mem} : pNo  env0 M = .ok none M := by unfold pNo; rfl
@[simp] theorem u_pSome {a : Fe} {env : Env} {M : Mem} : pSome a env M = (a env M).bind fun d M1 => match d with
  | .int i => .ok (some i) M1
  | _ => .bad := by unfold pSome; rfl
end DL
namespace DL
open PySem L2
variable [Wld]
@[simp] theorem fz_own {o : MO} : (Sl.own o).fz = .val o.toD := rfl
@[simp] theorem sl_v {d : D} : (EV.v d).sl = .val d := rfl
@[simp] theorem sl_o {m : MO} : (EV.o m).sl = .own m := rfl
@[simp] theorem toD_lst {ds : List D} : (MO.lst ds).toD = .lst ds := rfl
theorem val_of {a : Fe} {env : Env} {M M1 : Mem} {b : Bool} (h : a env M = .ok (.bl b) M1) : tVal a env M = .ok b M1 := by
  unfold tVal
  rw [h, bind_okS]
end DL
namespace DL
open PySem L2
variable [Wld]
def pc (ps : Ps) : D := .tup [.tup (ps.map fun p => .int p.1), .tup (ps.map fun p => .int p.2)]
theorem Cells.len : ∀ {ss : List Int} {ps : Ps}, Cells ss ps → ps.length = ss.length
  | _, _, .nil => rfl
  | _, _, .cons _ _ _ _ _ t => by rw [List.length_cons, List.length_cons, t.len]
theorem seq_assoc (a b c : Fs) (env : Env) (M : Mem) : sSeq a (sSeq b c) env M = sSeq (sSeq a b) c env M := by
  unfold sSeq
  cases a env M <;> rfl
end DL
namespace DL
open PySem L2
variable [Wld]
def flatOf : D → Option V
  | .non => some .non
  | .bl b => some (.bl b)
  | .int i => some (.int i)
  | .str x => some (.str x)
  | _ => none
def flatsOf : List D → Option (List V)
  | [] => some []
  | d :: ds => match flatOf d, flatsOf ds with
    | some v, some vs => some (v :: vs)
    | _, _ => none
theorem flat_is {K : PySem.W.Frag} {w : Wd} {v u : V} {d : D} (h : Is K w v d) (e : flatOf d = some u) : v = u ∧ flatV v = true := by
  cases h <;> first | (cases e; exact ⟨rfl, rfl⟩) | cases e
theorem flats_is {K : PySem.W.Frag} {w : Wd} : ∀ {vs us : List V} {ds : List D}, Iss K w vs ds → flatsOf ds = some us → vs = us ∧ vs.all flatV = true
  | _, _, _, .nil, e => by cases e; exact ⟨rfl, rfl⟩
  | _, _, _, .cons (d := d) (ds := ds) h t, e => by
    unfold flatsOf at e
    cases q : flatOf d with
    | none => rw [q] at e; cases e
    | some u =>
      cases q2 : flatsOf ds with
      | none => rw [q, q2] at e; cases e
      | some r =>
        rw [q, q2] at e
        cases e
        obtain ⟨rfl, a⟩ := flat_is h q
        obtain ⟨rfl, b⟩ := flats_is t q2
        exact ⟨rfl, by rw [List.all_cons, a, b]; rfl⟩
def seqIt : D → Option (List D)
  | .tup ds => some ds
  | .lst ds => some ds
  | .rl ds => some ds
  | _ => none
def inStr (x y : Str) : Bool := !(Builtin.Str.occurrences y x 0 y.length 1).isEmpty
def inFlat (d : D) (ds : List D) : Option Bool := match flatOf d, flatsOf ds with
  | some x, some vs => some (inV x vs)
  | _, _ => none
def inDeep (d : D) (ds : List D) : Option Bool := match toPy d, toPys ds with
  | some p, some qs => if (SeqAt.shaped p && SeqAt.shaped (.list qs)) = true then some (qs.any fun z => PyData.eqv z p) else none
  | _, _ => none
def gInB : D → D → Option Bool
  | .str x, .str y => some (inStr x y)
  | d, .lst ds => match inFlat d ds with
    | some b => some b
    | none => inDeep d ds
  | d, .tup ds => match inFlat d ds with
    | some b => some b
    | none => inDeep d ds
  | d, .rl ds => inFlat d ds
  | _, _ => none
def rInDT (K : PySem.W.Frag) (neg : Bool) : R2 := fun x y H Q => ∃ d ds, Dp K H x d ∧ (Dp K H y (.list ds) ∨ Dp K H y (.tuple ds)) ∧ SeqAt.shaped d = true ∧ SeqAt.shaped (.list ds) = true ∧ Q (.bl (if neg then !ds.any fun z => PyData.eqv z d else ds.any fun z => PyData.eqv z d)) H
theorem op_inDT {X : Cx} (hu : X.A.units + 65 < cLine) : OpR X (compareOp .In) (rInDT X.K false) := by
  intro pins s σ H x y v u Q I rx ry h
  obtain ⟨d, ds, hd, he, sd, se, q⟩ := h
  obtain ⟨as, r1⟩ := Dp.reads I d x v hd rx
  rcases he with he | he
  · obtain ⟨bs, r2⟩ := Dp.reads I (.list ds) y u he ry
    exact SeqAt.in_list_reads r2 r1 (SeqAt.canLay_of_shaped se) (SeqAt.canLay_of_shaped sd) (PyProof.Rows.room_in_shaped sd hu) ⟨.bl _, H, I, rfl, q⟩
  · obtain ⟨bs, r2⟩ := Dp.reads I (.tuple ds) y u he ry
    exact SeqAt.in_tuple_reads r2 r1 (SeqAt.canLay_of_shaped se) (SeqAt.canLay_of_shaped sd) (PyProof.Rows.room_in_shaped sd hu) ⟨.bl _, H, I, rfl, q⟩
def gIn : G2 := fun _ d e => (gInB d e).map .bl
def rInG (K : PySem.W.Frag) : R2 := fun x y H Q => (∃ i j, x = .str i ∧ y = .str j ∧ Q (.bl (!(Builtin.Str.occurrences j i 0 j.length 1).isEmpty)) H) ∨ rIn K false x y H Q ∨ rInDT K false x y H Q
theorem op_inG {X : Cx} (hu : X.A.units + 65 < cLine) : OpR X (compareOp .In) (rInG X.K) := OpR.alt op_in_str (OpR.alt op_in_seq (op_inDT hu))
theorem seq_at {K : PySem.W.Frag} {w : Wd} {H : Hp} {v : V} {d : D} {ds : List D} (g : ∀ a o, w.g a = some o → H a = some o) (h : Is K w v d) (e : seqIt d = some ds) : ∃ p vs, v = .ref p ∧ (SqL K H p vs ∨ SqT K H p vs) ∧ Iss K w vs ds := by
  cases h with
  | tup h1 h2 => cases e; exact ⟨_, _, rfl, .inr (sqt_mono g h1.sq), h2⟩
  | lst h1 h2 => cases e; exact ⟨_, _, rfl, .inl (.inl (.inl (g _ _ h1))), h2⟩
  | rl h1 h2 => cases e; exact ⟨_, _, rfl, .inl (sql_mono g h1), h2⟩
  | _ => cases e
theorem inFlat_at {K : PySem.W.Frag} {w : Wd} {H : Hp} {v1 v2 : V} {d1 d2 : D} {ds : List D} {b : Bool} (g : ∀ a o, w.g a = some o → H a = some o) (i1 : Is K w v1 d1) (i2 : Is K w v2 d2) (e : seqIt d2 = some ds) (h : inFlat d1 ds = some b) :
    ∃ p xs, v2 = .ref p ∧ (SqL K H p xs ∨ SqT K H p xs) ∧ flatV v1 = true ∧ xs.all flatV = true ∧ inV v1 xs = b := by
  obtain ⟨p, vs, rfl, h1, h2⟩ := seq_at g i2 e
  unfold inFlat at h
  cases q : flatOf d1 with
  | none => rw [q] at h; cases h
  | some x =>
    cases q2 : flatsOf ds with
    | none => rw [q, q2] at h; cases h
    | some us =>
      rw [q, q2] at h
      cases h
      obtain ⟨rfl, a⟩ := flat_is i1 q
      obtain ⟨rfl, c⟩ := flats_is h2 q2
      exact ⟨p, vs, rfl, h1, a, c, rfl⟩
theorem inB_cases {d1 d2 : D} {b : Bool} (e : gInB d1 d2 = some b) : (∃ x y, d1 = .str x ∧ d2 = .str y ∧ b = inStr x y) ∨ (∃ ds, seqIt d2 = some ds ∧ inFlat d1 ds = some b) ∨ ∃ ds, (d2 = .lst ds ∨ d2 = .tup ds) ∧ inDeep d1 ds = some b := by
  unfold gInB at e
  split at e
  · cases e; exact .inl ⟨_, _, rfl, rfl, rfl⟩
  · rename_i ds _ h
    split at e
    · rename_i b' q
      cases e
      exact .inr (.inl ⟨_, rfl, q⟩)
    · exact .inr (.inr ⟨_, .inl rfl, e⟩)
  · rename_i ds
    split at e
    · rename_i b' q
      cases e
      exact .inr (.inl ⟨_, rfl, q⟩)
    · exact .inr (.inr ⟨_, .inr rfl, e⟩)
  · exact .inr (.inl ⟨_, rfl, e⟩)
  · cases e
theorem snd_in {K : PySem.W.Frag} : SndR2 K (rInG K) gIn := fun w H M v1 v2 d1 d2 d Q o i1 i2 e k => by
  unfold gIn at e
  cases q : gInB d1 d2 with
  | none => rw [q] at e; cases e
  | some b =>
    rw [q] at e
    cases e
    have kk := k (.bl b) w H (.refl _ _) o (.bl b)
    rcases inB_cases q with ⟨x, y, rfl, rfl, rfl⟩ | ⟨ds, h1, h2⟩ | ⟨ds, hq, h2⟩
    · cases i1
      cases i2
      exact .inl ⟨x, y, rfl, rfl, kk⟩
    · obtain ⟨p, xs, rfl, a1, a2, a3, rfl⟩ := inFlat_at o.g i1 i2 h1 h2
      exact .inr (.inl ⟨p, xs, rfl, a1, a2, a3, kk⟩)
    · unfold inDeep at h2
      split at h2
      · rename_i p qs e1 e2
        split at h2
        · rename_i hz
          cases h2
          obtain ⟨z1, z2⟩ := Bool.and_eq_true_iff.mp hz
          refine .inr (.inr ⟨p, qs, dp_of o.g i1 e1, ?_, z1, z2, kk⟩)
          rcases hq with rfl | rfl
          · have t : toPy (.lst ds) = some (.list qs) := by
              show (toPys ds).map _ = _
              rw [e2]; rfl
            exact .inl (dp_of o.g i2 t)
          · have t : toPy (.tup ds) = some (.tuple qs) := by
              show (toPys ds).map _ = _
              rw [e2]; rfl
            exact .inr (dp_of o.g i2 t)
        · cases h2
      · cases h2
theorem un65 {k : Nat} {A : Around} (r : Room k A) : A.units + 65 < cLine := by
  have := r.un
  omega
end DL
namespace DL
open PySem L2
variable [Wld]
def thenM : Ps → Ps → Option (Ps)
  | (f, l) :: xs, (a, b) :: ys => if (if l = -1 then f else l) ≠ -1 ∧ a ≠ -1 ∧ (if l = -1 then f else l) ≠ a then none else (thenM xs ys).map ((if f = -1 then a else f, if b = -1 then l else b) :: ·)
  | _, _ => some []
def besM : Ps → Ps → Option Ps
  | (f, l) :: xs, (a, b) :: ys => if f ≠ -1 ∧ a ≠ -1 ∧ (l ≠ -1 ∨ b ≠ -1 ∨ f ≠ a) then none else (besM xs ys).map ((if a > f then a else f, if b > l then b else l) :: ·)
  | _, _ => some []
end DL
namespace DL
open PySem L2
variable [Wld]
end DL
namespace PySem
namespace OEG
open PySem.W PySem.Calls PyProof.Rows PySem.HandSPX PySem.OEX
structure Tail (B nw ini : String) (tail : List Value) : Prop where
  fb : ExcBaseFacts B nw ini tail
  sf : StoreFacts B tail "object.__setattr__" "object"
  kx : KxsFacts B ini
  ob : tail.contains (.type "object") = true
  ne : tail.isEmpty = false
theorem tail_VE : Tail "ValueError" "ValueError.__new__" "ValueError.__init__" veTail := ⟨F.excBase_ValueError, F.store_ValueError, kxs_ValueError, by decide +kernel, rfl⟩
theorem tail_LE : Tail "LookupError" "LookupError.__new__" "LookupError.__init__" leTail := ⟨F.excBase_LookupError, F.store_LookupError, kxs_LookupError, by decide +kernel, rfl⟩
theorem tail_IE : Tail "IndexError" "IndexError.__new__" "IndexError.__init__" ieTail := ⟨F.excBase_IndexError, F.store_IndexError, kxs_IndexError, by decide +kernel, rfl⟩
def refsT (tail l : List Value) : Prop := ∃ cs : List Addr, l = cs.map Value.ref ++ tail
theorem refsT.cons {tail l : List Value} {c : Addr} (h : refsT tail l) : refsT tail (.ref c :: l) := by
  obtain ⟨cs, rfl⟩ := h
  exact ⟨c :: cs, rfl⟩
theorem refsT.pass {B sa ow : String} {tail l : List Value} (F : StoreFacts B tail sa ow) (self : Value) (h : refsT tail l) : refuseLoop self "__setattr__" l = pure () := by
  obtain ⟨cs, rfl⟩ := h
  induction cs with
  | nil => exact F.passes self
  | cons c cs ih => exact (refuseLoop_ref self "__setattr__" c (cs.map Value.ref ++ tail)).trans ih
theorem refsT.has {tail l : List Value} (h : refsT tail l) (x : String) : l.contains (.type x) = tail.contains (.type x) := by
  obtain ⟨cs, rfl⟩ := h
  induction cs with
  | nil => rfl
  | cons c cs ih =>
    rw [List.map_cons, List.cons_append, List.contains_cons, ih]; rfl
theorem refsT.ne {tail l : List Value} (h : refsT tail l) (n : tail.isEmpty = false) : l.isEmpty = false := by
  obtain ⟨cs, rfl⟩ := h
  cases cs with
  | nil => exact n
  | cons c cs => rfl
theorem refsTB_ok {tail : List Value} : ∀ l : List Value, refsTB tail l = true → refsT tail l
  | [], e => ⟨[], beq_iff_eq.mp e⟩
  | .ref c :: r, e => by
    have e : (refsTB tail r || (.ref 0 :: r == .ref 0 :: tail && false)) = true := e
    rw [Bool.and_false, Bool.or_false] at e
    exact (refsTB_ok r e).cons
  | .none :: _, e => ⟨[], beq_iff_eq.mp e⟩
  | .ellipsis :: _, e => ⟨[], beq_iff_eq.mp e⟩
  | .notImplemented :: _, e => ⟨[], beq_iff_eq.mp e⟩
  | .bool _ :: _, e => ⟨[], beq_iff_eq.mp e⟩
  | .int _ _ :: _, e => ⟨[], beq_iff_eq.mp e⟩
  | .float _ _ :: _, e => ⟨[], beq_iff_eq.mp e⟩
  | .str _ _ :: _, e => ⟨[], beq_iff_eq.mp e⟩
  | .bytes _ _ :: _, e => ⟨[], beq_iff_eq.mp e⟩
  | .type _ :: _, e => ⟨[], beq_iff_eq.mp e⟩
  | .builtin _ :: _, e => ⟨[], beq_iff_eq.mp e⟩
section
open Builtin Builtin.ObjectAttr
variable {prog : Program} {w : World} {A : Around} {E : Value → Shared → Prop} {R : Result → Shared → Prop} {hp : Heap} {g : Array GenState} {d : Drawn} {t : Nat} {os : OsState}
theorem osa_enter {B nw ini : String} {tail : List Value} (T : Tail B nw ini tail) {K : W.Frag} {name : Str} {tk : Tok} {v : Value} {x C : Addr} {ox : Obj} {od : Option Obj} {cd : ClassData}
    (X : K.In hp) (I : W.InstAt hp x ox C od) (hcd : W.clsIn K C = some cd) (hm : refsT tail cd.mro) (ha : W.findIn K (.ref C) name = some none)
    (h : ∀ (A' : Around) (Q' : Fin → Shared → Prop) (E' : Value → Shared → Prop), (∀ s', R (.ok (.ret .none)) s' → Q' (.done (.ret .none)) s') → wpAny (model prog w) A' (storeInOwnDict (.ref x) (.ref C) (.str name tk) name v false) Q' E' ⟨hp, g, d, t, os⟩) :
    codeAny (model prog w) A (.call (.builtin "object.__setattr__") ⟨[.ref x, .str name tk, v], []⟩) R ⟨hp, g, d, t, os⟩ := by
  have SF := F.store_object
  have ne := hm.ne T.ne
  have hob : cd.mro.contains (.type "object") = true := (hm.has "object").trans T.ob
  have sub : W.Looks (model prog w) hp (isInstance (.ref x) (.type "object")) true := I.type.andThen (W.looks_mroIn X (by unfold W.mroIn; rw [hcd, Option.bind_some, if_neg (by rw [ne]; decide), hob]))
  have hmr : W.Looks (model prog w) hp (mroOf (.ref C)) cd.mro := (W.looks_clsIn X hcd).andThen .now
  have L3 : W.Looks (model prog w) hp (storeTaker? none) none := .now
  refine codeAny_call_builtin SF.slot.plain SF.entry (@W.check_slot (model prog w) _ _ ⟨hp, g, d, t, os⟩ "object.__setattr__" "object" "__setattr__" (.ref x) [.str name tk, v] [] _ SF.kind SF.split sub (SF.args (.ref x) (.str name tk) v) ?_)
  rw [W.osa_eq, refuse_eq]
  refine wpAny_bind (wpAny_bind (I.type.at (wpAny_bind (hmr.at ?_))))
  rw [hm.pass T.sf]
  refine wpAny_pure (wpAny_bind (I.type.at (wpAny_bind ((W.looks_findIn X ha).at (wpAny_bind (L3.at ?_))))))
  exact h _ _ _ fun s' z => z
theorem osa_new {B nw ini : String} {tail : List Value} (T : Tail B nw ini tail) {K : W.Frag} {name : Str} {tk : Tok} {v : Value} {x C : Addr} {fv : Array Value} {cd : ClassData}
    (X : K.In hp) (hx : hp.get? x = some { cls := .ref C, data := .fields fv }) (hcd : W.clsIn K C = some cd) (hm : refsT tail cd.mro) (hh : cd.hasDict = true) (ha : W.findIn K (.ref C) name = some none)
    (hq : ∀ h' tk' dx, (∀ b o, b ≠ x → hp.get? b = some o → h'.get? b = some o) → hp.objs.size ≤ dx → dx ≠ x → h'.get? x = some { cls := .ref C, dict := some dx, data := .fields fv } →
      h'.Ns1 dx (fun y => if y = name then some v else none) → R (.ok (.ret .none)) ⟨h', g, d, tk', os⟩) :
    codeAny (model prog w) A (.call (.builtin "object.__setattr__") ⟨[.ref x, .str name tk, v], []⟩) R ⟨hp, g, d, t, os⟩ := by
  have lt := Heap.lt_size hx
  have hcls : W.Looks (model prog w) hp (classData C) cd := W.looks_clsIn X hcd
  refine osa_enter T X (od := none) ⟨hx, rfl, rfl, trivial⟩ hcd hm ha fun A' Q' E' z => ?_
  obtain ⟨nm, bs, mro, ns, qn, hd, sn, sb, ab, col, del⟩ := cd
  dsimp only at hh
  subst hh
  unfold storeInOwnDict ownDictForStores
  repeat (first | with_reducible refine store_in_new ?_ ?_ | with_reducible refine wpAny_loadPart_at hx ?_ | with_reducible refine hcls.at ?_ | wp_step)
  · exact ⟨_, #[], _, (Heap.get?_update_ne _ _ _ _ (Nat.ne_of_gt lt)).trans (Heap.get?_push_at rfl rfl), rfl, fun e he => absurd he (by simp), fun _ => rfl⟩
  · intro h' tk' hn' hs
    refine z _ (hq h' tk' hp.objs.size (fun b o hb ho => ?_) (Nat.le_refl _) (Nat.ne_of_gt lt) ?_ hn')
    · exact (hs.2 b (Nat.ne_of_lt (Heap.lt_size ho))).trans ((Heap.get?_update_ne _ _ _ _ hb).trans (Heap.get?_push_of_some _ ho))
    · exact (hs.2 x (Nat.ne_of_lt lt)).trans (Heap.get?_update_self _ (Heap.get?_push_of_some _ hx) rfl)
theorem osa_more {B nw ini : String} {tail : List Value} (T : Tail B nw ini tail) {K : W.Frag} {name : Str} {tk : Tok} {v : Value} {x C dx : Addr} {fv : Array Value} {cd : ClassData} {m0 : Str → Option Value} {nl : List Str}
    (X : K.In hp) (hx : hp.get? x = some { cls := .ref C, dict := some dx, data := .fields fv }) (hns : hp.Ns1 dx m0) (hw : Within m0 nl) (hz : nl.length ≤ 1000) (hcd : W.clsIn K C = some cd) (hm : refsT tail cd.mro) (hh : cd.hasDict = true)
    (ha : W.findIn K (.ref C) name = some none)
    (hq : ∀ h' tk', (∀ b o, b ≠ dx → hp.get? b = some o → h'.get? b = some o) → h'.Ns1 dx (fun y => if y = name then some v else m0 y) → R (.ok (.ret .none)) ⟨h', g, d, tk', os⟩) :
    codeAny (model prog w) A (.call (.builtin "object.__setattr__") ⟨[.ref x, .str name tk, v], []⟩) R ⟨hp, g, d, t, os⟩ := by
  obtain ⟨oD, _, _, hoD, _, _⟩ := hns.count hw
  have hcls : W.Looks (model prog w) hp (classData C) cd := W.looks_clsIn X hcd
  refine osa_enter T X (od := some oD) ⟨hx, rfl, rfl, hoD⟩ hcd hm ha fun A' Q' E' z => ?_
  obtain ⟨nm, bs, mro, ns, qn, hd, sn, sb, ab, col, del⟩ := cd
  dsimp only at hh
  subst hh
  unfold storeInOwnDict ownDictForStores
  repeat (first | with_reducible refine store_in_old hns hw hz ?_ | with_reducible refine wpAny_loadPart_at hx ?_ | with_reducible refine hcls.at ?_ | wp_step)
  intro h' tk' hn' hs
  exact z _ (hq h' tk' (fun b o hb ho => (hs.2 b hb).trans ho) hn')
end
end OEG
end PySem
namespace L2
open PySem PySem.Spec PyProof.Rows PySem.OEG
structure OexT (K : PySem.W.Frag) (C : Addr) (nw : String) (tail : List Value) : Prop where
  cls : ∃ nm q N bs bm sn sub ab col dd k0 k1 k2 k3 k5, K.lookup C = some (excClassObj nm q C N bs bm true sn sub ab col dd k0 k1 k2 k3 k5 nw) ∧ refsT tail bm
  sa : PySem.W.findIn K (.ref C) "__setattr__" = some (some (.builtin "object.__setattr__"))
  exC : PySem.W.subIn K (.ref C) (.type "BaseException") = some true
  tyC : PySem.W.typeIn K (.ref C) = some (.type "type")
  kC : PySem.W.keepIn K (.ref C) = true
def OexG (K : PySem.W.Frag) (C : Addr) : Prop := ∃ B nw ini tail, Tail B nw ini tail ∧ OexT K C nw tail
theorem OexG.kC {K : PySem.W.Frag} {C : Addr} (h : OexG K C) : PySem.W.keepIn K (.ref C) = true := let ⟨_, _, _, _, _, T⟩ := h; T.kC
theorem OexG.exC {K : PySem.W.Frag} {C : Addr} (h : OexG K C) : PySem.W.subIn K (.ref C) (.type "BaseException") = some true := let ⟨_, _, _, _, _, T⟩ := h; T.exC
theorem OexG.tyC {K : PySem.W.Frag} {C : Addr} (h : OexG K C) : PySem.W.typeIn K (.ref C) = some (.type "type") := let ⟨_, _, _, _, _, T⟩ := h; T.tyC
section
variable {X : Cx} {pins : List (Addr × Obj)} {σ : St} {H : Hp} {s : Shared} {a C dx : Addr} {f : Str} {y : V} {u : Value} {fs : List (Str × V)} {Q : Unit → Shared → Prop} {E : Value → Shared → Prop} {A : Around}
theorem og_new (T : OexG X.K C) (I : Inv X pins σ H s) (e : H a = some (exo a C none)) (hno : PySem.W.findIn X.K (.ref C) f = some none) (ry : RelV y u)
    (h : ∀ dx s', H dx = none → dx ≠ a → Inv X pins σ (upd (upd H dx (exd dx [(f, y)])) a (exo a C (some dx))) s' → Q () s') : wpAny (model X.prog X.w) A (setAttr (.ref a) f u) Q E s := by
  obtain ⟨B, nw, ini, tail, TL, T⟩ := T
  obtain ⟨nm, q, N, bs, bm, sn, sub, ab, col, dd, k0, k1, k2, k3, k5, hC, hbm⟩ := T.cls
  have hcl : PySem.W.clsIn X.K C = some { name := nm, bases := bs, mro := .ref C :: bm, ns := N, qualname := q, hasDict := true, slotNames := sn, subclasses := sub, abstract := ab, collection := col, hasDel := false } := by unfold PySem.W.clsIn; rw [hC] <;> rfl
  obtain ⟨t1, ho⟩ := exo_at I.hok e
  obtain ⟨hp, g, d, t, os⟩ := s
  refine PySem.W.set_plain I.kIn (ox := { cls := .ref C, dict := none, data := .fields #[.ref t1, .none, .none, .none, .bool false, .none] }) (od := none) ⟨ho, rfl, rfl, trivial⟩ T.sa ?_
  refine osa_new TL I.kIn ho hcl (show refsT tail (.ref C :: bm) from hbm.cons) rfl hno fun h' tk' dx k dn dne hx hn => ?_
  have hnd : H dx = none := I.hok.fresh dn
  have nd : ∀ {b : Addr} {o : Obj}, hp.get? b = some o → b ≠ dx := fun {b o} q => Nat.ne_of_lt (Nat.lt_of_lt_of_le (Heap.lt_size q) dn)
  have na : ∀ {b : Addr}, H b = none → b ≠ a := fun {b} n z => by rw [z, e] at n; cases n
  have Un1 : Un X.fs [] H (upd (upd H dx (exd dx [(f, y)])) a (exo a C (some dx))) hp h' := {
    keep := fun b o q n _ _ => k b o (na n) q
    slot := fun b o q n _ _ => ⟨o.slots, k b o (na n) q⟩
    free := fun b o q n _ => by rw [upd_ne (na n), upd_ne (nd q)]; exact n
    there := fun b o q _ => by
      by_cases hb : b = a
      · exact ⟨_, by rw [hb]; exact hx⟩
      · exact ⟨o, k b o hb q⟩
    tups := fun b xs q => by rw [upd_ne (at_ne e q exo_tup), upd_ne (ne_of_none q hnd)]; exact q
    frzs := fun b o v q => by rw [upd_ne (at_ne e q exo_frz), upd_ne (ne_of_none q hnd)]; exact q
    tbls := fun b ps q => ⟨#[], by rw [upd_ne (at_ne e q exo_tbl), upd_ne (ne_of_none q hnd), q]; simp⟩ }
  refine h dx _ hnd dne (I.un (t' := tk') Un1 fun b o q => ?_)
  by_cases hb : b = a
  · subst hb
    rw [upd_same] at q
    cases q
    exact exo_ok hx
  rw [upd_ne hb] at q
  by_cases hd : b = dx
  · subst hd
    rw [upd_same] at q
    cases q
    exact exd_ok hn (relO_put (fs := []) ry fun g => True.intro)
  rw [upd_ne hd] at q
  refine (I.hok b o q).stay (fun c v hc z => k c v ?_ z) (fun c hc => ?_) (fun c xs hc => ?_)
  · rcases hc with hc | hc
    · rw [hc]; exact hb
    · exact at_ne e hc exo_own
  · rw [upd_ne (at_ne e hc exo_own), upd_ne (ne_of_none hc hnd)]; exact hc
  · rw [upd_ne (at_ne e hc exo_tup), upd_ne (ne_of_none hc hnd)]; exact hc
theorem og_more (T : OexG X.K C) (I : Inv X pins σ H s) (e : H a = some (exo a C (some dx))) (ed : H dx = some (exd dx fs)) (hl : fs.length ≤ 900) (hno : PySem.W.findIn X.K (.ref C) f = some none) (ry : RelV y u)
    (h : ∀ s', Inv X pins σ (upd H dx (exd dx ((f, y) :: fs))) s' → Q () s') : wpAny (model X.prog X.w) A (setAttr (.ref a) f u) Q E s := by
  obtain ⟨B, nw, ini, tail, TL, T⟩ := T
  obtain ⟨nm, q, N, bs, bm, sn, sub, ab, col, dd, k0, k1, k2, k3, k5, hC, hbm⟩ := T.cls
  have hcl : PySem.W.clsIn X.K C = some { name := nm, bases := bs, mro := .ref C :: bm, ns := N, qualname := q, hasDict := true, slotNames := sn, subclasses := sub, abstract := ab, collection := col, hasDel := false } := by unfold PySem.W.clsIn; rw [hC] <;> rfl
  obtain ⟨t1, ho⟩ := exo_at I.hok e
  obtain ⟨mA, hns, rel⟩ := exd_at I.hok ed
  have hw := within_of rel
  obtain ⟨hp, g, d, t, os⟩ := s
  obtain ⟨oD, _, _, hoD, _, _⟩ := hns.count hw
  refine PySem.W.set_plain I.kIn (ox := { cls := .ref C, dict := some dx, data := .fields #[.ref t1, .none, .none, .none, .bool false, .none] }) (od := some oD) ⟨ho, rfl, rfl, hoD⟩ T.sa ?_
  refine osa_more TL I.kIn ho hns hw (by rw [List.length_map]; omega) hcl (show refsT tail (.ref C :: bm) from hbm.cons) rfl hno fun h' tk' k hn => ?_
  have hd : ∃ o, h'.get? dx = some o := by
    obtain ⟨o, _, _, e', _⟩ := hn
    exact ⟨o, e'⟩
  exact h _ (I.write (t' := tk') (x := dx) (e := dx) (o := exd dx ((f, y) :: fs)) (by rw [ed]; exact True.intro) (.inl rfl) k hd (exd_ok hn (relO_put ry rel)))
end
def tOgS (K : PySem.W.Frag) (f : Str) (to te : TE) : TS := fun D σ H => te σ H fun y H1 => to σ H1 fun x H2 => ∃ a C : Addr, x = .ref a ∧ OexG K C ∧ PySem.W.findIn K (.ref C) f = some none ∧
  ((H2 a = some (exo a C none) ∧ ∀ dx, H2 dx = none → dx ≠ a → D.nx σ (upd (upd H2 dx (exd dx [(f, y)])) a (exo a C (some dx)))) ∨
    ∃ (dx : Addr) (fs : List (Str × V)), H2 a = some (exo a C (some dx)) ∧ H2 dx = some (exd dx fs) ∧ fs.length ≤ 900 ∧ D.nx σ (upd H2 dx (exd dx ((f, y) :: fs))))
theorem ps_ogS {X : Cx} {o e : Expr} {to te : TE} {f : Str} {p' pos : Pos} (ho : PE X o to) (he : PE X e te) (hs : swapsWith e (some (.Attribute o f p')) pos.line X.env = pure false := by rfl) : PS X (.Assign [.Attribute o f p'] e pos) (tOgS X.K f to te) := by
  refine ⟨fun pins s σ H D I h => ?_⟩
  refine plainObj_wpAny_Assign_Attribute (thn (he.run pins s σ H _ I h) fun v s1 ⟨y, H1, I1, r1, q1⟩ => thn (ho.run pins s1 σ H1 _ I1 q1) fun u s2 ⟨x, H2, I2, r2, a, C, ex, T, hno, q⟩ => ?_) hs
  subst ex
  obtain rfl : u = Value.ref a := r2
  rcases q with ⟨ea, q⟩ | ⟨dx, fs, ea, ed, hl, q⟩
  · exact og_new T I2 ea hno r1 fun dx s' n ne J => ⟨σ, _, J, q dx n ne⟩
  · exact og_more T I2 ea ed hl hno r1 fun s' J => ⟨σ, _, J, q⟩
end L2
namespace DL
open PySem L2 PySem.W PyProof.Rows PySem.OEG
variable [Wld]
structure SupScope (N P : List Str) (sc : Scope) : Prop where
  kind : sc.kind = .function
  co : sc.isCoroutine = false
  gen : sc.isGenerator = false
  nd : N.Nodup
  pre : N = P
  par : ∀ x ∈ P, sc.names.lookup x = some .local
  nocell : ∀ y ∈ sc.names, y.2 ≠ .cell
  free : ∀ y ∈ sc.names, y.2 = .free → y.1 = "__class__"
  cls : sc.names.lookup ("__class__" : Str) = some .free
  sup : sc.names.lookup ("super" : Str) = some .globalImplicit
def cxS (cm : Bool) (pn : List (Addr × Obj)) (CX : CXT) (P : Program) (w : World) (K : PySem.W.Frag) (mg : Str → Option Value) (base : Heap) (N : List Str) (qual : Str) (scope : Scope) (f cc : Addr) (cd : Value) (A : Around) (outer : List PySem.Env) (s : Shared) (H : Hp) (E : XK) : Cx where
  prog := P
  w := w
  K := K
  mg := mg
  base := base
  A := A.deeper (ksEnv qual scope s.heap.objs.size f cd cc)
  N := N
  s_0 := s
  H_0 := H
  env := ksEnv qual scope s.heap.objs.size f cd cc
  outer := outer
  stack := ksEnv qual scope s.heap.objs.size f cd cc :: outer
  ex := []
  calm := cm
  fn := fun _ => false
  pn := pn
  xe := fun e s' => wpAny (model P w) (A.deeper (ksEnv qual scope s.heap.objs.size f cd cc)) (leaving (ksEnv qual scope s.heap.objs.size f cd cc) e) (fun _ s'' => CX outer H s E e s'') (fun e' s'' => CX outer H s E e' s'') s'
theorem lookup_zip_rev {x : Str} {u : Value} {ps : List Str} {us : List Value} {i : Nat} (nd : ps.Nodup) (hl : us.length = ps.length) (hp : ps[i]? = some x) (hu : us[i]? = some u) : (ps.zip us).reverse.lookup x = some u := by
  have key : ∀ (l : List (Str × Value)), (l.map (·.1)).Nodup → (x, u) ∈ l → l.lookup x = some u := by
    intro l
    induction l with
    | nil => intro _ h; cases h
    | cons p r ih =>
      intro nd h
      obtain ⟨y, v⟩ := p
      rw [List.map_cons, List.nodup_cons] at nd
      rw [List.lookup_cons]
      rcases List.mem_cons.mp h with e | h
      · cases e; simp
      · have : x ≠ y := fun z => nd.1 (z ▸ List.mem_map.mpr ⟨_, h, rfl⟩)
        have e : (x == y) = false := by simpa using this
        rw [e]
        exact ih nd.2 h
  refine key _ ?_ ?_
  · rw [List.map_reverse, List.map_fst_zip (by omega)]
    unfold List.Nodup
    rw [List.pairwise_reverse]
    exact nd.imp fun h => Ne.symm h
  · rw [List.mem_reverse]
    refine List.mem_iff_getElem?.mpr ⟨i, ?_⟩
    rw [List.getElem?_zip_eq_some]
    exact ⟨hp, hu⟩
section
variable {cm : Bool} {pn : List (Addr × Obj)} {CX : CXT} {P : Program} {w : World} {K : PySem.W.Frag} {mg : Str → Option Value} {base : Heap} {N ps : List Str} {qual : Str} {scope : Scope} {f cc C : Addr} {cd : Value} {A : Around} {outer : List PySem.Env} {s : Shared} {H : Hp} {E : XK} {us : List Value} {vs : List V}
theorem inv_startS (S : SupScope N ps scope) (hd : cm = true → A.handled = none) (hpn : ∀ p ∈ pn, L2H.PinOk outer H s p) (e0 : Env0 P w K mg base A outer s H) (hl : vs.length = ps.length) (r : Vals vs us) {cl : Value} {cld : Option Addr} {csl : Array (Option Value)} (hcell : K.lookup cc = some ⟨cl, cld, .cell (some (.ref C)), csl⟩)
    {h1 : Heap} {tk : Nat} (hns : h1.Ns s.heap.objs.size fun x => (ps.zip us).reverse.lookup x) (hk : ∀ b o, s.heap.get? b = some o → h1.get? b = some o) :
    Inv (cxS cm pn CX P w K mg base N qual scope f cc cd A outer s H E) [] (L2.start N vs) H { s with heap := h1, toks := tk } := by
  have hN := S.pre
  have noA : ∀ b : Addr, b ∉ (cxS cm pn CX P w K mg base N qual scope f cc cd A outer s H E).ex := fun b z => absurd (show b ∈ ([] : List Addr) from z) (by simp)
  have ocell := e0.mod.kin _ _ hcell
  have cc1 : ∀ {y c}, (cxS cm pn CX P w K mg base N qual scope f cc cd A outer s H E).env.cells.lookup y = some c → y = "__class__" ∧ c = cc := fun {y c} h => by
    have h : List.lookup y [(("__class__" : Str), cc)] = some c := h
    rw [List.lookup_cons] at h
    by_cases e : (y == ("__class__" : Str)) = true
    · rw [e] at h
      cases h
      exact ⟨by simpa using e, rfl⟩
    · have e : (y == ("__class__" : Str)) = false := by simpa using e
      rw [e] at h
      cases h
  have hlu : us.length = ps.length := by rw [← r.length, hl]
  refine ⟨⟨e0.mod, S.kind, rfl, rfl, Nat.le_refl _, fun y z c h1 h2 => (cc1 h1).1.trans (cc1 h2).1.symm, fun y hy => ?_, fun y c h _ => Bool.noConfusion (show false = true from h), hd, Around.frames_deeper e0.frames, .inr ⟨rfl, rfl⟩, fun b z => absurd z (noA b), e0.bs, e0.bsz, fun b _ _ => noA b, fun b z => absurd z (noA b), e0.funs, e0.frf⟩,
    rfl, e0.bare, Un.kept hk, ⟨_, hns, fun i y v h1 h2 h3 => ?_⟩, fun y c h => ?_, e0.hok.fresh (Nat.le_refl _), fun y c h => ?_, fun p hp => ?_, e0.hok.kept hk, ?_⟩
  · have hy : scope.names.lookup y = some .cell ∨ scope.names.lookup y = some .free := hy
    rcases hy with hy | hy
    · exact absurd rfl (S.nocell _ (PySem.mem_of_lookup hy))
    · have e := S.free _ (PySem.mem_of_lookup hy) rfl
      have e : y = "__class__" := e
      subst e
      exact ⟨cc, by show List.lookup _ [(("__class__" : Str), cc)] = _; simp [List.lookup]⟩
  · have hi : i < vs.length := by
      have q := (List.getElem?_eq_some_iff.mp h1).1
      have q : i < N.length := q
      rw [hN] at q
      omega
    have ha : vs[i]? = some v := by
      unfold L2.start at h2
      rw [List.getElem?_append_left (by simpa using hi), List.getElem?_map] at h2
      cases e : vs[i]? with
      | none => rw [e] at h2; cases h2
      | some a => rw [e] at h2; cases h2; rfl
    obtain ⟨u, hu, rv⟩ := r.get ha
    have hp : ps[i]? = some y := by rw [← hN]; exact h1
    exact ⟨u, rv, .inl ⟨S.par y (List.mem_of_getElem? hp), lookup_zip_rev (by rw [← hN]; exact S.nd) hlu hp hu⟩⟩
  · obtain ⟨_, e⟩ := cc1 h
    subst e
    exact ⟨_, _, hk _ _ (e0.bs _ _ ocell).1, rfl⟩
  · obtain ⟨_, e⟩ := cc1 h
    subst e
    exact (e0.bs _ _ ocell).2
  · have hp : p ∈ pn := by simpa using (show p ∈ pn ++ ([] : List (Addr × Obj)) from hp)
    have z := hpn p hp
    exact ⟨hk p.1 p.2 z.get, z.free, Nat.ne_of_lt (Heap.lt_size z.get), z.nofs, z.nocell⟩
  · unfold L2.start
    show _ = N.length
    rw [List.length_append, List.length_map, List.length_replicate, hN, hl]
    omega
theorem call_mw {prog : Program} {A : Around} {E : Value → Shared → Prop} {s : Shared} {x u t : Addr} {rest : List Value} {Q : Value → Shared → Prop} {nm q : Str} {Nn : Addr} {bs bm : List Value} {hdct : Bool} {sn : List Str} {sub : List Value} {ab : Bool} {col : Option Bool} {dd : Option Addr} {k0 k1 k2 k3 k5 : Option Value} {newId initId B : String} {bmB : List Value} (FB : ExcBaseFacts B newId initId bmB)
    (hC : s.heap.get? C = some (excClassObj nm q C Nn bs bm hdct sn sub ab col dd k0 k1 k2 k3 k5 newId)) (hu : s.heap.get? u = some (kxs_mw initId x)) (he : s.heap.get? x = some (excObj C t none .none)) (hz : rest.length ≤ sizeLine)
    (h : ∀ h' t', (∀ b o, b ≠ x → s.heap.get? b = some o → h'.get? b = some o) → h'.get? x = some (excObj C t' none .none) → Q .none { s with heap := h' }) :
    wpAny (model prog w) A (call (.ref u) rest) Q E s := by
  obtain ⟨hh, g, d, tk, os⟩ := s
  refine wpAny_call (codeAny_of_tree ?_)
  show wpAny _ A.in1 (callAny (.ref u) ⟨rest, []⟩) _ _ _
  simp only [callAny]
  refine wpAny_bind (wpAny_load hu ?_)
  simp only [kxs_mw, show (Value.type "method-wrapper" == Value.type "method" || Value.type "method-wrapper" == Value.type "builtin_function_or_method" || Value.type "method-wrapper" == Value.type "method-wrapper") = true by decide, if_true]
  refine KFB.if_so (by decide) ?_
  refine wpAny_bind (check_bound_init FB.toExcCallFacts hC he rfl ?_)
  refine wpAny_bind (wpAny_pure (wpAny_pure ?_))
  refine ⟨plainId_quiet FB.init.plain _, codeAny_builtin FB.initEntry ?_⟩
  exact exc_init_tree (cls := .ref C) (t0 := t) (dv := none) (c2 := .none) (c3 := .none) (b4 := .bool false) he hz fun h' k e' _ => h h' _ k e'
theorem fn_super0 {k : Nat} {name : Str} {params : Arguments} {rest : List Stmt} {dV kV doc pm ct oc cl ccl : Value} {an od cld cdd : Option Addr} {osl csl ccs : Array (Option Value)} {sp : Sp} {cda : Addr} {ar : Arg} {fvs : Array Value} {file tx : Str} {tf : Tok} {j : Nat} {p0 p1 p2 p3 p4 p5 : Pos} {pl : Sem Bool}
    (lk : K.lookup f = some ⟨oc, od, .func (ksFn name qual params (.Expr (.Call (.Attribute (.Call (.Name "super" p0) [] [] p1) "__init__" p2) [.Constant (.str tx) j p3] [] p4) p5 :: rest) scope dV kV doc pm an (.ref cda) ct cc), osl⟩)
    (hcd : codeIn K (.ref cda) qual = true) (S : SupScope N ps scope) (hp : (params.posonlyargs ++ params.args).head? = some ar) (har : ps[0]? = some ar.arg)
    (hcode : K.lookup cda = some ⟨ccl, cdd, .fields fvs, ccs⟩) (hvs : fvs[2]? = some (.str file tf)) (hfile : ((P.main.file : Str) == file) = true) (hcell : K.lookup cc = some ⟨cl, cld, .cell (some (.ref C)), csl⟩)
    (hsuper : mg "super" = none) (htop : (P.main.scope.names.lookup ("super" : Str)).isSome = false) (ho : nsIn K cStatics "thirdparty.any" = some none)
    {B nw ini : String} {tail : List Value} (TL : Tail B nw ini tail) (T : OexT K C nw tail) (hm : ks_superIn K C C "__init__" = some (some (.builtin ini))) (hB : subIn K (.ref C) (.type B) = some true) (hCC : mroIn K C (.ref C) = some true)
    (hev : ∀ (L f cc : Addr) (cd : Value), eval (.Call (.Attribute (.Call (.Name "super" p0) [] [] p1) "__init__" p2) [.Constant (.str tx) j p3] [] p4) (ksEnv qual scope L f cd cc) = (do
      let ov ← attributeBase (.Call (.Name "super" p0) [] [] p1) "__init__" (ksEnv qual scope L f cd cc) (eval (.Call (.Name "super" p0) [] [] p1) (ksEnv qual scope L f cd cc))
      standAt p2.atName
      let (g, first) ← holding [ov] (getMethod ov "__init__" pl)
      callWith p4 g first (backTo p4 (starEach [.Constant (.str tx) j p3] (ksEnv qual scope L f cd cc))) []))
    (hsw : ∀ (L f cc : Addr) (cd : Value), swapsWith (.Call (.Attribute (.Call (.Name "super" p0) [] [] p1) "__init__" p2) [.Constant (.str tx) j p3] [] p4) none p5.line (ksEnv qual scope L f cd cc) = pure false)
    (len : ∀ vs H Q E, sp vs H Q E → vs.length = ps.length) (hr : L2H.RoomH (k + 1) A) (hcm : cm = true → A.handled = none) (hpn : ∀ p ∈ pn, L2H.PinOk outer H s p) (e0 : Env0 P w K mg base A outer s H) {args : Args} {Q : VK}
    (hb : BindsTo s (ksFn name qual params (.Expr (.Call (.Attribute (.Call (.Name "super" p0) [] [] p1) "__init__" p2) [.Constant (.str tx) j p3] [] p4) p5 :: rest) scope dV kV doc pm an (.ref cda) ct cc) args (ps.zip us)) (r : Vals vs us) (hsp : sp vs H Q E)
    (hbody : ∃ a, vs[0]? = some (.ref a) ∧ H a = some (exo a C none) ∧ ∃ t, PSs (cxS cm pn CX P w K mg base N qual scope f cc (.ref cda) A outer s H E) rest t ∧ t { nx := fun _ H' => Q .non H', rt := Q } (L2.start N vs) H) :
    codeAny (model P w) A (.call (.ref f) args) (CR CX outer P w H s Q E) s := by
  have hl := len _ _ _ _ hsp
  have KX : K.In s.heap := e0.mod.kin.keeps fun b o e => (e0.bs b o e).1
  have lim : s.heap.NoLimit := e0.mod.nolimit.keeps fun b o e => (e0.bs b o e).1
  have hlu : us.length = ps.length := by rw [← r.length, hl]
  obtain ⟨a, ha, ea, t, ht, hq⟩ := hbody
  refine PySem.ks_codeAny_call_defAt (fd := ksFn name qual params (.Expr (.Call (.Attribute (.Call (.Name "super" p0) [] [] p1) "__init__" p2) [.Constant (.str tx) j p3] [] p4) p5 :: rest) scope dV kV doc pm an (.ref cda) ct cc) (binds := ps.zip us) hr.depth (KX _ _ lk) rfl lim (PySem.W.codeRec_of KX hcd) rfl hb S.nocell (fun y hy => S.par _ (List.of_mem_zip hy).1) (fun h1 hns hk => ?_) S.co S.gen S.kind
  have I : Inv (cxS cm pn CX P w K mg base N qual scope f cc (.ref cda) A outer s H E) [] (L2.start N vs) H { s with heap := h1, toks := s.toks + (ps.zip us).length } := inv_startS S hcm hpn e0 hl r hcell hns hk
  have fin : ∀ {σ' : L2.St} {H' : Hp} {v : V} {u : Value} {s' : Shared}, Inv (cxS cm pn CX P w K mg base N qual scope f cc (.ref cda) A outer s H E) [] σ' H' s' → RelV v u → Q v H' → CE outer P w H s Q u s' :=
    fun {σ' H' v u s'} J rv q => ⟨v, H', J.os, J.bare, J.base, J.hok, rv, q⟩
  show _root_.PySem.wpAt (model P w) (A.deeper (ksEnv qual scope s.heap.objs.size f (.ref cda) cc)) (.func (.Expr (.Call (.Attribute (.Call (.Name "super" p0) [] [] p1) "__init__" p2) [.Constant (.str tx) j p3] [] p4) p5 :: rest) (ksEnv qual scope s.heap.objs.size f (.ref cda) cc)) (execs _ (ksEnv qual scope s.heap.objs.size f (.ref cda) cc)) _ _ _
  -- what follows the first statement
  have tail : ∀ s', Inv (cxS cm pn CX P w K mg base N qual scope f cc (.ref cda) A outer s H E) [] (L2.start N vs) H s' → wpAny (model P w) (A.deeper (ksEnv qual scope s.heap.objs.size f (.ref cda) cc)) (execs rest (ksEnv qual scope s.heap.objs.size f (.ref cda) cc)) (fun fl s' => CR CX outer P w H s Q E (.ok (.ret (match fl with | .ret v => v | _ => .none))) s')
      (fun e s' => wpAny (model P w) (A.deeper (ksEnv qual scope s.heap.objs.size f (.ref cda) cc)) (leaving (ksEnv qual scope s.heap.objs.size f (.ref cda) cc) e) (fun _ s'' => CR CX outer P w H s Q E (.error e) s'') (fun e' s'' => CR CX outer P w H s Q E (.error e') s'') s') s' := fun s' J => by
    refine wpAny_mono (ht.run [] s' (L2.start N vs) H _ J hq) (fun fl s'' hs => ?_) fun e s'' hs => hs
    cases fl with
    | ret u =>
      obtain ⟨v, σ', H', J, rv, q⟩ := hs
      exact fin J rv q
    | next =>
      obtain ⟨σ', H', J, q⟩ := hs
      exact fin (v := V.non) (u := Value.none) J rfl q
    | brk =>
      obtain ⟨_, _, _, q⟩ := hs
      exact False.elim q
    | cont =>
      obtain ⟨_, _, _, q⟩ := hs
      exact False.elim q
  refine PySem.ks_wpAt_execs_cons (PySem.ks_wpAt_Expr_any (PySem.ks_wpAt_MethodCall (pl := pl) ?_ (hev _ _ _ _)) (by unfold interactive; simp [S.kind]) (hsw _ _ _ _))
  obtain ⟨nm, q, Nn, bs, bm, sn, sub, ab, col, dd, k0, k1, k2, k3, k5, hC, hbm⟩ := T.cls
  have hcl : clsIn K C = some { name := nm, bases := bs, mro := .ref C :: bm, ns := Nn, qualname := q, hasDict := true, slotNames := sn, subclasses := sub, abstract := ab, collection := col, hasDel := false } := by unfold clsIn; rw [hC] <;> rfl
  obtain ⟨t1, hex⟩ := exo_at I.hok ea
  have KX1 : K.In h1 := I.kIn
  -- self
  obtain ⟨u0, hu0, ru0⟩ := r.get ha
  obtain rfl : u0 = Value.ref a := ru0
  have hself : (ps.zip us).reverse.lookup ar.arg = some (.ref a) := lookup_zip_rev (by rw [← S.pre]; exact S.nd) hlu har hu0
  obtain ⟨mb, hb1, hb2⟩ := I.mod.blt
  have hka : scope.names.lookup ar.arg = some .local := S.par _ (List.mem_of_getElem? har)
  have inst : InstAt h1 a { cls := .ref C, dict := none, data := .fields #[.ref t1, .none, .none, .none, .bool false, .none] } C none := ⟨hex, rfl, rfl, trivial⟩
  refine PySem.ks_wpAt_super_base (env := ksEnv qual scope s.heap.objs.size f (.ref cda) cc) S.sup S.cls rfl rfl (KX1 _ _ lk) rfl hp rfl (KX1 _ _ hcode) rfl hvs hfile htop ?_
  refine ks_loadName_global S.kind S.sup (Calls.loadGlobal_builtin (env := ksEnv qual scope s.heap.objs.size f (.ref cda) cc) (I.mod.glob.keeps I.bk) hsuper (hb1.keeps I.bk) ((hb2 _ (by decide)).trans (by decide +kernel)) ⟨rfl, ?_⟩)
  refine wpAny_loadName_free S.kind S.cls (by show List.lookup _ [(("__class__" : Str), cc)] = _; simp [List.lookup]) ⟨_, KX1 _ _ hcell, rfl⟩ ?_
  refine wpAny_loadName_local S.kind hka hns hself ?_
  refine PySem.ks_wpAny_isType_cls (KX1 _ _ hC) rfl ⟨rfl, ?_⟩
  refine PySem.ks_wpAny_call_super (KX1 _ _ hC) rfl hex rfl (fun c e => by cases e) (looks_mroIn KX1 hCC) (fun h2 hso k2 => ?_)
  -- the super object is laid
  have I2 := I.kept (t' := s.toks + (ps.zip us).length) k2
  have KX2 : K.In h2 := I2.kIn
  have hex2 := k2 _ _ hex
  have hI2 : Looks (model P w) h2 (isInstance (.ref a) (.type B)) true := (show InstAt h2 a { cls := .ref C, dict := none, data := .fields #[.ref t1, .none, .none, .none, .bool false, .none] } C none from ⟨hex2, rfl, rfl, trivial⟩).type.andThen (looks_subIn KX2 hB)
  unfold ks_superIn at hm
  rw [hcl] at hm
  refine kxs_getMethod TL.kx hso (looks_opaque KX2 ho) (l₀ := .ref C :: bm) (fun A Q E s k q => wpAny_bind ((looks_clsIn KX2 hcl) A _ E s k (wpAny_pure q))) rfl KX2 hm hI2 (ks_ne KX1 inst hcl) rfl ?_
  -- the bound __init__ is laid
  generalize hu : h2.objs.size = u
  have hmw : (h2.push (kxs_mw ini a)).get? u = some (kxs_mw ini a) := by
    rw [← hu]
    exact Heap.get?_push_size _ rfl
  have I3 := I2.kept (t' := s.toks + (ps.zip us).length + 1) (h' := h2.push (kxs_mw ini a)) fun b o e => Heap.get?_push_of_some _ e
  have hun : H u = none := by
    rw [← hu]
    exact I2.hok.fresh (Nat.le_refl _)
  have I4 : Inv (cxS cm pn CX P w K mg base N qual scope f cc (.ref cda) A outer s H E) [(u, kxs_mw ini a)] (L2.start N vs) H { s with heap := h2.push (kxs_mw ini a), toks := s.toks + (ps.zip us).length + 1 } := by
    refine ⟨I3.ok, I3.os, I3.bare, I3.base, I3.loc, I3.cell, I3.free, I3.freeC, fun p hp => ?_, I3.hok, I3.len⟩
    rcases List.mem_append.mp (show p ∈ pn ++ [(u, kxs_mw ini a)] from hp) with hp | hp
    · exact I3.pin p (List.mem_append_left _ hp)
    have e : p = (u, kxs_mw ini a) := by simpa using hp
    subst e
    refine ⟨hmw, hun, ?_, ?_, fun v z => by cases z⟩
    · show u ≠ s.heap.objs.size
      have := I2.lt
      have : s.heap.objs.size < h2.objs.size := this
      omega
    · exact fun hm => by
        have := I2.nofs (Nat.le_of_eq hu)
        exact this hm
  show wpAny _ _ (callWith p4 (.ref u) [] (backTo p4 (starEach [.Constant (.str tx) j p3] (ksEnv qual scope s.heap.objs.size f (.ref cda) cc))) []) _ _ _
  refine kxs_callWith (i := ini) (x := a) (by rfl) ?_
  have pa : PA (cxS cm pn CX P w K mg base N qual scope f cc (.ref cda) A outer s H E) [.Constant (.str tx) j p3] _ := pa_cons pe_str pa_nil
  refine Calls.evalArgs_plain (thn (pa.run p4 _ _ _ _ (fun vs H1 => vs.length = 1 ∧ H1 = H) I4 ⟨rfl, rfl⟩) fun ws s5 ⟨ys, H5, I5, r5, hy, eH⟩ => ?_)
  subst eH
  have P5 := (I5.pin (u, kxs_mw ini a) (List.mem_append_right _ List.mem_cons_self)).1
  refine ⟨P5, ?_⟩
  obtain ⟨t5, hex5⟩ := exo_at I5.hok ea
  refine call_mw (s := s5) TL.fb (I5.kIn _ _ hC) P5 hex5 (by have := r5.length; rw [sizeLine_eq]; simp; omega) fun h6 t6 k6 hx6 => ?_
  have J := I5.write (t' := s5.toks) (x := a) (e := a) (o := exo a C none) (by rw [ea]; exact True.intro) (.inl rfl) k6 ⟨_, hx6⟩ (exo_ok hx6)
  have eu : upd H5 a (exo a C none) = H5 := by
    funext b
    by_cases hb : b = a
    · rw [hb, upd_same, ea]
    · rw [upd_ne hb]
  rw [eu] at J
  have J6 : Inv (cxS cm pn CX P w K mg base N qual scope f cc (.ref cda) A outer s H5 E) [] (L2.start N vs) H5 { s5 with heap := h6, toks := s5.toks } := J.unpinned (pins := [])
  exact wpAt_of_wpAny (tail _ J6)
end
inductive FieldsOk : List Stmt → List Str → Prop
  | nil : FieldsOk [] []
  | cons {p : Str} {q0 q1 q2 q3 : Pos} {sts : List Stmt} {ps : List Str} (h : FieldsOk sts ps) : FieldsOk (.Assign [.Attribute (.Name "self" q0) p q1] (.Name p q2) q3 :: sts) (p :: ps)
theorem fields_go {X : Cx} {a C : Addr} (T : OexG X.K C) (hN0 : X.N[0]? = some ("self" : Str)) (hv0 : Vis X.env.scope "self") : ∀ {sts : List Stmt} {ps : List Str} (i : Nat), FieldsOk sts ps →
    (∀ j p, ps[j]? = some p → X.N[i + j]? = some p ∧ Vis X.env.scope p ∧ (p == ("__debug__" : Str)) = false ∧ (p == ("__classdict__" : Str)) = false ∧ findIn X.K (.ref C) p = some none) →
    ∃ t, PSs X sts t ∧ ∀ (D : Ends) (σ : L2.St) (H : Hp) (dx : Addr) (fs : List (Str × V)) (ws : List V), σ[0]? = some (some (.ref a)) → (∀ j y, ws[j]? = some y → σ[i + j]? = some (some y)) → ws.length = ps.length → H a = some (exo a C (some dx)) → H dx = some (exd dx fs) → dx ≠ a → fs.length + ps.length ≤ 900 →
      D.nx σ (upd H dx (exd dx ((ps.zip ws).reverse ++ fs))) → t D σ H
  | _, _, _, .nil, _ => ⟨_, pss_nil, fun D σ H dx fs ws _ _ _ _ hd _ _ h => by
      have e : upd H dx (exd dx fs) = H := by
        funext b
        by_cases hb : b = dx
        · rw [hb, upd_same, hd]
        · rw [upd_ne hb]
      have h : D.nx σ (upd H dx (exd dx fs)) := h
      rw [e] at h
      exact h⟩
  | _, _, i, .cons (p := p) (ps := ps) hs, hp => by
    obtain ⟨t, ht, hq⟩ := fields_go T hN0 hv0 (i + 1) hs fun j p' hj => by
      have := hp (j + 1) p' (by simpa using hj)
      rwa [show i + (j + 1) = i + 1 + j by omega] at this
    obtain ⟨g1, g2, g3, g4, g5⟩ := hp 0 p rfl
    refine ⟨_, pss_cons (ps_ogS (pe_var (i := 0) hN0 hv0) (pe_var (i := i) g1 g2 g3 g4)) ht, fun D σ H dx fs ws h0 hw hl ha hd hne hz h => ?_⟩
    cases ws with
    | nil => simp at hl
    | cons y ws =>
      refine ⟨y, hw 0 y rfl, .ref a, h0, a, C, rfl, T, g5, .inr ⟨dx, fs, ha, hd, by simp at hz; omega, ?_⟩⟩
      refine hq D σ _ dx ((p, y) :: fs) ws h0 (fun j y' hj => by rw [show i + 1 + j = i + (j + 1) by omega]; exact hw (j + 1) y' (by simpa using hj)) (by simpa using hl) (by rw [upd_ne (Ne.symm hne)]; exact ha) upd_same hne (by simp at hz ⊢; omega) ?_
      rw [upd_upd, List.zip_cons_cons, List.reverse_cons, List.append_assoc] at *
      exact h
def spErr (C : Addr) (code : Str) (ps : List Str) : Sp := fun vs H Q _ => ∃ a ws, vs = .ref a :: ws ∧ ws.length = ps.length ∧ H a = some (exo a C none) ∧
  ∀ d, H d = none → d ≠ a → Q .non (upd (upd H a (exo a C (some d))) d (exd d ((ps.zip ws).reverse ++ [(("code" : Str), V.str code)])))
theorem spErr_len {C : Addr} {code : Str} {ps : List Str} : ∀ vs H Q E, spErr C code ps vs H Q E → vs.length = (("self" : Str) :: ps).length := fun vs H Q E ⟨a, ws, h1, h2, _⟩ => by rw [h1, List.length_cons, List.length_cons, h2]
theorem err_body {X : Cx} {C : Addr} {code : Str} {ps : List Str} {sts : List Stmt} {j : Nat} {q0 q1 q2 q3 : Pos} {vs : List V} {H : Hp} {Q : VK} {E : XK} (T : OexG X.K C) (hN : X.N = ("self" : Str) :: ps) (hv : ∀ p ∈ X.N, Vis X.env.scope p) (hs : FieldsOk sts ps) (hc : findIn X.K (.ref C) "code" = some none)
    (hp : ∀ p ∈ ps, (p == ("__debug__" : Str)) = false ∧ (p == ("__classdict__" : Str)) = false ∧ findIn X.K (.ref C) p = some none) (hz : ps.length ≤ 800) (h : spErr C code ps vs H Q E) :
    ∃ a, vs[0]? = some (.ref a) ∧ H a = some (exo a C none) ∧ ∃ t, PSs X (.Assign [.Attribute (.Name "self" q0) "code" q1] (.Constant (.str code) j q2) q3 :: sts) t ∧ t { nx := fun _ H' => Q .non H', rt := Q } (L2.start X.N vs) H := by
  obtain ⟨a, ws, rfl, hl, ha, hq⟩ := h
  have hN0 : X.N[0]? = some ("self" : Str) := by rw [hN]; rfl
  have hv0 : Vis X.env.scope "self" := hv _ (List.mem_of_getElem? hN0)
  have st0 : (L2.start X.N (.ref a :: ws))[0]? = some (some (.ref a)) := by unfold L2.start; rfl
  have st1 : ∀ k y, ws[k]? = some y → (L2.start X.N (.ref a :: ws))[1 + k]? = some (some y) := fun k y hk => by
    unfold L2.start
    have hk' := (List.getElem?_eq_some_iff.mp hk).1
    rw [List.getElem?_append_left (by simp; omega), List.getElem?_map, show 1 + k = k + 1 by omega, List.getElem?_cons_succ, hk]
    rfl
  obtain ⟨t, ht, hg⟩ := fields_go (a := a) T hN0 hv0 1 hs fun k p hk => by
    obtain ⟨g3, g4, g5⟩ := hp p (List.mem_of_getElem? hk)
    have e : X.N[1 + k]? = some p := by rw [hN, show 1 + k = k + 1 by omega, List.getElem?_cons_succ, hk]
    exact ⟨e, hv p (List.mem_of_getElem? e), g3, g4, g5⟩
  refine ⟨a, rfl, ha, _, pss_cons (ps_ogS (pe_var (i := 0) hN0 hv0) pe_str) ht, ?_⟩
  refine ⟨.ref a, st0, a, C, rfl, T, hc, .inl ⟨ha, fun d hd hne => ?_⟩⟩
  refine hg _ _ _ d [(("code" : Str), V.str code)] ws st0 st1 hl upd_same (by rw [upd_ne hne, upd_same]) hne (by simp; omega) ?_
  have e : upd (upd (upd H d (exd d [(("code" : Str), V.str code)])) a (exo a C (some d))) d (exd d ((ps.zip ws).reverse ++ [(("code" : Str), V.str code)])) = upd (upd H a (exo a C (some d))) d (exd d ((ps.zip ws).reverse ++ [(("code" : Str), V.str code)])) := by
    funext b
    by_cases h1 : b = d
    · rw [h1, upd_same, upd_same]
    · by_cases h2 : b = a
      · rw [h2, upd_ne (Ne.symm hne), upd_ne (Ne.symm hne), upd_same, upd_same]
      · rw [upd_ne h1, upd_ne h2, upd_ne h1, upd_ne h1, upd_ne h2]
  show Q .non _
  rw [e]
  exact hq d hd hne
structure Err (P : Program) (w : World) (K : PySem.W.Frag) (mg : Str → Option Value) (base : Heap) (x : Str) (ps : List Str) : Prop where
  ex : ∃ C fI fd, mg x = some (.ref C) ∧ nsIn K mainGlobals x = some (some (.ref C)) ∧ OexG K C ∧ findIn K (.ref C) "__init__" = some (some (.ref fI)) ∧ typeIn K (.ref fI) = some (.type "function") ∧
    L2.Binds K fd (("self" : Str) :: ps) [] ∧ FnOk P w K mg base L2.CX0 1 fI fd (("self" : Str) :: ps) (spErr C x ps) ∧ L2H.FnH P w K mg base L2.CX0 1 fI fd (("self" : Str) :: ps) (spErr C x ps)
structure ErrS (P : Program) (w : World) (K : PySem.W.Frag) (mg : Str → Option Value) (base : Heap) (x qual : Str) (st : Stmt) (ps : List Str) : Prop where
  ex : ∃ (C fI cc cda : Addr) (kV doc pm ct : Value) (an : Option Addr), mg x = some (.ref C) ∧ nsIn K mainGlobals x = some (some (.ref C)) ∧ OexG K C ∧ findIn K (.ref C) "__init__" = some (some (.ref fI)) ∧ typeIn K (.ref fI) = some (.type "function") ∧
    L2.Binds K (ksFn "__init__" qual (L2.defArgs st) (L2.defBody st) (L2.defScope st) .none kV doc pm an (.ref cda) ct cc) (("self" : Str) :: ps) [] ∧ FnOk P w K mg base L2.CX0 1 fI (ksFn "__init__" qual (L2.defArgs st) (L2.defBody st) (L2.defScope st) .none kV doc pm an (.ref cda) ct cc) (("self" : Str) :: ps) (spErr C x ps) ∧
    L2H.FnH P w K mg base L2.CX0 1 fI (ksFn "__init__" qual (L2.defArgs st) (L2.defBody st) (L2.defScope st) .none kV doc pm an (.ref cda) ct cc) (("self" : Str) :: ps) (spErr C x ps)
theorem ErrS.err {P : Program} {w : World} {K : PySem.W.Frag} {mg : Str → Option Value} {base : Heap} {x qual : Str} {st : Stmt} {ps : List Str} (h : ErrS P w K mg base x qual st ps) : Err P w K mg base x ps :=
  let ⟨C, fI, _, _, _, _, _, _, _, h1, h2, h3, h4, h5, h6, h7⟩ := h.ex
  ⟨C, fI, _, h1, h2, h3, h4, h5, h6, h7⟩
theorem errS_mk {P : Program} {w : World} {K : PySem.W.Frag} {mg : Str → Option Value} {base : Heap} {x qual : Str} {ps : List Str} {st : Stmt} {C fI cc cda : Addr} {nm q file tx : Str} {Nn : Addr} {bs bm : List Value} {sn : List Str} {sub : List Value} {ab : Bool} {col : Option Bool} {dd : Option Addr} {k0 k1 k2 k3 k5 : Option Value}
    {kV doc pm ct oc cl ccl : Value} {an od cld cdd : Option Addr} {osl csl ccs : Array (Option Value)} {ar : Arg} {fvs : Array Value} {tf : Tok} {j j' : Nat} {p0 p1 p2 p3 p4 p5 q0 q1 q2 q3 : Pos} {pl : Sem Bool} {sts : List Stmt}
    {B nw ini : String} {tail : List Value} (TL : Tail B nw ini tail) (gC : mg x = some (.ref C)) (nC : nsIn K mainGlobals x = some (some (.ref C)))
    (cls : K.lookup C = some (excClassObj nm q C Nn bs bm true sn sub ab col dd k0 k1 k2 k3 k5 nw)) (hbm : refsT tail bm)
    (sa : findIn K (.ref C) "__setattr__" = some (some (.builtin "object.__setattr__"))) (exC : subIn K (.ref C) (.type "BaseException") = some true) (tyC : typeIn K (.ref C) = some (.type "type")) (kC : keepIn K (.ref C) = true)
    (iC : findIn K (.ref C) "__init__" = some (some (.ref fI))) (tI : typeIn K (.ref fI) = some (.type "function"))
    (lk : K.lookup fI = some ⟨oc, od, .func (ksFn "__init__" qual (L2.defArgs st) (L2.defBody st) (L2.defScope st) .none kV doc pm an (.ref cda) ct cc), osl⟩)
    (cd : codeIn K (.ref cda) qual = true) (hcode : K.lookup cda = some ⟨ccl, cdd, .fields fvs, ccs⟩) (hvs : fvs[2]? = some (.str file tf)) (hfile : ((P.main.file : Str) == file) = true) (hcell : K.lookup cc = some ⟨cl, cld, .cell (some (.ref C)), csl⟩)
    (hsuper : mg "super" = none) (htop : (P.main.scope.names.lookup ("super" : Str)).isSome = false) (ho : nsIn K cStatics "thirdparty.any" = some none)
    (hm : ks_superIn K C C "__init__" = some (some (.builtin ini))) (hB : subIn K (.ref C) (.type B) = some true) (hCC : mroIn K C (.ref C) = some true)
    (c0 : findIn K (.ref C) "code" = some none) (cp : ∀ p ∈ ps, findIn K (.ref C) p = some none)
    (hbody : L2.defBody st = .Expr (.Call (.Attribute (.Call (.Name "super" p0) [] [] p1) "__init__" p2) [.Constant (.str tx) j p3] [] p4) p5 :: .Assign [.Attribute (.Name "self" q0) "code" q1] (.Constant (.str x) j' q2) q3 :: sts) (hs : FieldsOk sts ps)
    (S : SupScope (("self" : Str) :: ps) (("self" : Str) :: ps) (L2.defScope st)) (hp : ((L2.defArgs st).posonlyargs ++ (L2.defArgs st).args).head? = some ar) (har : ar.arg = "self") (hd : ps.all (fun p => !(p == ("__debug__" : Str)) && !(p == ("__classdict__" : Str))) = true) (hz : ps.length ≤ 800)
    (hev : ∀ (L f cc : Addr) (cd : Value), eval (.Call (.Attribute (.Call (.Name "super" p0) [] [] p1) "__init__" p2) [.Constant (.str tx) j p3] [] p4) (ksEnv qual (L2.defScope st) L f cd cc) = (do
      let ov ← attributeBase (.Call (.Name "super" p0) [] [] p1) "__init__" (ksEnv qual (L2.defScope st) L f cd cc) (eval (.Call (.Name "super" p0) [] [] p1) (ksEnv qual (L2.defScope st) L f cd cc))
      standAt p2.atName
      let (g, first) ← holding [ov] (getMethod ov "__init__" pl)
      callWith p4 g first (backTo p4 (starEach [.Constant (.str tx) j p3] (ksEnv qual (L2.defScope st) L f cd cc))) []))
    (hsw : ∀ (L f cc : Addr) (cd : Value), swapsWith (.Call (.Attribute (.Call (.Name "super" p0) [] [] p1) "__init__" p2) [.Constant (.str tx) j p3] [] p4) none p5.line (ksEnv qual (L2.defScope st) L f cd cc) = pure false)
    (hbi : ∀ us : List Value, us.length = (("self" : Str) :: ps).length → bindArgs (ksFn "__init__" qual (L2.defArgs st) (L2.defBody st) (L2.defScope st) .none kV doc pm an (.ref cda) ct cc) ⟨us, []⟩ = pure ((("self" : Str) :: ps).zip us)) :
    ErrS P w K mg base x qual st ps := by
  have T : OexT K C nw tail := ⟨⟨nm, q, Nn, bs, bm, sn, sub, ab, col, dd, k0, k1, k2, k3, k5, cls, hbm⟩, sa, exC, tyC, kC⟩
  refine ⟨C, fI, cc, cda, kV, doc, pm, ct, an, gC, nC, ⟨B, nw, ini, tail, TL, T⟩, iC, tI, .all hbi, ?_⟩
  rw [hbody] at lk ⊢
  have body : ∀ (cm : Bool) (pn : List (Addr × Obj)) (A : Around) (outer : List PySem.Env) (s : Shared) (H : Hp) (vs : List V) (Q : VK) (E : XK), spErr C x ps vs H Q E →
      ∃ a, vs[0]? = some (.ref a) ∧ H a = some (exo a C none) ∧ ∃ t, PSs (cxS cm pn L2.CX0 P w K mg base (("self" : Str) :: ps) qual (L2.defScope st) fI cc (.ref cda) A outer s H E) (.Assign [.Attribute (.Name "self" q0) "code" q1] (.Constant (.str x) j' q2) q3 :: sts) t ∧ t { nx := fun _ H' => Q .non H', rt := Q } (L2.start (("self" : Str) :: ps) vs) H := fun cm pn A outer s H vs Q E h =>
    err_body (X := cxS cm pn L2.CX0 P w K mg base (("self" : Str) :: ps) qual (L2.defScope st) fI cc (.ref cda) A outer s H E) ⟨B, nw, ini, tail, TL, T⟩ rfl (fun p hp => .inl (S.par p hp)) hs c0 (fun p hp => by
      have z := List.all_eq_true.mp hd p hp
      simp only [Bool.and_eq_true, Bool.not_eq_true'] at z
      exact ⟨z.1, z.2, cp p hp⟩) hz h
  refine ⟨⟨spErr_len, fun A outer s H args us vs Q E hr e0 hb r hsp => ?_⟩, ⟨spErr_len, fun A outer s H args us vs Q E p hr hot hpin e0 hb r hsp => ?_⟩⟩
  · exact fn_super0 (cm := true) (pn := []) (k := 0) (N := ("self" : Str) :: ps) lk cd S hp (by rw [har]; rfl) hcode hvs hfile hcell hsuper htop ho TL T hm hB hCC hev hsw spErr_len (L2H.roomH_of hr) (fun _ => hr.hd) (fun p hp => by cases hp) e0 hb r hsp (body _ _ A outer s H vs Q E hsp)
  · exact fn_super0 (cm := false) (pn := [p]) (k := 0) (N := ("self" : Str) :: ps) lk cd S hp (by rw [har]; rfl) hcode hvs hfile hcell hsuper htop ho TL T hm hB hCC hev hsw spErr_len hr (fun z => by cases z) (fun q hq => by
      have e : q = p := by simpa using hq
      rw [e]; exact hpin) e0 hb r hsp (body _ _ A outer s H vs Q E hsp)
section
variable {X : Cx} {x : Str} {e : Expr} {es : List Expr} {ta : TA} {p pos : Pos} {CX : CXT} {C fI : Addr} {k : Nat} {fd : FuncData} {ps : List Str} {sp : Sp}
theorem oex_end {pins : List (Addr × Obj)} {σ : L2.St} {H1 H2 : Hp} {Q : XK} {hp hp2 h2 : Heap} {g1 g2 : Array GenState} {d1 d2 : Drawn} {t1 t2 : Nat} {os1 os2 : OsState} {a d : Addr} {fs : List (Str × V)} (T : Raises X (.ref C)) (J : Inv X pins σ H1 ⟨hp, g1, d1, t1, os1⟩)
    (ha : hp.objs.size ≤ a) (kp : ∀ b o, hp.get? b = some o → hp2.get? b = some o) (un : Un (frs X.stack) [] (upd H1 a (exo a C none)) H2 hp2 h2) (hok : HOk X.prog X.w H2 h2) (ho : os2 = os1) (hb : AllBare g2)
    (ea : H2 a = some (exo a C (some d))) (ed : H2 d = some (exd d fs)) (hd1 : H1 d = none) (q : Q (.ref C) (some d) (upd (del H2 a) d (.xd fs))) : L2N.MkP X pins σ Q (.ref a) ⟨h2, g2, d2, t2, os2⟩ := by
  obtain ⟨t0, G, J2, kG, ge, hoe, na⟩ := mk_end0 (d2 := d2) (t2 := t2) J ha kp un hok ho hb ea ed hd1
  exact ⟨a, _, _, ⟨G, g2, d2, t2, os2⟩, _, .ref C, some d, rfl, J2, kG, ge, hoe, ⟨rfl, rfl, fun vs hv => by cases hv; rfl⟩, rfl, rfl, na, rfl, hb, T, q⟩
theorem oex_call (T : OexG X.K C) (iC : PySem.W.findIn X.K (.ref C) "__init__" = some (some (.ref fI))) (tI : PySem.W.typeIn X.K (.ref fI) = some (.type "function"))
    (F1 : FnOk X.prog X.w X.K X.mg X.base CX k fI fd ps sp) (hr : Room (k + 1) X.A) (hb : Binds X.K fd ps []) (hx : Passes CX X (fun _ _ _ => False))
    {pins : List (Addr × Obj)} {σ : L2.St} {H1 : Hp} {s1 : Shared} {Q : XK} {us : List Value} {vs : List V} (J : Inv X pins σ H1 s1) (rv : Vals vs us)
    (q1 : ∀ a, H1 a = none → sp (.ref a :: vs) (upd H1 a (exo a C none)) (fun v H2 => v = .non ∧ ∃ d fs, H2 a = some (exo a C (some d)) ∧ H2 d = some (exd d fs) ∧ H1 d = none ∧ Q (.ref C) (some d) (upd (del H2 a) d (.xd fs))) (fun _ _ _ => False)) (hz : vs.length ≤ 1000) :
    wpAny (model X.prog X.w) X.A (call (.ref C) us) (L2N.MkP X pins σ Q) X.xe s1 := by
  obtain ⟨B0, nw, ini, tail, TL, T⟩ := T
  obtain ⟨nm, qn, N, bs, bm, sn, sub, ab, col, dd, k0, k1, k2, k3, k5, lkC, hbm⟩ := T.cls
  obtain ⟨hp, g, dr, tk, os⟩ := s1
  have up1 : hp.objs.size ≤ hp.objs.size + 1 := Nat.le_succ _
  have hq := q1 (hp.objs.size + 1) (J.hok.fresh up1)
  have old : ∀ b o, hp.get? b = some o → ((hp.push (PySem.W.kdv_tup us)).push (PySem.HandSPX.excO C hp.objs.size)).get? b = some o := fun b o e => Heap.get?_push_of_some _ (Heap.get?_push_of_some _ e)
  have new : ((hp.push (PySem.W.kdv_tup us)).push (PySem.HandSPX.excO C hp.objs.size)).get? (hp.objs.size + 1) = some (PySem.HandSPX.excO C hp.objs.size) := by heap_get
  have J2 : Inv X pins σ (upd H1 (hp.objs.size + 1) (exo (hp.objs.size + 1) C none)) ⟨(hp.push (PySem.W.kdv_tup us)).push (PySem.HandSPX.excO C hp.objs.size), g, dr, tk, os⟩ :=
    J.laid (t' := tk) (a := hp.objs.size + 1) (o := exo (hp.objs.size + 1) C none) (h' := (hp.push (PySem.W.kdv_tup us)).push (PySem.HandSPX.excO C hp.objs.size)) old up1 (exo_ok new)
  have rv2 : Vals (V.ref (hp.objs.size + 1) :: vs) (Value.ref (hp.objs.size + 1) :: us) := .cons rfl rv
  have ln : (Value.ref (hp.objs.size + 1) :: us).length = ps.length := by
    rw [← rv2.length]
    exact F1.len _ _ _ _ hq
  have b0 := hb _ (Value.ref (hp.objs.size + 1) :: us) J2.kIn (by rw [List.append_nil]; exact ln)
  rw [List.append_nil] at b0
  have few : us.length ≤ sizeLine := by
    rw [← Paired.length rv, sizeLine_eq]
    omega
  refine wpAny_call (PySem.HandSPX.call_own TL.fb (fun Y => hbm.has Y) (J.kIn _ _ lkC) (PySem.W.looks_findIn J.kIn iC) (fun self => PySem.W.bind_fn J.kIn self tI) few
    (codeAny_mono (F1.run _ X.stack _ _ ⟨Value.ref (hp.objs.size + 1) :: us, []⟩ (Value.ref (hp.objs.size + 1) :: us) _ _ (fun _ _ _ => False) (hr.make C us []) (J2.env0.make C us []) b0 rv2 hq) fun r s' hr2 => ?_))
  cases r with
  | error er => exact hx pins σ _ _ er s' J2 hr2
  | ok fl =>
    cases fl with
    | ret u =>
      obtain ⟨v, H2, os2, bare2, un2, hok2, rw2, ev, d, fs, ea, ed, hd1, q2⟩ := hr2
      subst ev
      obtain ⟨h2, g2, d2, t2, os3⟩ := s'
      exact ⟨rw2, oex_end (raises_own T.exC T.tyC) J up1 old un2 hok2 os2 bare2 ea ed hd1 q2⟩
    | next => exact hr2.elim
    | brk => exact hr2.elim
    | cont => exact hr2.elim
theorem pmk_oexN (T : OexG X.K C) (iC : PySem.W.findIn X.K (.ref C) "__init__" = some (some (.ref fI))) (tI : PySem.W.typeIn X.K (.ref fI) = some (.type "function"))
    (F1 : FnOk X.prog X.w X.K X.mg X.base CX k fI fd ps sp) (hr : Room (k + 1) X.A) (hb : Binds X.K fd ps []) (hx : Passes CX X (fun _ _ _ => False)) (hg : Gl X x) (hm : X.mg x = some (.ref C)) (ha : PA X (e :: es) ta)
    (hdb : (x == ("__debug__" : Str)) = false := by decide) (he : starEach (e :: es) X.env = (false, eval e X.env) :: starEach es X.env := by rfl) (hpl : (backTo pos (starEach es X.env)).any (·.1) = false := by rfl) :
    L2N.PMk X (.Call (.Name x p) (e :: es) [] pos) (tMkO C sp [] ta) := by
  intro pins s σ H Q I h
  refine wpAny_Call_Name_kw (ld_glob I hg hm ?_ hdb)
  refine PySem.W.callWith_K (h₀ := X.base) I.ok.mod.kin T.kC (thn (ha.run pos pins s σ H _ I h) fun us s1 ⟨vs, H1, J, rv, hz, q1⟩ => ⟨J.kIn, ?_⟩) he hpl
  exact oex_call T iC tI F1 hr hb hx J rv (fun a ha => by have z := q1 a ha; rw [List.append_nil] at z; exact z) hz
theorem pmk_oexN0 (T : OexG X.K C) (iC : PySem.W.findIn X.K (.ref C) "__init__" = some (some (.ref fI))) (tI : PySem.W.typeIn X.K (.ref fI) = some (.type "function"))
    (F1 : FnOk X.prog X.w X.K X.mg X.base CX k fI fd ps sp) (hr : Room (k + 1) X.A) (hb : Binds X.K fd ps []) (hx : Passes CX X (fun _ _ _ => False)) (hg : Gl X x) (hm : X.mg x = some (.ref C))
    (hdb : (x == ("__debug__" : Str)) = false := by decide) : L2N.PMk X (.Call (.Name x p) [] [] pos) (tMkO C sp [] tNil) := by
  intro pins s σ H Q I h
  refine wpAny_Call_Name_kw (ld_glob I hg hm ?_ hdb)
  refine PySem.W.callWith_K0 I.kIn T.kC ?_
  obtain ⟨hz, q1⟩ : ([] : List V).length ≤ 1000 ∧ _ := h
  exact oex_call T iC tI F1 hr hb hx I (vs := []) (us := []) .nil (fun a ha => by have z := q1 a ha; rw [List.append_nil] at z; exact z) hz
end
section
variable {X : Cx} {W : WX} {e : Expr} {es : List Expr} {pos pos' p : Pos} {x : Str} {ps : List Str} {fa : Fa}
def sRaise (x : Str) (ps : List Str) (a : Fa) : Fs := fun env M => (a env M).thn env fun ds M1 => if ds.length = ps.length then .ex x (ps.reverse ++ [("code" : Str)]) (ds.reverse ++ [.str x]) env M1 else .bad
theorem ds_raise (T : Err X.prog X.w X.K X.mg X.base x ps) (hr : Room 2 X.A) (hc : X.calm = true) (tk : TakesM μ X W) (hg : Gl X x) (ha : DA X W (e :: es) fa) (hz : ps.length ≤ 800 := by decide) (hdb : (x == ("__debug__" : Str)) = false := by decide)
    (he : starEach (e :: es) X.env = (false, eval e X.env) :: starEach es X.env := by rfl) (hpl : (backTo pos (starEach es X.env)).any (·.1) = false := by rfl) : DS X W (.Raise (some (.Call (.Name x p) (e :: es) [] pos)) none pos') (sRaise x ps fa) := by
  obtain ⟨C, fI, fd, gC, nC, TC, iC, tI, hb, F, _⟩ := T.ex
  obtain ⟨t, q, s⟩ := ha
  refine ⟨_, ds_raiseM hc tk (pmk_oexN TC iC tI F hr hb L2.pass0 hg gC q hdb he hpl), fun env M σ w H w0 H0 B I h => ?_⟩
  refine s env M σ w H w0 H0 _ I (Post.thn I h fun ds M1 vs w1 H1 x1 I1 r1 k1 => ?_)
  by_cases hl : ds.length = ps.length
  · rw [if_pos hl] at k1
    have hv : vs.length = ps.length := by rw [r1.length, hl]
    refine ⟨by omega, fun a ha => ?_⟩
    rw [List.append_nil]
    refine ⟨a, vs, rfl, hv, upd_same, fun d hd hne => ?_⟩
    have hd1 : H1 d = none := by rwa [upd_ne hne] at hd
    refine ⟨rfl, d, _, by rw [upd_ne (Ne.symm hne), upd_same], upd_same, hd1, ?_⟩
    have e : upd (del (upd (upd (upd H1 a (exo a C none)) a (exo a C (some d))) d (exd d ((ps.zip vs).reverse ++ [(("code" : Str), V.str x)]))) a) d (.xd ((ps.zip vs).reverse ++ [(("code" : Str), V.str x)])) = upd H1 d (.xd ((ps.zip vs).reverse ++ [(("code" : Str), V.str x)])) := by
      funext b
      by_cases h1 : b = d
      · rw [h1, upd_same, upd_same]
      · rw [upd_ne h1, upd_ne h1]
        by_cases h2 : b = a
        · rw [h2, del_same, ha]
        · rw [del_ne h2, upd_ne h1, upd_ne h2, upd_ne h2]
    rw [e]
    obtain ⟨o2, x2⟩ := I1.ok.put (o := .xd ((ps.zip vs).reverse ++ [(("code" : Str), V.str x)])) hd1
    refine k1 σ C d _ w1 _ nC (I1.step x2 o2) (More.refl _) (I1.ext.new hd1) upd_same ?_ ?_
    · rw [List.map_append, List.map_reverse, List.map_fst_zip (by omega)]; rfl
    · rw [List.map_append, List.map_reverse, List.map_snd_zip (by omega)]
      exact (r1.mono x2.more).reverse.append (.cons (.str x) .nil)
  · rw [if_neg hl] at k1
    exact k1.elim
end
end DL
namespace DL
open PySem L2 PySem.W PyProof.Rows
variable [Wld]
inductive NamesL (X : Cx) : List Expr → List Value → Prop
  | nil : NamesL X [] []
  | cons {x : Str} {c : Value} {p : Pos} {es : List Expr} {cs : List Value} (h : Names X x c) (r : NamesL X es cs) : NamesL X (.Name x p :: es) (c :: cs)
theorem FlyingZ_keeps {B h h' : Heap} {l : List PySem.Env} {a : Addr} {Z : Obj → Prop} (fl : HandSPX.FlyingZ B l a Z h) (k : ∀ b o, h.get? b = some o → h'.get? b = some o) : HandSPX.FlyingZ B l a Z h' := by
  obtain ⟨f1, f2, f3, oe, vs, T, oT, ts, g1, g2, g3, g4, g5, g6, g7, g8, g9⟩ := fl
  exact ⟨fun b o e => k b o (f1 b o e), f2, Heap.FunFrames.of_keeps (fun b o e _ => ⟨o, k b o e, rfl⟩) f3, oe, vs, T, oT, ts, k _ _ g1, g2, g3, g4, g5, g6, k _ _ g7, g8, g9⟩
theorem names_tuple {Y : Cx} {pins : List (Addr × Obj)} {σ : L2.St} {H : Hp} {s : Shared} {Er : Value → Shared → Prop} {Q : Value → Shared → Prop} {es : List Expr} {cs : List Value} {k : Nat} {p : Pos} (N : NamesL Y es cs) (I : Inv Y pins σ H s)
    (he : starEach es Y.env = es.map fun e => (false, eval e Y.env)) (hz : cs.length ≤ 64) (h : Q (.ref s.heap.objs.size) { s with heap := s.heap.push { cls := .type "tuple", data := .seq cs.toArray } }) :
    wpAny (model Y.prog Y.w) Y.A (eval (.Tuple es k p) Y.env) Q Er s := by
  rw [arm_eval_Tuple]
  refine wpAny_bind (wpAny_standAt (wpAny_bind ?_))
  rw [he]
  have key : ∀ {es : List Expr} {cs : List Value} {Q : List Value → Shared → Prop}, NamesL Y es cs → Q cs s → wpAny (model Y.prog Y.w) Y.A (spliced (backTo p (es.map fun e => (false, eval e Y.env)))) Q Er s := by
    intro es cs Q n q
    induction n generalizing Q with
    | nil => exact Calls.spliced_nil q
    | @cons x c p' es cs hc r ih =>
      show wpAny _ _ (spliced ((false, eval (.Name x p') Y.env) :: backTo p (es.map fun e => (false, eval e Y.env)))) _ _ _
      refine Calls.spliced_cons ?_
      have go : wpAny (model Y.prog Y.w) Y.A (spliced (backTo p (es.map fun e => (false, eval e Y.env)))) (fun us s2 => Q (c :: us) s2) Er s := ih q
      obtain ⟨hg, hdbg, hm | ⟨hm, hv, hnn⟩⟩ := hc
      · exact ld_glob I hg hm go hdbg
      · exact ld_blt I hg hm hv go hnn hdbg
  exact key N (wpAny_newTuple h (by rw [sizeLine_eq]; omega))
theorem NamesL.suite {X : Cx} {a : Addr} {pn : List (Addr × Obj)} {es : List Expr} {cs : List Value} (h : NamesL X es cs) : NamesL (X.suite a pn) es cs := by
  induction h with
  | nil => exact .nil
  | cons h r ih => exact .cons h ih
def wTup (K : PySem.W.Frag) (cs : List Value) (i : Nat) (ts : Addr → Value → Option Addr → TS) (Wout : WX) (D : Ends) : WX := fun cls d σ H =>
  ∃ b, exmAny K cls cs = some b ∧
    (b = true → i < σ.length → ∀ a, H a = none → ts a cls d { nx := fun σ1 H1 => D.nx (σ1.set i none) H1, rt := D.rt, bk := fun σ1 H1 => D.bk (σ1.set i none) H1, ct := fun σ1 H1 => D.ct (σ1.set i none) H1 } (σ.set i (some (.ref a))) H) ∧ (b = false → Wout cls d σ H)
section
variable {X : Cx} {n : Str} {c1 c2 c3 : Value} {i k : Nat} {body suite : List Stmt} {b₀ : Stmt} {e1 e2 e3 : Expr} {np pos pos' : Pos} {tb : WX → TS} {ts : Addr → Value → Option Addr → TS} {Wout : WX}
theorem ps_try_tup3 (hs : X.stack = X.env :: X.outer) (hf : X.env.frame = some X.env.locals) (hN : X.N.Nodup) (hi : X.N[i]? = some n) (hln : X.env.kindOf n = some .local) (hc : NamesL X [e1, e2, e3] [c1, c2, c3]) (tk : Takes X Wout)
    (hst : starEach [e1, e2, e3] X.env = [e1, e2, e3].map fun e => (false, eval e X.env))
    (hb : ∀ (W : WX) (pn : List (Addr × Obj)) (xe : Value → Shared → Prop), Takes (X.tr pn xe) W → PassesOwn (model X.prog X.w) X.A X.env xe → PSs (X.tr pn xe) body (tb W))
    (hsu : ∀ (a : Addr) (oe : Obj) (cls : Value) (d : Option Addr) (pn : List (Addr × Obj)), Zc cls d oe → (∃ vs, oe.data = .fields vs) → PSs (X.suite a ((a, oe) :: pn)) (b₀ :: suite) (ts a cls d)) :
    PS X (.Try body [.ExceptHandler (some (.Tuple [e1, e2, e3] k np)) (some n) (b₀ :: suite) pos'] [] [] pos) (fun D σ H => tb (wTup X.K [c1, c2, c3] i ts Wout D) D σ H) := by
  refine ⟨fun pins s σ H D I0 h0 => ?_⟩
  have xok := I0.ok
  have frm : X.A.frames = some (X.env :: X.outer) := by rw [xok.frames, hs]
  refine wpAny_Try_except ?_
  have bodyRun := (hb (wTup X.K [c1, c2, c3] i ts Wout D) (X.pn ++ pins) (fun e s1 => wpAny (model X.prog X.w) X.A (noteFrame e X.env) (fun _ s2 => wpAny (model X.prog X.w) X.A (setFlight e none) (fun _ s3 =>
    wpAny (model X.prog X.w) X.A (handleBy e X.env [.ExceptHandler (some (.Tuple [e1, e2, e3] k np)) (some n) (b₀ :: suite) pos']) (SP X pins D) X.xe s3) X.xe s2) X.xe s1) (fun u s1 xx => ?_) PassesOwn.looking).run [] s σ H D (I0.toTry _) h0
  · refine wpAny_mono bodyRun (fun f s1 hsp => ?_) (fun e s1 he => he)
    cases f with
    | next => exact let ⟨σ1, H1, J1, q⟩ := hsp; wpAny_execs_nil ⟨σ1, H1, J1.ofTry xok, q⟩
    | brk => exact let ⟨σ1, H1, J1, q⟩ := hsp; ⟨σ1, H1, J1.ofTry xok, q⟩
    | cont => exact let ⟨σ1, H1, J1, q⟩ := hsp; ⟨σ1, H1, J1.ofTry xok, q⟩
    | ret u => exact let ⟨v, σ1, H1, J1, r, q⟩ := hsp; ⟨v, σ1, H1, J1.ofTry xok, r, q⟩
  · -- it is caught
    obtain ⟨a, B, sI, pl, σ1, H1, cls, d, rfl, J1, nb, up, sky, na, os, ag, b, hbm, yes, no⟩ := xx
    have J0 : Inv X pins σ1 H1 sI := J1.ofTry xok
    show wpAny (model X.prog X.w) X.A (noteFrame (.ref a) X.env) _ _ _
    refine Sky.land Zc.steady frm hf (show Sky B (X.env :: X.outer) a (Zc cls d) X.env.locals s1.heap by rw [← hs]; exact sky) fun g0 fa0 ua0 => ?_
    -- facts of the exception's object
    have outFr : ∀ {g : Heap} {o : Obj} {vs : Array Value}, g.FunFrames B (X.env :: X.outer) → g.get? a = some o → o.data = .fields vs → a ∉ frs (X.env :: X.outer) := fun {g o vs} ff e dd hm => by
      obtain ⟨_, o2, e2, nf⟩ := ff.mem hm
      rw [e] at e2
      cases e2
      exact nf _ dd
    obtain ⟨x0, w0, y0, z0, d0⟩ := fa0.there
    have nfr := outFr fa0.2.2.1 y0 d0
    have nL : a ≠ X.env.locals := fun z => nfr (List.mem_filterMap.mpr ⟨X.env, List.mem_cons_self, by rw [hf, z]⟩)
    have nF : a ∉ X.fs := fun hm => by
      obtain ⟨e, he, q⟩ := List.mem_filterMap.mp hm
      exact nfr (List.mem_filterMap.mpr ⟨e, List.mem_cons_of_mem _ he, q⟩)
    have K0 : Inv X pins σ1 H1 { s1 with heap := g0 } := J0.landed nb fa0.1 (up.trans ua0) os ag
    have S0 := K0.suite y0 d0 na nL nF
    refine wpAny_handleBy_cons (codeAny_handlers_test ?_) (by intro q; cases q)
    refine names_tuple (Y := X.suite a ((a, x0) :: (X.pn ++ pins))) hc.suite S0 hst (by simp) ?_
    -- the tuple lies behind
    have kp : ∀ b o, g0.get? b = some o → (g0.push { cls := .type "tuple", data := .seq [c1, c2, c3].toArray }).get? b = some o := fun b o e => Heap.get?_push_of_some _ e
    have fa1 := FlyingZ_keeps fa0 kp
    have ua1 := ua0.trans (Heap.UpToSlots.of_keeps kp)
    have htp : (g0.push { cls := .type "tuple", data := .seq [c1, c2, c3].toArray }).get? g0.objs.size = some { cls := .type "tuple", data := .seq [c1, c2, c3].toArray } := Heap.get?_push_size _ rfl
    show wpAny (model X.prog X.w) (X.A.mark (some (.ref a))) (excMatches (.ref a) (.ref g0.objs.size)) _ _ { s1 with heap := g0.push { cls := .type "tuple", data := .seq [c1, c2, c3].toArray } }
    generalize g0.push { cls := .type "tuple", data := .seq [c1, c2, c3].toArray } = g1 at kp fa1 ua1 htp ⊢
    generalize g0.objs.size = tp at htp ⊢
    obtain ⟨x1, w1, y1, z1, d1⟩ := fa1.there
    have K1 : Inv X pins σ1 H1 { s1 with heap := g1 } := J0.landed nb fa1.1 (up.trans ua1) os ag
    have LT : Looks (model X.prog X.w) g1 (typeOf (.ref a)) cls := fun A Q E s k q => wpAny_typeOf_ref (k _ _ y1) (by rw [z1.1]; exact q)
    refine (exm_tup3 (M := model X.prog X.w) K1.kIn LT htp hbm).here ?_
    cases b with
    | true =>
      refine codeAny_handlers_suite_as ?_
      refine HandSPX.lands_againZ fa1 fun g2 fa2 ua2 => ?_
      have K2 : Inv X pins σ1 H1 { s1 with heap := g2 } := J0.landed nb fa2.1 ((up.trans ua1).trans ua2) os ag
      obtain ⟨x2, w2, y2, z2, d2⟩ := fa2.there
      refine store_ok (X := X.suite a ((a, x2) :: (X.pn ++ pins))) (v := .ref a) (K2.suite y2 d2 na nL nF) hN hi (.inl hln) rfl (fun s5 S5 => ?_) (.inr hln)
      refine wpAny_mono ((hsu a x2 cls d (X.pn ++ pins) z2 ⟨_, d2⟩).run [] s5 _ H1 _ S5 (yes rfl (by rw [J0.len]; exact (List.getElem?_eq_some_iff.mp hi).1) a na)) (fun f s6 hsp => ?_) (fun _ _ z => z.elim)
      have wayOut : ∀ {σ6 : L2.St} {H6 : Hp} {Q : Shared → Prop}, Inv (X.suite a ((a, x2) :: (X.pn ++ pins))) [] σ6 H6 s6 → (∀ s7, Inv X pins (σ6.set i none) H6 s7 → Q s7) →
          wpAny (model X.prog X.w) X.A (do bindName X.env n .none; unbindBehindTheSuite X.env n pos') (fun _ s7 => Q s7) X.xe s6 := fun S6 hq => gone_ok (S6.unsuite xok) hN hi hln hq
      cases f with
      | next => exact let ⟨σ6, H6, S6, q6⟩ := hsp; wayOut S6 fun s7 J7 => ⟨_, _, J7, q6⟩
      | brk => exact let ⟨σ6, H6, S6, q6⟩ := hsp; wayOut S6 fun s7 J7 => ⟨_, _, J7, q6⟩
      | cont => exact let ⟨σ6, H6, S6, q6⟩ := hsp; wayOut S6 fun s7 J7 => ⟨_, _, J7, q6⟩
      | ret u => exact let ⟨v6, σ6, H6, S6, r6, q6⟩ := hsp; wayOut S6 fun s7 J7 => ⟨_, _, _, J7, r6, q6⟩
    | false =>
      show wpAny _ X.A (handleBy (.ref a) X.env []) _ _ _
      refine wpAny_handleBy_nil ?_
      obtain ⟨f1, f2, f3, oe, vs, T, oT, tz, he, hz, hd, h1, hr⟩ := id fa1
      unfold PySem.passOn
      refine wpAny_bind (wpAny_field he hd h1 ?_)
      rw [if_neg (show ¬ ((Value.ref T == Value.none) = true) by simp)]
      have go : wpAny (model X.prog X.w) X.A (setFlight (.ref a) X.env.frame) (fun _ s4 => wpAny (model X.prog X.w) X.A (throw (.ref a) : Sem Flow) (SP X pins D) X.xe s4) X.xe { s1 with heap := g1 } := by
        rw [hf]
        exact HandSPX.setFlight_upZ fa1 fun g4 hh4 up4 => wpAny_throw (tk _ _ ⟨a, B, sI, pins, σ1, H1, cls, d, rfl, J0, nb, (up.trans ua1).trans up4, .inr (.inr (by rw [hs]; exact hh4)), na, os, ag, no rfl⟩)
      first
        | exact wpAny_bind (wpAny_pure (wpAny_bind go))
        | exact wpAny_bind go
end
end DL
namespace DL
open PySem L2 PySem.W PyProof.Rows
variable [Wld]
section
variable {X : Cx} {pins : List (Addr × Obj)} {σ : L2.St} {H : Hp} {s : Shared}
theorem lam_new {T : List (Addr × Str)} {c P : Addr} {params : Arguments} {body : Expr} {scope : Scope} {pos : Pos} {Er : Value → Shared → Prop} {Q : Value → Shared → Prop} (I : Inv X pins σ H s) (TB : LamX.TabB X.base X.mg c P) (hcode : X.env.code = .ref c)
    (inT : (P, X.env.qual ++ "<lambda>") ∈ T) (one : ∀ p ∈ T, p.1 = P → p.2 = X.env.qual ++ "<lambda>") (hT : LamX.Tabs T H) (hdef : defaultsOf params X.env = ([], [])) (hfree : ∀ y ∈ scope.names, y.2 = .free → ∃ c, X.env.cells.lookup y.1 = some c)
    (h : ∀ (f c1 : Addr) (pm ctv : Value) (H1 : Hp) (s1 : Shared), Inv X pins σ H1 s1 → ExtT H H1 → LamX.Tabs T H1 →
      s1.heap.get? f = some (kla_obj "<lambda>" (X.env.qual ++ "<lambda>") params body scope (cloFrom X.env.cells scope.names []) pm c1 ctv) → H1 f = none → (f ≠ X.env.locals ∧ f ∉ X.fs) → H1 c1 = some (LamX.CodeO c1 (X.env.qual ++ "<lambda>")) → Q (.ref f) s1) :
    wpAny (model X.prog X.w) X.A (eval (.Lambda params body scope pos) X.env) Q Er s := by
  generalize hq : X.env.qual ++ "<lambda>" = q at inT one h
  obtain ⟨ps, hP, htri, ham⟩ := hT _ inT
  have hP : H P = some (.tbl ps) := hP
  have bltP : s.heap.BuiltinsAt X.mg P := TB.bm.keeps I.bk
  have objP : s.heap.get? P = some { cls := .none, data := .fields ps } := I.hok P _ hP
  have offFr : ∀ f, s.heap.objs.size ≤ f → f ≠ X.env.locals ∧ f ∉ X.fs := fun f hf => ⟨fun e => by
      have lt := I.lt
      rw [← e] at lt
      exact absurd lt (Nat.not_lt.mpr hf), I.nofs hf⟩
  refine kla_eval hdef ?_
  rw [hq]
  cases hc : codeAmong pos ps.toList with
  | some cv =>
    obtain ⟨c1, rfl, hco⟩ := ham pos cv hc
    refine kla_makeFunctionHit (mg := X.mg) (c := c) (P := P) (ps := ps) (closure_ok hfree) I.ok.glob (I.mod.glob.keeps I.bk) hcode (TB.code.keeps I.bk) objP htri hc bltP fun ctv g tk kg hz => ?_
    have J := I.kept (t' := tk) (h' := g.push (kla_obj "<lambda>" q params body scope (cloFrom X.env.cells scope.names []) ((X.mg "__name__").getD .none) c1 ctv)) fun b o e => Heap.get?_push_of_some _ (kg b o e)
    exact h g.objs.size c1 ((X.mg "__name__").getD .none) ctv H _ J ⟨LamX.ExtN.refl H, fun _ z => z, fun _ ps z => ⟨#[], by simpa using z⟩⟩ hT (Heap.get?_push_size _ rfl) (I.hok.fresh hz) (offFr _ hz) hco
  | none =>
    refine kla_makeFunction (mg := X.mg) (c := c) (P := P) (ps := ps) (closure_ok hfree) I.ok.glob (I.mod.glob.keeps I.bk) hcode (TB.code.keeps I.bk) objP htri hc TB.gP bltP fun c1 ctv g tk kg hlo hhi hrec htb => ?_
    obtain ⟨c2, oc, vs, t, e2, hoc, hd, hv⟩ := hrec
    cases e2
    have hz : s.heap.objs.size ≤ g.objs.size := Nat.le_trans hlo (Nat.le_of_lt hhi)
    have freeC : H c1 = none := I.hok.fresh hlo
    generalize hH1 : upd (upd H P (.tbl (ps ++ #[rawInt pos.line, rawInt pos.col, .ref c1]))) c1 (LamX.CodeO c1 q) = H1
    have J : Inv X pins σ H1 { s with heap := g.push (kla_obj "<lambda>" q params body scope (cloFrom X.env.cells scope.names []) ((X.mg "__name__").getD .none) c1 ctv), toks := tk } := by
      rw [← hH1]
      exact LamX.inv_table (t' := tk) (more := #[rawInt pos.line, rawInt pos.col, .ref c1]) I hP (fun b o hb e => Heap.get?_push_of_some _ (kg b o hb e)) (Heap.get?_push_of_some _ htb) hlo ⟨oc, vs, t, Heap.get?_push_of_some _ hoc, hd, hv⟩
    have atC : H1 c1 = some (LamX.CodeO c1 q) := by rw [← hH1, upd_same]
    have neC : ∀ {b : Addr} {o : HO}, H b = some o → b ≠ c1 := fun e => ne_of_none e freeC
    have atP : H1 P = some (.tbl (ps ++ #[rawInt pos.line, rawInt pos.col, .ref c1])) := by rw [← hH1, upd_ne (neC hP), upd_same]
    have atO : ∀ b o, H b = some o → b ≠ P → H1 b = some o := fun b o e hb => by rw [← hH1, upd_ne (neC e), upd_ne hb]; exact e
    have X1 : ExtT H H1 := by
      refine ⟨fun b o e n => atO b o e fun z => ?_, fun b hb => ?_, fun b qs e => ?_⟩
      · subst z
        rw [hP] at e
        exact n ps (Option.some.inj e).symm
      · by_cases z : b = P
        · rw [z, atP]; simp
        · cases e : H b with
          | none => exact absurd e hb
          | some o => rw [atO b o e z]; simp
      · by_cases z : b = P
        · subst z
          rw [hP] at e
          cases e
          exact ⟨_, atP⟩
        · exact ⟨#[], by rw [atO b _ e z]; simp⟩
    have lst : (ps ++ #[rawInt pos.line, rawInt pos.col, .ref c1]).toList = ps.toList ++ [rawInt pos.line, rawInt pos.col, .ref c1] := by simp
    refine h g.objs.size c1 ((X.mg "__name__").getD .none) ctv H1 _ J X1 (fun p hp => ?_) (Heap.get?_push_size _ rfl) ?_ (offFr _ hz) atC
    · by_cases z : p.1 = P
      · rw [one p hp z, z]
        refine ⟨_, atP, by rw [lst]; exact PySem.TriplesOk_snoc _ _ _ _ htri, fun p2 cv hcv => ?_⟩
        rw [lst] at hcv
        rcases LamX.among_app _ htri hcv with w | w
        · obtain ⟨c0, w1, w2⟩ := ham p2 cv w
          exact ⟨c0, w1, X1.n _ _ w2 LamX.codeO_ne⟩
        · exact ⟨c1, w, atC⟩
      · obtain ⟨ps2, a1, a2, a3⟩ := hT p hp
        refine ⟨ps2, atO _ _ a1 z, a2, fun p2 cv hcv => ?_⟩
        obtain ⟨c0, w1, w2⟩ := a3 p2 cv hcv
        exact ⟨c0, w1, X1.n _ _ w2 LamX.codeO_ne⟩
    · have n1 : g.objs.size ≠ c1 := by omega
      have n2 : g.objs.size ≠ P := fun z => by
        have lt := Heap.lt_size objP
        rw [← z] at lt
        exact absurd lt (Nat.not_lt.mpr hz)
      rw [← hH1, upd_ne n1, upd_ne n2]
      exact I.hok.fresh hz
end
def GivesR (X : Cx) (k : Nat) (Ng : List Str) (x : Str) (sg : Scope) (g : Addr) (cdg : Value) (bg : List Stmt) (a : Str) (q : Str) (TT : (XK → Hp → VK → Prop) → Hp → VK → Prop) : Prop :=
  ∀ (f c1 : Addr) (s : Shared) (H : Hp) (Q : VK) (tl : XK → Hp → VK → Prop), Room (k + 1) (X.A.deeper (envOfC x sg s.heap.objs.size g cdg)) →
    (∀ (W : WX) (pn : List (Addr × Obj)) (xe : Value → Shared → Prop) (E : XK) (p1 p2 : Pos), Takes ((cxOf C8.CX0 X.prog X.w X.K X.mg X.base Ng x sg g cdg X.A X.stack s H C8.E0).tr pn xe) W → (∀ cls d σ1 H1, E cls d H1 → W cls d σ1 H1) →
      PE ((cxOf C8.CX0 X.prog X.w X.K X.mg X.base Ng x sg g cdg X.A X.stack s H C8.E0).tr pn xe) (.Call (.Name a p1) [] [] p2) (fun σZ HZ Q => σZ[0]? = some (some (.ref f)) ∧ HZ c1 = some (LamX.CodeO c1 q) ∧ tl E HZ Q)) →
    H c1 = some (LamX.CodeO c1 q) → TT tl H Q →
    ∃ t, PSs (cxOf C8.CX0 X.prog X.w X.K X.mg X.base Ng x sg g cdg X.A X.stack s H C8.E0).nox bg t ∧ t { nx := fun _ H1 => Q .non H1, rt := Q } (L2.start Ng [.ref f]) H
def tLamT (T : List (Addr × Str)) (TT : (XK → Hp → VK → Prop) → Hp → VK → Prop) (t : XK → TE) : TE := fun σ H Q => LamX.Tabs T H ∧ ∀ H1, ExtT H H1 → LamX.Tabs T H1 → TT (fun E H' Q' => t E σ H' Q') H1 Q
section
variable {X : Cx}
theorem pe_lamT {T : List (Addr × Str)} {TT : (XK → Hp → VK → Prop) → Hp → VK → Prop} {x a : Str} {g c P : Addr} {k : Nat} {pg : Arguments} {bg : List Stmt} {sg : Scope} {dV kV doc pm cdv ct oc : Value} {an od : Option Addr} {osl : Array (Option Value)} {Ng : List Str}
    {params : Arguments} {body : Expr} {scope : Scope} {t : XK → TE} {p lpos pos : Pos} (hg : Gl X x) (hm : X.mg x = some (.ref g)) (hk : keepIn X.K (.ref g) = true)
    (lk : X.K.lookup g = some ⟨oc, od, .func (fnOf x x pg bg sg dV kV doc pm an cdv ct), osl⟩) (hcg : codeIn X.K cdv x = true) (hb : L2.Binds X.K (fnOf x x pg bg sg dV kV doc pm an cdv ct) [a] []) (Sg : FnScope Ng [a] sg) (hNg : Ng[0]? = some a) (hva : Vis sg a)
    (hG : GivesR X k Ng x sg g cdv bg a (X.env.qual ++ "<lambda>") TT)
    (TB : LamX.TabB X.base X.mg c P) (hcode : X.env.code = .ref c) (inT : (P, X.env.qual ++ "<lambda>") ∈ T) (one : ∀ p ∈ T, p.1 = P → p.2 = X.env.qual ++ "<lambda>") (hr : Room (k + 2) X.A) (L : LamX.LamS X.env.scope scope) (hdef : defaultsOf params X.env = ([], []))
    (hbind : ∀ (q : Str) (cl : List (Str × Addr)) (pm cv ctv : Value), bindArgs (kla_fn "<lambda>" q params body scope cl pm cv ctv) ⟨[], []⟩ = pure [])
    (hbody : ∀ (A : Around) (outer : List PySem.Env) (s : Shared) (H : Hp) (E : XK) (f c1 : Addr), Room k (A.deeper (LamX.lamEnv X scope s.heap.objs.size f c1)) → PE (LamX.lamCx X A outer s H E scope f c1) body (t E))
    (hdb : (x == ("__debug__" : Str)) = false := by decide) (hd : (a == ("__debug__" : Str)) = false := by decide) (hcd : (a == ("__classdict__" : Str)) = false := by decide) :
    PE X (.Call (.Name x p) [.Lambda params body scope lpos] [] pos) (tLamT T TT t) := by
  refine ⟨fun pins s σ H Q I ⟨hT, h⟩ => ?_⟩
  refine wpAny_Call_Name_kw (ld_glob I hg hm ?_ hdb)
  refine callWith_K (h₀ := X.base) I.ok.mod.kin hk ?_ (by rfl) (by rfl)
  show wpAny _ _ (spliced ((false, eval (.Lambda params body scope lpos) X.env) :: backTo pos (starEach [] X.env))) _ _ s
  refine Calls.spliced_cons (lam_new I TB hcode inT one hT hdef (L.has I.ok) fun f c1 pm1 ctv H1 s1 J eT T1 hf hfn hff hco => Calls.spliced_nil ⟨J.kIn, ?_⟩)
  have hfr : f ∉ frs X.stack := fun z => (List.mem_cons.mp (J.stkSub _ z)).elim hff.1 hff.2
  have rc : codeAny (model X.prog X.w) X.A (.call (.ref g) ⟨[.ref f], []⟩) (CR L2.CX0 X.stack X.prog X.w H1 s1 Q C8.E0) s1 := by
    refine LamX.run_ofS (N := Ng) (ps := [a]) (us := [.ref f]) (vs := [.ref f]) lk hcg Sg hr J.env0 (hb s1 [.ref f] J.kIn rfl) (.cons rfl .nil) rfl fun hr1 => ?_
    obtain ⟨t1, ht1, hq1⟩ := hG f c1 s1 H1 Q (fun E H' Q' => t E σ H' Q') hr1 (fun W pn xe E p1 p2 tk hW => LamX.pe_act (i := 0) J L hf hfn hfr (hbind _ _ _ _ _) tk hW hr1 (fun A outer s H hr2 => hbody A outer s H E f c1 hr2) hNg hva hd hcd) hco (h H1 eT T1)
    exact ⟨t1, ht1.nox, hq1⟩
  refine wpAny_call (codeAny_mono rc fun r s2 hq => ?_)
  cases r with
  | error e => exact (show False from hq).elim
  | ok fl => cases fl with
    | ret u => exact J.after hq
    | next => exact hq.elim
    | brk => exact hq.elim
    | cont => exact hq.elim
end
end DL
namespace DL
open PySem L2 PySem.W PyProof.Rows
variable [Wld]
def lookD (n : Str) (ns : List Str) (ds : List D) : Option D := (ns.zip ds).lookup n
theorem lookD_ok {K : PySem.W.Frag} {w : Wd} {n : Str} {d : D} : ∀ {fs : List (Str × V)} {ds : List D}, Iss K w (fs.map (·.2)) ds → lookD n (fs.map (·.1)) ds = some d → ∃ v, fs.lookup n = some v ∧ Is K w v d
  | [], _, h, e => by cases h; cases e
  | (m, v) :: fs, _, h, e => by
    cases h with
    | cons h t =>
      unfold lookD at e
      rw [List.map_cons, List.zip_cons_cons, List.lookup_cons] at e
      rw [List.lookup_cons]
      cases q : n == m with
      | true => rw [q] at e; cases e; exact ⟨v, rfl, h⟩
      | false => rw [q] at e; exact lookD_ok t e
def fExc (a C dx : Addr) (n : Str) (f : Fe) : Fe := fun env M => (f env M).bind fun d M1 => match d with
  | .exv a' C' dx' ns ds => if a' = a ∧ C' = C ∧ dx' = dx then (match lookD n ns ds with | some v => .ok v M1 | none => .bad) else .bad
  | _ => .bad
structure Caught (K : PySem.W.Frag) (cs : List Value) (x : Str) (C : Addr) : Prop where
  ns : nsIn K mainGlobals x = some (some (.ref C))
  xf : XfC K C
  no : ∀ n ∈ (["code", "given", "path", "name", "part", "word", "subject", "most", "one", "other", "plan", "line"] : List Str), findIn K (.ref C) n = some none
  yes : exmAny K (.ref C) cs = some true
section
variable {X : Cx} {a C dx : Addr} {oe : Obj} {e : Expr} {n : Str} {pos : Pos} {W : WX} {f : Fe} {te : TE}
theorem pe_xfX {cls : Value} {d : Option Addr} (T : XfC X.K C) (hno : findIn X.K (.ref C) n = some none) (hz : Zc cls d oe) (hf : ∃ vs, oe.data = .fields vs) (hp : (a, oe) ∈ X.pn) (he : PE X e te) (hb : attributeBase e n X.env (eval e X.env) = eval e X.env := by rfl) :
    PE X (.Attribute e n pos) (tXf a cls d C n te) := by
  refine ⟨fun pins s σ H Q I h => ?_⟩
  refine attr_of hb (thn (he.run pins s σ H _ I h) fun u s1 hh => ?_)
  obtain ⟨x, H1, I1, rx, rfl, rfl, dd, fs, v, rfl, ea, l, q⟩ := hh
  obtain rfl : u = Value.ref a := rx
  obtain ⟨ha, _⟩ := I1.pin (a, oe) (List.mem_append_left _ hp)
  obtain ⟨vs, hd⟩ := hf
  obtain ⟨mA, hns, hr⟩ : ∃ mA, s1.heap.Ns1 dd mA ∧ ∀ f, RelO (fs.lookup f) (mA f) := I1.hok dd _ ea
  obtain ⟨od, ho, hl⟩ := lookIn_ns hns
  obtain ⟨u, hu, ru⟩ := RelO.some_of (v := v) (o := mA n) (by rw [← l]; exact hr n)
  have inst : InstAt s1.heap a oe C (some od) := ⟨ha, hz.1, by unfold notCls; rw [hd] <;> rfl, by rw [hz.2]; exact ho⟩
  exact HandSPX.exc_get I1.kIn inst T.ga T.gg T.exC (findObj_own T.hdC hno rfl (by rw [hl, hu])) (handed_of ru) ⟨v, H1, I1.tok _, ru, q⟩
theorem de_exc (T : XfC X.K C) (hno : findIn X.K (.ref C) n = some none) (hz : Zc (.ref C) (some dx) oe) (hf : ∃ vs, oe.data = .fields vs) (hp : (a, oe) ∈ X.pn) (he : DE X W e f) (hb : attributeBase e n X.env (eval e X.env) = eval e X.env := by rfl) : DE X W (.Attribute e n pos) (fExc a C dx n f) := by
  obtain ⟨t, p, s⟩ := he
  refine ⟨_, pe_xfX T hno hz hf hp p hb, fun env M σ w H w0 H0 Q I h => ?_⟩
  refine s env M σ w H w0 H0 _ I (Post.bind h fun d M1 v w1 H1 x1 o1 r1 h1 => ?_)
  cases r1 with
  | @exv a' c' dx' fs ds h2 h3 =>
    have k1 : Post X.K (RlE X.K) w1 H1 σ W Q (if a' = a ∧ c' = C ∧ dx' = dx then (match lookD n (fs.map (·.1)) ds with | some v => R.ok v M1 | none => R.bad) else R.bad) := h1
    clear h1
    by_cases hh : a' = a ∧ c' = C ∧ dx' = dx
    · rw [if_pos hh] at k1
      obtain ⟨rfl, rfl, rfl⟩ := hh
      cases q : lookD n (fs.map (·.1)) ds with
      | none => rw [q] at k1; exact k1.elim
      | some z =>
        rw [q] at k1
        obtain ⟨v, hv, iv⟩ := lookD_ok h3 q
        exact ⟨rfl, rfl, dx', fs, v, rfl, o1.g _ _ h2, hv, k1 v w1 H1 (.refl _ _) o1 iv⟩
    · rw [if_neg hh] at k1; exact k1.elim
  | _ => exact h1.elim
end
def spFld (K : PySem.W.Frag) (F : List Str → List D → Sm D) (dx : Addr) : Hp → VK → Prop := fun H Q => ∃ fs ds M w, Ok K w H M ∧ w.g dx = some (.xd fs) ∧ Iss K w (fs.map (·.2)) ds ∧ Post K (RlE K) w H [] W0 Q (F (fs.map (·.1)) ds M)
structure FieldOk (P : Program) (w : World) (K : PySem.W.Frag) (mg : Str → Option Value) (base : Heap) (k : Nat) (f : Addr) (fd : FuncData) (x : Str) (cs : List Value) (F : List Str → List D → Sm D) : Prop where
  run : ∀ (A : Around) (outer : List PySem.Env) (s : Shared) (H : Hp) (a : Addr) (oe : Obj) (n : Str) (C dx : Addr) (Q : VK), L2H.RoomH k A → L2H.PinOk outer H s (a, oe) → Zc (.ref C) (some dx) oe → (∃ vs, oe.data = .fields vs) → Caught K cs n C → Env0 P w K mg base A outer s H → BindsTo s fd ⟨[.ref a], []⟩ [(x, .ref a)] → spFld K F dx H Q →
    codeAny (model P w) A (.call (.ref f) ⟨[.ref a], []⟩) (CR L2.CX0 outer P w H s Q L2.E0) s
theorem Ok.fixX {K : PySem.W.Frag} {w : Wd} {H : Hp} {M : Mem} {dx : Addr} {fs : List (Str × V)} (o : Ok K w H M) (h : H dx = some (.xd fs)) :
    ∃ w1, Ok K w1 H M ∧ More w w1 ∧ w1.g dx = some (.xd fs) ∧ ∀ {w0 : Wd} {H0 : Hp}, Ext w0 H0 w H → H0 dx = none → Ext w0 H0 w1 H := by
  cases q : w.g dx with
  | some u =>
    have e := o.g _ _ q
    rw [h] at e
    cases e
    exact ⟨w, o, More.refl w, q, fun x _ => x⟩
  | none =>
    have nr : dx ∉ w.r := fun z => by
      obtain ⟨k, hk⟩ := List.mem_iff_getElem?.mp z
      have hl : k < M.length := by rw [← o.len]; exact (List.getElem?_eq_some_iff.mp hk).1
      obtain ⟨b, h1, ⟨_, h2, _⟩ | ⟨_, h2⟩⟩ := o.m k _ (List.getElem?_eq_getElem hl)
      · rw [hk] at h1
        cases h1
        rw [q] at h2
        cases h2
      · rw [hk] at h1
        cases h1
        cases hm : M[k] with
        | gone => rw [hm] at h2; exact h2.elim
        | dic _ =>
          rw [hm] at h2
          rcases h2 with ⟨_, h3, _⟩ | ⟨_, _, h3, _⟩
          · rw [h] at h3; cases h3
          · rw [h] at h3; unfold DicO at h3; cases h3
        | dil _ => rw [hm] at h2; exact h2.elim
        | st _ =>
          rw [hm] at h2
          have h3 := (show H _ = some (SetXO _ _ _) from h2)
          rw [h] at h3; unfold SetXO at h3; cases h3
        | lst ds => rw [hm] at h2; obtain ⟨vs, h3, _⟩ := h2; rw [h] at h3; cases h3
        | ins c ns ds => rw [hm] at h2; obtain ⟨_, _, _, _, h3, _⟩ := h2; rw [h] at h3; cases h3
    have up : ∀ b u, w.g b = some u → (upd w.g dx (.xd fs)) b = some u := fun b u e => by
      rw [upd_ne (by rintro rfl; rw [q] at e; cases e)]; exact e
    refine ⟨{ w with g := upd w.g dx (.xd fs) }, o.freeze h q nr (fun _ z => by cases z), ⟨⟨[], by simp⟩, up⟩, upd_same, fun x hd => ⟨x.r, fun a u e => up a u (x.g a u e), x.keep, x.nn, fun a u e => ?_, x.rn, x.tb⟩⟩
    have e : upd w.g dx (.xd fs) a = some u := e
    by_cases z : a = dx
    · subst z; exact .inr (.inl hd)
    · rw [upd_ne z] at e; exact x.gx a u e
theorem fld_mk {P : Program} {w : World} {K : PySem.W.Frag} {mg : Str → Option Value} {base : Heap} {nm x : Str} {st : Stmt} {fa : Addr} {fd : FuncData} {N : List Str} {k m : Nat} {cs : List Value} {g : Addr → Addr → Addr → Fs} {F : List Str → List D → Sm D} (Fn : Fun K nm nm st fa fd) (S : FnScope N [x] (L2.defScope st)) (hm : N.length = m)
    (hF : ∀ a C dx ns ds M, F ns ds M = bodyF (g a C dx) m [.exv a C dx ns ds] M)
    (hb : ∀ (cdv : Value) (A : Around) (outer : List PySem.Env) (s : Shared) (H : Hp) (a : Addr) (oe : Obj) (n : Str) (C dx : Addr), L2H.RoomH k (A.deeper (envOfC nm (L2.defScope st) s.heap.objs.size fa cdv)) → Zc (.ref C) (some dx) oe → (∃ vs, oe.data = .fields vs) → Caught K cs n C →
      DSs (L2H.cxH L2.CX0 P w K mg base N nm (L2.defScope st) fa cdv A outer s H L2.E0 (a, oe)) W0 (L2.defBody st) (g a C dx)) : FieldOk P w K mg base (k + 1) fa fd x cs F := by
  obtain ⟨oc, od, kV, doc, pm, an, cdv, ct, osl, rfl, lk, hcd⟩ := Fn.ex
  subst hm
  refine ⟨fun A outer s H a oe n C dx Q hr hpin hz hfl hc e0 hbd hsp => ?_⟩
  have KX : K.In s.heap := e0.mod.kin.keeps fun b o e => (e0.bs b o e).1
  have lim : s.heap.NoLimit := e0.mod.nolimit.keeps fun b o e => (e0.bs b o e).1
  have hkind : ∀ y ∈ [(x, Value.ref a)], (L2.defScope st).names.lookup y.1 = some .local ∨ ((L2.defScope st).names.lookup y.1 = some .cell ∧ ((cellsFrom (s.heap.objs.size + 1) (L2.defScope st).names []).lookup y.1).isSome = true) := fun y hy => by
    have e : y = (x, Value.ref a) := by simpa using hy
    subst e
    rcases S.par x (by simp) with q | q
    · exact .inl q
    · exact .inr ⟨q, cellsFrom_some _ _ _ (.inl q)⟩
  refine codeAny_call_function hr.depth (KX _ _ lk) rfl S.co S.gen rfl (codeRec_of KX hcd) (hbd _ _ _ _ ?_)
  refine wpAny_newFunctionEnv_cells S.kind hkind fun env he s1 inc => ?_
  subst he
  refine ⟨lim.keeps inc.toInCall.keep, codeAny_func ?_⟩
  obtain ⟨t, ht, hs⟩ := hb cdv A outer s H a oe n C dx (hr.deeper _) hz hfl hc
  have I := L2H.inv_startH (CX := L2.CX0) (E := L2.E0) (vs := [.ref a]) (us := [.ref a]) S hpin e0 rfl (.cons rfl .nil) inc
  obtain ⟨fs, ds, M, w1, o1, hdx, iss, hq⟩ := hsp
  have want : t { nx := fun _ H' => Q .non H', rt := Q } (L2.start N [.ref a]) H := by
    refine hs ([.exv a C dx (fs.map (·.1)) ds].map Sl.val ++ List.replicate (N.length - [D.exv a C dx (fs.map (·.1)) ds].length) Sl.no) M _ w1 H w1 H _ (env_start (N := N) o1 (.cons (.exv hdx iss) .nil)) ?_
    rw [hF a C dx] at hq
    unfold bodyF at hq
    cases q : g a C dx ([D.exv a C dx (fs.map (·.1)) ds].map Sl.val ++ List.replicate (N.length - [D.exv a C dx (fs.map (·.1)) ds].length) Sl.no) M with
    | nx env' M' => rw [q] at hq; exact fun σ' w' H' J m => hq .non w' H' J.ext J.ok .non
    | rt d M' => rw [q] at hq; exact hq
    | bk env' M' => rw [q] at hq; exact hq.elim
    | ct env' M' => rw [q] at hq; exact hq.elim
    | ex c ns us env' M' => rw [q] at hq; exact fun σ' C dx fs w' H' hC J m hd h1 h2 h3 => (hq C dx fs w' H' hC J.ext J.ok hd h1 h2 h3).elim
    | bad => rw [q] at hq; exact hq.elim
  refine wpAny_mono (ht.run [] s1 (L2.start N [.ref a]) H _ I want) (fun fl s2 h2 => ?_) fun e s2 h2 => h2
  have fin : ∀ {σ' : L2.St} {H' : Hp} {v : V} {u : Value}, Inv (L2H.cxH L2.CX0 P w K mg base N nm (L2.defScope st) fa cdv A outer s H L2.E0 (a, oe)) [] σ' H' s2 → RelV v u → Q v H' → CE outer P w H s Q u s2 := fun J rv q => ⟨_, _, J.os, J.bare, J.base, J.hok, rv, q⟩
  cases fl with
  | ret u => exact let ⟨v, σ', H', J, rv, q⟩ := h2; fin J rv q
  | next => exact let ⟨σ', H', J, q⟩ := h2; fin (v := V.non) (u := Value.none) J rfl q
  | brk => exact let ⟨_, _, _, q⟩ := h2; q.elim
  | cont => exact let ⟨_, _, _, q⟩ := h2; q.elim
def TTwhy (K : PySem.W.Frag) (cs : List Value) (F : List Str → List D → Sm D) : (XK → Hp → VK → Prop) → Hp → VK → Prop := fun tl H Q =>
  tl (fun cls d H1 => ∃ n C dx, cls = .ref C ∧ d = some dx ∧ Caught K cs n C ∧ ∃ fs cv, H1 dx = some (.xd fs) ∧ fs.lookup ("code" : Str) = some cv ∧ spFld K F dx H1 (fun v H2 => ([cv, v] : List V).length ≤ sizeLine ∧ ∀ t, H2 t = none → Q (.ref t) (upd H2 t (.tup [cv, v])))) H
    (fun v H1 => ([.str "", v] : List V).length ≤ sizeLine ∧ ∀ t, H1 t = none → Q (.ref t) (upd H1 t (.tup [.str "", v])))
section
variable {X : Cx} {pins : List (Addr × Obj)} {σ : L2.St} {H : Hp} {s : Shared}
theorem pe_field {k : Nat} {f a C dx : Addr} {fd : FuncData} {x y n xn : Str} {cs : List Value} {F : List Str → List D → Sm D} {oe : Obj} {pn : List (Addr × Obj)} {i : Nat} {p1 p2 pos : Pos} (G : FieldOk X.prog X.w X.K X.mg X.base k f fd y cs F) (hr : L2H.RoomH k X.A) (hg : Gl X x) (hm : X.mg x = some (.ref f)) (hk : keepIn X.K (.ref f) = true) (hb : L2.Binds X.K fd [y] [])
    (hz : Zc (.ref C) (some dx) oe) (hfl : ∃ vs, oe.data = .fields vs) (hc : Caught X.K cs n C) (hN : X.N[i]? = some xn) (hv : Vis X.env.scope xn) (hd : (xn == ("__debug__" : Str)) = false := by decide) (hcd : (xn == ("__classdict__" : Str)) = false := by decide) (hdb : (x == ("__debug__" : Str)) = false := by decide) :
    PE (X.suite a ((a, oe) :: pn)) (.Call (.Name x p1) [.Name xn p2] [] pos) (fun σ H Q => σ[i]? = some (some (.ref a)) ∧ spFld X.K F dx H Q) := by
  refine ⟨fun pins s σ H Q I ⟨hs, hq⟩ => ?_⟩
  have hgS : Gl (X.suite a ((a, oe) :: pn)) x := hg
  refine wpAny_Call_Name_kw (ld_glob I hgS hm ?_ hdb)
  have pv : PE (X.suite a ((a, oe) :: pn)) (.Name xn p2) (tVar i) := pe_var (X := X.suite a ((a, oe) :: pn)) hN hv hd hcd
  have pa := pa_cons pv pa_nil
  refine callWith_K (h₀ := X.base) I.ok.mod.kin hk (thn (pa.run pos pins s σ H (fun vs H1 => vs = [.ref a] ∧ H1 = H) I ⟨.ref a, hs, rfl, rfl⟩) fun us s1 ⟨vs, H1, I1, r, e1, e2⟩ => ⟨I1.kIn, ?_⟩) rfl rfl
  subst e1 e2
  cases r with
  | cons ra rn =>
    cases rn
    cases ra
    show wpAny _ _ (call (.ref f) [.ref a]) _ _ _
    have P1 := I1.pin (a, oe) (List.mem_append_left _ List.mem_cons_self)
    have hpin : L2H.PinOk X.stack H1 s1 (a, oe) := ⟨P1.1, P1.2.1, fun hm => (List.mem_cons.mp (I1.stkSub a hm)).elim P1.2.2.1 P1.2.2.2.1, P1.2.2.2.2⟩
    refine wpAny_call (codeAny_mono (G.run (X.A.mark (some (.ref a))) X.stack s1 H1 a oe n C dx Q ⟨hr.dp, hr.un⟩ hpin hz hfl hc I1.env0 (by
      have b := hb s1 [.ref a] I1.kIn rfl
      exact b) hq) fun r s' hq' => ?_)
    cases r with
    | error e => exact (show False from hq').elim
    | ok fl => cases fl with
      | ret u => exact I1.after hq'
      | next => exact hq'.elim
      | brk => exact hq'.elim
      | cont => exact hq'.elim
theorem why_gives {k kf : Nat} {Ng : List Str} {x a q n y fx : Str} {sg : Scope} {g ff : Addr} {cdg : Value} {fdf : FuncData} {c1 c2 c3 : Value} {e1 e2 e3 : Expr} {F : List Str → List D → Sm D} {j1 k1 k2 k3 : Nat} {q1 q2 q3 q4 q5 q6 q7 q8 r1 r2 r3 r4 r5 r6 r7 : Pos}
    (G : FieldOk X.prog X.w X.K X.mg X.base kf ff fdf y [c1, c2, c3] F) (hkf : kf ≤ k + 1) (hmf : X.mg fx = some (.ref ff)) (hkk : keepIn X.K (.ref ff) = true) (hbf : L2.Binds X.K fdf [y] []) (hgf : sg.names.lookup fx = some .globalImplicit) (hdf : (fx == ("__debug__" : Str)) = false)
    (nd : Ng.Nodup) (hn0 : Ng[0]? = some a) (hn1 : Ng[1]? = some n) (hln : sg.names.lookup n = some .local) (hnd : (n == ("__debug__" : Str)) = false) (hncd : (n == ("__classdict__" : Str)) = false) (hlen : Ng.length = 2)
    (hc : ∀ s H, NamesL (cxOf C8.CX0 X.prog X.w X.K X.mg X.base Ng x sg g cdg X.A X.stack s H C8.E0).nox [e1, e2, e3] [c1, c2, c3])
    (hst : ∀ s H, starEach [e1, e2, e3] (cxOf C8.CX0 X.prog X.w X.K X.mg X.base Ng x sg g cdg X.A X.stack s H C8.E0).nox.env = [e1, e2, e3].map fun e => (false, eval e (cxOf C8.CX0 X.prog X.w X.K X.mg X.base Ng x sg g cdg X.A X.stack s H C8.E0).nox.env)) :
    GivesR X k Ng x sg g cdg [.Try [.Return (some (.Tuple [.Constant (.str "") j1 q1, .Call (.Name a q2) [] [] q3] k1 q4)) q5]
      [.ExceptHandler (some (.Tuple [e1, e2, e3] k2 q6)) (some n) [.Return (some (.Tuple [.Attribute (.Name n r1) "code" r2, .Call (.Name fx r3) [.Name n r4] [] r5] k3 r6)) r7] q7] [] [] q8] a q (TTwhy X.K [c1, c2, c3] F) := by
  intro f c0 s H Q tl hroom act hco h
  generalize hZ : (cxOf C8.CX0 X.prog X.w X.K X.mg X.base Ng x sg g cdg X.A X.stack s H C8.E0).nox = Z
  have hNZ : Z.N = Ng := by rw [← hZ]; rfl
  refine ⟨_, pss_one (ps_try_tup3 (X := Z) (n := n) (i := 1) (c1 := c1) (c2 := c2) (c3 := c3)
    (tb := fun W D σ H => ∃ Ech : XK, (∀ cls d σ1 H1, Ech cls d H1 → W cls d σ1 H1) ∧ σ[0]? = some (some (.ref f)) ∧ H c0 = some (LamX.CodeO c0 q) ∧ tl Ech H (fun v H1 => ([.str "", v] : List V).length ≤ sizeLine ∧ ∀ t, H1 t = none → D.rt (.ref t) (upd H1 t (.tup [.str "", v]))))
    (ts := fun a cls d D σ H => σ[1]? = some (some (.ref a)) ∧ ∃ n C dx, cls = .ref C ∧ d = some dx ∧ Caught X.K [c1, c2, c3] n C ∧ ∃ fs cv, H dx = some (.xd fs) ∧ fs.lookup ("code" : Str) = some cv ∧ spFld X.K F dx H (fun v H2 => ([cv, v] : List V).length ≤ sizeLine ∧ ∀ t, H2 t = none → D.rt (.ref t) (upd H2 t (.tup [cv, v]))))
    (by rw [← hZ]; rfl) (by rw [← hZ]; rfl) (by rw [hNZ]; exact nd) (by rw [hNZ]; exact hn1) (by rw [← hZ]; exact hln) (by rw [← hZ]; exact hc s H) LamX.takes0 (by rw [← hZ]; exact hst s H) (fun W pn xe tk _ => ?_) (fun a oe cls d pn hz hfl => ?_)), ?_⟩
  · refine ⟨fun pins s1 σ1 H1 D I h1 => ?_⟩
    obtain ⟨Ech, hW, z1, z2, z3⟩ := h1
    subst hZ
    have hp := act W pn xe Ech q2 q3 tk hW
    have hq := pss_one (ps_ret (pos := q5) (pe_tup (x1 := k1) (pos := q4) (pa_cons (pe_str (x := "") (j := j1) (pos := q1)) (pa_cons hp pa_nil))))
    exact hq.run pins s1 σ1 H1 D I ⟨z1, z2, z3⟩
  · refine ⟨fun pins s1 σ1 H1 D I h1 => ?_⟩
    obtain ⟨z1, n', C, dx, rfl, rfl, hC, fs, cv, u1, u2, u3⟩ := h1
    subst hZ
    have hv : Vis sg n := .inl hln
    have pv := pe_var (X := ((cxOf C8.CX0 X.prog X.w X.K X.mg X.base Ng x sg g cdg X.A X.stack s H C8.E0).nox).suite a ((a, oe) :: pn)) (i := 1) (pos := r1) hn1 hv hnd hncd
    have p1 := pe_xf (X := (cxOf C8.CX0 X.prog X.w X.K X.mg X.base Ng x sg g cdg X.A X.stack s H C8.E0).nox) (pos := r2) (pn := pn) hC.xf (hC.no "code" (by simp)) hz hfl pv
    have p2 := pe_field (X := (cxOf C8.CX0 X.prog X.w X.K X.mg X.base Ng x sg g cdg X.A X.stack s H C8.E0).nox) (a := a) (pn := pn) (p1 := r3) (p2 := r4) (pos := r5) G ((L2H.roomH_of hroom).mono hkf) hgf hmf hkk hbf hz hfl hC hn1 hv hnd hncd hdf
    have hq := pss_one (ps_ret (pos := r7) (pe_tup (x1 := k3) (pos := r6) (pa_cons p1 (pa_cons p2 pa_nil))))
    exact hq.run pins s1 σ1 H1 D I ⟨.ref a, z1, rfl, rfl, dx, fs, cv, rfl, u1, u2, z1, u3⟩
  · refine ⟨_, fun cls d σ1 H1 he => ?_, by unfold L2.start; rfl, hco, h⟩
    obtain ⟨n', C, dx, rfl, rfl, hC, u⟩ := he
    have eK : Z.K = X.K := by rw [← hZ]; rfl
    exact ⟨true, by rw [eK]; exact hC.yes, fun _ hl a _ => ⟨setAt hl, n', C, dx, rfl, rfl, hC, u⟩, fun z => by cases z⟩
end
end DL
namespace DL
open PySem L2 PySem.W PyProof.Rows
variable [Wld]
def keepV (env : Env) : Env := env.map fun s => match s with
  | .val d => .val d
  | _ => .no
def F_why (ks : List Str) (F : List Str → List D → Sm D) (f : Sm D) : Sm D := fun M => match f M with
  | .ok d M1 => .ok (.tup [.str "", d]) M1
  | .ex c ns vs M1 => if c ∈ ks then (match lookD "code" ns vs with
    | some cv => (match F ns vs M1 with
      | .ok d M2 => .ok (.tup [cv, d]) M2
      | _ => .bad)
    | none => .bad) else .bad
  | .bad => .bad
def fWhy (ks : List Str) (F : List Str → List D → Sm D) (f : Fe) : Fe := fun env M => F_why ks F (fun M => f (keepV env) M) M
theorem EnvOk.kept {K : PySem.W.Frag} {w0 w : Wd} {H0 H : Hp} {M : Mem} {env : Env} {σ : L2.St} (x : EnvOk K w0 H0 w H M env σ) : EnvOk K w H w H M (keepV env) σ := by
  have at_ : ∀ {i : Nat} {s : Sl}, (keepV env)[i]? = some s → (∃ d, s = .val d ∧ env[i]? = some (.val d)) ∨ s = .no := fun {i s} h => by
    unfold keepV at h
    rw [List.getElem?_map] at h
    cases q : env[i]? with
    | none => rw [q] at h; cases h
    | some z =>
      rw [q] at h
      have h := Option.some.inj h
      cases z with
      | val d => exact .inl ⟨d, h.symm, rfl⟩
      | no => exact .inr h.symm
      | own o => exact .inr h.symm
  refine ⟨.refl _ _, x.ok, by unfold keepV; rw [List.length_map]; exact x.len, fun i d h => ?_, fun i o h => ?_, fun i j o u a h _ _ _ => ?_⟩
  · rcases at_ h with ⟨d', h1, h2⟩ | h1
    · cases h1; exact x.val i d h2
    · cases h1
  · rcases at_ h with ⟨d', h1, h2⟩ | h1 <;> cases h1
  · rcases at_ h with ⟨d', h1, h2⟩ | h1 <;> cases h1
theorem tup2_ok {K : PySem.W.Frag} {w : Wd} {H : Hp} {M : Mem} {t : Addr} {v1 v2 : V} {d1 d2 : D} (o : Ok K w H M) (ht : H t = none) (i1 : Is K w v1 d1) (i2 : Is K w v2 d2) : ∃ w1, Ext w H w1 (upd H t (.tup [v1, v2])) ∧ Ok K w1 (upd H t (.tup [v1, v2])) M ∧ Is K w1 (.ref t) (.tup [d1, d2]) := by
  obtain ⟨o2, x2⟩ := o.fix (o := .tup [v1, v2]) ht
  exact ⟨_, x2, o2, .tup (.inl upd_same) (.cons (i1.mono x2.more) (.cons (i2.mono x2.more) .nil))⟩
theorem two_le {α : Type} (a b : α) : [a, b].length ≤ sizeLine := by rw [sizeLine_eq]; exact (by decide : 2 ≤ 16777216)
structure WhyAt (P : Program) (w : World) (K : PySem.W.Frag) (mg : Str → Option Value) (base : Heap) (k : Nat) (x fx a y n : Str) (st : Stmt) (ks : List Str) (F : List Str → List D → Sm D) : Prop where
  ex : ∃ (g ff : Addr) (fd fdf : FuncData) (kf : Nat) (c1 c2 c3 : Value), mg x = some (.ref g) ∧ Fun K x x st g fd ∧ L2.Binds K fd [a] [] ∧ mg fx = some (.ref ff) ∧ keepIn K (.ref ff) = true ∧ L2.Binds K fdf [y] [] ∧ kf ≤ k + 1 ∧ FieldOk P w K mg base kf ff fdf y [c1, c2, c3] F ∧
    (∀ c ∈ ks, ∃ C, Caught K [c1, c2, c3] c C) ∧ mg "LoomError" = some c1 ∧ mg "Missing" = some c2 ∧ mg "NothingLeft" = some c3
section
variable {X : Cx} {W : WX} {x fx a y n : Str} {st : Stmt} {ks : List Str} {F : List Str → List D → Sm D} {k kk j : Nat} {c P : Addr}
theorem de_why {params : Arguments} {body : Expr} {scope : Scope} {f : Fe} {p lpos pos : Pos} {j1 k1 k2 k3 : Nat} {q1 q2 q3 q4 q5 q6 q7 q8 q9 q10 q11 r1 r2 r3 r4 r5 r6 r7 : Pos} (T : WhyAt X.prog X.w X.K X.mg X.base k x fx a y n st ks F) (hg : Gl X x)
    (hst : L2.defBody st = [.Try [.Return (some (.Tuple [.Constant (.str "") j1 q1, .Call (.Name a q2) [] [] q3] k1 q4)) q5]
      [.ExceptHandler (some (.Tuple [.Name "LoomError" q9, .Name "Missing" q10, .Name "NothingLeft" q11] k2 q6)) (some n) [.Return (some (.Tuple [.Attribute (.Name n r1) "code" r2, .Call (.Name fx r3) [.Name n r4] [] r5] k3 r6)) r7] q7] [] [] q8])
    (S : FnScope [a, n] [a] (L2.defScope st)) (hva : Vis (L2.defScope st) a) (hln : (L2.defScope st).names.lookup n = some .local) (hgf : (L2.defScope st).names.lookup fx = some .globalImplicit)
    (hg1 : (L2.defScope st).names.lookup ("LoomError" : Str) = some .globalImplicit) (hg2 : (L2.defScope st).names.lookup ("Missing" : Str) = some .globalImplicit) (hg3 : (L2.defScope st).names.lookup ("NothingLeft" : Str) = some .globalImplicit)
    (TB : LamX.TabB X.base X.mg c P) (hcode : X.env.code = .ref c) (inT : (P, X.env.qual ++ "<lambda>") ∈ TK X.K) (one : ∀ p ∈ TK X.K, p.1 = P → p.2 = X.env.qual ++ "<lambda>") (hr : Room (kk + 2) X.A) (hk : k ≤ kk) (L : LamX.LamS X.env.scope scope)
    (hb : ∀ (A : Around) (outer : List PySem.Env) (s : Shared) (H : Hp) (E : XK) (f' c1 : Addr), Room kk (A.deeper (LamX.lamEnv X scope s.heap.objs.size f' c1)) → TakesM false (LamX.lamCx X A outer s H E scope f' c1) (fun c d _ H' => E c d H') → DE (LamX.lamCx X A outer s H E scope f' c1) (fun c d _ H' => E c d H') body f)
    (hdef : defaultsOf params X.env = ([], []) := by rfl) (hbind : ∀ (q : Str) (cl : List (Str × Addr)) (pm cv ctv : Value), bindArgs (kla_fn "<lambda>" q params body scope cl pm cv ctv) ⟨[], []⟩ = pure [] := by intro _ _ _ _ _; rfl)
    (hdb : (x == ("__debug__" : Str)) = false := by decide) (hdf : (fx == ("__debug__" : Str)) = false := by decide) (had : (a == ("__debug__" : Str)) = false := by decide) (hacd : (a == ("__classdict__" : Str)) = false := by decide) (hnd : (n == ("__debug__" : Str)) = false := by decide) (hncd : (n == ("__classdict__" : Str)) = false := by decide) :
    DE X W (.Call (.Name x p) [.Lambda params body scope lpos] [] pos) (fWhy ks F f) := by
  obtain ⟨g, ff, fd, fdf, kf, c1, c2, c3, hm, Fg, hbg, hmf, hkf, hbf, hkk, G, hks, m1, m2, m3⟩ := T.ex
  obtain ⟨oc, od, kV, doc, pm, an, cdv, ct, osl, rfl, lk, hcd⟩ := Fg.ex
  have gives : GivesR X kk [a, n] x (L2.defScope st) g cdv (L2.defBody st) a (X.env.qual ++ "<lambda>") (TTwhy X.K [c1, c2, c3] F) := by
    rw [hst]
    exact why_gives G (Nat.le_trans hkk (Nat.succ_le_succ hk)) hmf hkf hbf hgf hdf S.nd rfl rfl hln hnd hncd rfl
      (fun s H => .cons ⟨hg1, by decide, .inl m1⟩ (.cons ⟨hg2, by decide, .inl m2⟩ (.cons ⟨hg3, by decide, .inl m3⟩ .nil))) (fun s H => rfl)
  refine ⟨_, pe_lamT (T := TK X.K) (t := fun E => tE X.K (fun c d _ H' => E c d H') f) hg hm Fg.kp lk hcd hbg S rfl hva gives TB hcode inT one hr L hdef hbind (fun A outer s H E f' c1 hr' => (hb A outer s H E f' c1 hr' (takes_of rfl rfl rfl rfl)).pe) hdb had hacd, fun env M σ w H w0 H0 Q I h => ?_⟩
  refine ⟨I.ok.tt, fun H1 e1 t1 => ?_⟩
  obtain ⟨o1, x1⟩ := I.ok.grow e1 t1
  have I1 := (I.step x1 o1).kept
  have h1 := Post.shift (Ra := RlE X.K) x1 h
  refine ⟨keepV env, M, w, w, H1, I1, ?_⟩
  unfold fWhy F_why at h1
  cases q : f (keepV env) M with
  | bad => simp only [q] at h1; exact h1.elim
  | ok d M1 =>
    simp only [q] at h1
    intro v w2 H2 x2 o2 i2
    refine ⟨two_le _ _, fun t ht => ?_⟩
    obtain ⟨w3, x3, o3, i3⟩ := tup2_ok o2 ht (.str "") i2
    exact h1 _ w3 _ (x2.trans x3) o3 i3
  | ex cn ns vs M1 =>
    simp only [q] at h1
    by_cases hc : cn ∈ ks
    · rw [if_pos hc] at h1
      obtain ⟨C0, hC0⟩ := hks cn hc
      cases qc : lookD "code" ns vs with
      | none => simp only [qc] at h1; exact h1.elim
      | some cv =>
        simp only [qc] at h1
        intro C dx fs w2 H2 hC x2 o2 hnew hdx hns iss
        have e := hC0.ns.symm.trans hC
        cases e
        subst hns
        obtain ⟨vc, hvc, ivc⟩ := lookD_ok iss qc
        obtain ⟨w3, o3, m3, g3, e3⟩ := o2.fixX hdx
        have x3 := e3 x2 hnew
        refine ⟨cn, C0, dx, rfl, rfl, hC0, fs, vc, hdx, hvc, fs, vs, M1, w3, o3, g3, iss.mono m3, ?_⟩
        have h3 := Post.shift (Ra := RlE X.K) x3 h1
        cases qF : F (fs.map (·.1)) vs M1 with
        | bad => simp only [qF] at h3; exact h3.elim
        | ex c' ns' vs' M2 => simp only [qF] at h3; exact h3.elim
        | ok d M2 =>
          simp only [qF] at h3
          intro v w4 H4 x4 o4 i4
          refine ⟨two_le _ _, fun t ht => ?_⟩
          obtain ⟨w5, x5, o5, i5⟩ := tup2_ok o4 ht ((ivc.mono m3).mono x4.more) i4
          exact h3 _ w5 _ (x4.trans x5) o5 i5
    · rw [if_neg hc] at h1; exact h1.elim
end
end DL
namespace DL
open PySem L2
variable [Wld]
section
variable {X : Cx} {W : WX} {e e1 e2 : Expr} {es : List Expr} {pos p apos : Pos} {f fa fb : Fe} {K : PySem.W.Frag}
def gFmt (d : D) : Option Str := match d with
  | .str y => if small y.length = true then some y else none
  | .int i => if i.natAbs.log2 < 1920 then some (toString i) else none
  | _ => none
def fFmt (a : Fe) : Fe := fun env M => (a env M).bind fun d M1 => match gFmt d with
  | some y => .ok (.str y) M1
  | none => .bad
theorem de_fmt (h : DE X W e f) : DE X W (.FormattedValue e (-1) none pos) (fFmt f) := by
  obtain ⟨t, q, s⟩ := h
  refine ⟨_, pe_fmt q, fun env M σ w H w0 H0 Q I h => ?_⟩
  refine s env M σ w H w0 H0 _ I (Post.bind h fun d M1 v w1 H1 x1 o1 r1 h1 => ?_)
  cases r1 with
  | str y =>
    unfold gFmt at h1
    by_cases hz : small y.length = true
    · simp only [hz, if_true] at h1
      exact .inl ⟨y, rfl, small_le hz, h1 _ w1 H1 (.refl _ _) o1 (.str _)⟩
    · simp only [hz] at h1; exact h1.elim
  | int i =>
    unfold gFmt at h1
    by_cases hz : i.natAbs.log2 < 1920
    · simp only [hz, if_true] at h1
      exact .inr ⟨i, rfl, hz, h1 _ w1 H1 (.refl _ _) o1 (.str _)⟩
    · simp only [hz, if_false] at h1; exact h1.elim
  | _ => exact h1.elim
def fJs : List Fe → Str → Env → Sm Str
  | [], acc, _, M => .ok acc M
  | f :: fs, acc, env, M => (f env M).bind fun d M1 => match d with
    | .str y => if small (acc ++ y).length = true then fJs fs (acc ++ y) env M1 else .bad
    | _ => .bad
inductive DJ (X : Cx) (W : WX) : List Expr → List Fe → Prop
  | nil : DJ X W [] []
  | cons {e : Expr} {f : Fe} {es : List Expr} {fs : List Fe} (h : DE X W e f) (r : DJ X W es fs) : DJ X W (e :: es) (f :: fs)
theorem dj_pj {fs : List Fe} (h : DJ X W es fs) : ∃ ts, PJ X es ts ∧ ∀ acc env M σ w H w0 H0 (Q : Str → Hp → Prop), EnvOk X.K w0 H0 w H M env σ → Post X.K (fun _ _ (v d : Str) => v = d) w H σ W Q (fJs fs acc env M) → tJs ts acc σ H Q := by
  induction h with
  | nil => exact ⟨[], .nil, fun acc env M σ w H w0 H0 Q I h => h acc w H (.refl _ _) I.ok rfl⟩
  | @cons e f es fs h r ih =>
    obtain ⟨t, q, s⟩ := h
    obtain ⟨ts, qs, ss⟩ := ih
    refine ⟨t :: ts, .cons q qs, fun acc env M σ w H w0 H0 Q I h => ?_⟩
    refine s env M σ w H w0 H0 _ I (Post.bind (Rb := fun _ _ (v d : Str) => v = d) h fun d M1 v w1 H1 x1 o1 r1 h1 => ?_)
    cases r1 with
    | str y =>
      by_cases hz : small (acc ++ y).length = true
      · simp only [hz, if_true] at h1
        exact ⟨y, rfl, small_le hz, ss _ env M1 σ w1 H1 w0 H0 Q (I.step x1 o1) h1⟩
      · simp only [hz] at h1; exact h1.elim
    | _ => exact h1.elim
def fJoin (fs : List Fe) : Fe := fun env M => (fJs fs Str.empty env M).bind fun y M1 => .ok (.str y) M1
theorem de_joined {v1 v2 : Expr} {rest : List Expr} {fs : List Fe} (h : DJ X W (v1 :: v2 :: rest) fs) : DE X W (.JoinedStr (v1 :: v2 :: rest) pos) (fJoin fs) := by
  obtain ⟨ts, q, s⟩ := dj_pj h
  refine ⟨_, pe_joined q, fun env M σ w H w0 H0 Q I h => ?_⟩
  refine s Str.empty env M σ w H w0 H0 _ I ?_
  unfold fJoin at h
  cases q : fJs fs Str.empty env M with
  | bad => rw [q] at h; exact h
  | ex c ns vs M1 => rw [q] at h; exact h
  | ok y M1 =>
    rw [q] at h
    intro v w1 H1 x1 o1 r1
    have r1 : v = y := r1
    subst r1
    exact h _ w1 H1 x1 o1 (.str _)
def fM1 (g : D → D → Option D) (a b : Fe) : Fe := fun env M => (a env M).bind fun d M1 => match d with
  | .str _ => (b env M1).bind fun e M2 => match g d e with
    | some z => .ok z M2
    | none => .bad
  | _ => .bad
def SndM (K : PySem.W.Frag) (r : V → List V → Hp → VK → Prop) (g : D → D → Option D) : Prop := ∀ w H M v1 v2 d1 d2 d Q, Ok K w H M → Is K w v1 d1 → Is K w v2 d2 → g d1 d2 = some d → (∀ v w' H', Ext w H w' H' → Ok K w' H' M → Is K w' v d → Q v H') → r v1 [v2] H Q
theorem snd_m1 {r : V → List V → Hp → VK → Prop} {g : D → D → Option D} {ta tb : TE} (hr : SndM K r g) (s : SndE K W ta fa) (s' : SndE K W tb fb) : SndE K W (tM1 r ta tb) (fM1 g fa fb) := fun env M σ w H w0 H0 Q I h => by
  refine s env M σ w H w0 H0 _ I (Post.bind h fun d M1 v w1 H1 x1 o1 r1 h1 => ?_)
  cases r1 with
  | str x =>
    refine ⟨⟨x, rfl⟩, s' env M1 σ w1 H1 w0 H0 _ (I.step x1 o1) ?_⟩
    have h1 : Post K (RlE K) w1 H1 σ W Q ((fb env M1).bind fun e M2 => match g (.str x) e with
      | some z => R.ok z M2
      | none => R.bad) := h1
    refine Post.bind h1 fun e M2 u w2 H2 x2 o2 r2 h2 => ?_
    cases q : g (.str x) e with
    | none => rw [q] at h2; exact h2.elim
    | some z =>
      rw [q] at h2
      exact hr w2 H2 M2 _ u _ e z Q o2 (.str x) r2 q h2
  | _ => exact h1.elim
def strsOf : List D → Option (List Str)
  | [] => some []
  | .str y :: ds => (strsOf ds).map (y :: ·)
  | _ :: _ => none
theorem strs_vs {w : Wd} : ∀ {vs : List V} {ds : List D} {ys : List Str}, Iss K w vs ds → strsOf ds = some ys → vs = ys.map V.str := by
  intro vs ds
  induction ds generalizing vs with
  | nil => intro ys h e; cases h; cases e; rfl
  | cons d ds ih =>
    intro ys h e
    cases h with
    | cons h t =>
      cases h with
      | str y =>
        unfold strsOf at e
        cases q : strsOf ds with
        | none => rw [q] at e; cases e
        | some r =>
          rw [q] at e
          cases e
          rw [List.map_cons, ih t q]
      | _ => cases e
def gJoin (d e : D) : Option D := match d, (match e with | .lst xs => some xs | .tup xs => some xs | _ => none) with
  | .str a, some xs => (match strsOf xs with
    | some ys => if (ys.map (·.length)).sum + ys.length * a.length ≤ 16777216 then some (.str (Txt.join a ys)) else none
    | none => none)
  | _, _ => none
theorem de_join (ha : DE X W e1 fa) (hb : DE X W e2 fb) (hs : starEach [e2] X.env = [(false, eval e2 X.env)] := by rfl) (hbase : attributeBase e1 "join" X.env (eval e1 X.env) = eval e1 X.env := by rfl) (hline : (apos.endLine == pos.line) = true := by rfl) :
    DE X W (.Call (.Attribute e1 "join" apos) [e2] [] pos) (fM1 gJoin fa fb) := by
  obtain ⟨t, q, s⟩ := ha
  obtain ⟨t', q', s'⟩ := hb
  refine ⟨_, pe_join q q' hs hbase hline, snd_m1 (fun w H M v1 v2 d1 d2 d Q o i1 i2 e k => ?_) s s'⟩
  unfold gJoin at e
  cases i1 with
  | str a =>
    cases i2 with
    | @lst p us xs h1 h2 =>
      simp only at e
      cases qy : strsOf xs with
      | none => rw [qy] at e; cases e
      | some ys =>
        rw [qy] at e
        simp only at e
        split at e
        · rename_i hz
          cases e
          refine ⟨a, p, ys, rfl, rfl, .inl ?_, hz, k _ w H (.refl _ _) o (.str _)⟩
          rw [← strs_vs h2 qy]
          exact .inl (.inl (o.g _ _ h1))
        · cases e
    | @tup p us xs h1 h2 =>
      simp only at e
      cases qy : strsOf xs with
      | none => rw [qy] at e; cases e
      | some ys =>
        rw [qy] at e
        simp only at e
        split at e
        · rename_i hz
          cases e
          refine ⟨a, p, ys, rfl, rfl, .inr ?_, hz, k _ w H (.refl _ _) o (.str _)⟩
          rw [← strs_vs h2 qy]
          exact sqt_mono o.g h1.sq
        · cases e
    | _ => cases e
  | _ => cases e
end
end DL
namespace DL
open PySem L2 PySem.W PyProof.Rows
variable [Wld]
section
variable {X : Cx} {pins : List (Addr × Obj)} {σ : L2.St} {H3 : Hp} {s3 : Shared}
end
def DTsX (X : Cx) (W : WX) (ifs : List Expr) (f : Ft) : Prop := ∃ t, PTs X ifs t ∧ SndT X.K W t f
theorem DTsX.pts {X : Cx} {W : WX} {ifs : List Expr} {f : Ft} (h : DTsX X W ifs f) : PTs X ifs (tT X.K W f) := by
  obtain ⟨t, p, s⟩ := h
  exact ⟨fun pins s1 σ H Q I ⟨env, M, w, w0, H0, k, q⟩ => p.run pins s1 σ H Q I (s env M σ w H w0 H0 Q k q)⟩
section
variable {W : WX}
end
section
variable {X : Cx} {W : WX} {tg e elt : Expr} {ifs : List Expr} {scope : Scope} {own : List (Str × Nat)} {it : Fa} {g : Fg} {t : Ft} {f : Fe} {pos : Pos}
end
end DL
namespace DL
open PySem L2 PySem.W PyProof.Rows PySem.Spec
variable [Wld]
theorem caught_of {K : PySem.W.Frag} {cs : List Value} {x : Str} {C : Addr} (h1 : nsIn K mainGlobals x = some (some (.ref C))) (h2 : caughtB K cs C = true) : Caught K cs x C := by
  unfold caughtB at h2
  simp only [Bool.and_eq_true, List.all_eq_true, decide_eq_true_eq] at h2
  exact ⟨h1, xfB_ok h2.1.1, h2.1.2, h2.2⟩
theorem fn_DL {P : Program} {w : World} {K : PySem.W.Frag} {mg : Str → Option Value} {base : Heap} {x qual : Str} {st : Stmt} {fa c : Addr} {fd : FuncData} {N ps : List Str} {k n m : Nat} {f : Fs} (F : Fun K x qual st fa fd) (S : FnScope N ps (L2.defScope st)) (hc : fd.code = .ref c) (hn : ps.length = n) (hm : N.length = m)
    (hb : ∀ (A : Around) (outer : List PySem.Env) (s : Shared) (H : Hp) (E : XK), Room k (A.deeper (envOfC qual (L2.defScope st) s.heap.objs.size fa (.ref c))) →
      DSs (cxOf (CXm μ P w) P w K mg base N qual (L2.defScope st) fa (.ref c) A outer s H E) (fun c d _ H' => E c d H') (L2.defBody st) f) : FnOk P w K mg base (CXm μ P w) (k + 1) fa fd ps (spD K n (bodyF f m)) := by
  obtain ⟨oc, od, kV, doc, pm, an, cdv, ct, osl, rfl, lk, hcd⟩ := F.ex
  have e : cdv = .ref c := hc
  subst e hn hm
  refine L2.fn_of lk hcd S spD_len fun A outer s H vs Q E hr h => ?_
  obtain ⟨ds, M, w1, o, i, l, h⟩ := h
  obtain ⟨t, p, sn⟩ := hb A outer s H E hr
  refine ⟨t, p, sn (ds.map Sl.val ++ List.replicate (N.length - ds.length) Sl.no) M _ w1 H w1 H _ (env_start (N := N) o i) ?_⟩
  unfold bodyF at h
  cases q : f (ds.map Sl.val ++ List.replicate (N.length - ds.length) Sl.no) M with
  | nx env' M' => rw [q] at h; exact fun σ' w' H' I m => h .non w' H' I.ext I.ok .non
  | rt d M' => rw [q] at h; exact h
  | bk env' M' => rw [q] at h; exact h.elim
  | ct env' M' => rw [q] at h; exact h.elim
  | ex c ns us env' M' => rw [q] at h; exact fun σ' C dx fs w' H' hC I m hd h1 h2 h3 => h C dx fs w' H' hC I.ext I.ok hd h1 h2 h3
  | bad => rw [q] at h; exact h.elim
structure EndAt (K : PySem.W.Frag) (q : Program) : Prop where
  recs : lamNames.all (fun x => (tabIn K x).isNone || ((recsOf q).find? fun e => e.name == x).isSome) = true
  notK : (TC K).all (fun p => (K.lookup p.2).isNone) = true
theorem unH {k : Nat} {A : Around} (r : L2H.RoomH k A) : A.units + 64 < cLine := by have := r.un; omega
theorem un65H {k : Nat} {A : Around} (r : L2H.RoomH k A) : A.units + 65 < cLine := by have := r.un; omega
theorem tl_of {K : PySem.W.Frag} {x : Str} {c : Addr} (h : ((PySem.W.tabIn K x).map fun p => p.1) = some c) : PySem.W.tabIn K x = some (c, tpOf K x) := by
  unfold tpOf
  cases q : PySem.W.tabIn K x with
  | none => rw [q] at h; cases h
  | some p => rw [q] at h; cases h; rfl
end DL
namespace DL
open PySem L2
variable [Wld]
def fieldS (a C dx : Addr) : Fs := sSeq (sIf (tVal (fOp gIn (fExc a C dx "code" (fVar 0)) (fTup (fCons (fK (.str "InvalidText")) (fCons (fK (.str "InvalidState")) (fCons (fK (.str "InvalidSign")) (fCons (fK (.str "InvalidNumber")) (fCons (fK (.str "InvalidBeats")) (fCons (fK (.str "InvalidLimit")) (fNil)))))))))) (sRet (fExc a C dx "given" (fVar 0))) (sNil)) (sSeq (sIf (tVal (fOp gIn (fExc a C dx "code" (fVar 0)) (fTup (fCons (fK (.str "InvalidPlan")) (fCons (fK (.str "InvalidScheme")) (fNil)))))) (sRet (fExc a C dx "path" (fVar 0))) (sNil)) (sSeq (sIf (tVal (fOp gIn (fExc a C dx "code" (fVar 0)) (fTup (fCons (fK (.str "InvalidName")) (fCons (fK (.str "DuplicateName")) (fCons (fK (.str "WrongKind")) (fCons (fK (.str "UnknownName")) (fNil)))))))) (sRet (fExc a C dx "name" (fVar 0))) (sNil)) (sSeq (sIf (tVal (fOp gIn (fExc a C dx "code" (fVar 0)) (fTup (fCons (fK (.str "InvalidHouse")) (fCons (fK (.str "InvalidCommand")) (fNil)))))) (sRet (fIf (tVal (fOp gEq (fExc a C dx "code" (fVar 0)) (fK (.str "InvalidHouse")))) (fExc a C dx "part" (fVar 0)) (fExc a C dx "word" (fVar 0)))) (sNil)) (sSeq (sIf (tVal (fOp gEq (fExc a C dx "code" (fVar 0)) (fK (.str "TooMany")))) (sRet (fTup (fCons (fExc a C dx "subject" (fVar 0)) (fCons (fExc a C dx "most" (fVar 0)) (fNil))))) (sNil)) (sSeq (sIf (tVal (fOp gEq (fExc a C dx "code" (fVar 0)) (fK (.str "Broken")))) (sBad) (sNil)) (sSeq (sIf (tVal (fOp gIn (fExc a C dx "code" (fVar 0)) (fTup (fCons (fK (.str "Full")) (fCons (fK (.str "ParseError")) (fNil)))))) (sRet (fIf (tVal (fOp gEq (fExc a C dx "code" (fVar 0)) (fK (.str "Full")))) (fExc a C dx "most" (fVar 0)) (fExc a C dx "line" (fVar 0)))) (sNil)) (sRet (fK .non))))))))
def F_field (ns : List Str) (ds : List D) : Sm D := fun M => bodyF (fieldS 0 0 0) 1 [.exv 0 0 0 ns ds] M
theorem u_fExc {a C dx : Addr} {n : Str} {ns : List Str} {ds : List D} {r : Env} {M : Mem} : fExc a C dx n (fVar 0) (.val (.exv a C dx ns ds) :: r) M = (match lookD n ns ds with
  | some v => .ok v M
  | none => .bad) := by
  unfold fExc fVar
  simp only [List.getElem?_cons_zero, R.bind_ok, and_self, if_true]
  all_goals rfl
def RS.like : RS → RS → Prop
  | .nx _ M, .nx _ M' => M = M'
  | .rt d M, .rt d' M' => d = d' ∧ M = M'
  | .ex c ns vs _ M, .ex c' ns' vs' _ M' => c = c' ∧ ns = ns' ∧ vs = vs' ∧ M = M'
  | .bk _ _, .bk _ _ => True
  | .ct _ _, .ct _ _ => True
  | .bad, .bad => True
  | _, _ => False
theorem thn_like {α : Type} {r : R α} {env env' : Env} {f f' : α → Mem → RS} (h : ∀ a M, (f a M).like (f' a M)) : (r.thn env f).like (r.thn env' f') := by
  cases r with
  | ok a M => exact h a M
  | ex c ns vs M => exact ⟨rfl, rfl, rfl, rfl⟩
  | bad => trivial
def LikeS (e e' : Env) (f f' : Fs) : Prop := ∀ M, (f e M).like (f' e' M) ∧ (∀ e1 M1, f e M = .nx e1 M1 → e1 = e) ∧ ∀ e1 M1, f' e' M = .nx e1 M1 → e1 = e'
theorem likeS_seq {e e' : Env} {f f' g g' : Fs} (h : LikeS e e' f f') (k : LikeS e e' g g') : LikeS e e' (sSeq f g) (sSeq f' g') := fun M => by
  obtain ⟨h1, h2, h3⟩ := h M
  unfold sSeq
  cases q : f e M with
  | nx e1 M1 =>
    have z := h2 e1 M1 q
    subst z
    rw [q] at h1
    cases q' : f' e' M with
    | nx e2 M2 =>
      have z := h3 e2 M2 q'
      subst z
      rw [q'] at h1
      have h1 : M1 = M2 := h1
      subst h1
      exact k M1
    | _ => rw [q'] at h1; exact h1.elim
  | rt d M1 =>
    rw [q] at h1
    cases q' : f' e' M with
    | rt d' M2 => rw [q'] at h1; exact ⟨h1, fun _ _ z => (by cases z), fun _ _ z => (by cases z)⟩
    | _ => rw [q'] at h1; exact h1.elim
  | ex c ns vs e1 M1 =>
    rw [q] at h1
    cases q' : f' e' M with
    | ex c' ns' vs' e2 M2 => rw [q'] at h1; exact ⟨h1, fun _ _ z => (by cases z), fun _ _ z => (by cases z)⟩
    | _ => rw [q'] at h1; exact h1.elim
  | bk e1 M1 =>
    rw [q] at h1
    cases q' : f' e' M with
    | bk e2 M2 => exact ⟨trivial, fun _ _ z => (by cases z), fun _ _ z => (by cases z)⟩
    | _ => rw [q'] at h1; exact h1.elim
  | ct e1 M1 =>
    rw [q] at h1
    cases q' : f' e' M with
    | ct e2 M2 => exact ⟨trivial, fun _ _ z => (by cases z), fun _ _ z => (by cases z)⟩
    | _ => rw [q'] at h1; exact h1.elim
  | bad =>
    rw [q] at h1
    cases q' : f' e' M with
    | bad => exact ⟨trivial, fun _ _ z => (by cases z), fun _ _ z => (by cases z)⟩
    | _ => rw [q'] at h1; exact h1.elim
theorem likeS_nil {e e' : Env} : LikeS e e' sNil sNil := fun M => ⟨rfl, fun _ _ z => (by cases z; rfl), fun _ _ z => (by cases z; rfl)⟩
theorem likeS_bad {e e' : Env} : LikeS e e' sBad sBad := fun M => ⟨trivial, fun _ _ z => (by cases z), fun _ _ z => (by cases z)⟩
theorem likeS_ret {e e' : Env} {a a' : Fe} (h : a e = a' e') : LikeS e e' (sRet a) (sRet a') := fun M => by
  unfold sRet
  rw [h]
  refine ⟨thn_like fun _ _ => ⟨rfl, rfl⟩, fun e1 M1 z => ?_, fun e1 M1 z => ?_⟩ <;> cases q : a' e' M <;> rw [q] at z <;> cases z
theorem likeS_if {e e' : Env} {t t' : Ft} {a a' b b' : Fs} (h : t e = t' e') (ha : LikeS e e' a a') (hb : LikeS e e' b b') : LikeS e e' (sIf t a b) (sIf t' a' b') := fun M => by
  unfold sIf
  rw [h]
  cases q : t' e' M with
  | ok c M1 => cases c with
    | true => exact ha M1
    | false => exact hb M1
  | ex c ns vs M1 => exact ⟨⟨rfl, rfl, rfl, rfl⟩, fun _ _ z => (by cases z), fun _ _ z => (by cases z)⟩
  | bad => exact ⟨trivial, fun _ _ z => (by cases z), fun _ _ z => (by cases z)⟩
theorem field_hF (a C dx : Addr) (ns : List Str) (ds : List D) (M : Mem) : F_field ns ds M = bodyF (fieldS a C dx) 1 [.exv a C dx ns ds] M := by
  have h : LikeS [.val (.exv 0 0 0 ns ds)] [.val (.exv a C dx ns ds)] (fieldS 0 0 0) (fieldS a C dx) := by
    have at_ : ∀ n, fExc 0 0 0 n (fVar 0) [.val (.exv 0 0 0 ns ds)] = fExc a C dx n (fVar 0) [.val (.exv a C dx ns ds)] := fun n => by
      funext M
      rw [u_fExc, u_fExc]
    unfold fieldS
    repeat' (first | exact likeS_nil | exact likeS_bad | (refine likeS_seq ?_ ?_) | (refine likeS_if ?_ ?_ ?_) | (refine likeS_ret ?_) | exact at_ _)
    all_goals (funext M; simp only [tVal, fOp, fK, fTup, fCons, fNil, fIf, at_])
  obtain ⟨h1, _, _⟩ := h M
  unfold F_field bodyF
  show (match fieldS 0 0 0 [.val (.exv 0 0 0 ns ds)] M with
    | .nx _ M' => R.ok D.non M'
    | .rt d M' => .ok d M'
    | .ex c ns vs _ M' => .ex c ns vs M'
    | _ => .bad) = (match fieldS a C dx [.val (.exv a C dx ns ds)] M with
    | .nx _ M' => R.ok D.non M'
    | .rt d M' => .ok d M'
    | .ex c ns vs _ M' => .ex c ns vs M'
    | _ => .bad)
  cases q : fieldS 0 0 0 [.val (.exv 0 0 0 ns ds)] M <;> cases q' : fieldS a C dx [.val (.exv a C dx ns ds)] M <;> rw [q, q'] at h1 <;> first | exact h1.elim | (simp only [RS.like] at h1; simp [h1])
end DL
namespace DL
open PySem L2 PySem.W PyProof.Rows
variable [Wld]
section
variable {P : Program} {w : World} {K : PySem.W.Frag} {mg : Str → Option Value} {base : Heap}
theorem run_lam {k : Nat} {f c1 : Addr} {q : Str} {params : Arguments} {body : Expr} {scope : Scope} {pm ctv : Value} {N ps : List Str} (S : FnScope N ps scope)
    {A : Around} {outer : List PySem.Env} {s : Shared} {H : Hp} {us : List Value} {vs : List V} {Q : VK} {t : TE} (hf : s.heap.get? f = some (kla_obj "<lambda>" q params body scope [] pm c1 ctv)) (hc : H c1 = some (LamX.CodeO c1 q)) (hr : Room (k + 1) A) (e0 : Env0 P w K mg base A outer s H)
    (hb : bindArgs (kla_fn "<lambda>" q params body scope [] pm (.ref c1) ctv) ⟨us, []⟩ = pure (ps.zip us)) (r : Vals vs us) (hl : vs.length = ps.length)
    (hbody : Room k (A.deeper (envOfC q scope s.heap.objs.size f (.ref c1))) → PE (cxOf C8.CX0 P w K mg base N q scope f (.ref c1) A outer s H C8.E0) body t) (ht : t (L2.start N vs) H Q) :
    codeAny (model P w) A (.call (.ref f) ⟨us, []⟩) (CR C8.CX0 outer P w H s Q C8.E0) s := by
  have lim : s.heap.NoLimit := e0.mod.nolimit.keeps fun b o e => (e0.bs b o e).1
  have hkind : ∀ y ∈ ps.zip us, scope.names.lookup y.1 = some .local ∨ (scope.names.lookup y.1 = some .cell ∧ ((cellsFrom (s.heap.objs.size + 1) scope.names []).lookup y.1).isSome = true) := fun ⟨n, v⟩ hy => by
    rcases S.par n (List.of_mem_zip hy).1 with z | z
    · exact .inl z
    · exact .inr ⟨z, cellsFrom_some _ _ _ (.inl z)⟩
  obtain ⟨⟨oc, vs0, t0, hoc, hdc, hvc⟩, _, _⟩ := e0.hok c1 _ hc
  refine kla_callFunE hr.depth hf rfl S.co S.gen rfl ⟨c1, oc, vs0, t0, rfl, hoc, hdc, hvc⟩ ?_
  rw [hb]
  refine wpAny_pure (wpAny_newFunctionEnv_cells S.kind hkind fun env he s1 x => ?_)
  subst he
  refine ⟨lim.keeps x.toInCall.keep, ?_⟩
  have I := inv_start (CX := C8.CX0) (E := C8.E0) S hr.hd e0 hl r x
  refine kla_codeExpr (wpAny_mono ((hbody (hr.deeper _)).run [] s1 (L2.start N vs) H Q I ht) (fun v s' hq => ?_) fun e s' hq => hq)
  obtain ⟨v', H', J, rv, z⟩ := hq
  exact ⟨v', H', J.os, J.bare, J.base, J.hok, rv, z⟩
end
def tAct (f c : Addr) (q : Str) (tl : V → V → Hp → VK → Prop) : TE := fun σ H Q => σ[0]? = some (some (.ref f)) ∧ H c = some (LamX.CodeO c q) ∧ ∃ v1 v2, σ[1]? = some (some v1) ∧ σ[2]? = some (some v2) ∧ tl v1 v2 H Q
section
variable {X : Cx} {s : Shared} {H : Hp}
theorem pe_act2 {k : Nat} {Ng : List Str} {qg q a b c : Str} {sg : Scope} {g f c' : Addr} {cdg pm ctv : Value} {params : Arguments} {body : Expr} {scope : Scope} {N ps : List Str} {tb : TE} {p1 p2 p3 p4 : Pos}
    (hf : s.heap.get? f = some (kla_obj "<lambda>" q params body scope [] pm c' ctv)) (hfn : H f = none) (hfr : f ∉ frs X.stack) (S : FnScope N ps scope) (hps : ps.length = 2)
    (hbind : ∀ u1 u2 : Value, bindArgs (kla_fn "<lambda>" q params body scope [] pm (.ref c') ctv) ⟨[u1, u2], []⟩ = pure (ps.zip [u1, u2]))
    (hr : Room (k + 1) (X.A.deeper (envOfC qg sg s.heap.objs.size g cdg)))
    (hbody : ∀ (A : Around) (outer : List PySem.Env) (s : Shared) (H : Hp), Room k (A.deeper (envOfC q scope s.heap.objs.size f (.ref c'))) → PE (cxOf C8.CX0 X.prog X.w X.K X.mg X.base N q scope f (.ref c') A outer s H C8.E0) body tb)
    (h0 : Ng[0]? = some a) (h1 : Ng[1]? = some b) (h2 : Ng[2]? = some c) (v0 : Vis sg a) (v1 : Vis sg b) (v2 : Vis sg c)
    (d0 : (a == ("__debug__" : Str)) = false := by decide) (e0 : (a == ("__classdict__" : Str)) = false := by decide) (d1 : (b == ("__debug__" : Str)) = false := by decide) (e1 : (b == ("__classdict__" : Str)) = false := by decide) (d2 : (c == ("__debug__" : Str)) = false := by decide) (e2 : (c == ("__classdict__" : Str)) = false := by decide) :
    PE (cxOf C8.CX0 X.prog X.w X.K X.mg X.base Ng qg sg g cdg X.A X.stack s H C8.E0) (.Call (.Name a p1) [.Name b p3, .Name c p4] [] p2) (tAct f c' q fun v1 v2 H Q => tb (L2.start N [v1, v2]) H Q) := by
  refine ⟨fun pinsZ sZ σZ HZ Q IZ h => ?_⟩
  obtain ⟨hs, hc, w1, w2, s1, s2, ht⟩ := h
  refine wpAny_Call_Name_kw (thn ((pe_var (pos := p1) (i := 0) h0 v0 d0 e0).run pinsZ sZ σZ HZ (fun v H1 => v = .ref f ∧ H1 = HZ) IZ ⟨.ref f, hs, rfl, rfl⟩) fun u sA ⟨v, H1, I1, r1, q1⟩ => ?_)
  obtain ⟨ev, eH⟩ := q1
  subst ev
  rw [eH] at I1
  obtain rfl : u = Value.ref f := r1
  have at_ : ∀ {s1 : Shared} {σ1 : L2.St} {H1 : Hp}, Inv (cxOf C8.CX0 X.prog X.w X.K X.mg X.base Ng qg sg g cdg X.A X.stack s H C8.E0) pinsZ σ1 H1 s1 → s1.heap.get? f = some (kla_obj "<lambda>" q params body scope [] pm c' ctv) := fun J => J.base.keep f _ hf hfn hfr (fun z => nomatch (show f ∈ ([] : List Addr) from z))
  refine callWith_F ⟨_, _, _, _, at_ I1⟩ ?_ (by rfl) (by rfl)
  show wpAny _ _ (spliced ((false, eval (.Name b p3) _) :: (false, eval (.Name c p4) _) :: [])) _ _ sA
  refine Calls.spliced_cons (thn ((pe_var (pos := p3) (i := 1) h1 v1 d1 e1).run pinsZ sA σZ HZ (fun v H1 => v = w1 ∧ H1 = HZ) I1 ⟨w1, s1, rfl, rfl⟩) fun u1 sB ⟨v, H1, I2, r1, q1⟩ => ?_)
  obtain ⟨ev, eH⟩ := q1
  subst ev
  rw [eH] at I2
  refine Calls.spliced_cons (thn ((pe_var (pos := p4) (i := 2) h2 v2 d2 e2).run pinsZ sB σZ HZ (fun v H1 => v = w2 ∧ H1 = HZ) I2 ⟨w2, s2, rfl, rfl⟩) fun u2 sC ⟨v, H1, I3, r2, q1⟩ => ?_)
  obtain ⟨ev, eH⟩ := q1
  subst ev
  rw [eH] at I3
  refine Calls.spliced_nil ⟨⟨_, _, _, _, at_ I3⟩, ?_⟩
  have rc := run_lam (P := X.prog) (w := X.w) (K := X.K) (mg := X.mg) (base := X.base) S (at_ I3) hc hr I3.env0 (hbind u1 u2) (.cons r1 (.cons r2 .nil)) (by rw [hps]; rfl) (fun hr2 => hbody _ _ _ _ hr2) ht
  refine wpAny_call (codeAny_mono rc fun r s' hq => ?_)
  cases r with
  | error e => exact (show False from hq).elim
  | ok fl =>
    cases fl with
    | ret u => exact I3.after hq
    | next => exact False.elim hq
    | brk => exact False.elim hq
    | cont => exact False.elim hq
end
def tAnd (T : List (Addr × Str)) (q : Str) (N : List Str) (ta : TA) (tb : TE) : TE := fun σ H Q => LamX.Tabs T H ∧ ∀ c1 H1, ExtT H H1 → LamX.Tabs T H1 → H1 c1 = some (LamX.CodeO c1 q) →
  ta σ H1 fun vs H2 => ∃ v1 v2, vs = [v1, v2] ∧ H2 c1 = some (LamX.CodeO c1 q) ∧ (((v1 = .non ∨ v2 = .non) ∧ Q .non H2) ∨ (v1 ≠ .non ∧ v2 ≠ .non ∧ tb (L2.start N [v1, v2]) H2 Q))
section
variable {X : Cx}
theorem pe_and {T : List (Addr × Str)} {x a b c : Str} {g ct0 P : Addr} {k : Nat} {pg : Arguments} {bg : List Stmt} {sg : Scope} {dV kV doc pm cdv ct oc : Value} {an od : Option Addr} {osl : Array (Option Value)} {Ng : List Str}
    {params : Arguments} {body : Expr} {scope : Scope} {N ps : List Str} {e1 e2 : Expr} {ta : TA} {tb : TE} {p lpos pos p1 p2 p3 p4 q1 q2 q3 q4 q5 q6 q7 q8 q9 q10 : Pos} {j1 j2 j3 : Nat} (hg : Gl X x) (hm : X.mg x = some (.ref g)) (hk : keepIn X.K (.ref g) = true)
    (lk : X.K.lookup g = some ⟨oc, od, .func (fnOf x x pg bg sg dV kV doc pm an cdv ct), osl⟩) (hcg : codeIn X.K cdv x = true) (hb : L2.Binds X.K (fnOf x x pg bg sg dV kV doc pm an cdv ct) [a, b, c] []) (Sg : FnScope Ng [a, b, c] sg) (hN0 : Ng[0]? = some a) (hN1 : Ng[1]? = some b) (hN2 : Ng[2]? = some c) (va : Vis sg a) (vb : Vis sg b) (vc : Vis sg c)
    (hbg : bg = [.Return (some (.IfExp (.BoolOp .Or [.Compare (.Name b q1) [.Is] [.Constant .none j1 q2] q3, .Compare (.Name c q4) [.Is] [.Constant .none j2 q5] q6] q7) (.Constant .none j3 q8) (.Call (.Name a p1) [.Name b p3, .Name c p4] [] p2) q9)) q10])
    (TB : LamX.TabB X.base X.mg ct0 P) (hcode : X.env.code = .ref ct0) (inT : (P, X.env.qual ++ "<lambda>") ∈ T) (one : ∀ p ∈ T, p.1 = P → p.2 = X.env.qual ++ "<lambda>") (hr : Room (k + 2) X.A) (hdef : defaultsOf params X.env = ([], []))
    (nofree : ∀ y ∈ scope.names, y.2 ≠ .free) (hcl : cloFrom X.env.cells scope.names [] = []) (S : FnScope N ps scope) (hps : ps.length = 2)
    (hbind : ∀ (q : Str) (pm cv ctv u1 u2 : Value), bindArgs (kla_fn "<lambda>" q params body scope [] pm cv ctv) ⟨[u1, u2], []⟩ = pure (ps.zip [u1, u2]))
    (ha : PA X [e1, e2] ta) (hst : starEach [.Lambda params body scope lpos, e1, e2] X.env = (false, eval (.Lambda params body scope lpos) X.env) :: starEach [e1, e2] X.env) (hpl : (backTo pos (starEach [e1, e2] X.env)).any (·.1) = false)
    (hbody : ∀ (A : Around) (outer : List PySem.Env) (s : Shared) (H : Hp) (f c' : Addr), Room k (A.deeper (envOfC (X.env.qual ++ "<lambda>") scope s.heap.objs.size f (.ref c'))) → PE (cxOf C8.CX0 X.prog X.w X.K X.mg X.base N (X.env.qual ++ "<lambda>") scope f (.ref c') A outer s H C8.E0) body tb)
    (hdb : (x == ("__debug__" : Str)) = false := by decide) (d0 : (a == ("__debug__" : Str)) = false := by decide) (c0 : (a == ("__classdict__" : Str)) = false := by decide) (d1 : (b == ("__debug__" : Str)) = false := by decide) (c1 : (b == ("__classdict__" : Str)) = false := by decide) (d2 : (c == ("__debug__" : Str)) = false := by decide) (c2 : (c == ("__classdict__" : Str)) = false := by decide) :
    PE X (.Call (.Name x p) [.Lambda params body scope lpos, e1, e2] [] pos) (tAnd T (X.env.qual ++ "<lambda>") N ta tb) := by
  refine ⟨fun pins s σ H Q I ⟨hT, h⟩ => ?_⟩
  refine wpAny_Call_Name_kw (ld_glob I hg hm ?_ hdb)
  refine callWith_K (h₀ := X.base) I.ok.mod.kin hk ?_ hst hpl
  rw [hst]
  show wpAny _ _ (spliced ((false, eval (.Lambda params body scope lpos) X.env) :: backTo pos (starEach [e1, e2] X.env))) _ _ s
  refine Calls.spliced_cons (lam_new I TB hcode inT one hT hdef (fun y hy e => absurd e (nofree y hy)) fun f cc pm1 ctv H1 s1 J eT T1 hf hfn hff hco => ?_)
  rw [hcl] at hf
  have J' : Inv X ((f, kla_obj "<lambda>" (X.env.qual ++ "<lambda>") params body scope [] pm1 cc ctv) :: pins) σ H1 s1 := J.pins_of fun p hp => by
    rcases List.mem_cons.mp hp with rfl | hp
    · exact ⟨hf, hfn, hff.1, hff.2, fun v z => by cases z⟩
    · exact J.pin p (List.mem_append_right _ hp)
  refine thn (ha.run pos _ s1 σ H1 _ J' (h cc H1 eT T1 hco)) fun us s2 ⟨vs, H2, I2, r, v1, v2, e, hc2, hq⟩ => ?_
  subst e
  obtain ⟨u1, u2, rfl, r1, r2⟩ : ∃ u1 u2, us = [u1, u2] ∧ RelV v1 u1 ∧ RelV v2 u2 := by
    cases r with
    | cons a b =>
      cases b with
      | cons c d =>
        cases d
        exact ⟨_, _, rfl, a, c⟩
  obtain ⟨hf2, hfn2, hl2, hs2, _⟩ := I2.pin (f, kla_obj "<lambda>" (X.env.qual ++ "<lambda>") params body scope [] pm1 cc ctv) (List.mem_append_right _ List.mem_cons_self)
  have I3 : Inv X pins σ H2 s2 := I2.pins_of fun p hp => I2.pin p (List.mem_append_right _ (List.mem_cons_of_mem _ hp))
  have hfr : f ∉ frs X.stack := fun z => (List.mem_cons.mp (I2.stkSub _ z)).elim hl2 hs2
  refine ⟨I3.kIn, ?_⟩
  have rc : codeAny (model X.prog X.w) X.A (.call (.ref g) ⟨[.ref f, u1, u2], []⟩) (CR C8.CX0 X.stack X.prog X.w H2 s2 Q C8.E0) s2 := by
    refine LamX.run_ofS (N := Ng) (ps := [a, b, c]) (us := [.ref f, u1, u2]) (vs := [.ref f, v1, v2]) lk hcg Sg hr I3.env0 (hb s2 [.ref f, u1, u2] I3.kIn rfl) (.cons rfl (.cons r1 (.cons r2 .nil))) rfl fun hr1 => ?_
    rw [hbg]
    have pa := pe_act2 (X := X) (p1 := p1) (p2 := p2) (p3 := p3) (p4 := p4) hf2 hfn2 hfr S hps (fun u1 u2 => hbind _ _ _ _ u1 u2) hr1 (fun A outer s H hr2 => hbody A outer s H f cc hr2) hN0 hN1 hN2 va vb vc d0 c0 d1 c1 d2 c2
    have Z := pss_one (ps_ret (pos := q10) (pe_ifExp (pos := q9) (pw_or (pos := q7) (pt_cmpR (pos := q3) op_isN (pe_var (pos := q1) hN1 vb d1 c1) (pe_non (j := j1) (pos := q2)) (by rfl)) (pw_or1 (pos := q7) (pt_cmpR (pos := q6) op_isN (pe_var (pos := q4) hN2 vc d2 c2) (pe_non (j := j2) (pos := q5)) (by rfl)))).pt (pe_non (j := j3) (pos := q8)) pa))
    refine ⟨_, Z, ?_⟩
    have s0 : (L2.start Ng [V.ref f, v1, v2])[0]? = some (some (V.ref f)) := rfl
    have s1 : (L2.start Ng [V.ref f, v1, v2])[1]? = some (some v1) := rfl
    have s2 : (L2.start Ng [V.ref f, v1, v2])[2]? = some (some v2) := rfl
    refine ⟨v1, s1, rfl, decide (v1 = .non), rfl, ?_⟩
    by_cases z1 : v1 = .non
    · rcases hq with ⟨_, hq⟩ | ⟨n1, _⟩
      · simp only [z1, decide_true, if_true]
        exact hq
      · exact absurd z1 n1
    · simp only [z1, decide_false, Bool.false_eq_true, if_false]
      refine ⟨v2, s2, rfl, decide (v2 = .non), rfl, ?_⟩
      by_cases z2 : v2 = .non
      · rcases hq with ⟨_, hq⟩ | ⟨_, n2, _⟩
        · simp only [z2, decide_true, if_true]
          exact hq
        · exact absurd z2 n2
      · simp only [z2, decide_false, Bool.false_eq_true, if_false]
        rcases hq with ⟨o, _⟩ | ⟨_, _, hq⟩
        · exact (o.elim z1 z2).elim
        · exact ⟨s0, hc2, v1, v2, s1, s2, hq⟩
  refine wpAny_call (codeAny_mono rc fun r s' hq => ?_)
  cases r with
  | error e => exact (show False from hq).elim
  | ok fl => cases fl with
    | ret u => exact I3.after hq
    | next => exact hq.elim
    | brk => exact hq.elim
    | cont => exact hq.elim
end
section
variable {X : Cx} {W : WX}
end
end DL
namespace DL
open PySem L2 PySem.W PyProof.Rows
variable [Wld]
section
variable {X : Cx} {W : WX} {e : Expr} {es : List Expr} {K : PySem.W.Frag}
def fStar (a : Fe) (r : Fa) : Fa := fun env M => (a env M).bind fun d M1 => match seqIt d with
  | some xs => (r env M1).bind fun ds M2 => .ok (xs ++ ds) M2
  | none => .bad
theorem Iss.app {w : Wd} : ∀ {vs us : List V} {ds bs : List D}, Iss K w vs ds → Iss K w us bs → Iss K w (vs ++ us) (ds ++ bs)
  | _, _, _, _, .nil, h => h
  | _, _, _, _, .cons a t, h => .cons a (Iss.app t h)
theorem da_star {a : Fe} {r : Fa} {p : Pos} (ha : DE X W e a) (hr : DA X W es r) (hs : starEach (.Starred e p :: es) X.env = (true, eval e X.env) :: starEach es X.env := by rfl) : DA X W (.Starred e p :: es) (fStar a r) := by
  obtain ⟨t, q, s⟩ := ha
  obtain ⟨t', q', s'⟩ := hr
  refine ⟨_, StX.pa_star q q' hs, fun env M σ w H w0 H0 Q I h => ?_⟩
  refine s env M σ w H w0 H0 _ I (Post.bind h fun d M1 v w1 H1 x1 o1 r1 k1 => ?_)
  cases c : seqIt d with
  | none => simp only [c] at k1; exact k1.elim
  | some xs =>
    simp only [c] at k1
    obtain ⟨p, vs, rfl, hq, iss⟩ := seq_at o1.g r1 c
    refine ⟨p, vs, rfl, hq.symm, s' env M1 σ w1 H1 w0 H0 _ (I.step x1 o1) (Post.bind k1 fun ds M2 us w2 H2 x2 o2 r2 k2 => ?_)⟩
    exact k2 (vs ++ us) w2 H2 (.refl _ _) o2 ((iss.mono x2.more).app r2)
def fTupS (a : Fa) : Fe := fun env M => (a env M).bind fun ds M1 => if small ds.length = true then .ok (.tup ds) M1 else .bad
theorem de_tupS {f : Fa} {x1} {pos : Pos} (h : DA X W es f) : DE X W (.Tuple es x1 pos) (fTupS f) := by
  obtain ⟨t, p, s⟩ := h
  refine ⟨_, pe_tup p, fun env M σ w H w0 H0 Q I h => ?_⟩
  unfold fTupS at h
  refine s env M σ w H w0 H0 _ I (Post.bind h fun ds M1 vs w1 H1 x1 o1 r1 k1 => ?_)
  have r1 : Iss X.K w1 vs ds := r1
  by_cases hz : small ds.length = true
  · rw [if_pos hz] at k1
    refine ⟨by rw [r1.length]; exact small_le hz, fun a ha => ?_⟩
    obtain ⟨o2, x2⟩ := o1.fix (o := .tup vs) ha
    exact k1 _ _ _ x2 o2 (.tup (.inl upd_same) (r1.mono x2.more))
  · rw [if_neg hz] at k1; exact k1.elim
end
end DL
namespace DL
open PySem L2 PySem.W PyProof.Rows
variable [Wld]
structure ClsIs (K : PySem.W.Frag) (x : Str) (C : Addr) : Prop where
  nm : PySem.W.nsIn K mainGlobals x = some (some (.ref C))
  cl : Cls K C
def AttrOk (K : PySem.W.Frag) (x f : Str) : Prop := ∃ C, ClsIs K x C ∧ NoAttr K C f
theorem ClsIs.one {K : PySem.W.Frag} {x : Str} {C c : Addr} (h : ClsIs K x C) (n : PySem.W.nsIn K mainGlobals x = some (some (.ref c))) : c = C := by
  have e := n.symm.trans h.nm
  cases e
  rfl
def fldM (xs : List Str) (f : Str) (M : Mem) : D → Option D
  | .obj c ns ds => if c ∈ xs then lookD f ns ds else none
  | .ref k => match M[k]? with
    | some (.ins c ns ds) => if c ∈ xs then lookD f ns ds else none
    | _ => none
  | _ => none
def fAttr (xs : List Str) (f : Str) (a : Fe) : Fe := fun env M => (a env M).bind fun d M1 => match fldM xs f M1 d with
  | some v => .ok v M1
  | none => .bad
section
variable {X : Cx} {W : WX} {e o value : Expr} {pos tpos : Pos} {f : Str} {xs : List Str} {fa fo : Fe}
theorem de_attr (h : ∀ x ∈ xs, AttrOk X.K x f) (ha : DE X W e fa) (hb : attributeBase e f X.env (eval e X.env) = eval e X.env := by rfl) : DE X W (.Attribute e f pos) (fAttr xs f fa) := by
  obtain ⟨t, p, s⟩ := ha
  refine ⟨_, pe_fld p hb, fun env M σ w H w0 H0 Q I h1 => ?_⟩
  refine s env M σ w H w0 H0 _ I (Post.bind h1 fun d M1 v w1 H1 x1 o1 r1 k1 => ?_)
  cases q : fldM xs f M1 d with
  | none => simp only [q] at k1; exact k1.elim
  | some z =>
    simp only [q] at k1
    cases r1 with
    | @obj a c dx x fs ds hn hg iss =>
      have q : (if x ∈ xs then lookD f (fs.map (·.1)) ds else none) = some z := q
      by_cases hx : x ∈ xs
      · rw [if_pos hx] at q
        obtain ⟨C, hC, na⟩ := h x hx
        obtain rfl := hC.one hn
        obtain ⟨u, hu, iu⟩ := lookD_ok iss q
        exact ⟨a, c, dx, fs, u, rfl, o1.g _ _ hg, hC.cl, na, hu, k1 u w1 H1 (.refl _ _) o1 iu⟩
      · rw [if_neg hx] at q; cases q
    | @ref a k hk =>
      have q : (match M1[k]? with
        | some (.ins c ns ds) => if c ∈ xs then lookD f ns ds else none
        | _ => none) = some z := q
      cases qm : M1[k]? with
      | none => rw [qm] at q; cases q
      | some m =>
        cases m with
        | ins x ns ds =>
          rw [qm] at q
          have q : (if x ∈ xs then lookD f ns ds else none) = some z := q
          by_cases hx : x ∈ xs
          · rw [if_pos hx] at q
            obtain ⟨b, g1, g2, c, dx, fs, hn, g3, g4, iss⟩ := o1.mo qm
            rw [hk] at g1
            cases g1
            subst g4
            obtain ⟨C, hC, na⟩ := h x hx
            obtain rfl := hC.one hn
            obtain ⟨u, hu, iu⟩ := lookD_ok iss q
            exact ⟨a, c, dx, fs, u, rfl, g3, hC.cl, na, hu, k1 u w1 H1 (.refl _ _) o1 iu⟩
          · rw [if_neg hx] at q; cases q
        | _ => rw [qm] at q; cases q
    | _ => cases q
def putP (f : Str) (d : D) : List Str → List D → List Str × List D
  | n :: ns, e :: ds => if n = f then (n :: ns, d :: ds) else (n :: (putP f d ns ds).1, e :: (putP f d ns ds).2)
  | _, _ => ([f], [d])
theorem putP_ok {K : PySem.W.Frag} {w : Wd} {f : Str} {v : V} {d : D} (i : Is K w v d) : ∀ {fs : List (Str × V)} {ds : List D}, Iss K w (fs.map (·.2)) ds → (putF f v fs).map (·.1) = (putP f d (fs.map (·.1)) ds).1 ∧ Iss K w ((putF f v fs).map (·.2)) (putP f d (fs.map (·.1)) ds).2
  | [], _, h => by
    cases h
    exact ⟨rfl, .cons i .nil⟩
  | (n, u) :: fs, _, h => by
    cases h with
    | @cons _ _ e ds h t =>
      obtain ⟨g1, g2⟩ := putP_ok (f := f) i t
      by_cases c : n = f
      · have e1 : putF f v ((n, u) :: fs) = (n, v) :: fs := by
          show (if n = f then (n, v) :: fs else (n, u) :: putF f v fs) = _
          rw [if_pos c]
        have e2 : putP f d (((n, u) :: fs).map (·.1)) (e :: ds) = (n :: fs.map (·.1), d :: ds) := by
          show (if n = f then (n :: fs.map (·.1), d :: ds) else (n :: (putP f d (fs.map (·.1)) ds).1, e :: (putP f d (fs.map (·.1)) ds).2)) = _
          rw [if_pos c]
        rw [e1, e2]
        exact ⟨rfl, .cons i t⟩
      · have e1 : putF f v ((n, u) :: fs) = (n, u) :: putF f v fs := by
          show (if n = f then (n, v) :: fs else (n, u) :: putF f v fs) = _
          rw [if_neg c]
        have e2 : putP f d (((n, u) :: fs).map (·.1)) (e :: ds) = (n :: (putP f d (fs.map (·.1)) ds).1, e :: (putP f d (fs.map (·.1)) ds).2) := by
          show (if n = f then (n :: fs.map (·.1), d :: ds) else (n :: (putP f d (fs.map (·.1)) ds).1, e :: (putP f d (fs.map (·.1)) ds).2)) = _
          rw [if_neg c]
        rw [e1, e2]
        exact ⟨by rw [List.map_cons, g1], .cons h g2⟩
def sAttr (xs : List Str) (f : Str) (o a : Fe) : Fs := fun env M => (a env M).thn env fun d M1 => (o env M1).thn env fun e M2 => match e with
  | .ref k => match M2[k]? with
    | some (.ins c ns ds) => if c ∈ xs ∧ ns.length < 1000 then .nx env (M2.set k (.ins c (putP f d ns ds).1 (putP f d ns ds).2)) else .bad
    | _ => .bad
  | _ => .bad
theorem ds_attr (h : ∀ x ∈ xs, AttrOk X.K x f) (hv : DE X W value fa) (ho : DE X W o fo) (hs : swapsWith value (some (.Attribute o f tpos)) pos.line X.env = pure false := by rfl) : DS X W (.Assign [.Attribute o f tpos] value pos) (sAttr xs f fo fa) := by
  obtain ⟨t, p, s⟩ := hv
  obtain ⟨t', p', s'⟩ := ho
  refine ⟨_, ps_fld p' p hs, fun env M σ w H w0 H0 B I h1 => ?_⟩
  refine s env M σ w H w0 H0 _ I (Post.thn I h1 fun d M1 v w1 H1 x1 I1 r1 k1 => ?_)
  refine s' env M1 σ w1 H1 w0 H0 _ I1 (Post.thn I1 k1 fun z M2 u w2 H2 x2 I2 r2 k2 => ?_)
  cases r2 with
  | @ref a k hk =>
    cases qm : M2[k]? with
    | none => simp only [qm] at k2; exact k2.elim
    | some m =>
      cases m with
      | ins x ns ds =>
        simp only [qm] at k2
        by_cases c : x ∈ xs ∧ ns.length < 1000
        · rw [if_pos c] at k2
          obtain ⟨b, g1, g2, cc, dx, fs, hn, g3, g4, iss⟩ := I2.ok.mo qm
          rw [hk] at g1
          cases g1
          subst g4
          obtain ⟨C, hC, na⟩ := h x c.1
          obtain rfl := hC.one hn
          obtain ⟨e1, e2⟩ := putP_ok (f := f) (r1.mono x2.more) iss
          obtain ⟨o4, x4⟩ := I2.ok.write (o' := .ins x (putP f d (fs.map (·.1)) ds).1 (putP f d (fs.map (·.1)) ds).2) (u := .ins cc dx (putF f v fs)) qm hk ⟨cc, dx, putF f v fs, hn, upd_same, e1, e2⟩
          exact ⟨a, cc, dx, fs, rfl, g3, hC.cl, na, by simpa using c.2, k2 σ _ _ (I2.step x4 o4) x4.more⟩
        · rw [if_neg c] at k2; exact k2.elim
      | _ => simp only [qm] at k2; exact k2.elim
  | _ => exact k2.elim
end
end DL
namespace DL
open PySem L2 PySem.W PyProof.Rows
variable [Wld]
theorem Ok.seal {K : PySem.W.Frag} {w : Wd} {H : Hp} {M : Mem} {k : Nat} {p : Addr} {o : HO} (so : Sealed o) (x : Ok K w H M) (hp : w.r[k]? = some p) (gp : w.g p = none) (hH : H p = some o) :
    Ok K { w with g := upd w.g p o } H (M.set k .gone) := by
  have up : ∀ b u, w.g b = some u → (upd w.g p o) b = some u := fun b u q => by
    rw [upd_ne (by rintro rfl; rw [gp] at q; cases q)]; exact q
  have mr : More w { w with g := upd w.g p o } := ⟨⟨[], by simp⟩, up⟩
  refine ⟨fun b u q => ?_, fun j mo q => ?_, x.nd, by rw [List.length_set]; exact x.len, x.tt, fun b ps z => ?_⟩
  · have q : upd w.g p o b = some u := q
    by_cases e : b = p
    · subst e; rw [upd_same] at q; rw [hH]; exact q
    · rw [upd_ne e] at q; exact x.g _ _ q
  · by_cases e : j = k
    · subst e
      have hl : j < M.length := by rw [← x.len]; exact (List.getElem?_eq_some_iff.mp hp).1
      rw [List.getElem?_set_self hl] at q
      cases q
      exact ⟨p, hp, .inl ⟨_, upd_same, so⟩⟩
    · rw [List.getElem?_set_ne (Ne.symm e)] at q
      obtain ⟨a, h1, h2⟩ := x.m j mo q
      have ne : a ≠ p := fun z => by
        subst z
        obtain ⟨l1, e1⟩ := List.getElem?_eq_some_iff.mp h1
        obtain ⟨l2, e2⟩ := List.getElem?_eq_some_iff.mp hp
        exact e ((List.getElem_inj x.nd).mp (e1.trans e2.symm))
      rcases h2 with ⟨u', g2, sl⟩ | ⟨g1, g2⟩
      · exact ⟨a, h1, .inl ⟨u', up _ _ g2, sl.mono mr⟩⟩
      · refine ⟨a, h1, .inr ⟨?_, g2.mono mr rfl⟩⟩
        show upd w.g p o a = none
        rw [upd_ne ne]
        exact g1
  · have z : upd w.g p o b = some (.tbl ps) := z
    by_cases e : b = p
    · subst e; rw [upd_same] at z; injection z with z; rw [z] at so; exact so
    · rw [upd_ne e] at z; exact x.gt _ _ z
theorem Ext.seal {w w1 : Wd} {H H1 : Hp} {p : Addr} {o : HO} (e : Ext w H w1 H1) (hp : H p = none) (gp : w1.g p = none) : Ext w H { w1 with g := upd w1.g p o } H1 := by
  refine ⟨e.r, fun b u q => ?_, e.keep, e.nn, fun b u q => ?_, e.rn, e.tb⟩
  · have q := e.g b u q
    show upd w1.g p o b = some u
    rw [upd_ne (by rintro rfl; rw [gp] at q; cases q)]
    exact q
  · have q : upd w1.g p o b = some u := q
    by_cases z : b = p
    · subst z; exact .inr (.inl hp)
    · rw [upd_ne z] at q; exact e.gx b u q
section
variable {X : Cx} {CX : CXT} {k : Nat} {f C : Addr} {fd : FuncData} {ps : List Str} {sp : Sp} {x m : Str} {p pos apos : Pos} {e o : Expr} {es : List Expr} {ta : TE} {t : TA}
theorem make_at {pins : List (Addr × Obj)} {σ : L2.St} {H : Hp} {s : Shared} {Q : VK} {us : List Value} {vs : List V} {E : XK} (M : Mk X.K C f) (G : FnOk X.prog X.w X.K X.mg X.base CX k f fd ps sp) (room : Room (k + 1) X.A) (bs : Binds X.K fd ps [])
    (pass : PassesAt CX X σ E) (I : Inv X pins σ H s) (rv : Vals vs us)
    (want : ∀ x dx, H x = none → H dx = none → dx ≠ x → sp (.ref x :: vs) (upd (upd H dx (.own x)) x (.ins C dx [])) (fun v H2 => v = .non ∧ Q (.ref x) H2) E) :
    wpAny (model X.prog X.w) X.A (call (.ref C) us) (EP X pins σ Q) X.xe s := by
  have hq := want (s.heap.objs.size + 1) s.heap.objs.size (I.hok.fresh (Nat.le_succ _)) (I.hok.fresh (Nat.le_refl _)) (Nat.ne_of_lt (Nat.lt_succ_self _))
  have J := Inv.made (C := C) I
  have r2 : Vals (V.ref (s.heap.objs.size + 1) :: vs) (Value.ref (s.heap.objs.size + 1) :: us) := .cons rfl rv
  have hl : (Value.ref (s.heap.objs.size + 1) :: us).length = ps.length := by rw [← r2.length]; exact G.len _ _ _ _ hq
  have b := bs _ (Value.ref (s.heap.objs.size + 1) :: us) J.kIn (by rw [List.append_nil]; exact hl)
  rw [List.append_nil] at b
  refine wpAny_call (make_map (f := f) I.kIn M.makes M.init (beq_iff_eq.mp M.fn) (codeAny_mono (G.run _ X.stack _ _ ⟨Value.ref (s.heap.objs.size + 1) :: us, []⟩ (Value.ref (s.heap.objs.size + 1) :: us) _ _ E (room.make C us []) (J.env0.make C us []) b r2 hq) fun r s' h2 => ?_))
  cases r with
  | error e => exact pass pins _ _ e s' J h2
  | ok fl =>
    cases fl with
    | ret u =>
      obtain ⟨v, H', J3, rw1, ev, q3⟩ := J.after h2
      subst ev
      exact ⟨rw1, ⟨V.ref (s.heap.objs.size + 1), H', J3, rfl, q3⟩⟩
    | next => exact False.elim h2
    | brk => exact False.elim h2
    | cont => exact False.elim h2
def tMakeAt (C : Addr) (sp : Sp) (E : L2.St → XK) (t : TA) : TE := fun σ H Q => t σ H fun vs H1 => ∀ x dx, H1 x = none → H1 dx = none → dx ≠ x → sp (.ref x :: vs) (upd (upd H1 dx (.own x)) x (.ins C dx [])) (fun v H2 => v = .non ∧ Q (.ref x) H2) (E σ)
theorem pe_makeAt {E : L2.St → XK} (M : Mk X.K C f) (G : FnOk X.prog X.w X.K X.mg X.base CX k f fd ps sp) (room : Room (k + 1) X.A) (hg : Gl X x) (hm : X.mg x = some (.ref C)) (bs : Binds X.K fd ps []) (pass : ∀ σ, PassesAt CX X σ (E σ))
    (ha : PA X (e :: es) t) (hdb : (x == ("__debug__" : Str)) = false) (he : starEach (e :: es) X.env = (false, eval e X.env) :: starEach es X.env) (hpl : (backTo pos (starEach es X.env)).any (·.1) = false) :
    PE X (.Call (.Name x p) (e :: es) [] pos) (tMakeAt C sp E t) := by
  refine ⟨fun pins s σ H Q I h => wpAny_Call_Name_kw (ld_glob I hg hm ?_ hdb)⟩
  refine callWith_K (h₀ := X.base) I.ok.mod.kin M.kp (thn (ha.run pos pins s σ H _ I h) fun us s1 ⟨vs, H1, I1, r, q⟩ => ⟨I1.kIn, ?_⟩) he hpl
  exact make_at M G room bs (pass σ) I1 r q
end
structure HasC (μ : Bool) (P : Program) (w : World) (K : PySem.W.Frag) (mg : Str → Option Value) (base : Heap) (x : Str) (st : Stmt) (k : Nat) (ps : List Str) (F : Fn) : Prop where
  ex : ∃ C f fd, ClsIs K x C ∧ mg x = some (.ref C) ∧ Mk K C f ∧ Binds K fd (("self" : Str) :: ps) [] ∧ FnOk P w K mg base (CXm μ P w) k f fd (("self" : Str) :: ps) (spD K (ps.length + 1) F)
def fMake (x : Str) (F : Fn) (a : Fa) : Fe := fun env M => (a env M).bind fun ds M1 => (F (.ref M1.length :: ds) (M1 ++ [.ins x [] []])).bind fun d M2 => match d, M2[M1.length]? with
  | .non, some (.ins c ns vs) => .ok (.obj c ns vs) (M2.set M1.length .gone)
  | _, _ => .bad
section
variable {X : Cx} {W : WX} {e : Expr} {es : List Expr} {pos p : Pos} {x : Str} {st : Stmt} {k j : Nat} {ps : List Str} {F : Fn} {f : Fa}
theorem de_make (h : HasC μ X.prog X.w X.K X.mg X.base x st k ps F) (hr : Room j X.A) (hk : k + 1 ≤ j) (tk : TakesM μ X W) (hg : Gl X x) (ha : DA X W (e :: es) f) (hl : LenOk ps.length f) (hdb : (x == ("__debug__" : Str)) = false := by decide)
    (he : starEach (e :: es) X.env = (false, eval e X.env) :: starEach es X.env := by rfl) (hpl : (backTo pos (starEach es X.env)).any (·.1) = false := by rfl) : DE X W (.Call (.Name x p) (e :: es) [] pos) (fMake x F f) := by
  obtain ⟨C, fi, fd, hC, hm, M0, hb, G⟩ := h.ex
  obtain ⟨t, q, s⟩ := ha
  refine ⟨_, pe_makeAt M0 G (hr.mono hk) hg hm hb (fun σ => passAtM tk σ) q hdb he hpl, fun env M σ w H w0 H0 Q I h1 => ?_⟩
  refine s env M σ w H w0 H0 _ I ?_
  unfold fMake at h1
  cases qf : f env M with
  | bad => rw [qf] at h1; exact h1.elim
  | ex c ns vs M1 => rw [qf] at h1; exact h1
  | ok ds M1 =>
    rw [qf, R.bind_ok] at h1
    intro vs w1 H1 x1 o1 iss a dx ha hdx hne
    have k1 := Post.shift (Ra := RlE X.K) x1 h1
    obtain ⟨o2, x2⟩ := o1.put (o := .own a) hdx
    have ha2 : upd H1 dx (.own a) a = none := by rw [upd_ne hne.symm]; exact ha
    obtain ⟨o3, x3⟩ := o2.put (o := .ins C dx []) ha2
    obtain ⟨n1, n2⟩ := o1.new ha
    obtain ⟨w2, x4, o4, i4, m4⟩ := (x2.trans x3).lay o3 (v := .ref a) (o := .ins x [] []) ⟨a, rfl, ha, n1, n2, C, dx, [], hC.nm, upd_same, rfl, .nil⟩
    refine ⟨.ref M1.length :: ds, M1 ++ [.ins x [] []], w2, o4, .cons i4 (iss.mono m4), by rw [List.length_cons, hl env M ds M1 qf], ?_⟩
    have k2 := Post.shift (Ra := RlE X.K) x4 k1
    cases qF : F (.ref M1.length :: ds) (M1 ++ [.ins x [] []]) with
    | bad => rw [qF] at k2; exact k2.elim
    | ex c ns us M2 => rw [qF] at k2; exact k2
    | ok d M2 =>
      rw [qF, R.bind_ok] at k1
      intro v w5 H5 x5 o5 i5
      cases d with
      | non =>
        cases i5
        cases qm : M2[M1.length]? with
        | none => simp only [qm] at k1; exact k1.elim
        | some mo =>
          cases mo with
          | ins c ns us =>
            simp only [qm] at k1
            obtain ⟨b, g1, g2, cc, dx', fs, hn, g3, g4, iss5⟩ := o5.mo qm
            cases i4 with
            | ref h4 =>
              have e5 := x5.more.at h4
              rw [e5] at g1
              cases g1
              subst g4
              have x15 := x4.trans x5
              have o6 := o5.seal (o := .ins cc dx' fs) trivial e5 g2 g3
              have x6 := x15.seal (o := .ins cc dx' fs) ha g2
              have up : More w5 { w5 with g := upd w5.g a (.ins cc dx' fs) } := ⟨⟨[], by simp⟩, fun b u z => by
                show upd w5.g a (.ins cc dx' fs) b = some u
                rw [upd_ne (by rintro rfl; rw [g2] at z; cases z)]
                exact z⟩
              exact ⟨rfl, k1 (.ref a) _ H5 x6 o6 (.obj hn upd_same (iss5.mono up))⟩
          | _ => simp only [qm] at k1; exact k1.elim
      | _ => exact k1.elim
end
end DL
namespace DL
open PySem L2 PySem.W PyProof.Rows
variable [Wld]
def isA (x m : Str) (M : Mem) : D → Bool
  | .obj c ns _ => decide (c = x) && !decide (m ∈ ns)
  | .ref k => match M[k]? with
    | some (.ins c ns _) => decide (c = x) && !decide (m ∈ ns)
    | _ => false
  | _ => false
theorem lookup_no {m : Str} : ∀ {fs : List (Str × V)}, m ∉ fs.map (·.1) → fs.lookup m = none
  | [], _ => rfl
  | (n, v) :: fs, h => by
    have h1 : m ≠ n := fun e => h (by rw [e]; exact List.mem_cons_self)
    have h2 : m ∉ fs.map (·.1) := fun e => h (List.mem_cons_of_mem _ e)
    rw [List.lookup_cons, beq_eq_false_iff_ne.mpr h1]
    exact lookup_no h2
theorem isA_at {K : PySem.W.Frag} {w : Wd} {H : Hp} {M : Mem} {x m : Str} {v : V} {d : D} {C : Addr} (o : Ok K w H M) (hC : ClsIs K x C) (i : Is K w v d) (h : isA x m M d = true) : ∃ a dx fs, v = .ref a ∧ H a = some (.ins C dx fs) ∧ fs.lookup m = none := by
  cases i with
  | @obj a c dx y fs ds hn hg iss =>
    have h : (decide (y = x) && !decide (m ∈ fs.map (·.1))) = true := h
    rw [Bool.and_eq_true, decide_eq_true_iff, Bool.not_eq_true', decide_eq_false_iff_not] at h
    obtain ⟨rfl, h2⟩ := h
    obtain rfl := hC.one hn
    exact ⟨a, dx, fs, rfl, o.g _ _ hg, lookup_no h2⟩
  | @ref a k hk =>
    have h : (match M[k]? with
      | some (.ins c ns _) => decide (c = x) && !decide (m ∈ ns)
      | _ => false) = true := h
    cases qm : M[k]? with
    | none => rw [qm] at h; cases h
    | some mo =>
      cases mo with
      | ins y ns ds =>
        rw [qm] at h
        have h : (decide (y = x) && !decide (m ∈ ns)) = true := h
        rw [Bool.and_eq_true, decide_eq_true_iff, Bool.not_eq_true', decide_eq_false_iff_not] at h
        obtain ⟨rfl, h2⟩ := h
        obtain ⟨b, g1, g2, c, dx, fs, hn, g3, g4, iss⟩ := o.mo qm
        rw [hk] at g1
        cases g1
        subst g4
        obtain rfl := hC.one hn
        exact ⟨a, dx, fs, rfl, g3, lookup_no h2⟩
      | _ => rw [qm] at h; cases h
  | _ => cases h
structure HasM (μ : Bool) (P : Program) (w : World) (K : PySem.W.Frag) (mg : Str → Option Value) (base : Heap) (x m : Str) (k : Nat) (ps : List Str) (F : Fn) : Prop where
  ex : ∃ C f fd, ClsIs K x C ∧ Meth K C m f ∧ Binds K fd ps [] ∧ FnOk P w K mg base (CXm μ P w) k f fd ps (spD K ps.length F)
def fMeth (x m : Str) (F : Fn) (o : Fe) (a : Fa) : Fe := fun env M => (o env M).bind fun d M1 => if isA x m M1 d = true then (a env M1).bind fun ds M2 => F (d :: ds) M2 else .bad
def tMethAt (C : Addr) (m : Str) (sp : Sp) (E : L2.St → XK) (ta : TE) (t : TA) : TE := fun σ H Q => ta σ H fun x H1 => ∃ a dx fs, x = .ref a ∧ H1 a = some (.ins C dx fs) ∧ fs.lookup m = none ∧ t σ H1 fun vs H2 => sp (x :: vs) H2 Q (E σ)
section
variable {X : Cx} {CX : CXT} {k : Nat} {f C : Addr} {fd : FuncData} {ps : List Str} {sp : Sp} {m : Str} {pos apos : Pos} {e o : Expr} {es : List Expr} {ta : TE} {t : TA} {E : L2.St → XK} {pl : Sem Bool}
theorem pe_methAt (he : PE X o ta) (c : Cls X.K C) (hm : Meth X.K C m f) (G : FnOk X.prog X.w X.K X.mg X.base CX k f fd ps sp) (room : Room k X.A) (bs : Binds X.K fd ps []) (pass : ∀ σ, PassesAt CX X σ (E σ)) (ha : PA X (e :: es) t)
    (hst : starEach (e :: es) X.env = (false, eval e X.env) :: starEach es X.env) (hpl : (backTo pos (starEach es X.env)).any (·.1) = false)
    (ht : eval (.Call (.Attribute o m apos) (e :: es) [] pos) X.env = (do let ov ← eval o X.env; standAt apos.atName; let (f, first) ← holding [ov] (getMethod ov m pl); callWith pos f first (backTo pos (starEach (e :: es) X.env)) (backToKw pos (keywordEach [] X.env)))) :
    PE X (.Call (.Attribute o m apos) (e :: es) [] pos) (tMethAt C m sp E ta t) := by
  refine ⟨fun pins s σ H Q I h => methodCall_KW (pl := pl) (thn (he.run pins s σ H _ I h) fun u s1 ⟨x, H1, I1, rx, a, dx, fs, ex, ea, l, q⟩ => ?_) ht⟩
  subst ex
  obtain rfl : u = Value.ref a := rx
  refine getmeth_ok I1 ea c hm l (callWith_K (first := [.ref a]) (h₀ := X.base) I.ok.mod.kin hm.kp (thn (ha.run pos pins s1 σ H1 _ I1 q) fun us s2 ⟨vs, H2, I2, r, q2⟩ => ⟨I2.kIn, ?_⟩) hst hpl)
  exact run_fnS (us := .ref a :: us) (vs := .ref a :: vs) G room bs (pass σ) I2 (.cons rfl r) q2
theorem pe_methAt0 (he : PE X o ta) (c : Cls X.K C) (hm : Meth X.K C m f) (G : FnOk X.prog X.w X.K X.mg X.base CX k f fd ps sp) (room : Room k X.A) (bs : Binds X.K fd ps []) (pass : ∀ σ, PassesAt CX X σ (E σ))
    (ht : eval (.Call (.Attribute o m apos) [] [] pos) X.env = (do let ov ← eval o X.env; standAt apos.atName; let (f, first) ← holding [ov] (getMethod ov m pl); callWith pos f first (backTo pos (starEach [] X.env)) (backToKw pos (keywordEach [] X.env)))) :
    PE X (.Call (.Attribute o m apos) [] [] pos) (tMethAt C m sp E ta tNil) := by
  refine ⟨fun pins s σ H Q I h => methodCall_KW (pl := pl) (thn (he.run pins s σ H _ I h) fun u s1 ⟨x, H1, I1, rx, a, dx, fs, ex, ea, l, q⟩ => ?_) ht⟩
  subst ex
  obtain rfl : u = Value.ref a := rx
  exact getmeth_ok I1 ea c hm l (callWith_K0 (first := [.ref a]) I1.kIn hm.kp (run_fnS (us := [.ref a]) (vs := [.ref a]) G room bs (pass σ) I1 (.cons rfl .nil) q))
end
section
variable {X : Cx} {W : WX} {e o : Expr} {es : List Expr} {pos apos : Pos} {x m : Str} {k j : Nat} {ps : List Str} {F : Fn} {fo : Fe} {f : Fa} {pl : Sem Bool}
theorem snd_meth {K : PySem.W.Frag} {C : Addr} {n : Nat} {ta : TE} {t : TA} (hC : ClsIs K x C) (so : SndE K W ta fo) (s : SndA K W t f) (hl : LenOk n f) : SndE K W (tMethAt C m (spD K (n + 1) F) (WE W) ta t) (fMeth x m F fo f) := fun env M σ w H w0 H0 Q I h => by
  refine so env M σ w H w0 H0 _ I (Post.bind h fun d M1 v w1 H1 x1 o1 r1 k1 => ?_)
  by_cases c : isA x m M1 d = true
  · rw [if_pos c] at k1
    obtain ⟨a, dx, fs, rfl, g1, g2⟩ := isA_at o1 hC r1 c
    refine ⟨a, dx, fs, rfl, g1, g2, s env M1 σ w1 H1 w0 H0 _ (I.step x1 o1) ?_⟩
    cases qf : f env M1 with
    | bad => rw [qf] at k1; exact k1.elim
    | ex c ns us M2 => rw [qf] at k1; exact k1
    | ok ds M2 =>
      rw [qf, R.bind_ok] at k1
      intro vs w2 H2 x2 o2 iss
      refine ⟨d :: ds, M2, w2, o2, .cons (r1.mono x2.more) iss, by rw [List.length_cons, hl env M1 ds M2 qf], ?_⟩
      have k2 := Post.shift (Ra := RlE K) x2 k1
      cases qF : F (d :: ds) M2 with
      | bad => rw [qF] at k2; exact k2.elim
      | ex c ns us M3 => rw [qF] at k2; exact k2
      | ok z M3 => rw [qF] at k2; exact k2
  · rw [if_neg c] at k1; exact k1.elim
theorem de_meth (h : HasM μ X.prog X.w X.K X.mg X.base x m k ps F) (hr : Room j X.A) (hk : k ≤ j) (tk : TakesM μ X W) (ho : DE X W o fo) (ha : DA X W (e :: es) f) {n : Nat} (hl : LenOk n f) (hn : ps.length = n + 1)
    (ht : eval (.Call (.Attribute o m apos) (e :: es) [] pos) X.env = (do let ov ← eval o X.env; standAt apos.atName; let (f, first) ← holding [ov] (getMethod ov m pl); callWith pos f first (backTo pos (starEach (e :: es) X.env)) (backToKw pos (keywordEach [] X.env))) := by rfl)
    (hst : starEach (e :: es) X.env = (false, eval e X.env) :: starEach es X.env := by rfl) (hpl : (backTo pos (starEach es X.env)).any (·.1) = false := by rfl) : DE X W (.Call (.Attribute o m apos) (e :: es) [] pos) (fMeth x m F fo f) := by
  obtain ⟨C, fi, fd, hC, hm, hb, G⟩ := h.ex
  obtain ⟨t, q, s⟩ := ha
  obtain ⟨to, qo, so⟩ := ho
  rw [hn] at G
  exact ⟨_, pe_methAt (pl := pl) qo hC.cl hm G (hr.mono hk) hb (fun σ => passAtM tk σ) q hst hpl ht, snd_meth hC so s hl⟩
theorem de_meth0 (h : HasM μ X.prog X.w X.K X.mg X.base x m k ps F) (hr : Room j X.A) (hk : k ≤ j) (tk : TakesM μ X W) (ho : DE X W o fo) (hn : ps.length = 1)
    (ht : eval (.Call (.Attribute o m apos) [] [] pos) X.env = (do let ov ← eval o X.env; standAt apos.atName; let (f, first) ← holding [ov] (getMethod ov m pl); callWith pos f first (backTo pos (starEach [] X.env)) (backToKw pos (keywordEach [] X.env))) := by rfl) : DE X W (.Call (.Attribute o m apos) [] [] pos) (fMeth x m F fo fNil) := by
  obtain ⟨C, fi, fd, hC, hm, hb, G⟩ := h.ex
  obtain ⟨to, qo, so⟩ := ho
  rw [hn] at G
  exact ⟨_, pe_methAt0 (pl := pl) qo hC.cl hm G (hr.mono hk) hb (fun σ => passAtM tk σ) ht, snd_meth hC so (fun env M σ w H w0 H0 Q I h => h [] w H (.refl _ _) I.ok .nil) len_nil⟩
end
end DL
namespace DL
open PySem L2 PySem.W PyProof.Rows
variable [Wld]
def NoX : XK := fun _ _ _ => False
section
variable {X : Cx} {k : Nat} {f C a : Addr} {fd : FuncData} {ps : List Str} {sp : Sp}
theorem run_quiet1 {pins : List (Addr × Obj)} {σ : L2.St} {H : Hp} {s : Shared} {Q : VK} {us : List Value} {vs : List V} {E' : Value → Shared → Prop} (G : FnOk X.prog X.w X.K X.mg X.base (CXm μ X.prog X.w) k f fd ps sp) (room : Room (k + 1) X.A) (bs : Binds X.K fd ps []) (I : Inv X pins σ H s) (rv : Vals vs us) (h : sp vs H Q NoX) :
    wpAny (model X.prog X.w) X.A.in1 (call (.ref f) us) (EP X pins σ Q) E' s := by
  have hl : us.length = ps.length := by rw [← rv.length]; exact G.len _ _ _ _ h
  have b := bs s us I.kIn (by rw [List.append_nil]; exact hl)
  rw [List.append_nil] at b
  refine wpAny_call (codeAny_mono (G.run X.A.in1 X.stack s H ⟨us, []⟩ us vs Q NoX room.in1 I.env0.in1 b rv h) fun r s' hq => ?_)
  cases r with
  | error e =>
    exact (cxm_no hq).elim
  | ok fl =>
    cases fl with
    | ret u => exact I.after hq
    | next => exact False.elim hq
    | brk => exact False.elim hq
    | cont => exact False.elim hq
end
def quiet (F : Fn) (ds : List D) : Sm D := fun M => (F ds M).nox
theorem quiet_sp {K : PySem.W.Frag} {w : Wd} {H : Hp} {M : Mem} {n : Nat} {F : Fn} {vs : List V} {ds : List D} {σ : L2.St} {W : WX} {Q : V → Hp → Prop} (o : Ok K w H M) (i : Iss K w vs ds) (hn : ds.length = n) (h : Post K (RlE K) w H σ W Q (quiet F ds M)) : spD K n F vs H Q NoX := by
  refine ⟨ds, M, w, o, i, hn, ?_⟩
  unfold quiet at h
  cases q : F ds M with
  | ok d M1 => rw [q] at h; exact h
  | ex c ns us M1 => rw [q] at h; exact h.elim
  | bad => rw [q] at h; exact h.elim
section
variable {X : Cx} {W : WX} {e : Expr} {pos p : Pos} {x : Str} {k j : Nat} {ps : List Str} {F : Fn} {fo : Fe}
def fLenM (x : Str) (F : Fn) (o : Fe) : Fe := fun env M => (o env M).bind fun d M1 => if isA x "__len__" M1 d = true then (quiet F [d] M1).bind fun z M2 => match z with
  | .int n => if 0 ≤ n ∧ n < 9223372036854775808 then .ok (.int n) M2 else .bad
  | _ => .bad
  else .bad
theorem de_lenM (h : HasM μ X.prog X.w X.K X.mg X.base x "__len__" k ps F) (hr : Room j X.A) (hk : k + 1 ≤ j) (hg : Gl X "len") (hm : X.mg "len" = none) (ho : DE X W e fo) (hn : ps.length = 1)
    (he : starEach [e] X.env = (false, eval e X.env) :: starEach [] X.env := by rfl) (hpl : (backTo pos (starEach [] X.env)).any (·.1) = false := by rfl) : DE X W (.Call (.Name "len" p) [e] [] pos) (fLenM x F fo) := by
  obtain ⟨C, fi, fd, hC, hM, hb, G⟩ := h.ex
  obtain ⟨to, qo, so⟩ := ho
  rw [hn] at G
  have rule : CallR X (.builtin "len") (fun xs H Q => ∃ a dx fs, xs = [V.ref a] ∧ H a = some (.ins C dx fs) ∧ fs.lookup ("__len__" : Str) = none ∧ spD X.K 1 F [V.ref a] H (fun v H' => ∃ n : Int, v = .int n ∧ 0 ≤ n ∧ n < 9223372036854775808 ∧ Q (.int n) H') NoX) := by
    intro pins s σ H xs us Q I r hh
    obtain ⟨a, dx, fs, rfl, ea, hl, hq⟩ := hh
    obtain ⟨u, rfl, ru⟩ := vals1 r
    obtain rfl : u = Value.ref a := ru
    obtain ⟨mA, O, _, _, _, _⟩ := ins_get I.hok ea
    obtain ⟨od, J, _⟩ := O.look
    obtain ⟨m, F0⟩ := I.fr
    refine len_K F0 I.ok.mod.kin J hM.at_ hM.fn (wpAny_mono (run_quiet1 (us := [.ref a]) (vs := [.ref a]) G (hr.mono hk) hb I (.cons rfl .nil) hq) (fun r s' hz => ?_) fun _ _ z => z)
    obtain ⟨v, H', J', rv, n, rfl, n0, n1, q⟩ := hz
    obtain ⟨t, rfl⟩ := rv
    exact ⟨⟨n0, n1⟩, .int n, H', J'.tok _, ⟨_, rfl⟩, q⟩
  refine ⟨_, pe_callB rule hg hm (by decide +kernel) (pa_cons qo pa_nil he) (by decide) (by decide) he hpl, fun env M σ w H w0 H0 Q I h1 => ?_⟩
  refine so env M σ w H w0 H0 _ I (Post.bind h1 fun d M1 v w1 H1 x1 o1 r1 k1 => ?_)
  by_cases c : isA x "__len__" M1 d = true
  · rw [if_pos c] at k1
    obtain ⟨a, dx, fs, rfl, g1, g2⟩ := isA_at o1 hC r1 c
    refine ⟨a, dx, fs, rfl, g1, g2, quiet_sp (σ := σ) (W := W) o1 (.cons r1 .nil) rfl ?_⟩
    refine Post.bind k1 fun z M2 u w2 H2 x2 o2 r2 k2 => ?_
    cases r2 with
    | int n =>
      by_cases hz : 0 ≤ n ∧ n < 9223372036854775808
      · simp only [if_pos hz] at k2
        exact ⟨n, rfl, hz.1, hz.2, k2 (.int n) w2 H2 (.refl _ _) o2 (.int n)⟩
      · simp only [if_neg hz] at k2; exact k2.elim
    | _ => exact k2.elim
  · rw [if_neg c] at k1; exact k1.elim
end
end DL
namespace DL
open PySem L2 PySem.W PyProof.Rows
variable [Wld]
section
variable {X : Cx} {k : Nat} {f C : Addr} {fd : FuncData} {ps : List Str} {sp : Sp} {m : Str}
end
section
variable {X : Cx} {W : WX} {e1 e2 : Expr} {pos : Pos} {r : R2} {g : D → D → Sm D} {fa fb : Fe}
end
end DL
namespace DL
open PySem L2 PySem.W PyProof.Rows
variable [Wld]
structure SMet (K : PySem.W.Frag) (C : Addr) (mc : Value) (m : Str) (p g : Addr) : Prop where
  at_ : PySem.W.findCls K (.ref C) mc m = some (.get (.builtin "staticmethod.__get__") (.ref p) .none (.ref C))
  rc : ∃ rest, PySem.W.recIn K p "staticmethod" = some (.ref g :: rest)
  kp : PySem.W.keepIn K (.ref g) = true
section
variable {X : Cx} {pins : List (Addr × Obj)} {σ : L2.St} {H : Hp} {s : Shared} {C p g : Addr} {mc : Value} {m : Str} {A : Around} {E : Value → Shared → Prop} {pl : Sem Bool}
theorem static_ok {Q : Value × List Value → Shared → Prop} (I : Inv X pins σ H s) (r : ClX.CRead X.K C mc) (k : SMet X.K C mc m p g) (h : ∀ s', Inv X pins σ H s' → Q (.ref g, []) s') : wpAny (model X.prog X.w) A (getMethod (.ref C) m pl) Q E s := by
  obtain ⟨rest, hp⟩ := k.rc
  refine PySem.W.method_cls I.kIn r.ga (PySem.W.cls_bind I.kIn r.rd k.at_ ?_)
  exact wpAny_call (PySem.W.sm_get (s := { s with toks := s.toks + 1 }) I.kIn hp (PySem.W.handed_on rfl (h _ (I.tok _))))
end
theorem code_fnS {X : Cx} {CX : CXT} {k : Nat} {f : Addr} {fd : FuncData} {ps : List Str} {sp : Sp} {pins : List (Addr × Obj)} {σ : L2.St} {H : Hp} {s : Shared} {Q : VK} {us : List Value} {vs : List V} {E : XK} (G : FnOk X.prog X.w X.K X.mg X.base CX k f fd ps sp) (room : Room k X.A) (bs : Binds X.K fd ps [])
    (pass : PassesAt CX X σ E) (I : Inv X pins σ H s) (rv : Vals vs us) (h : sp vs H Q E) :
    codeAny (model X.prog X.w) X.A (.call (.ref f) ⟨us, []⟩) (fun r s' => match r with | .ok (.ret v) => EP X pins σ Q v s' | .ok _ => False | .error e => X.xe e s') s := by
  have hl : us.length = ps.length := by rw [← rv.length]; exact G.len _ _ _ _ h
  have b := bs s us I.kIn (by rw [List.append_nil]; exact hl)
  rw [List.append_nil] at b
  refine codeAny_mono (G.run X.A X.stack s H ⟨us, []⟩ us vs Q E room I.env0 b rv h) fun r s' hq => ?_
  cases r with
  | error e => exact pass pins H s e s' I hq
  | ok fl =>
    cases fl with
    | ret u => exact I.after hq
    | next => exact False.elim hq
    | brk => exact False.elim hq
    | cont => exact False.elim hq
def tStatic (C : Addr) (sp : Sp) (E : L2.St → XK) (ta : TE) (t : TA) : TE := fun σ H Q => ta σ H fun x H1 => x = .ref C ∧ t σ H1 fun vs H2 => sp vs H2 Q (E σ)
section
variable {X : Cx} {CX : CXT} {k : Nat} {f C p : Addr} {mc : Value} {fd : FuncData} {ps : List Str} {sp : Sp} {m : Str} {pos apos : Pos} {e o : Expr} {es : List Expr} {ta : TE} {t : TA} {E : L2.St → XK} {pl : Sem Bool}
theorem pe_static (he : PE X o ta) (r : ClX.CRead X.K C mc) (c : SMet X.K C mc m p f) (G : FnOk X.prog X.w X.K X.mg X.base CX k f fd ps sp) (room : Room k X.A) (bs : Binds X.K fd ps []) (pass : ∀ σ, PassesAt CX X σ (E σ)) (ha : PA X (e :: es) t)
    (hst : starEach (e :: es) X.env = (false, eval e X.env) :: starEach es X.env) (hpl : (backTo pos (starEach es X.env)).any (·.1) = false)
    (ht : eval (.Call (.Attribute o m apos) (e :: es) [] pos) X.env = (do let ov ← eval o X.env; standAt apos.atName; let (f, first) ← holding [ov] (getMethod ov m pl); callWith pos f first (backTo pos (starEach (e :: es) X.env)) (backToKw pos (keywordEach [] X.env)))) :
    PE X (.Call (.Attribute o m apos) (e :: es) [] pos) (tStatic C sp E ta t) := by
  refine ⟨fun pins s σ H Q I h => methodCall_KW (pl := pl) (thn (he.run pins s σ H _ I h) fun u s1 ⟨x, H1, I1, rx, ex, q⟩ => ?_) ht⟩
  subst ex
  obtain rfl : u = Value.ref C := rx
  refine static_ok I1 r c fun s2 I2 => ?_
  exact callWith_K (first := []) (h₀ := X.base) I.ok.mod.kin c.kp (thn (ha.run pos pins s2 σ H1 _ I2 q) fun us s3 ⟨vs, H2, I3, r3, q2⟩ => ⟨I3.kIn, run_fnS (us := us) (vs := vs) G room bs (pass σ) I3 r3 q2⟩) hst hpl
theorem pe_class (he : PE X o ta) (r : ClX.CRead X.K C mc) (c : ClX.CMet X.K C mc m p f) (G : FnOk X.prog X.w X.K X.mg X.base CX k f fd ps sp) (room : Room k X.A) (bs : Binds X.K fd ps []) (pass : ∀ σ, PassesAt CX X σ (E σ)) (ha : PA X (e :: es) t)
    (hst : starEach (e :: es) X.env = (false, eval e X.env) :: starEach es X.env) (hpl : (backTo pos (starEach es X.env)).any (·.1) = false)
    (ht : eval (.Call (.Attribute o m apos) (e :: es) [] pos) X.env = (do let ov ← eval o X.env; standAt apos.atName; let (f, first) ← holding [ov] (getMethod ov m pl); callWith pos f first (backTo pos (starEach (e :: es) X.env)) (backToKw pos (keywordEach [] X.env)))) :
    PE X (.Call (.Attribute o m apos) (e :: es) [] pos) (tStatic C (fun vs => sp (.ref C :: vs)) E ta t) := by
  refine ⟨fun pins s σ H Q I h => methodCall_KW (pl := pl) (thn (he.run pins s σ H _ I h) fun u s1 ⟨x, H1, I1, rx, ex, q⟩ => ?_) ht⟩
  subst ex
  obtain rfl : u = Value.ref C := rx
  refine ClX.getmethcm_ok I1 r c fun s2 I2 => ?_
  refine ClX.callwith_cm I2 (ClX.base_none I1 (Nat.le_refl _)) c.fi (thn (ha.run pos _ s2 σ H1 _ I2 q) fun us s3 ⟨vs, H2, I3, rv, q2⟩ => ⟨⟨ClX.pin_at I3, I3.kIn⟩, ?_⟩) hst hpl
  have z : wpAny (model X.prog X.w) X.A (call (.ref s1.heap.objs.size) us) (EP X ((s1.heap.objs.size, PySem.W.methodObj (.ref f) (.ref C)) :: pins) σ Q) X.xe s3 :=
    wpAny_call (PySem.W.method_call (ClX.pin_at I3) (code_fnS (us := .ref C :: us) (vs := .ref C :: vs) G room bs (pass σ) I3 (.cons rfl rv) q2))
  exact thn z fun _ _ y => ClX.unpinE y
end
def spDC (K : PySem.W.Frag) (n : Nat) (F : Fn) : Sp := fun vs H Q E => ∃ a us ds M w, vs = V.ref a :: us ∧ Ok K w H M ∧ Iss K w us ds ∧ ds.length = n ∧ Post K (RlE K) w H [] (fun c d _ H' => E c d H') Q (F ds M)
structure HasS (μ : Bool) (P : Program) (w : World) (K : PySem.W.Frag) (mg : Str → Option Value) (base : Heap) (x m : Str) (k n : Nat) (F : Fn) : Prop where
  ex : ∃ (C : Addr) (mc : Value) (p f : Addr) (fd : FuncData) (ps : List Str), mg x = some (.ref C) ∧ ClX.CRead K C mc ∧ Binds K fd ps [] ∧ ((SMet K C mc m p f ∧ FnOk P w K mg base (CXm μ P w) k f fd ps (spD K n F)) ∨ (ClX.CMet K C mc m p f ∧ FnOk P w K mg base (CXm μ P w) k f fd ps (spDC K n F)))
section
variable {X : Cx} {W : WX} {e : Expr} {es : List Expr} {pos apos np : Pos} {x m : Str} {k j n : Nat} {F : Fn} {f : Fa} {pl : Sem Bool}
theorem snd_static {K : PySem.W.Frag} {C : Addr} {t : TA} {sp : Sp} (s : SndA K W t f) (hl : LenOk n f) (hsp : ∀ vs H Q E ds M w, Ok K w H M → Iss K w vs ds → ds.length = n → Post K (RlE K) w H [] (fun c d _ H' => E c d H') Q (F ds M) → sp vs H Q E) :
    SndE K W (tStatic C sp (WE W) (fun _ H Q => Q (.ref C) H) t) (fCall F [] f) := fun env M σ w H w0 H0 Q I h => by
  refine ⟨rfl, s env M σ w H w0 H0 _ I ?_⟩
  unfold fCall at h
  cases q : f env M with
  | bad => rw [q] at h; exact h.elim
  | ex c ns us M1 => rw [q] at h; exact h
  | ok ds M1 =>
    rw [q, R.bind_ok, List.append_nil] at h
    intro vs w1 H1 x1 o1 iss
    refine hsp vs H1 Q _ ds M1 w1 o1 iss (hl env M ds M1 q) ?_
    have k1 := Post.shift (Ra := RlE K) x1 h
    cases qF : F ds M1 with
    | ok d M2 => rw [qF] at k1; exact k1
    | ex c ns us M2 => rw [qF] at k1; exact k1
    | bad => rw [qF] at k1; exact k1.elim
theorem de_static (h : HasS μ X.prog X.w X.K X.mg X.base x m k n F) (hr : Room j X.A) (hk : k ≤ j) (tk : TakesM μ X W) (hg : Gl X x) (ha : DA X W (e :: es) f) (hl : LenOk n f) (hdb : (x == ("__debug__" : Str)) = false := by decide)
    (ht : eval (.Call (.Attribute (.Name x np) m apos) (e :: es) [] pos) X.env = (do let ov ← eval (.Name x np) X.env; standAt apos.atName; let (f, first) ← holding [ov] (getMethod ov m pl); callWith pos f first (backTo pos (starEach (e :: es) X.env)) (backToKw pos (keywordEach [] X.env))) := by rfl)
    (hst : starEach (e :: es) X.env = (false, eval e X.env) :: starEach es X.env := by rfl) (hpl : (backTo pos (starEach es X.env)).any (·.1) = false := by rfl) : DE X W (.Call (.Attribute (.Name x np) m apos) (e :: es) [] pos) (fCall F [] f) := by
  obtain ⟨C, mc, p, fi, fd, ps, hm, hc, hb, h2⟩ := h.ex
  obtain ⟨t, q, s⟩ := ha
  have po : PE X (.Name x np) (fun _ H Q => Q (.ref C) H) := pe_glob (v := .ref C) hg hm rfl hdb
  rcases h2 with ⟨sm, G⟩ | ⟨cm, G⟩
  · exact ⟨_, pe_static (pl := pl) po hc sm G (hr.mono hk) hb (fun σ => passAtM tk σ) q hst hpl ht, snd_static s hl fun vs H Q E ds M w o i hn hp => ⟨ds, M, w, o, i, hn, hp⟩⟩
  · exact ⟨_, pe_class (pl := pl) po hc cm G (hr.mono hk) hb (fun σ => passAtM tk σ) q hst hpl ht, snd_static s hl fun vs H Q E ds M w o i hn hp => ⟨C, vs, ds, M, w, rfl, o, i, hn, hp⟩⟩
end
end DL
namespace DL
open PySem L2 PySem.W PyProof.Rows
variable [Wld]
def signsD (x : Str) : List D := x.cps.toList.map fun c => .str ⟨#[c]⟩
theorem itok_text {K : PySem.W.Frag} {w : Wd} {x : Str} : ItOk K (Its x) w (signsD x) := by
  have hl : (signsD x).length = x.cps.size := by simp [signsD]
  refine ⟨fun i H hi hg => ?_, fun i H hi hg => ?_, fun i H v H' d hd y w1 M m o => ?_⟩
  · rw [hl] at hi; exact hi
  · rw [hl] at hi; exact hi
  · obtain ⟨rfl, c, hc, rfl⟩ := y
    have e : d = .str ⟨#[c]⟩ := by
      unfold signsD at hd
      rw [List.getElem?_map, Array.getElem?_toList, hc] at hd
      exact (Option.some.inj hd).symm
    rw [e]
    exact ⟨w1, .refl _ _, o, .str _⟩
def iText (a : Fe) : Fa := fun env M => (a env M).bind fun d M1 => match d with
  | .str x => .ok (signsD x) M1
  | _ => .bad
section
variable {X : Cx} {W : WX} {e tg : Expr}
theorem di_text {a : Fe} (h : DE X W e a) : DI X W tg e (iText a) := by
  obtain ⟨t, p, s⟩ := h
  refine ⟨_, pi_str p, fun env M σ w H w0 H0 Q I h => ?_⟩
  refine s env M σ w H w0 H0 _ I (Post.bind h fun d M1 v w1 H1 x1 o1 r1 k1 => ?_)
  cases r1 with
  | str x => exact ⟨x, rfl, k1 _ w1 H1 (.refl _ _) o1 itok_text⟩
  | _ => exact k1.elim
end
end DL
namespace DL
open PySem
variable [Wld]
abbrev enumO (a : Addr) : Obj := { cls := .type "enumerate", data := .fields #[.none, .bool false, .ref a, rawInt 0, .none, .none] }
theorem enum_made {v : Value} {o : Obj} {H : Heap → Prop} (B : Begins v o H) :
    Meets (Builtin.«enumerate.__new__» ⟨[.type "enumerate", v], []⟩) (fun _ R s => H s.heap ∧ R (.ok (.ret (.ref (s.heap.push o).objs.size))) { s with heap := (s.heap.push o).push (enumO s.heap.objs.size) }) :=
  .of_wp fun prog w A R s h => by
    obtain ⟨hp, g, d, tk, os⟩ := s
    obtain ⟨h1, h⟩ := h
    have hsub := sub_enumerate
    have it : ∀ {A' : Around} {E Q : Value → Shared → Prop}, Q (.ref hp.objs.size) ⟨hp.push o, g, d, tk, os⟩ → wpAny (model prog w) A' (pyIter v) Q E ⟨hp, g, d, tk, os⟩ := fun q => B.iter prog w _ _ ⟨hp, g, d, tk, os⟩ _ h1 q
    wp_walk using it
    refine wpAny_stack_any fun st => wpAny_pure ?_
    split
    · rename_i c _ _ _ _ _
      cases (c == Value.type "enumerate") <;> (wp_walk using it; exact ⟨_, rfl, h⟩)
    · wp_walk using it
      exact ⟨_, rfl, h⟩
theorem enum_called {prog : Program} {w : World} {A : Around} {E : Value → Shared → Prop} {s : Shared} {v : Value} {o : Obj} {H : Heap → Prop} {Q : Value → Shared → Prop} (B : Begins v o H) (h1 : H s.heap)
    (h : ∀ h', IsEnum h' (s.heap.objs.size + 1) s.heap.objs.size 0 .none → h'.get? s.heap.objs.size = some o → (∀ b u, s.heap.get? b = some u → h'.get? b = some u) → Q (.ref (s.heap.objs.size + 1)) { s with heap := h' }) :
    wpAny (model prog w) A (call (.type "enumerate") [v]) Q E s := by
  refine callType_new F.called_enumerate (by decide) (F.typeCall_enumerate_1 _) (F.newCall_enumerate_1 _) (fun obj => F.args_object_init_2 obj _) F.entry_enumerate_new (enum_made B) ⟨h1, ?_⟩
  have hz : (s.heap.push o).objs.size = s.heap.objs.size + 1 := Heap.size_push ..
  have he : IsEnum ((s.heap.push o).push (enumO s.heap.objs.size)) (s.heap.objs.size + 1) s.heap.objs.size 0 .none := by
    have := Heap.get?_push_size (s.heap.push o) (o := enumO s.heap.objs.size) rfl
    rw [hz] at this
    exact this
  show _ ∧ _
  rw [hz]
  exact ⟨⟨_, he, rfl⟩, h _ he (Heap.get?_push_of_some _ (Heap.get?_push_size _ B.free)) fun b u x => Heap.get?_push_of_some _ (Heap.get?_push_of_some _ x)⟩
end DL
namespace DL
open PySem L2 PySem.W PyProof.Rows
variable [Wld]
def Inum (K : PySem.W.Frag) (a : Addr) (vs : List V) : It :=
  ⟨fun i H => SqT K H a vs ∧ i < vs.length, fun i H v H' => ∃ T x, v = .ref T ∧ H T = none ∧ H' = upd H T (.tup [.int (i : Nat), x]) ∧ vs[i]? = some x, fun i H => SqT K H a vs ∧ vs.length ≤ i⟩
theorem turn_num {P : Program} {w : World} {K : PySem.W.Frag} {elts : List Expr} {kk : Nat} {tpos : Pos} {vs : List V} (a e it : Addr) (ha : a ≠ it) (he0 : e ≠ a) :
    Turn P w K (.Tuple elts kk tpos) (Inum K a vs) [e, it] e (fun i h => (∃ old, IsEnum h e it ((i : Nat) : Int) old) ∧ h.IsTupleIter it a i ∧ e ≠ it ∧ i ≤ vs.length) where
  mem := by simp
  obj := fun i h st b hb => by
    obtain ⟨⟨old, he⟩, ⟨o, ho, hc, hd⟩, _, _⟩ := st
    rcases (show b = e ∨ b = it by simpa using hb) with rfl | rfl
    · exact ⟨_, he, fun v q => nomatch q⟩
    · exact ⟨o, ho, fun v q => by rw [hd] at q; cases q⟩
  keep := fun i h h' st k => let ⟨⟨old, he⟩, hi, hne, hl⟩ := st; ⟨⟨old, k e (by simp) _ he⟩, hi.at fun o q => k it (by simp) o q, hne, hl⟩
  item := by
    intro X hP hw hK hc i pins s σ H E I hf st hg
    subst hP hw hK
    obtain ⟨⟨old, he⟩, hit, hne, hmost⟩ := st
    obtain ⟨hq, hlt⟩ := hg
    obtain ⟨its, rv, p, hz⟩ := I.tuple hq
    obtain ⟨x, hx⟩ : ∃ x, vs[i]? = some x := ⟨vs[i], List.getElem?_eq_getElem hlt⟩
    obtain ⟨u, hu, ru⟩ := rv.get hx
    have hel : e < s.heap.objs.size := Heap.lt_size he
    have hil : it < s.heap.objs.size := by obtain ⟨_, q, _⟩ := hit; exact Heap.lt_size q
    have hn : i < its.toArray.size := by rw [List.size_toArray, ← rv.length]; exact hlt
    have D := Draws.tuple (prog := X.prog) (w := X.w) (A := X.A.in1) (by exact I.ok.hd hc) it a ha its.toArray
    refine wpAny_pyNext_enum_itemC D he ⟨hit, p⟩ hn hne (by simp [hne, he0]) fun y h' tk hy ho hst hT hsz hk => ?_
    have ey : y = u := by
      have hy : its.toArray[i]? = some y := hy
      rw [List.getElem?_toArray, hu] at hy
      exact (Option.some.inj hy).symm
    subst ey
    refine ⟨_, rfl, wpAny_letOwnedTupleGo_enum (s := { s with heap := h', toks := tk + 1 }) ho fun h'' he' sb => ?_⟩
    have hT2 : h''.get? s.heap.objs.size = some { cls := .type "tuple", data := .seq #[.int i tk, y] } := (sb.2 _ (Nat.ne_of_gt hel)).trans hT
    have new : ObjOk X.prog X.w (upd H s.heap.objs.size (.tup [.int (i : Nat), x])) h'' s.heap.objs.size (.tup [.int (i : Nat), x]) :=
      ⟨by show 2 ≤ sizeLine; decide, [.int i tk, y], .cons ⟨_, rfl⟩ (.cons ru .nil), ⟨_, hT2, rfl, _, rfl⟩⟩
    have J : Inv X pins σ (upd H s.heap.objs.size (.tup [.int (i : Nat), x])) { s with heap := h'', toks := tk + 1 } :=
      I.turnedNew (ch := [e, it]) (fun b ob hb q => (sb.2 b (fun z => hb (by simp [z]))).trans (hk b ob (fun z => hb (by simp [z])) (fun z => hb (by simp [z])) q)) hf (Nat.le_refl _) new
    refine ⟨.ref s.heap.objs.size, _, J, rfl, ⟨_, x, rfl, I.hok.fresh (Nat.le_refl _), rfl, hx⟩, ⟨⟨y, ?_⟩, hst.1.at fun o q => (sb.2 it (Ne.symm hne)).trans q, hne, hlt⟩, fun b hb => ?_⟩
    · have e1 : ((i + 1 : Nat) : Int) = (i : Int) + 1 := by omega
      rw [e1]
      exact he'
    · have hb' : b < s.heap.objs.size := by
        rcases (show b = e ∨ b = it by simpa using hb) with rfl | rfl
        · exact hel
        · exact hil
      rw [upd_ne (Nat.ne_of_lt hb')]
      exact (hf b hb).1
  done := by
    intro X hP hw hK hc i pins s σ H E I hf st hg
    subst hP hw hK
    obtain ⟨⟨old, he⟩, hit, hne, hmost⟩ := st
    obtain ⟨hq, hle⟩ := hg
    obtain ⟨its, rv, p, hz⟩ := I.tuple hq
    obtain ⟨f0, f1, f2, f3, f4, f5⟩ := hf it (by simp)
    have e0 : i = its.toArray.size := by rw [List.size_toArray, ← rv.length]; omega
    have D := Draws.tuple (prog := X.prog) (w := X.w) (A := X.A.in1) (by exact I.ok.hd hc) it a ha its.toArray
    rw [← e0] at D
    exact wpAny_pyNext_enum_endD D he ⟨hit, p⟩ fun h' eb => ⟨rfl, I.turned (t' := s.toks) (fun b o hb q => eb b o hb q) f0 f1 f3 f4 f5⟩
  self := fun A i s Q E st h => let ⟨⟨_, he⟩, _⟩ := st; wpAny_pyIter_enum he h
def iNum (K : PySem.W.Frag) (ta : TA) : TI := fun σ H R => ta σ H fun us H1 => ∃ a vs, us = [.ref a] ∧ SqT K H1 a vs ∧ R (Inum K a vs) H1
theorem pi_num {X : Cx} {e : Expr} {ta : TA} {p pos tpos : Pos} {elts : List Expr} {kk : Nat} (hg : Gl X "enumerate") (hm : X.mg "enumerate" = none) (ha : PA X [e] ta) (hs : starEach [e] X.env = [(false, eval e X.env)]) :
    PI X (.Tuple elts kk tpos) (.Call (.Name "enumerate" p) [e] [] pos) (iNum X.K ta) := by
  refine ⟨fun pins s σ H R I h => Call_ (ld_blt I hg hm boot_enumerate (callWith_type1 (thn (ha.run pos pins s σ H _ I h) fun us s1 ⟨ws, H1, I1, r1, q1⟩ => ?_) hs rfl))⟩
  obtain ⟨a, vs, rfl, hq, q⟩ := q1
  cases r1 with
  | cons r rr =>
    cases rr
    cases r
    obtain ⟨its, rv, p', hz⟩ := I1.tuple hq
    have alt : a < s1.heap.objs.size := by obtain ⟨o, ho, _⟩ := p'; exact Heap.lt_size ho
    refine enum_called (begins_tuple a its.toArray) p' fun h' he hit hk => wpAny_pyIter_enum he ?_
    have I2 : Inv X pins σ H1 { s1 with heap := h' } := I1.kept (t' := s1.toks) hk
    refine ⟨s1.heap.objs.size + 1, [s1.heap.objs.size + 1, s1.heap.objs.size], _, _, H1, rfl, I2, turn_num a (s1.heap.objs.size + 1) s1.heap.objs.size (Nat.ne_of_lt alt) (Nat.ne_of_gt (Nat.lt_succ_of_lt alt)), ⟨⟨.none, he⟩, ⟨_, hit, rfl, rfl⟩, Nat.succ_ne_self _, Nat.zero_le _⟩, fun b hb => ?_, q⟩
    have hle : s1.heap.objs.size ≤ b := by
      rcases (show b = s1.heap.objs.size + 1 ∨ b = s1.heap.objs.size by simpa using hb) with rfl | rfl
      · exact Nat.le_add_right _ _
      · exact Nat.le_refl _
    exact I1.fpOk hle (I1.hok.fresh hle)
def numD : Nat → List D → List D
  | _, [] => []
  | i, d :: ds => .tup [.int i, d] :: numD (i + 1) ds
theorem numD_len : ∀ (i : Nat) (ds : List D), (numD i ds).length = ds.length
  | _, [] => rfl
  | i, d :: ds => by rw [numD, List.length_cons, List.length_cons, numD_len (i + 1) ds]
theorem numD_at : ∀ (k i : Nat) (ds : List D) (z : D), (numD k ds)[i]? = some z → ∃ d, ds[i]? = some d ∧ z = .tup [.int ((k + i : Nat) : Int), d]
  | _, _, [], z, h => by simp [numD] at h
  | k, 0, d :: ds, z, h => by
    rw [numD] at h
    cases h
    exact ⟨d, rfl, rfl⟩
  | k, i + 1, d :: ds, z, h => by
    rw [numD] at h
    obtain ⟨d', h1, h2⟩ := numD_at (k + 1) i ds z (by simpa using h)
    exact ⟨d', by simpa using h1, by rw [h2, show k + 1 + i = k + (i + 1) by omega]⟩
theorem itok_num {K : PySem.W.Frag} {w : Wd} {a : Addr} {vs : List V} {ds : List D} (h : SqT K w.g a vs) (hs : Iss K w vs ds) : ItOk K (Inum K a vs) w (numD 0 ds) := by
  refine ⟨fun i H hi hg => ⟨sqt_mono hg h, by rw [hs.length, ← numD_len 0 ds]; exact hi⟩, fun i H hi hg => ⟨sqt_mono hg h, by rw [hs.length, ← numD_len 0 ds]; exact hi⟩, fun i H v H' d hd y w1 M m o => ?_⟩
  obtain ⟨T, x, rfl, hT, rfl, hx⟩ := y
  obtain ⟨d', h1, rfl⟩ := numD_at 0 i ds d hd
  obtain ⟨u, hu, iu⟩ := hs.get h1
  rw [hx] at hu
  cases hu
  obtain ⟨o2, x2⟩ := o.fix (o := .tup [.int (i : Nat), x]) hT
  refine ⟨_, x2, o2, ?_⟩
  rw [Nat.zero_add]
  exact .tup (.inl upd_same) (.cons (.int _) (.cons ((iu.mono m).mono x2.more) .nil))
def iNumD (a : Fa) : Fa := fun env M => (a env M).bind fun ds M1 => match ds with
  | [.tup xs] => .ok (numD 0 xs) M1
  | _ => .bad
theorem di_num {X : Cx} {W : WX} {e : Expr} {f : Fa} {p pos tpos : Pos} {elts : List Expr} {kk : Nat} (hg : Gl X "enumerate") (hm : X.mg "enumerate" = none) (ha : DA X W [e] f) (hs : starEach [e] X.env = [(false, eval e X.env)] := by rfl) :
    DI X W (.Tuple elts kk tpos) (.Call (.Name "enumerate" p) [e] [] pos) (iNumD f) := by
  obtain ⟨t, q, s⟩ := ha
  refine ⟨_, pi_num hg hm q hs, fun env M σ w H w0 H0 Q I h => ?_⟩
  refine s env M σ w H w0 H0 _ I (Post.bind h fun ds M1 vs w1 H1 x1 o1 r1 k1 => ?_)
  match ds, r1, k1 with
  | [.tup xs], .cons (.tup h1 h2) .nil, k1 => exact ⟨_, _, rfl, sqt_mono o1.g h1.sq, k1 _ w1 H1 (.refl _ _) o1 (itok_num h1.sq h2)⟩
end DL
namespace DL
open PySem L2 PySem.W PyProof.Rows
variable [Wld]
def MetAt (K : PySem.W.Frag) (x m qual : Str) (st : Stmt) (ps : List Str) : Prop := ∃ C f fd, ClsIs K x C ∧ Meth K C m f ∧ Fun K m qual st f fd ∧ Binds K fd ps []
def IniAt (K : PySem.W.Frag) (mg : Str → Option Value) (x qual : Str) (st : Stmt) (ps : List Str) : Prop := ∃ C f fd, ClsIs K x C ∧ mg x = some (.ref C) ∧ Mk K C f ∧ Fun K "__init__" qual st f fd ∧ Binds K fd (("self" : Str) :: ps) []
def StaAt (K : PySem.W.Frag) (mg : Str → Option Value) (x m qual : Str) (st : Stmt) (ps : List Str) : Prop := ∃ (C : Addr) (mc : Value) (p f : Addr) (fd : FuncData), mg x = some (.ref C) ∧ ClX.CRead K C mc ∧ SMet K C mc m p f ∧ Fun K m qual st f fd ∧ Binds K fd ps []
section
variable {P : Program} {w : World} {K : PySem.W.Frag} {mg : Str → Option Value} {base : Heap} {x m qual : Str} {st : Stmt} {N ps : List Str} {k n : Nat} {f : Fs}
theorem hasM_of (h : MetAt K x m qual st ps) (S : FnScope N ps (L2.defScope st)) (hm : N.length = n)
    (hb : ∀ (fa : Addr) (cdv : Value) (A : Around) (outer : List PySem.Env) (s : Shared) (H : Hp) (E : XK), Room k (A.deeper (envOfC qual (L2.defScope st) s.heap.objs.size fa cdv)) →
      DSs (cxOf (CXm μ P w) P w K mg base N qual (L2.defScope st) fa cdv A outer s H E) (fun c d _ H' => E c d H') (L2.defBody st) f) : HasM μ P w K mg base x m (k + 1) ps (bodyF f n) := by
  obtain ⟨C, fi, fd, h1, h2, h3, h4⟩ := h
  exact ⟨C, fi, fd, h1, h2, h4, fn_D h3 S rfl hm fun cdv A outer s H E hr => hb fi cdv A outer s H E hr⟩
theorem hasC_of (h : IniAt K mg x qual st ps) (S : FnScope N (("self" : Str) :: ps) (L2.defScope st)) (hm : N.length = n)
    (hb : ∀ (fa : Addr) (cdv : Value) (A : Around) (outer : List PySem.Env) (s : Shared) (H : Hp) (E : XK), Room k (A.deeper (envOfC qual (L2.defScope st) s.heap.objs.size fa cdv)) →
      DSs (cxOf (CXm μ P w) P w K mg base N qual (L2.defScope st) fa cdv A outer s H E) (fun c d _ H' => E c d H') (L2.defBody st) f) : HasC μ P w K mg base x st (k + 1) ps (bodyF f n) := by
  obtain ⟨C, fi, fd, h1, h2, h3, h4, h5⟩ := h
  exact ⟨C, fi, fd, h1, h2, h3, h5, fn_D h4 S rfl hm fun cdv A outer s H E hr => hb fi cdv A outer s H E hr⟩
theorem hasS_of (h : StaAt K mg x m qual st ps) (S : FnScope N ps (L2.defScope st)) (hm : N.length = n)
    (hb : ∀ (fa : Addr) (cdv : Value) (A : Around) (outer : List PySem.Env) (s : Shared) (H : Hp) (E : XK), Room k (A.deeper (envOfC qual (L2.defScope st) s.heap.objs.size fa cdv)) →
      DSs (cxOf (CXm μ P w) P w K mg base N qual (L2.defScope st) fa cdv A outer s H E) (fun c d _ H' => E c d H') (L2.defBody st) f) : HasS μ P w K mg base x m (k + 1) ps.length (bodyF f n) := by
  obtain ⟨C, mc, p, fi, fd, h1, h2, h3, h4, h5⟩ := h
  exact ⟨C, mc, p, fi, fd, ps, h1, h2, h5, .inl ⟨h3, fn_D h4 S rfl hm fun cdv A outer s H E hr => hb fi cdv A outer s H E hr⟩⟩
end
end DL
namespace DL
open PySem L2 PySem.W PyProof.Rows
variable [Wld]
structure Mine (X : Cx) (pins : List (Addr × Obj)) (b : Addr) : Prop where
  ge : X.s_0.heap.objs.size ≤ b
  loc : b ≠ X.env.locals
  cell : ∀ x c, X.env.cells.lookup x = some c → c ≠ b
  pin : ∀ p ∈ X.pn ++ pins, p.1 ≠ b
section
variable {X : Cx} {pins : List (Addr × Obj)} {σ : L2.St} {H : Hp} {s : Shared} {b : Addr}
theorem Mine.frs (m : Mine X pins b) (I : Inv X pins σ H s) : b ∉ frs X.stack := fun hb => by
  rcases List.mem_cons.mp (I.stkSub b hb) with e | hb
  · exact m.loc e
  · obtain ⟨_, o, ho, _⟩ := I.ok.funs.mem hb
    exact absurd (Nat.lt_of_lt_of_le (Heap.lt_size ho) m.ge) (Nat.lt_irrefl _)
theorem Mine.turned {h' : Heap} {t' : Nat} (m : Mine X pins b) (I : Inv X pins σ H s) (hn : H b = none) (k : ∀ c o, c ≠ b → s.heap.get? c = some o → h'.get? c = some o) : Inv X pins σ H { s with heap := h', toks := t' } :=
  I.turned k hn m.loc (.inr m.ge) m.cell m.pin
theorem Mine.told {o : HO} (m : Mine X pins b) (I : Inv X pins σ H s) (hn : H b = none) (new : ObjOk X.prog X.w (upd H b o) s.heap b o) : Inv X pins σ (upd H b o) s := by
  have ne : ∀ c u, H c = some u → c ≠ b := fun c u q z => by rw [z, hn] at q; cases q
  have z := I.call (H' := upd H b o) (h' := s.heap) (g' := s.gens) (d' := s.drawn) (t' := s.toks) (ch := [b]) ⟨fun c u e _ _ _ => e, fun c u e _ _ _ => ⟨_, e⟩, fun c u e n hc => by rw [upd_ne (fun q => hc (by simp [q]))]; exact n, fun c u e _ => ⟨_, e⟩,
    fun c xs e => by rw [upd_ne (ne c _ e)]; exact e, fun c o' u e => by rw [upd_ne (ne c _ e)]; exact e, fun c ps e => ⟨#[], by rw [upd_ne (ne c _ e)]; simpa using e⟩⟩ (fun c u e => ?_) I.bare (fun c hc => ?_)
  · exact z
  · by_cases hc : c = b
    · subst hc; rw [upd_same] at e; cases e; exact new
    · rw [upd_ne hc] at e
      exact (I.hok c u e).stay (fun c v _ q => q) (fun c q => by rw [upd_ne (ne c _ q)]; exact q) fun c xs q => by rw [upd_ne (ne c _ q)]; exact q
  · have e : c = b := by simpa using hc
    subst e
    exact ⟨.inr m.ge, m.loc, m.cell, m.pin⟩
end
section
variable {X : Cx} {pins : List (Addr × Obj)} {σ : L2.St} {H : Hp} {s : Shared} {k : Nat} {f a kS : Addr} {fd : FuncData} {ps : List Str} {F : Fn}
end
section
variable {X : Cx} {W : WX} {e : Expr} {pos p p2 kpos : Pos} {x : Str} {st : Stmt} {k j : Nat} {ps : List Str} {F : Fn} {fa : Fe}
end
end DL
namespace DL
open PySem L2 PySem.W PyProof.Rows
variable [Wld]
structure KTab (K : PySem.W.Frag) (w : World) (mg : Str → Option Value) (x : Str) (tbl : List (Str × D)) : Prop where
  ex : ∃ p es n, mg x = some (.ref p) ∧ KDict K w p es n ∧ (∀ z d, tbl.lookup z = some d → ∃ u v, PySem.W.nsIn K p z = some (some u) ∧ RelV v u ∧ ∀ wd, Is K wd v d) ∧ ∀ z, tbl.lookup z = none → PySem.W.nsIn K p z = some none
theorem keys_no {P : Params} {z : Str} : ∀ {l : List DictEntry} {ks : List Str}, l.map He.keyOf = He.keysIn P ks → z ∉ ks → l.find? (fun e => e.key.isStr z) = none ∧ (l.any fun e => e.refKey) = false
  | [], [], _, _ => ⟨rfl, rfl⟩
  | [], k :: ks, h, _ => by cases h
  | e :: l, [], h, _ => by cases h
  | e :: l, k :: ks, h, hz => by
    have h : He.keyOf e :: l.map He.keyOf = some (k, PyData.keyHash P k) :: He.keysIn P ks := h
    injection h with h1 h2
    obtain ⟨i1, i2⟩ := keys_no h2 (fun q => hz (List.mem_cons_of_mem _ q))
    have ne : k ≠ z := fun q => hz (by rw [q]; exact List.mem_cons_self)
    unfold He.keyOf at h1
    split at h1
    · rename_i x t q
      injection h1 with h1
      injection h1 with h1 _
      subst h1
      have e1 : e.key.isStr z = false := by
        rw [q]
        exact beq_eq_false_iff_ne.mpr ne
      have e2 : e.refKey = false := by
        unfold DictEntry.refKey
        rw [q]
      refine ⟨?_, ?_⟩
      · rw [List.find?_cons, e1]; exact i1
      · rw [List.any_cons, e2, i2]; rfl
    · cases h1
theorem dic_miss {K : PySem.W.Frag} {p : Addr} {P : Params} {ks : List Str} {z : Str} (h : He.dicW K p = some (He.keysIn P ks)) (hz : z ∉ ks) : PySem.W.nsIn K p z = some none := by
  unfold He.dicW at h
  cases q : K.lookup p with
  | none => rw [q] at h; cases h
  | some o =>
    obtain ⟨oc, od, dt, osl⟩ := o
    rw [q] at h
    cases oc with
    | type c =>
      cases od with
      | none =>
        cases dt with
        | dict es n =>
          simp only at h
          split at h
          · injection h with h
            obtain ⟨i1, i2⟩ := keys_no h hz
            unfold PySem.W.nsIn
            rw [q]
            simp only [i1, i2]
            rfl
          · cases h
        | _ => cases h
      | some _ => cases h
    | _ => cases h
theorem lookup_mem {α : Type} {z : Str} {d : α} : ∀ {tbl : List (Str × α)}, tbl.lookup z = some d → (z, d) ∈ tbl
  | [], h => by cases h
  | (k, e) :: r, h => by
    rw [List.lookup_cons] at h
    by_cases c : (z == k) = true
    · rw [c] at h
      cases h
      have : z = k := eq_of_beq c
      subst this
      exact List.mem_cons_self
    · have c : (z == k) = false := by simpa using c
      rw [c] at h
      exact List.mem_cons_of_mem _ (lookup_mem h)
theorem lookup_none {α : Type} {z : Str} : ∀ {tbl : List (Str × α)}, tbl.lookup z = none → z ∉ tbl.map (·.1)
  | [], h => by simp
  | (k, e) :: r, h => by
    rw [List.lookup_cons] at h
    by_cases c : (z == k) = true
    · rw [c] at h; cases h
    · have c : (z == k) = false := by simpa using c
      rw [c] at h
      have := lookup_none h
      rw [List.map_cons, List.mem_cons]
      rintro (e | e)
      · exact absurd e (by simpa using c)
      · exact this e
theorem ktab_of {K : PySem.W.Frag} {w : World} {mg : Str → Option Value} {x : Str} {tbl : List (Str × D)} {p : Addr} (hx : mg x = some (.ref p)) (hd : He.dicW K p = some (He.keysIn w.params (tbl.map (·.1)))) (hv : ∀ zd ∈ tbl, ∃ u v, PySem.W.nsIn K p zd.1 = some (some u) ∧ RelV v u ∧ ∀ wd, Is K wd v zd.2) : KTab K w mg x tbl := by
  obtain ⟨es, n, D⟩ := He.dicW_ok hd
  exact ⟨p, es, n, hx, D, fun z d h => hv _ (lookup_mem h), fun z h => dic_miss hd (lookup_none h)⟩
def fDct (tbl : List (Str × D)) (a : Fe) : Fe := fun env M => (a env M).bind fun d M1 => match d with
  | .str z => match tbl.lookup z with
    | some v => .ok v M1
    | none => .bad
  | _ => .bad
def fInT (tbl : List (Str × D)) (neg : Bool) (a : Fe) : Fe := fun env M => (a env M).bind fun d M1 => match d with
  | .str z => .ok (.bl (if neg then !(tbl.lookup z).isSome else (tbl.lookup z).isSome)) M1
  | _ => .bad
section
variable {X : Cx} {W : WX} {e e1 e2 : Expr} {pos p : Pos} {x : Str} {tbl : List (Str × D)} {fa fb : Fe}
theorem de_dct (hg : Gl X x) (h : KTab X.K X.w X.mg x tbl) (ha : DE X W e fa) (hdb : (x == ("__debug__" : Str)) = false := by decide) (hp : PlainIx e := by exact fun _ _ => rfl) : DE X W (.Subscript (.Name x p) e pos) (fDct tbl fa) := by
  obtain ⟨ad, es, n, h1, h2, h3, h4⟩ := h.ex
  obtain ⟨t, q, s⟩ := ha
  refine ⟨_, pe_ix ix_kdict (pe_glob (v := .ref ad) hg h1 rfl hdb) q hp, fun env M σ w H w0 H0 Q I h => ?_⟩
  refine s env M σ w H w0 H0 _ I (Post.bind h fun d M1 v w1 H1 x1 o1 r1 k1 => ?_)
  cases r1 with
  | str z =>
    cases c : tbl.lookup z with
    | none => simp only [c] at k1; exact k1.elim
    | some d =>
      simp only [c] at k1
      obtain ⟨u, v, g1, g2, g3⟩ := h3 z d c
      exact ⟨ad, z, v, rfl, rfl, ⟨es, n, u, h2.at_, h2.lit, g1, g2⟩, k1 v w1 H1 (.refl _ _) o1 (g3 _)⟩
  | _ => exact k1.elim
theorem snd_inT {op : CmpOp} {neg : Bool} {ad : Addr} {r : R2} {ta : TE} (h3 : ∀ z d, tbl.lookup z = some d → ∃ u v, PySem.W.nsIn X.K ad z = some (some u) ∧ RelV v u ∧ ∀ wd, Is X.K wd v d) (h4 : ∀ z, tbl.lookup z = none → PySem.W.nsIn X.K ad z = some none)
    (hr : ∀ z c H Q, PySem.W.nsIn X.K ad z = some c → Q (.bl (if neg then !c.isSome else c.isSome)) H → r (.str z) (.ref ad) H Q) (s : SndE X.K W ta fa) : SndE X.K W (tOp r ta (tC (.ref ad))) (fInT tbl neg fa) := fun env M σ w H w0 H0 Q I h => by
  refine s env M σ w H w0 H0 _ I (Post.bind h fun d M1 v w1 H1 x1 o1 r1 k1 => ?_)
  cases r1 with
  | str z =>
    have k1 := k1 (.bl (if neg then !(tbl.lookup z).isSome else (tbl.lookup z).isSome)) w1 H1 (.refl _ _) o1 (.bl _)
    cases c : tbl.lookup z with
    | none => rw [c] at k1; exact hr z none H1 Q (h4 z c) k1
    | some d =>
      rw [c] at k1
      obtain ⟨u, v, g1, g2, g3⟩ := h3 z d c
      exact hr z (some u) H1 Q g1 k1
  | _ => exact k1.elim
theorem dt_ninT (hg : Gl X x) (h : KTab X.K X.w X.mg x tbl) (ha : DE X W e fa) (hdb : (x == ("__debug__" : Str)) = false := by decide) (hm : behindInMarks .NotIn (.Name x p) = false := by first | exact nobehind _ (by decide) (by decide) | rfl) : DT X W (.Compare e [.NotIn] [.Name x p] pos) (tVal (fInT tbl true fa)) := by
  obtain ⟨ad, es, n, h1, h2, h3, h4⟩ := h.ex
  obtain ⟨t, q, s⟩ := ha
  exact ⟨_, pt_cmpR (op_notIn_kd h2) q (pe_glob (v := .ref ad) hg h1 rfl hdb) hm, snd_tval (snd_inT (op := .NotIn) h3 h4 (fun z c H Q hc q => ⟨z, c, rfl, rfl, hc, q⟩) s)⟩
structure IsiC (K : PySem.W.Frag) (x : Str) (C : Addr) : Prop where
  ci : ClsIs K x C
  ha : PySem.W.findIn K (.ref C) "__class__" = some (some (.builtin "object.__class__"))
  hn : PySem.W.specialIn K (.builtin "object.__class__") "__get__" = some (some (.builtin "getset_descriptor.__get__"))
  htk : PySem.W.takesIn K (.builtin "object.__class__") = some true
  hm : PySem.W.mroIn K C (.type "object") = some true
  no : ∀ t ∈ ["NoneType", "bool", "int", "str", "tuple", "list"], PySem.W.kitOne K (.type t) (.ref C) = some false
  yes : PySem.W.kitOne K (.ref C) (.ref C) = some true
end
end DL
namespace DL
open PySem L2 PySem.W PyProof.Rows
variable [Wld]
def pickB {α : Type} (is : List Nat) (b : List α) : List α := is.filterMap fun i => b[i]?
theorem pickB_iss {K : PySem.W.Frag} {w : Wd} {us : List V} {bs : List D} (h : Iss K w us bs) : ∀ is : List Nat, Iss K w (pickB is us) (pickB is bs)
  | [] => .nil
  | i :: r => by
    have ih := pickB_iss h r
    unfold pickB at ih ⊢
    cases q : bs[i]? with
    | some d =>
      obtain ⟨v, g1, g2⟩ := h.get q
      rw [List.filterMap_cons_some (b := v) g1, List.filterMap_cons_some (b := d) q]
      exact .cons g2 ih
    | none =>
      have : us[i]? = none := List.getElem?_eq_none_iff.mpr (by rw [h.length]; exact List.getElem?_eq_none_iff.mp q)
      rw [List.filterMap_cons_none this, List.filterMap_cons_none q]
      exact ih
theorem pickB_vals {us : List V} {bs : List Value} (h : Vals us bs) : ∀ is : List Nat, Vals (pickB is us) (pickB is bs)
  | [] => .nil
  | i :: r => by
    have ih := pickB_vals h r
    unfold pickB at ih ⊢
    cases q : us[i]? with
    | some d =>
      obtain ⟨v, g1, g2⟩ := h.get q
      rw [List.filterMap_cons_some (b := d) q, List.filterMap_cons_some (b := v) g1]
      exact .cons g2 ih
    | none =>
      rw [List.filterMap_cons_none q, List.filterMap_cons_none (h.none_of q)]
      exact ih
theorem pickB_len {is : List Nat} {n : Nat} (h : (is.all fun i => decide (i < n)) = true) : ∀ b : List D, b.length = n → (pickB is b).length = is.length := fun b hb => by
  subst hb
  induction is with
  | nil => rfl
  | cons i r ih =>
    rw [List.all_cons, Bool.and_eq_true] at h
    have hi : i < b.length := of_decide_eq_true h.1
    unfold pickB at ih ⊢
    rw [List.filterMap_cons_some (b := b[i]) (List.getElem?_eq_getElem hi), List.length_cons, List.length_cons, ih h.2]
theorem kbn_of {K : PySem.W.Frag} {x qual : Str} {st : Stmt} {f : Addr} {fd : FuncData} {ps : List Str} {n : Nat} {ks : List Str} (F : Fun K x qual st f fd) (is : List Nat)
    (h : ∀ (kV doc pm : Value) (an : Option Addr) (cdv ct : Value) (us ws : List Value), us.length = n → ws.length = ks.length → bindArgs (PySem.W.fnOf x qual (defArgs st) (defBody st) (defScope st) .none kV doc pm an cdv ct) ⟨us, ks.zip ws⟩ = pure (ps.zip (us ++ pickB is ws))) :
    KBn K fd ps n ks (fun us ws => us ++ pickB is ws) (fun us ws => us ++ pickB is ws) := by
  obtain ⟨oc, od, kV, doc, pm, an, cdv, ct, osl, rfl, lk, hcd⟩ := F.ex
  exact ⟨fun s us ws _ l1 l2 => .of_eq (h kV doc pm an cdv ct us ws l1 l2), fun r1 r2 => r1.append (pickB_vals r2 is)⟩
def fKw (is : List Nat) (fk : Fa) : Fa := fun env M => (fk env M).bind fun es M1 => .ok (pickB is es) M1
structure HasCK (μ : Bool) (P : Program) (w : World) (K : PySem.W.Frag) (mg : Str → Option Value) (base : Heap) (x : Str) (ks : List Str) (is : List Nat) (k : Nat) (F : Fn) : Prop where
  ex : ∃ C f fd ps, ClsIs K x C ∧ mg x = some (.ref C) ∧ Mk K C f ∧ KBn K fd ps 1 ks (fun us ws => us ++ pickB is ws) (fun us ws => us ++ pickB is ws) ∧ FnOk P w K mg base (CXm μ P w) k f fd ps (spD K (is.length + 1) F)
structure HasSK (μ : Bool) (P : Program) (w : World) (K : PySem.W.Frag) (mg : Str → Option Value) (base : Heap) (x m : Str) (ks : List Str) (is : List Nat) (k : Nat) (F : Fn) : Prop where
  ex : ∃ (C : Addr) (mc : Value) (p f : Addr) (fd : FuncData) (ps : List Str), mg x = some (.ref C) ∧ ClX.CRead K C mc ∧ SMet K C mc m p f ∧ KBn K fd ps 0 ks (fun us ws => us ++ pickB is ws) (fun us ws => us ++ pickB is ws) ∧ FnOk P w K mg base (CXm μ P w) k f fd ps (spD K is.length F)
structure HasMK (μ : Bool) (P : Program) (w : World) (K : PySem.W.Frag) (mg : Str → Option Value) (base : Heap) (x m : Str) (ks : List Str) (is : List Nat) (k : Nat) (F : Fn) : Prop where
  ex : ∃ C f fd ps, ClsIs K x C ∧ Meth K C m f ∧ KBn K fd ps 1 ks (fun us ws => us ++ pickB is ws) (fun us ws => us ++ pickB is ws) ∧ FnOk P w K mg base (CXm μ P w) k f fd ps (spD K (is.length + 1) F)
section
variable {P : Program} {w : World} {K : PySem.W.Frag} {mg : Str → Option Value} {base : Heap} {x m qual : Str} {st : Stmt} {N ps ks : List Str} {k n : Nat} {f : Fs} {is : List Nat}
end
section
variable {X : Cx} {CX : CXT} {k : Nat} {f C p : Addr} {mc : Value} {fd : FuncData} {ps ks : List Str} {sp : Sp} {x m : Str} {np pos apos : Pos} {o : Expr} {kws : List Keyword} {ta : TE} {tk : TA} {E : L2.St → XK} {pl : Sem Bool} {g : List Value → List Value → List Value} {gV : List V → List V → List V}
def tMakeK (C : Addr) (n : Nat) (sp : Sp) (gV : List V → List V → List V) (E : L2.St → XK) (tk : TA) : TE := fun σ H Q => tk σ H fun zs H1 => zs.length = n ∧ ∀ x dx, H1 x = none → H1 dx = none → dx ≠ x → sp (gV [.ref x] zs) (upd (upd H1 dx (.own x)) x (.ins C dx [])) (fun v H2 => v = .non ∧ Q (.ref x) H2) (E σ)
theorem makeK_at {pins : List (Addr × Obj)} {σ : L2.St} {H : Hp} {s : Shared} {Q : VK} {ws : List Value} {zs : List V} {E : XK} (M : Mk X.K C f) (G : FnOk X.prog X.w X.K X.mg X.base CX k f fd ps sp) (room : Room (k + 1) X.A) (hb : KBn X.K fd ps 1 ks g gV)
    (pass : PassesAt CX X σ E) (I : Inv X pins σ H s) (rz : Vals zs ws) (l2 : zs.length = ks.length)
    (want : ∀ x dx, H x = none → H dx = none → dx ≠ x → sp (gV [.ref x] zs) (upd (upd H dx (.own x)) x (.ins C dx [])) (fun v H2 => v = .non ∧ Q (.ref x) H2) E) :
    wpAny (model X.prog X.w) X.A (call (.ref C) [] (ks.zip ws)) (EP X pins σ Q) X.xe s := by
  have hq := want (s.heap.objs.size + 1) s.heap.objs.size (I.hok.fresh (Nat.le_succ _)) (I.hok.fresh (Nat.le_refl _)) (Nat.ne_of_lt (Nat.lt_succ_self _))
  have J := Inv.made (C := C) I
  have r1 : Vals [V.ref (s.heap.objs.size + 1)] [Value.ref (s.heap.objs.size + 1)] := .cons rfl .nil
  refine wpAny_call (make_map (f := f) I.kIn M.makes M.init (beq_iff_eq.mp M.fn) (codeAny_mono (G.run _ X.stack _ _ ⟨[Value.ref (s.heap.objs.size + 1)], ks.zip ws⟩ (g [Value.ref (s.heap.objs.size + 1)] ws) _ _ E (room.make C [] (ks.zip ws)) (J.env0.make C [] (ks.zip ws)) (hb.to _ [Value.ref (s.heap.objs.size + 1)] ws J.kIn rfl (rz.length.symm.trans l2)) (hb.rel r1 rz) hq) fun r s' h2 => ?_))
  cases r with
  | error e => exact pass pins _ _ e s' J h2
  | ok fl =>
    cases fl with
    | ret u =>
      obtain ⟨v, H', J3, rw1, ev, q3⟩ := J.after h2
      subst ev
      exact ⟨rw1, ⟨V.ref (s.heap.objs.size + 1), H', J3, rfl, q3⟩⟩
    | next => exact False.elim h2
    | brk => exact False.elim h2
    | cont => exact False.elim h2
theorem pe_makeK (M : Mk X.K C f) (G : FnOk X.prog X.w X.K X.mg X.base CX k f fd ps sp) (room : Room (k + 1) X.A) (hg : Gl X x) (hm : X.mg x = some (.ref C)) (hb : KBn X.K fd ps 1 ks g gV) (pass : ∀ σ, PassesAt CX X σ (E σ)) (hkw : PK X kws tk)
    (hall : (backToKw pos (keywordEach kws X.env)).all (·.1.isSome) = true) (hks : (backToKw pos (keywordEach kws X.env)).filterMap (·.1) = ks) (hdb : (x == ("__debug__" : Str)) = false)
    (hpl : ((backTo pos (starEach [] X.env)).any (·.1) || (backToKw pos (keywordEach kws X.env)).any (·.1.isNone)) = false) :
    PE X (.Call (.Name x np) [] kws pos) (tMakeK C ks.length sp gV E tk) := by
  refine ⟨fun pins s σ H Q I h => ?_⟩
  refine wpAny_Call_Name_kw (ld_glob I hg hm ?_ hdb)
  refine PySem.W.callWith_KW0 (h₀ := X.base) I.ok.mod.kin M.kp hall ?_ hpl
  refine thn (hkw.run pos pins s σ H _ I h) fun ws s2 ⟨zs, H2, I2, rz, l2, q2⟩ => ⟨I2.kIn, ?_⟩
  rw [hks]
  exact makeK_at M G room hb (pass σ) I2 rz l2 q2
end
section
variable {X : Cx} {W : WX} {pos np apos : Pos} {x m : Str} {o : Expr} {k j n : Nat} {ks : List Str} {is : List Nat} {kws : List Keyword} {F : Fn} {fk : Fa} {fo : Fe} {pl : Sem Bool}
end
structure HasP (μ : Bool) (P : Program) (w : World) (K : PySem.W.Frag) (mg : Str → Option Value) (base : Heap) (x m : Str) (k : Nat) (F : Fn) : Prop where
  ex : ∃ C p f fd, ClsIs K x C ∧ PropOf K C m p f ∧ Binds K fd [("self" : Str)] [] ∧ FnOk P w K mg base (CXm μ P w) k f fd [("self" : Str)] (spD K 1 F)
section
variable {X : Cx} {W : WX} {e : Expr} {pos p : Pos} {x m : Str} {k j : Nat} {ps : List Str} {F : Fn} {fo : Fe}
end
end DL
namespace DL
open PySem L2 PySem.W PyProof.Rows
variable [Wld]
section
variable {prog : Program} {w : World} {A : Around} {E : Value → Shared → Prop} {s : Shared} {K : PySem.W.Frag} {x C f : Addr} {ox : Obj} {od : Option Obj} {b tb : Value}
end
section
variable {X : Cx} {k : Nat} {f C : Addr} {fd : FuncData} {ps : List Str} {sp : Sp}
end
section
variable {X : Cx} {k : Nat} {f C : Addr} {fd : FuncData} {ps : List Str} {sp : Sp} {m : Str}
end
section
variable {X : Cx} {CX : CXT} {k : Nat} {f C : Addr} {fd : FuncData} {ps : List Str} {sp : Sp} {E : L2.St → XK} {e1 e2 : Expr} {pos : Pos} {ta tb : TE}
end
section
variable {X : Cx} {W : WX} {e1 e2 : Expr} {pos : Pos} {x m : Str} {k j : Nat} {ps : List Str} {F : Fn} {fa fb : Fe}
end
end DL
namespace DL
open PySem L2 PySem.W PyProof.Rows
variable [Wld]
section
variable {X : Cx} {W : WX} {e : Expr} {pos p p2 : Pos} {x : Str}
end
def fAppR (o a : Fe) : Fe := fun env M => (o env M).bind fun d M1 => match d with
  | .ref k => match M1[k]? with
    | some (.lst _) => (a env M1).bind fun z M2 => match M2[k]? with
      | some (.lst ds) => if small ds.length = true then .ok .non (M2.set k (.lst (ds ++ [z]))) else .bad
      | _ => .bad
    | _ => .bad
  | _ => .bad
section
variable {X : Cx} {W : WX} {e1 e2 : Expr} {pos apos : Pos} {fa fb : Fe}
theorem de_appR (ha : DE X W e1 fa) (hb : DE X W e2 fb) (hpe : ∀ t u r, MtM X "list.append" r → PE X e1 t → PE X e2 u → PE X (.Call (.Attribute e1 "append" apos) [e2] [] pos) (tBM X.K "list" r t (tCons u tNil))) : DE X W (.Call (.Attribute e1 "append" apos) [e2] [] pos) (fAppR fa fb) := by
  obtain ⟨t, q, s⟩ := ha
  obtain ⟨t', q', s'⟩ := hb
  refine ⟨_, hpe t t' _ mt_append q q', fun env M σ w H w0 H0 Q I h => ?_⟩
  refine s env M σ w H w0 H0 _ I (Post.bind h fun d M1 v w1 H1 x1 o1 r1 k1 => ?_)
  cases r1 with
  | @ref a k hk =>
    cases qm : M1[k]? with
    | none => simp only [qm] at k1; exact k1.elim
    | some m =>
      cases m with
      | lst ds0 =>
        simp only [qm] at k1
        obtain ⟨b, g1, g2, vs0, g3, g4⟩ := o1.mo qm
        rw [hk] at g1
        cases g1
        refine ⟨.inl ⟨rfl, vs0, .inl (.inl g3)⟩, s' env M1 σ w1 H1 w0 H0 _ (I.step x1 o1) (Post.bind k1 fun z M2 u w2 H2 x2 o2 r2 k2 => ?_)⟩
        cases qn : M2[k]? with
        | none => simp only [qn] at k2; exact k2.elim
        | some m2 =>
          cases m2 with
          | lst ds =>
            simp only [qn] at k2
            by_cases hz : small ds.length = true
            · rw [if_pos hz] at k2
              obtain ⟨b2, f1, f2, vs, f3, f4⟩ := o2.mo qn
              have hk2 := x2.more.at hk
              rw [hk2] at f1
              cases f1
              obtain ⟨o3, x3⟩ := o2.write (o' := .lst (ds ++ [z])) (u := .lst (vs ++ [u])) qn hk2 ⟨vs ++ [u], upd_same, f4.append (.cons r2 .nil)⟩
              exact ⟨a, vs, u, rfl, rfl, f3, by rw [f4.length]; exact small_lt hz, k2 .non w2 _ x3 o3 .non⟩
            · rw [if_neg hz] at k2; exact k2.elim
          | _ => simp only [qn] at k2; exact k2.elim
      | _ => simp only [qm] at k1; exact k1.elim
  | _ => exact k1.elim
end
def spV (K : PySem.W.Frag) (F : Fn) : Sp := fun vs H Q E => ∃ ds M w, Ok K w H M ∧ Iss K w vs ds ∧ small ds.length = true ∧ Post K (RlE K) w H [] (fun c d _ H' => E c d H') Q (F [.tup ds] M)
theorem cxUpM {μ : Bool} {P : Program} {w : World} : StX.CXUp (CXm μ P w) := by
  intro outer s H s2 H2 E e s' un kp ho hx
  have grow : ∀ {H' : Hp} {B : Heap}, UB (frs outer) H2 H' s2.heap B s'.heap → UB (frs outer) H H' s.heap B s'.heap := fun {H' B} ub => by
    refine ⟨fun b o q n hb => ub.keep b o (kp b o q) (un.free b o q n (by simp)) hb, fun b o q hb => ub.slot b o (kp b o q) hb, fun b o q n => ub.free b o (kp b o q) (un.free b o q n (by simp)),
      fun b o q hb => ub.there b o (kp b o q) hb, fun b xs q => ub.tups b xs (un.tups b xs q), fun b o xs q => ub.frzs b o xs (un.frzs b o xs q), fun b ps q => ?_⟩
    obtain ⟨m1, h1⟩ := un.tbls b ps q
    obtain ⟨m2, h2⟩ := ub.tbls b _ h1
    exact ⟨m1 ++ m2, by rw [h2, Array.append_assoc]⟩
  cases μ with
  | true =>
    obtain ⟨a, B, H', cls, d, ea, fl, hok, ub, na, os, ag, he⟩ := hx
    exact ⟨a, B, H', cls, d, ea, fl, hok, grow ub, na, os.trans ho, ag, he⟩
  | false =>
    obtain ⟨a, B, H', cls, d, ea, fl, hok, ub, na, os, ag, he⟩ := hx
    exact ⟨a, B, H', cls, d, ea, fl, hok, grow ub, na, os.trans ho, ag, he⟩
structure HasV (μ : Bool) (P : Program) (w : World) (K : PySem.W.Frag) (mg : Str → Option Value) (base : Heap) (x m : Str) (k : Nat) (F : Fn) : Prop where
  ex : ∃ (C : Addr) (mc : Value) (p f : Addr), mg x = some (.ref C) ∧ ClX.CRead K C mc ∧ SMet K C mc m p f ∧ FnR P w K mg base (CXm μ P w) k f (spV K F)
section
variable {X : Cx} {CX : CXT} {k : Nat} {f C p : Addr} {mc : Value} {sp : Sp} {m : Str} {pos apos : Pos} {e o : Expr} {es : List Expr} {ta : TE} {t : TA} {E : L2.St → XK} {pl : Sem Bool}
theorem run_fnRS {pins : List (Addr × Obj)} {σ : L2.St} {H : Hp} {s : Shared} {Q : VK} {us : List Value} {vs : List V} {E : XK} (F : FnR X.prog X.w X.K X.mg X.base CX k f sp) (hr : Room k X.A) (hx : PassesAt CX X σ E) (I : Inv X pins σ H s) (r : Vals vs us) (h : sp vs H Q E) :
    wpAny (model X.prog X.w) X.A (call (.ref f) us) (EP X pins σ Q) X.xe s := by
  refine wpAny_call (codeAny_mono (F X.A X.stack s H us vs Q E hr I.env0 r h) fun r s' hq => ?_)
  cases r with
  | error e => exact hx pins H s e s' I hq
  | ok fl =>
    cases fl with
    | ret u => exact I.after hq
    | next => exact False.elim hq
    | brk => exact False.elim hq
    | cont => exact False.elim hq
end
section
variable {X : Cx} {W : WX} {e : Expr} {es : List Expr} {pos apos np : Pos} {x m : Str} {k j n : Nat} {F : Fn} {f : Fa} {pl : Sem Bool}
end
end DL
namespace DL
open PySem L2 PySem.W PyProof.Rows
variable [Wld]
section
variable {X : Cx} {W : WX} {e1 e2 : Expr} {pos : Pos} {x m : Str} {k j : Nat} {ps : List Str} {F : Fn} {fa fb : Fe} {op : CmpOp}
end
end DL
namespace DL
open PySem L2 PySem.W PyProof.Rows
variable [Wld]
section
variable {X : Cx} {W : WX} {e1 e2 e3 : Expr} {pos : Pos}
end
end DL
namespace DL
open PySem L2 PySem.W PyProof.Rows
variable [Wld]
end DL
namespace DL
open PySem L2 PySem.W PyProof.Rows
variable [Wld]
structure LamP (y0 : Str) (sc scope : Scope) : Prop where
  kind : scope.kind = .function
  co : scope.isCoroutine = false
  gen : scope.isGenerator = false
  par : scope.names.lookup y0 = some .local
  own : ∀ y ∈ scope.names, y.2 ≠ .cell ∧ (y.2 = .local → y.1 = y0)
  free : ∀ y ∈ scope.names, y.2 = .free → sc.names.lookup y.1 = some .cell ∨ sc.names.lookup y.1 = some .free
def lamPB (y0 : Str) (sc scope : Scope) : Bool :=
  decide (scope.kind = .function) && !scope.isCoroutine && !scope.isGenerator && decide (scope.names.lookup y0 = some .local) && scope.names.all fun y => !decide (y.2 = .cell) && (!decide (y.2 = .local) || decide (y.1 = y0)) && (!decide (y.2 = .free) || decide (sc.names.lookup y.1 = some .cell) || decide (sc.names.lookup y.1 = some .free))
theorem lamP_by {y0 : Str} {sc scope : Scope} (h : lamPB y0 sc scope = true) : LamP y0 sc scope := by
  unfold lamPB at h
  simp only [Bool.and_eq_true, Bool.or_eq_true, Bool.not_eq_true', decide_eq_true_eq, decide_eq_false_iff_not, List.all_eq_true] at h
  obtain ⟨⟨⟨⟨h1, h2⟩, h3⟩, h5⟩, h4⟩ := h
  refine ⟨h1, h2, h3, h5, fun y hy => ⟨(h4 y hy).1.1, fun e => ?_⟩, fun y hy e => ?_⟩
  · rcases (h4 y hy).1.2 with z | z
    · exact absurd e z
    · exact z
  · rcases (h4 y hy).2 with (z | z) | z
    · exact absurd e z
    · exact .inl z
    · exact .inr z
theorem LamP.has {y0 : Str} {X : Cx} {scope : Scope} (L : LamP y0 X.env.scope scope) (ok : X.Ok) : ∀ y ∈ scope.names, y.2 = .free → ∃ c, X.env.cells.lookup y.1 = some c := fun y hy e => by
  rcases L.free y hy e with k | k
  · exact ok.has _ (.inl k)
  · exact ok.has _ (.inr k)
section
variable {X : Cx} {pins : List (Addr × Obj)} {σ : L2.St} {H : Hp} {s : Shared}
theorem lamP_new {T : List (Addr × Str)} {c P : Addr} {params : Arguments} {body : Expr} {scope : Scope} {pos : Pos} {z : Int} {jc : Nat} {pc : Pos} {Er : Value → Shared → Prop} {Q : Value → Shared → Prop} (I : Inv X pins σ H s) (TB : LamX.TabB X.base X.mg c P) (hcode : X.env.code = .ref c)
    (inT : (P, X.env.qual ++ "<lambda>") ∈ T) (one : ∀ p ∈ T, p.1 = P → p.2 = X.env.qual ++ "<lambda>") (hT : LamX.Tabs T H) (hdd : params.defaults = [.Constant (.int z) jc pc]) (hk0 : params.kw_defaults = []) (hfree : ∀ y ∈ scope.names, y.2 = .free → ∃ c, X.env.cells.lookup y.1 = some c)
    (h : ∀ (f c1 t : Addr) (tk0 : Tok) (doc pm ctv : Value) (H1 : Hp) (s1 : Shared), Inv X pins σ H1 s1 → ExtT H H1 → LamX.Tabs T H1 →
      s1.heap.get? f = some (kdv_obj "<lambda>" (X.env.qual ++ "<lambda>") params (.expr body) scope (cloFrom X.env.cells scope.names []) (.ref t) doc pm c1 ctv) → H1 f = none → (f ≠ X.env.locals ∧ f ∉ X.fs) →
      s1.heap.get? t = some (kdv_tup [.int z tk0]) → H1 t = none → (t ≠ X.env.locals ∧ t ∉ X.fs) → H1 c1 = some (LamX.CodeO c1 (X.env.qual ++ "<lambda>")) → Q (.ref f) s1) :
    wpAny (model X.prog X.w) X.A (eval (.Lambda params body scope pos) X.env) Q Er s := by
  generalize hq : X.env.qual ++ "<lambda>" = q at inT one h
  obtain ⟨ps, hP, htri, ham⟩ := hT _ inT
  have hP : H P = some (.tbl ps) := hP
  have bltP : s.heap.BuiltinsAt X.mg P := TB.bm.keeps I.bk
  have objP : s.heap.get? P = some { cls := .none, data := .fields ps } := I.hok P _ hP
  have offFr : ∀ f, s.heap.objs.size ≤ f → f ≠ X.env.locals ∧ f ∉ X.fs := fun f hf => ⟨fun e => by
      have lt := I.lt
      rw [← e] at lt
      exact absurd lt (Nat.not_lt.mpr hf), I.nofs hf⟩
  refine kdv_lam (by rw [hdd]; rfl) hk0 ?_
  rw [hdd]
  refine kdv_all1 (wpAny_Constant_int (kdv_all0 ?_))
  rw [hq, makeFunction_eq]
  simp only [List.zip_nil_right, List.filterMap_nil, List.isEmpty_nil, List.isEmpty_cons, if_true, pure_bind, Bool.false_eq_true, if_false]
  refine wpAny_bind (wpAny_newTextTuple ?_)
  generalize ht0 : s.heap.objs.size = t
  generalize hg0 : s.heap.push (kdv_tup [.int z s.toks]) = g0
  have kp0 : ∀ b o, s.heap.get? b = some o → g0.get? b = some o := fun b o e => by rw [← hg0]; exact Heap.get?_push_of_some _ e
  have atT : g0.get? t = some (kdv_tup [.int z s.toks]) := by rw [← hg0, ← ht0]; exact Heap.get?_push_size _ rfl
  have sz0 : g0.objs.size = t + 1 := by rw [← hg0, Heap.size_push, ht0]
  have freeT : H t = none := I.hok.fresh (by omega)
  have nPt : P ≠ t := ne_of_none hP freeT
  have nsG : g0.Ns mainGlobals X.mg := I.mod.glob.keeps fun b o e => kp0 _ _ (I.bk b o e)
  cases hc : codeAmong pos ps.toList with
  | some cv =>
    obtain ⟨c1, rfl, hco⟩ := ham pos cv hc
    refine kdv_makeTailHit (mg := X.mg) (c := c) (P := P) (ps := ps) (closure_ok hfree) I.ok.glob nsG hcode (TB.code.keeps fun b o e => kp0 _ _ (I.bk b o e)) (kp0 _ _ objP) htri hc (TB.bm.keeps fun b o e => kp0 _ _ (I.bk b o e)) fun ctv doc g tk kg hz => ?_
    have J := I.kept (t' := tk) (h' := g.push (kdv_obj "<lambda>" q params (.expr body) scope (cloFrom X.env.cells scope.names []) (.ref t) doc ((X.mg "__name__").getD .none) c1 ctv)) fun b o e => Heap.get?_push_of_some _ (kg b o (kp0 b o e))
    have hz : g0.objs.size ≤ g.objs.size := hz
    exact h g.objs.size c1 t s.toks doc ((X.mg "__name__").getD .none) ctv H _ J ⟨LamX.ExtN.refl H, fun _ z => z, fun _ ps z => ⟨#[], by simpa using z⟩⟩ hT (Heap.get?_push_size _ rfl) (I.hok.fresh (by omega)) (offFr _ (by omega)) (Heap.get?_push_of_some _ (kg _ _ atT)) freeT (offFr _ (by omega)) hco
  | none =>
    refine kdv_makeTail (mg := X.mg) (c := c) (P := P) (ps := ps) (closure_ok hfree) I.ok.glob nsG hcode (TB.code.keeps fun b o e => kp0 _ _ (I.bk b o e)) (kp0 _ _ objP) htri hc TB.gP (TB.bm.keeps fun b o e => kp0 _ _ (I.bk b o e)) fun c1 ctv doc g tk kg hlo hhi hrec htb => ?_
    obtain ⟨c2, oc, vs, t1, e2, hoc, hd, hv⟩ := hrec
    cases e2
    have hlo0 : g0.objs.size ≤ c1 := hlo
    have hlo : s.heap.objs.size ≤ c1 := by omega
    have hz : s.heap.objs.size ≤ g.objs.size := Nat.le_trans hlo (Nat.le_of_lt hhi)
    have freeC : H c1 = none := I.hok.fresh hlo
    generalize hH1 : upd (upd H P (.tbl (ps ++ #[rawInt pos.line, rawInt pos.col, .ref c1]))) c1 (LamX.CodeO c1 q) = H1
    have J : Inv X pins σ H1 { s with heap := g.push (kdv_obj "<lambda>" q params (.expr body) scope (cloFrom X.env.cells scope.names []) (.ref t) doc ((X.mg "__name__").getD .none) c1 ctv), toks := tk } := by
      rw [← hH1]
      exact LamX.inv_table (t' := tk) (more := #[rawInt pos.line, rawInt pos.col, .ref c1]) I hP (fun b o hb e => Heap.get?_push_of_some _ (kg b o hb (kp0 b o e))) (Heap.get?_push_of_some _ htb) hlo ⟨oc, vs, t1, Heap.get?_push_of_some _ hoc, hd, hv⟩
    have atC : H1 c1 = some (LamX.CodeO c1 q) := by rw [← hH1, upd_same]
    have neC : ∀ {b : Addr} {o : HO}, H b = some o → b ≠ c1 := fun e => ne_of_none e freeC
    have atP : H1 P = some (.tbl (ps ++ #[rawInt pos.line, rawInt pos.col, .ref c1])) := by rw [← hH1, upd_ne (neC hP), upd_same]
    have atO : ∀ b o, H b = some o → b ≠ P → H1 b = some o := fun b o e hb => by rw [← hH1, upd_ne (neC e), upd_ne hb]; exact e
    have X1 : ExtT H H1 := by
      refine ⟨fun b o e n => atO b o e fun z => ?_, fun b hb => ?_, fun b qs e => ?_⟩
      · subst z
        rw [hP] at e
        exact n ps (Option.some.inj e).symm
      · by_cases z : b = P
        · rw [z, atP]; simp
        · cases e : H b with
          | none => exact absurd e hb
          | some o => rw [atO b o e z]; simp
      · by_cases z : b = P
        · subst z
          rw [hP] at e
          cases e
          exact ⟨_, atP⟩
        · exact ⟨#[], by rw [atO b _ e z]; simp⟩
    have lst : (ps ++ #[rawInt pos.line, rawInt pos.col, .ref c1]).toList = ps.toList ++ [rawInt pos.line, rawInt pos.col, .ref c1] := by simp
    have nP : ∀ b, s.heap.objs.size ≤ b → b ≠ P := fun b hb e => by
      have lt := Heap.lt_size objP
      rw [← e] at lt
      exact absurd lt (Nat.not_lt.mpr hb)
    refine h g.objs.size c1 t s.toks doc ((X.mg "__name__").getD .none) ctv H1 _ J X1 (fun p hp => ?_) (Heap.get?_push_size _ rfl) ?_ (offFr _ hz) (Heap.get?_push_of_some _ (kg _ _ (Ne.symm nPt) atT)) ?_ (offFr _ (by omega)) atC
    · by_cases z : p.1 = P
      · rw [one p hp z, z]
        refine ⟨_, atP, by rw [lst]; exact PySem.TriplesOk_snoc _ _ _ _ htri, fun p2 cv hcv => ?_⟩
        rw [lst] at hcv
        rcases LamX.among_app _ htri hcv with w | w
        · obtain ⟨c0, w1, w2⟩ := ham p2 cv w
          exact ⟨c0, w1, X1.n _ _ w2 LamX.codeO_ne⟩
        · exact ⟨c1, w, atC⟩
      · obtain ⟨ps2, a1, a2, a3⟩ := hT p hp
        refine ⟨ps2, atO _ _ a1 z, a2, fun p2 cv hcv => ?_⟩
        obtain ⟨c0, w1, w2⟩ := a3 p2 cv hcv
        exact ⟨c0, w1, X1.n _ _ w2 LamX.codeO_ne⟩
    · have n1 : g.objs.size ≠ c1 := by omega
      rw [← hH1, upd_ne n1, upd_ne (nP _ hz)]
      exact I.hok.fresh hz
    · have n1 : t ≠ c1 := by omega
      rw [← hH1, upd_ne n1, upd_ne (Ne.symm nPt)]
      exact freeT
end
section
variable {X : Cx} {pins : List (Addr × Obj)} {σ : L2.St} {H HZ : Hp} {s s1 : Shared}
theorem lamP_start {A : Around} {outer : List PySem.Env} {E : XK} {scope : Scope} {f c' : Addr} {h₁ : Heap} {tk : Nat} {y0 : Str} {v0 : Value} (I : Inv X pins σ H s) (L : LamP y0 X.env.scope scope) (hy0 : y0 ∉ X.N) (e0 : Env0 X.prog X.w X.K X.mg X.base A outer s1 HZ) (hd : A.handled = none)
    (un : Un (frs X.stack) [] H HZ s.heap s1.heap) (hns : h₁.Ns s1.heap.objs.size fun y => ([(y0, v0)] : List (Str × Value)).reverse.lookup y) (kp : ∀ b o, s1.heap.get? b = some o → h₁.get? b = some o) :
    Inv (LamX.lamCx X A outer s1 HZ E scope f c') [] σ HZ { s1 with heap := h₁, toks := tk } := by
  have hfree := L.has I.ok
  have cm : ∀ {y c}, (cloFrom X.env.cells scope.names []).lookup y = some c → X.env.cells.lookup y = some c := fun {y c} e => by
    rcases cloFrom_mem (PySem.mem_of_lookup e) with hm | ⟨h1, h2⟩
    · cases hm
    · obtain ⟨c1, hc⟩ := hfree _ h1 rfl
      have hc : X.env.cells.lookup y = some c1 := hc
      have e2 : c = c1 := by
        rw [h2, hc] <;> rfl
      rw [e2]
      exact hc
  have look : ∀ {y}, scope.names.lookup y = some .free → ∃ c, (cloFrom X.env.cells scope.names []).lookup y = some c := fun {y} hl => by
    have hy : (y, NameKind.free) ∈ scope.names := PySem.mem_of_lookup hl
    exact mem_lookup (cloFrom_has (cells := X.env.cells) (acc := []) hy)
  have cellK : ∀ {c : Addr} {v : Option Value}, H c = none → s.heap.IsCell c v → h₁.IsCell c v := fun {c v} n ⟨o, ho, hd⟩ => by
    obtain ⟨sl, q⟩ := un.any ho n (by simp)
    exact ⟨_, kp _ _ q, hd⟩
  have noA : ∀ b : Addr, b ∉ (LamX.lamCx X A outer s1 HZ E scope f c').ex := fun b z => absurd (show b ∈ ([] : List Addr) from z) (by simp)
  refine ⟨⟨e0.mod, L.kind, rfl, rfl, Nat.le_refl _, fun y z c e1 e2 => I.ok.inj y z c (cm e1) (cm e2), fun y hy => ?_, fun y c z _ => ?_, fun _ => hd, Around.frames_deeper e0.frames, .inr ⟨rfl, rfl⟩, fun b z => absurd z (noA b), e0.bs, e0.bsz, fun b _ _ => noA b,
      fun b z => absurd z (noA b), e0.funs, e0.frf⟩,
    rfl, e0.bare, Un.kept kp, ⟨_, hns, fun i y v e1 e2 e3 => ?_⟩, fun y c e => ?_, e0.hok.fresh (Nat.le_refl _), fun y c e => ?_, fun q hq => absurd (show q ∈ ([] : List (Addr × Obj)) ++ [] from hq) (by simp), e0.hok.kept kp, I.len⟩
  · have hy : scope.names.lookup y = some .cell ∨ scope.names.lookup y = some .free := hy
    rcases hy with hy | hy
    · exact absurd rfl (L.own _ (PySem.mem_of_lookup hy)).1
    · exact look hy
  · have z : false = true := z
    cases z
  · have e3 : Vis scope y := e3
    rcases e3 with k | k | k
    · have e := (L.own _ (PySem.mem_of_lookup k)).2 rfl
      have e : y = y0 := e
      have e1 : X.N[i]? = some y := e1
      rw [e] at e1
      exact absurd (List.mem_of_getElem? e1) hy0
    · exact absurd rfl (L.own _ (PySem.mem_of_lookup k)).1
    · obtain ⟨m, hn, hl⟩ := I.loc
      have hvis : Vis X.env.scope y := (L.free _ (PySem.mem_of_lookup k) rfl).elim (fun k => .inr (.inl k)) (fun k => .inr (.inr k))
      obtain ⟨w', r, q⟩ := hl i y v e1 e2 hvis
      obtain ⟨c2, h2⟩ := look k
      refine ⟨w', r, .inr ⟨.inr k, c2, h2, ?_⟩⟩
      have c1 := cm h2
      rcases q with ⟨k', _⟩ | ⟨_, c3, e', z⟩
      · have k' : X.env.scope.names.lookup y = some .local := k'
        rcases L.free _ (PySem.mem_of_lookup k) rfl with k2 | k2 <;> rw [show X.env.scope.names.lookup y = _ from k2] at k' <;> cases k'
      · rw [c1] at e'
        cases e'
        exact cellK (I.freeC y _ c1) z
  · obtain ⟨w', z⟩ := I.cell y c (cm e)
    exact ⟨w', cellK (I.freeC y c (cm e)) z⟩
  · obtain ⟨v, o, ho, hd⟩ := I.cell y c (cm e)
    exact un.free c o ho (I.freeC y c (cm e)) (by simp)
def DefBind (params : Arguments) (body : Expr) (scope : Scope) (y0 : Str) : Prop := ∀ (s : Shared) (q : Str) (cl : List (Str × Addr)) (t : Addr) (doc pm cv ctv v : Value), s.heap.get? t = some (kdv_tup [v]) → BindsTo s (kdv_fn "<lambda>" q params (.expr body) scope cl (.ref t) doc pm cv ctv) ⟨[], []⟩ [(y0, v)]
theorem peP_act {CXg : CXT} {Eg : XK} {Ng : List Str} {qg : Str} {sg : Scope} {g f c' t : Addr} {cdg doc pm ctv v0 : Value} {params : Arguments} {body : Expr} {scope : Scope} {k i : Nat} {a y0 : Str} {pn : List (Addr × Obj)} {xe : Value → Shared → Prop} {W : WX} {E : XK} {tb : TE} {p1 p2 : Pos}
    (I : Inv X pins σ H s) (L : LamP y0 X.env.scope scope) (hy0 : y0 ∉ X.N) (hf : s.heap.get? f = some (kdv_obj "<lambda>" (X.env.qual ++ "<lambda>") params (.expr body) scope (cloFrom X.env.cells scope.names []) (.ref t) doc pm c' ctv)) (hfn : H f = none) (hfr : f ∉ frs X.stack)
    (htt : s.heap.get? t = some (kdv_tup [v0])) (htn : H t = none) (htr : t ∉ frs X.stack) (hbind : DefBind params body scope y0)
    (tk : Takes ((cxOf CXg X.prog X.w X.K X.mg X.base Ng qg sg g cdg X.A X.stack s H Eg).tr pn xe) W) (hW : ∀ cls d σ' H', E cls d H' → W cls d σ' H') (hr : Room (k + 1) (X.A.deeper (envOfC qg sg s.heap.objs.size g cdg)))
    (hbody : ∀ (A : Around) (outer : List PySem.Env) (s : Shared) (H : Hp), Room k (A.deeper (LamX.lamEnv X scope s.heap.objs.size f c')) → PE (LamX.lamCx X A outer s H E scope f c') body tb)
    (hN : Ng[i]? = some a) (hv : Vis sg a) (hd : (a == ("__debug__" : Str)) = false := by decide) (hcd : (a == ("__classdict__" : Str)) = false := by decide) :
    PE ((cxOf CXg X.prog X.w X.K X.mg X.base Ng qg sg g cdg X.A X.stack s H Eg).tr pn xe) (.Call (.Name a p1) [] [] p2)
      (fun σZ HZ Q => σZ[i]? = some (some (.ref f)) ∧ HZ c' = some (LamX.CodeO c' (X.env.qual ++ "<lambda>")) ∧ tb σ HZ Q) := by
  refine ⟨fun pinsZ sZ σZ HZ Q IZ h => ?_⟩
  obtain ⟨hs, hc, ht⟩ := h
  refine wpAny_Call_Name_kw (thn ((pe_var (pos := p1) (i := i) hN hv hd hcd).run pinsZ sZ σZ HZ (fun v H1 => v = .ref f ∧ H1 = HZ) IZ ⟨.ref f, hs, rfl, rfl⟩) fun u s1 ⟨v, H1, I1, r1, q1⟩ => ?_)
  obtain ⟨ev, eH⟩ := q1
  subst ev
  rw [eH] at I1
  obtain rfl : u = Value.ref f := r1
  have of1 : s1.heap.get? f = some (kdv_obj "<lambda>" (X.env.qual ++ "<lambda>") params (.expr body) scope (cloFrom X.env.cells scope.names []) (.ref t) doc pm c' ctv) := I1.base.keep f _ hf hfn hfr (fun z => nomatch (show f ∈ ([] : List Addr) from z))
  have ot1 : s1.heap.get? t = some (kdv_tup [v0]) := I1.base.keep t _ htt htn htr (fun z => nomatch (show t ∈ ([] : List Addr) from z))
  refine PySem.W.callWith_F0 ⟨_, _, _, _, of1⟩ ?_
  have un : Un (frs X.stack) [] H HZ s.heap s1.heap := I1.base
  obtain ⟨⟨oc, vs, t1, hoc, hdc, hvc⟩, _, _⟩ := I1.hok c' _ hc
  have rc : codeAny (model X.prog X.w) (X.A.deeper (envOfC qg sg s.heap.objs.size g cdg)) (.call (.ref f) ⟨[], []⟩) (CR (L2.CX X.prog X.w) (envOfC qg sg s.heap.objs.size g cdg :: X.stack) X.prog X.w HZ s1 Q E) s1 := by
    refine PySem.W.kla_callFunE hr.depth of1 rfl L.co L.gen rfl ⟨c', oc, vs, t1, rfl, hoc, hdc, hvc⟩ ?_
    refine hbind _ _ _ _ _ _ _ _ _ ot1 _ _ _ _ ?_
    refine wpAny_newFunctionEnv (fun y hy => (L.own y hy).1) (fun y hy => by rw [List.mem_singleton.mp hy]; exact L.par) (fun h₁ hns hsb => ⟨I1.nolimit.fresh _ hsb, ?_⟩) L.kind
    show codeAny _ _ (.expr body (LamX.lamEnv X scope s1.heap.objs.size f c')) _ _
    have kp : ∀ b o, s1.heap.get? b = some o → h₁.get? b = some o := fun b o e => hsb.extBut b o (Nat.ne_of_lt (Heap.lt_size e)) (Heap.get?_push_of_some _ e)
    have J : Inv (LamX.lamCx X (X.A.deeper (envOfC qg sg s.heap.objs.size g cdg)) (envOfC qg sg s.heap.objs.size g cdg :: X.stack) s1 HZ E scope f c') [] σ HZ { s1 with heap := h₁, toks := s1.toks + ([(y0, v0)] : List (Str × Value)).length } :=
      lamP_start I L hy0 I1.env0 hr.hd un hns kp
    refine PySem.W.kla_codeExpr (wpAny_mono ((hbody _ _ s1 HZ (hr.deeper _)).run [] _ _ HZ Q J ht) (fun v s' hq => ?_) fun e s' hq => hq)
    obtain ⟨w', H', J', rv, q⟩ := hq
    exact ⟨w', H', J'.os, J'.bare, J'.base, J'.hok, rv, q⟩
  have hx : Passes (L2.CX X.prog X.w) ((cxOf CXg X.prog X.w X.K X.mg X.base Ng qg sg g cdg X.A X.stack s H Eg).tr pn xe) E := passes_call tk hW
  refine wpAny_call (codeAny_mono rc fun r s' hq => ?_)
  cases r with
  | error e => exact hx pinsZ σZ HZ s1 e s' I1 hq
  | ok fl =>
    cases fl with
    | ret u => exact I1.after hq
    | next => exact False.elim hq
    | brk => exact False.elim hq
    | cont => exact False.elim hq
end
section
variable {X : Cx}
theorem pe_lamP {T : List (Addr × Str)} {TT : (XK → Hp → VK → Prop) → Hp → VK → Prop} {x a y0 : Str} {g c P : Addr} {k : Nat} {pg : Arguments} {bg : List Stmt} {sg : Scope} {dV kV doc pm cdv ct oc : Value} {an od : Option Addr} {osl : Array (Option Value)} {Ng : List Str}
    {params : Arguments} {body : Expr} {scope : Scope} {t : XK → TE} {p lpos pos : Pos} {z : Int} {jc : Nat} {pc : Pos} (hg : Gl X x) (hm : X.mg x = some (.ref g)) (hk : keepIn X.K (.ref g) = true)
    (lk : X.K.lookup g = some ⟨oc, od, .func (fnOf x x pg bg sg dV kV doc pm an cdv ct), osl⟩) (hcg : codeIn X.K cdv x = true) (hb : L2.Binds X.K (fnOf x x pg bg sg dV kV doc pm an cdv ct) [a] []) (Sg : FnScope Ng [a] sg) (hNg : Ng[0]? = some a) (hva : Vis sg a)
    (hG : GivesR X k Ng x sg g cdv bg a (X.env.qual ++ "<lambda>") TT)
    (TB : LamX.TabB X.base X.mg c P) (hcode : X.env.code = .ref c) (inT : (P, X.env.qual ++ "<lambda>") ∈ T) (one : ∀ p ∈ T, p.1 = P → p.2 = X.env.qual ++ "<lambda>") (hr : Room (k + 2) X.A) (L : LamP y0 X.env.scope scope) (hy0 : y0 ∉ X.N) (hdd : params.defaults = [.Constant (.int z) jc pc]) (hk0 : params.kw_defaults = [])
    (hbind : DefBind params body scope y0)
    (hbody : ∀ (A : Around) (outer : List PySem.Env) (s : Shared) (H : Hp) (E : XK) (f c1 : Addr), Room k (A.deeper (LamX.lamEnv X scope s.heap.objs.size f c1)) → PE (LamX.lamCx X A outer s H E scope f c1) body (t E))
    (hdb : (x == ("__debug__" : Str)) = false := by decide) (hd : (a == ("__debug__" : Str)) = false := by decide) (hcd : (a == ("__classdict__" : Str)) = false := by decide) :
    PE X (.Call (.Name x p) [.Lambda params body scope lpos] [] pos) (tLamT T TT t) := by
  refine ⟨fun pins s σ H Q I ⟨hT, h⟩ => ?_⟩
  refine wpAny_Call_Name_kw (ld_glob I hg hm ?_ hdb)
  refine callWith_K (h₀ := X.base) I.ok.mod.kin hk ?_ (by rfl) (by rfl)
  show wpAny _ _ (spliced ((false, eval (.Lambda params body scope lpos) X.env) :: backTo pos (starEach [] X.env))) _ _ s
  refine Calls.spliced_cons (lamP_new I TB hcode inT one hT hdd hk0 (L.has I.ok) fun f c1 t0 tk0 doc1 pm1 ctv H1 s1 J eT T1 hf hfn hff ht0 htn htf hco => Calls.spliced_nil ⟨J.kIn, ?_⟩)
  have hfr : f ∉ frs X.stack := fun z => (List.mem_cons.mp (J.stkSub _ z)).elim hff.1 hff.2
  have htr : t0 ∉ frs X.stack := fun z => (List.mem_cons.mp (J.stkSub _ z)).elim htf.1 htf.2
  have rc : codeAny (model X.prog X.w) X.A (.call (.ref g) ⟨[.ref f], []⟩) (CR L2.CX0 X.stack X.prog X.w H1 s1 Q C8.E0) s1 := by
    refine LamX.run_ofS (N := Ng) (ps := [a]) (us := [.ref f]) (vs := [.ref f]) lk hcg Sg hr J.env0 (hb s1 [.ref f] J.kIn rfl) (.cons rfl .nil) rfl fun hr1 => ?_
    obtain ⟨t1, ht1, hq1⟩ := hG f c1 s1 H1 Q (fun E H' Q' => t E σ H' Q') hr1 (fun W pn xe E p1 p2 tk hW => peP_act (i := 0) J L hy0 hf hfn hfr ht0 htn htr hbind tk hW hr1 (fun A outer s H hr2 => hbody A outer s H E f c1 hr2) hNg hva hd hcd) hco (h H1 eT T1)
    exact ⟨t1, ht1.nox, hq1⟩
  refine wpAny_call (codeAny_mono rc fun r s2 hq => ?_)
  cases r with
  | error e => exact (show False from hq).elim
  | ok fl => cases fl with
    | ret u => exact J.after hq
    | next => exact hq.elim
    | brk => exact hq.elim
    | cont => exact hq.elim
end
section
variable {X : Cx} {W : WX} {x fx a y n : Str} {st : Stmt} {ks : List Str} {F : List Str → List D → Sm D} {k kk j : Nat} {c P : Addr}
theorem de_whyP {y0 : Str} {z : Int} {jc : Nat} {pc : Pos} {params : Arguments} {body : Expr} {scope : Scope} {f : Fe} {p lpos pos : Pos} {j1 k1 k2 k3 : Nat} {q1 q2 q3 q4 q5 q6 q7 q8 q9 q10 q11 r1 r2 r3 r4 r5 r6 r7 : Pos} (T : WhyAt X.prog X.w X.K X.mg X.base k x fx a y n st ks F) (hg : Gl X x)
    (hst : L2.defBody st = [.Try [.Return (some (.Tuple [.Constant (.str "") j1 q1, .Call (.Name a q2) [] [] q3] k1 q4)) q5]
      [.ExceptHandler (some (.Tuple [.Name "LoomError" q9, .Name "Missing" q10, .Name "NothingLeft" q11] k2 q6)) (some n) [.Return (some (.Tuple [.Attribute (.Name n r1) "code" r2, .Call (.Name fx r3) [.Name n r4] [] r5] k3 r6)) r7] q7] [] [] q8])
    (S : FnScope [a, n] [a] (L2.defScope st)) (hva : Vis (L2.defScope st) a) (hln : (L2.defScope st).names.lookup n = some .local) (hgf : (L2.defScope st).names.lookup fx = some .globalImplicit)
    (hg1 : (L2.defScope st).names.lookup ("LoomError" : Str) = some .globalImplicit) (hg2 : (L2.defScope st).names.lookup ("Missing" : Str) = some .globalImplicit) (hg3 : (L2.defScope st).names.lookup ("NothingLeft" : Str) = some .globalImplicit)
    (TB : LamX.TabB X.base X.mg c P) (hcode : X.env.code = .ref c) (inT : (P, X.env.qual ++ "<lambda>") ∈ TK X.K) (one : ∀ p ∈ TK X.K, p.1 = P → p.2 = X.env.qual ++ "<lambda>") (hr : Room (kk + 2) X.A) (hk : k ≤ kk) (L : LamP y0 X.env.scope scope)
    (hb : ∀ (A : Around) (outer : List PySem.Env) (s : Shared) (H : Hp) (E : XK) (f' c1 : Addr), Room kk (A.deeper (LamX.lamEnv X scope s.heap.objs.size f' c1)) → TakesM false (LamX.lamCx X A outer s H E scope f' c1) (fun c d _ H' => E c d H') → DE (LamX.lamCx X A outer s H E scope f' c1) (fun c d _ H' => E c d H') body f)
    (hy0 : y0 ∉ X.N) (hdd : params.defaults = [.Constant (.int z) jc pc] := by rfl) (hk0 : params.kw_defaults = [] := by rfl) (hbind : DefBind params body scope y0 := by exact fun _ _ _ _ _ _ _ _ _ h => BindsTo.of_defaults rfl h rfl rfl rfl)
    (hdb : (x == ("__debug__" : Str)) = false := by decide) (hdf : (fx == ("__debug__" : Str)) = false := by decide) (had : (a == ("__debug__" : Str)) = false := by decide) (hacd : (a == ("__classdict__" : Str)) = false := by decide) (hnd : (n == ("__debug__" : Str)) = false := by decide) (hncd : (n == ("__classdict__" : Str)) = false := by decide) :
    DE X W (.Call (.Name x p) [.Lambda params body scope lpos] [] pos) (fWhy ks F f) := by
  obtain ⟨g, ff, fd, fdf, kf, c1, c2, c3, hm, Fg, hbg, hmf, hkf, hbf, hkk, G, hks, m1, m2, m3⟩ := T.ex
  obtain ⟨oc, od, kV, doc, pm, an, cdv, ct, osl, rfl, lk, hcd⟩ := Fg.ex
  have gives : GivesR X kk [a, n] x (L2.defScope st) g cdv (L2.defBody st) a (X.env.qual ++ "<lambda>") (TTwhy X.K [c1, c2, c3] F) := by
    rw [hst]
    exact why_gives G (Nat.le_trans hkk (Nat.succ_le_succ hk)) hmf hkf hbf hgf hdf S.nd rfl rfl hln hnd hncd rfl
      (fun s H => .cons ⟨hg1, by decide, .inl m1⟩ (.cons ⟨hg2, by decide, .inl m2⟩ (.cons ⟨hg3, by decide, .inl m3⟩ .nil))) (fun s H => rfl)
  refine ⟨_, pe_lamP (T := TK X.K) (t := fun E => tE X.K (fun c d _ H' => E c d H') f) hg hm Fg.kp lk hcd hbg S rfl hva gives TB hcode inT one hr L hy0 hdd hk0 hbind (fun A outer s H E f' c1 hr' => (hb A outer s H E f' c1 hr' (takes_of rfl rfl rfl rfl)).pe) hdb had hacd, fun env M σ w H w0 H0 Q I h => ?_⟩
  refine ⟨I.ok.tt, fun H1 e1 t1 => ?_⟩
  obtain ⟨o1, x1⟩ := I.ok.grow e1 t1
  have I1 := (I.step x1 o1).kept
  have h1 := Post.shift (Ra := RlE X.K) x1 h
  refine ⟨keepV env, M, w, w, H1, I1, ?_⟩
  unfold fWhy F_why at h1
  cases q : f (keepV env) M with
  | bad => simp only [q] at h1; exact h1.elim
  | ok d M1 =>
    simp only [q] at h1
    intro v w2 H2 x2 o2 i2
    refine ⟨two_le _ _, fun t ht => ?_⟩
    obtain ⟨w3, x3, o3, i3⟩ := tup2_ok o2 ht (.str "") i2
    exact h1 _ w3 _ (x2.trans x3) o3 i3
  | ex cn ns vs M1 =>
    simp only [q] at h1
    by_cases hc : cn ∈ ks
    · rw [if_pos hc] at h1
      obtain ⟨C0, hC0⟩ := hks cn hc
      cases qc : lookD "code" ns vs with
      | none => simp only [qc] at h1; exact h1.elim
      | some cv =>
        simp only [qc] at h1
        intro C dx fs w2 H2 hC x2 o2 hnew hdx hns iss
        have e := hC0.ns.symm.trans hC
        cases e
        subst hns
        obtain ⟨vc, hvc, ivc⟩ := lookD_ok iss qc
        obtain ⟨w3, o3, m3, g3, e3⟩ := o2.fixX hdx
        have x3 := e3 x2 hnew
        refine ⟨cn, C0, dx, rfl, rfl, hC0, fs, vc, hdx, hvc, fs, vs, M1, w3, o3, g3, iss.mono m3, ?_⟩
        have h3 := Post.shift (Ra := RlE X.K) x3 h1
        cases qF : F (fs.map (·.1)) vs M1 with
        | bad => simp only [qF] at h3; exact h3.elim
        | ex c' ns' vs' M2 => simp only [qF] at h3; exact h3.elim
        | ok d M2 =>
          simp only [qF] at h3
          intro v w4 H4 x4 o4 i4
          refine ⟨two_le _ _, fun t ht => ?_⟩
          obtain ⟨w5, x5, o5, i5⟩ := tup2_ok o4 ht ((ivc.mono m3).mono x4.more) i4
          exact h3 _ w5 _ (x4.trans x5) o5 i5
    · rw [if_neg hc] at h1; exact h1.elim
end
end DL
namespace DL
open PySem L2 PySem.W PyProof.Rows
variable [Wld]
section
variable {X : Cx} {pins : List (Addr × Obj)} {σ : L2.St} {H HZ : Hp} {s s1 : Shared}
end
section
variable {X : Cx}
end
section
variable {X : Cx} {W : WX} {x fx a y n : Str} {st : Stmt} {ks : List Str} {F : List Str → List D → Sm D} {k kk j : Nat} {c P : Addr}
end
end DL
namespace DL
open PySem L2 PySem.W PyProof.Rows
variable [Wld]
structure HasKK (μ : Bool) (P : Program) (w : World) (K : PySem.W.Frag) (mg : Str → Option Value) (base : Heap) (x m : Str) (ks : List Str) (is : List Nat) (k : Nat) (F : Fn) : Prop where
  ex : ∃ (C : Addr) (mc : Value) (p f : Addr) (fd : FuncData) (ps : List Str), mg x = some (.ref C) ∧ ClX.CRead K C mc ∧ ClX.CMet K C mc m p f ∧ KBn K fd ps 1 ks (fun us ws => us ++ pickB is ws) (fun us ws => us ++ pickB is ws) ∧ FnOk P w K mg base (CXm μ P w) k f fd ps (spDC K is.length F)
section
variable {P : Program} {w : World} {K : PySem.W.Frag} {mg : Str → Option Value} {base : Heap} {x m qual : Str} {st : Stmt} {N ps ks : List Str} {k n : Nat} {f : Fs} {is : List Nat}
end
section
variable {X : Cx} {CX : CXT} {k : Nat} {f C p : Addr} {mc : Value} {fd : FuncData} {ps ks : List Str} {sp : Sp} {x m : Str} {np pos apos : Pos} {o : Expr} {kws : List Keyword} {ta : TE} {tk : TA} {E : L2.St → XK} {pl : Sem Bool} {g : List Value → List Value → List Value} {gV : List V → List V → List V}
end
section
variable {X : Cx} {W : WX} {pos np apos : Pos} {x m : Str} {k j : Nat} {ks : List Str} {is : List Nat} {kws : List Keyword} {F : Fn} {fk : Fa} {pl : Sem Bool}
end
end DL
namespace DL
open PySem L2 PySem.W PyProof.Rows
variable [Wld]
section
variable {X : Cx} {j : Nat}
end
section
variable {X : Cx} {W : WX} {e : Expr} {pos p : Pos} {j : Nat} {fa : Fe}
end
end DL
namespace DL
open PySem L2 PySem.W PyProof.Rows
variable [Wld]
end DL
namespace DL
open PySem L2 TL
variable [Wld]
end DL
namespace DL
open PySem L2 TL
variable [Wld]
theorem some_of {a : Fe} {env : DL.Env} {M : Mem} {i : Int} (h : a env M = .ok (.int i) M) : pSome a env M = .ok (some i) M := by
  rw [u_pSome, h]
  rfl
def PyOk (b : Nat) (d : D) : Prop := ∃ p, toPy d = some p ∧ p.canLay0 = true ∧ p.depth ≤ b
theorem pys_all {b : Nat} : ∀ {ds : List D}, (∀ d ∈ ds, PyOk b d) → ∃ ps, toPys ds = some ps ∧ PyData.canLayAll0 ps = true ∧ PyData.depthAll ps ≤ b
  | [], _ => ⟨[], rfl, rfl, Nat.zero_le _⟩
  | d :: ds, h => by
    obtain ⟨p, a1, a2, a3⟩ := h d List.mem_cons_self
    obtain ⟨ps, b1, b2, b3⟩ := pys_all (ds := ds) fun z hz => h z (List.mem_cons_of_mem _ hz)
    refine ⟨p :: ps, ?_, ?_, ?_⟩
    · unfold toPys
      rw [a1, b1]
    · unfold PyData.canLayAll0
      rw [a2, b2]; rfl
    · unfold PyData.depthAll
      omega
theorem py_tup {b : Nat} {ds : List D} (h : ∀ d ∈ ds, PyOk b d) : PyOk (b + 1) (.tup ds) := by
  obtain ⟨ps, b1, b2, b3⟩ := pys_all h
  refine ⟨.tuple ps, ?_, ?_, ?_⟩
  · unfold toPy; rw [b1]; rfl
  · unfold PyData.canLay0; exact b2
  · unfold PyData.depth; omega
theorem py_str {b : Nat} {s : Str} (h : PyData.strOk s = true) : PyOk (b + 1) (.str s) := ⟨.str s, rfl, by unfold PyData.canLay0; exact h, by unfold PyData.depth; omega⟩
theorem PyOk.mono {b c : Nat} {d : D} (h : PyOk b d) (hc : b ≤ c) : PyOk c d := by
  obtain ⟨p, a1, a2, a3⟩ := h
  exact ⟨p, a1, a2, Nat.le_trans a3 hc⟩
theorem py_lst {b : Nat} {ds : List D} (h : ∀ d ∈ ds, PyOk b d) : PyOk (b + 1) (.lst ds) := by
  obtain ⟨ps, b1, b2, b3⟩ := pys_all h
  refine ⟨.list ps, ?_, ?_, ?_⟩
  · unfold toPy; rw [b1]; rfl
  · unfold PyData.canLay0; exact b2
  · unfold PyData.depth; omega
theorem bag_grow {R : List MO} {M : Mem} (h : Bag R M) (g : List MO) : Bag (R ++ g) (M ++ g) := by
  obtain ⟨row, i, a, m, c, e, h1⟩ := h
  exact ⟨row, i, a, m, c, by rw [e]; rfl, h1⟩
def BagE (M : Mem) : Prop := ∃ R, Bag R M
theorem BagE.grow {M : Mem} (h : BagE M) (g : List MO) : BagE (M ++ g) := by
  obtain ⟨R, h⟩ := h
  exact ⟨_, bag_grow h g⟩
theorem py_int {b : Nat} {i : Int} : PyOk b (.int i) := ⟨.int i, rfl, rfl, by unfold PyData.depth; omega⟩
end DL
namespace DL
open PySem L2 PySem.W PyProof.Rows
variable [Wld]
section
variable {X : Cx} {W : WX} {e : Expr} {pos p1 p2 p3 p4 p5 p6 : Pos} {x : Str}
end
end DL
namespace DL
open PySem PySem.Spec PyProof.Rows L2
variable [Wld]
section
variable {P : Program} {w : World} {A : Around} {E : Value → Shared → Prop} {s : Shared} {a : Addr} {ks : List Key}
theorem SetXd.len {es : Array (Int × Value)} {t : SetTable} (D : SetXd w ks es t) : es.size = ks.length := by
  have := D.perm.length_eq
  rw [List.length_map, Array.length_toList] at this
  exact this
end
section
variable {P : Program} {w : World} {A : Around} {R : Result → Shared → Prop} {I : Addr} {fp wr : List Addr} {G : Array GenState → Array GenState → Prop} {n : Nat} {Pv : Nat → Value → Prop} {St : Nat → Shared → Prop}
end
end DL
namespace DL
open PySem PySem.Spec PyProof.Rows L2
variable [Wld]
section
variable {P : Program} {w : World} {A : Around} {E : Value → Shared → Prop} {s : Shared}
end
end DL
namespace DL
open PySem PySem.Spec PyProof.Rows L2 PpSet
variable [Wld]
section
variable {X : Cx}
end
end DL
namespace DL
open PySem L2 PySem.W PyProof.Rows
variable [Wld]
def Hom (ks : List Key) : Prop := (∀ k ∈ ks, ∃ i, k = Sum.inl i) ∨ (∀ k ∈ ks, ∃ x, k = Sum.inr x)
theorem Hom.sub {ks js : List Key} (h : Hom ks) (hs : ∀ k ∈ js, k ∈ ks) : Hom js := h.imp (fun z k hk => z k (hs k hk)) fun z k hk => z k (hs k hk)
section
variable {X : Cx} {j : Nat}
end
section
variable {X : Cx} {W : WX} {e : Expr} {pos p pos2 p2 : Pos} {j : Nat} {fa : Fe}
end
end DL
namespace DL
open PySem L2 PySem.W PyProof.Rows
variable [Wld]
section
variable {X : Cx} {W : WX} {tg e : Expr} {j : Nat}
end
end DL
namespace DL
open PySem L2 PySem.W PyProof.Rows
variable [Wld]
section
variable {X : Cx} {c : Expr} {tc : TT} {p1 p2 p3 : Pos} {rest : List Stmt}
end
def NiOk (P : Program) (w : World) (K : PySem.W.Frag) (mg : Str → Option Value) (base : Heap) (k : Nat) (f : Addr) (fd : FuncData) (ps : List Str) (pre : List V → Hp → (Hp → Prop) → Prop) : Prop :=
  ∀ (A : Around) (outer : List PySem.Env) (s : Shared) (H : Hp) (args : Args) (us : List Value) (vs : List V) (R : Hp → Prop), Room k A → Env0 P w K mg base A outer s H → BindsTo s fd args (ps.zip us) → Vals vs us → vs.length = ps.length → pre vs H R →
    codeAny (model P w) A (.call (.ref f) args) (fun r s' => match r with | .ok (.ret u) => u = .notImplemented ∧ CE outer P w H s (fun _ H1 => R H1) .none s' | .ok _ => False | .error e => L2.CX P w outer H s NoX e s') s
end DL
namespace DL
open PySem L2 PySem.W PyProof.Rows
variable [Wld]
section
variable {prog : Program} {w : World} {A : Around} {E : Value → Shared → Prop} {s : Shared} {K : PySem.W.Frag} {x C f : Addr} {ox : Obj} {od : Option Obj} {b tb : Value}
end
section
variable {X : Cx} {k : Nat} {f : Addr} {fd : FuncData} {ps : List Str} {pre : List V → Hp → (Hp → Prop) → Prop} {R : Hp → Prop}
end
end DL
namespace DL
open PySem L2 PySem.W PyProof.Rows
variable [Wld]
open AutoSeq1 (wpAny_loadPart')
section
variable {prog : Program} {w : World} {A : Around} {E : Value → Shared → Prop} {s : Shared} {C dx x : Addr}
end
section
variable {X : Cx} {k : Nat} {f C : Addr} {fd : FuncData} {ps : List Str} {pre : List V → Hp → (Hp → Prop) → Prop}
end
end DL
namespace DL
open PySem L2 PySem.W PyProof.Rows
variable [Wld]
def niEnv (m : Nat) (ds : List D) : Env := ds.map Sl.val ++ List.replicate (m - ds.length) Sl.no
def niPre (K : PySem.W.Frag) (n m : Nat) (fc : Ft) : List V → Hp → (Hp → Prop) → Prop := fun vs H R => ∃ ds M w, Ok K w H M ∧ Iss K w vs ds ∧ ds.length = n ∧ Post K RlT w H [] W0 (fun b H1 => b = true ∧ R H1) (fc (niEnv m ds) M)
theorem Post.w0 {α β : Type} {K : PySem.W.Frag} {Rl : Wd → Hp → β → α → Prop} {w : Wd} {H : Hp} {σ σ' : L2.St} {W : WX} {Q : β → Hp → Prop} {r : R α} (h : Post K Rl w H σ W0 Q r) : Post K Rl w H σ' W Q r := by
  cases r with
  | ok d M => exact h
  | ex c ns ds M => exact fun C dx fs w' H' a b c d e f g => (h C dx fs w' H' a b c d e f g).elim
  | bad => exact h
end DL
namespace DL
open PySem L2 PySem.W PyProof.Rows
variable [Wld]
structure HasNi (P : Program) (w : World) (K : PySem.W.Frag) (mg : Str → Option Value) (base : Heap) (x : Str) (k m : Nat) (fc : Ft) : Prop where
  ex : ∃ C f fd ps, ClsIs K x C ∧ Meth K C "__eq__" f ∧ Binds K fd ps [] ∧ ps.length = 2 ∧ NiOk P w K mg base k f fd ps (niPre K 2 m fc)
section
variable {P : Program} {w : World} {K : PySem.W.Frag} {mg : Str → Option Value} {base : Heap} {x qual : Str} {st : Stmt} {N ps : List Str} {k m : Nat} {fc : Ft} {c : Expr} {p1 p2 p3 : Pos} {rest : List Stmt}
end
section
variable {X : Cx} {W : WX} {e1 e2 : Expr} {pos : Pos} {x : Str} {k j m : Nat} {fc : Ft} {fa fb : Fe}
end
end DL
namespace DL
open PySem L2 PySem.W PyProof.Rows
variable [Wld]
abbrev FnO := List D → Mem → R MO
def spO (K : PySem.W.Frag) (n : Nat) (F : FnO) : Sp := fun vs H Q E => ∃ ds M w, Ok K w H M ∧ Iss K w vs ds ∧ ds.length = n ∧ Post K (RlO K H) w H [] (fun c d _ H' => E c d H') Q (F ds M)
structure HasMO (μ : Bool) (P : Program) (w : World) (K : PySem.W.Frag) (mg : Str → Option Value) (base : Heap) (x m : Str) (k : Nat) (F : FnO) : Prop where
  ex : ∃ C f fd ps, ClsIs K x C ∧ Meth K C m f ∧ Binds K fd ps [] ∧ FnOk P w K mg base (CXm μ P w) k f fd ps (spO K 1 F)
section
variable {X : Cx} {W : WX} {o c : Expr} {pos apos : Pos} {x m : Str} {k j : Nat} {F : FnO} {fo : Fe} {pl : Sem Bool}
end
section
variable {X : Cx} {W : WX} {e c : Expr} {pos : Pos} {o : Fo}
end
end DL
namespace DL
open PySem L2 TL
variable [Wld]
inductive SD : Nat → D → Prop
  | int {n : Nat} {i : Int} : SD (n + 1) (.int i)
  | str {n : Nat} {s : Str} : PyData.strOk s = true → SD (n + 1) (.str s)
  | tup {n : Nat} {ds : List D} : (∀ d ∈ ds, SD n d) → SD (n + 1) (.tup ds)
  | lst {n : Nat} {ds : List D} : (∀ d ∈ ds, SD n d) → SD (n + 1) (.lst ds)
theorem SD.py : ∀ {n : Nat} {d : D}, SD n d → PyOk n d := by
  intro n d h
  induction h with
  | int => exact py_int
  | str h => exact py_str h
  | tup _ ih => exact py_tup ih
  | lst _ ih => exact py_lst ih
theorem SD.up : ∀ {n : Nat} {d : D}, SD n d → SD (n + 1) d := by
  intro n d h
  induction h with
  | int => exact .int
  | str h => exact .str h
  | tup _ ih => exact .tup ih
  | lst _ ih => exact .lst ih
end DL
namespace DL
open PySem L2 PySem.W PyProof.Rows
variable [Wld]
section
variable {X : Cx} {pins : List (Addr × Obj)} {σ : L2.St} {H : Hp} {s : Shared} {k : Nat} {f a C : Addr} {fd : FuncData} {ps : List Str} {F : Fn} {x : Str}
end
section
variable {X : Cx} {W : WX} {e : Expr} {pos p : Pos} {x : Str} {k j : Nat} {ps : List Str} {F : Fn} {fa : Fe}
end
end DL
namespace DL
open PySem L2 PySem.W PyProof.Rows
variable [Wld]
section
variable {X : Cx} {pins : List (Addr × Obj)} {σ : L2.St} {k : Nat} {f C l IA SA : Addr} {fd : FuncData} {ps : List Str} {F : Fn} {x : Str}
end
section
variable {X : Cx} {W : WX} {e : Expr} {pos p : Pos} {x : Str} {k j : Nat} {ps : List Str} {F : Fn} {fa : Fe}
end
end DL
namespace DL
open PySem L2 PySem.W PyProof.Rows
variable [Wld]
section
variable {X : Cx} {k : Nat}
end
end DL
namespace DL
open PySem L2 PySem.W PyProof.Rows
variable [Wld]
section
variable {X : Cx}
end
end DL
namespace DL
open PySem L2 PySem.W PyProof.Rows
variable [Wld]
end DL
namespace DL
open PySem L2 PySem.W PyProof.Rows
variable [Wld]
section
variable {X : Cx} {W : WX} {e1 e2 : Expr} {pos apos : Pos} {fa fb : Fe}
end
end DL
namespace DL
open PySem L2 PySem.W PyProof.Rows
variable [Wld]
section
variable {X : Cx} {W : WX} {e e2 : Expr} {pos p1 p2 p3 p4 p5 p6 : Pos} {x : Str}
end
end DL
namespace DL
open PySem L2 PySem.W PyProof.Rows
variable [Wld]
section
variable {X : Cx} {W : WX} {e : Expr} {pos p2 : Pos} {fa : Fe} {t : TE}
end
end DL
namespace DL
open PySem L2 PySem.W PyProof.Rows
variable [Wld]
section
variable {X : Cx} {W : WX} {e : Expr} {fa : Fe}
end
end DL
namespace DL
open PySem PySem.W PyProof.Rows L2
variable [Wld]
mutual
def kOfD : D → Option NestedKey
  | .non => some .none
  | .int i => some (.num i)
  | .str x => some (.text x)
  | .tup ds => (kOfDs ds).map .tup
  | .bl _ => none
  | .lst _ => none
  | .rl _ => none
  | .ty _ => none
  | .cst _ => none
  | .obj _ _ _ => none
  | .ref _ => none
  | .exv _ _ _ _ _ => none
  | .fnv _ => none
  | .unk => none
  | .exn _ _ _ => none
def kOfDs : List D → Option (List NestedKey)
  | [] => some []
  | d :: ds => match kOfD d, kOfDs ds with
    | some x, some r => some (x :: r)
    | _, _ => none
end
mutual
theorem kOf_nk : ∀ n : NestedKey, kOfD (nkD n) = some n
  | .none => rfl
  | .num _ => rfl
  | .text _ => rfl
  | .tup ks => by rw [nkD, kOfD, kOf_nks ks]; rfl
theorem kOf_nks : ∀ ks : List NestedKey, kOfDs (nkDs ks) = some ks
  | [] => rfl
  | k :: ks => by rw [nkDs, kOfDs, kOf_nk k, kOf_nks ks]
end
mutual
theorem nk_kOf : ∀ (d : D) (n : NestedKey), kOfD d = some n → nkD n = d
  | .non, n, h => by cases h; rfl
  | .int i, n, h => by cases h; rfl
  | .str x, n, h => by cases h; rfl
  | .tup ds, n, h => by
    unfold kOfD at h
    cases q : kOfDs ds with
    | none => rw [q] at h; cases h
    | some ks =>
      rw [q] at h
      cases h
      rw [nkD, nk_kOfs ds ks q]
  | .bl _, n, h => by cases h
  | .lst _, n, h => by cases h
  | .rl _, n, h => by cases h
  | .ty _, n, h => by cases h
  | .cst _, n, h => by cases h
  | .obj _ _ _, n, h => by cases h
  | .ref _, n, h => by cases h
  | .exv _ _ _ _ _, n, h => by cases h
  | .fnv _, n, h => by cases h
  | .unk, n, h => by cases h
  | .exn _ _ _, n, h => by cases h
theorem nk_kOfs : ∀ (ds : List D) (ks : List NestedKey), kOfDs ds = some ks → nkDs ks = ds
  | [], ks, h => by cases h; rfl
  | d :: ds, ks, h => by
    unfold kOfDs at h
    cases q : kOfD d with
    | none => rw [q] at h; cases h
    | some x =>
      cases q2 : kOfDs ds with
      | none => rw [q, q2] at h; cases h
      | some r =>
        rw [q, q2] at h
        cases h
        rw [nkDs, nk_kOf d x q, nk_kOfs ds r q2]
end
def keyEq (d e : D) : Bool := match kOfD d, kOfD e with
  | some x, some y => NestedKey.beq x y
  | _, _ => false
theorem keyEq_iff {d e : D} {n : NestedKey} (h : kOfD e = some n) : keyEq d e = true ↔ d = e := by
  unfold keyEq
  rw [h]
  constructor
  · intro z
    cases q : kOfD d with
    | none => rw [q] at z; cases z
    | some m =>
      rw [q] at z
      have : m = n := NestedKey.eq_of_beq _ _ z
      subst this
      rw [← nk_kOf d m q, nk_kOf e m h]
  · rintro rfl
    rw [h]
    exact NestedKey.beq_self n
def flatK : D → Option Key
  | .int i => some (.inl i)
  | .str x => some (.inr x)
  | _ => none
def tupK (d : D) : Option NestedKey := match d with
  | .tup _ => (match kOfD d with
    | some n => if n.depth ≤ 8 then some n else none
    | none => none)
  | _ => none
theorem flatK_k {d : D} {k : Key} (h : flatK d = some k) : d = kdD k ∧ ∃ n, kOfD d = some n := by
  cases d with
  | int i => cases h; exact ⟨rfl, _, rfl⟩
  | str x => cases h; exact ⟨rfl, _, rfl⟩
  | _ => cases h
theorem tupK_k {d : D} {n : NestedKey} (h : tupK d = some n) : kOfD d = some n ∧ n.depth ≤ 8 ∧ ∃ ds, d = .tup ds := by
  cases d with
  | tup ds =>
    unfold tupK at h
    cases q : kOfD (.tup ds) with
    | none => simp only [q] at h; cases h
    | some m =>
      simp only [q] at h
      by_cases c : m.depth ≤ 8
      · rw [if_pos c] at h; cases h; exact ⟨rfl, c, ds, rfl⟩
      · rw [if_neg c] at h; cases h
  | _ => cases h
def dFind (kvs : List (D × D)) (d : D) : Option D := (kvs.find? fun p => keyEq p.1 d).map Prod.snd
def dPut (kvs : List (D × D)) (d e : D) : List (D × D) := if (kvs.any fun p => keyEq p.1 d) = true then kvs.map fun p => if keyEq p.1 d = true then (p.1, e) else p else kvs ++ [(d, e)]
def dFlat (kvs : List (D × D)) : Bool := kvs.all fun p => (flatK p.1).isSome
def dTups (kvs : List (D × D)) : Bool := kvs.all fun p => (tupK p.1).isSome
def dOk (kvs : List (D × D)) (d : D) : Bool := ((flatK d).isSome && dFlat kvs) || ((tupK d).isSome && dTups kvs)
theorem dOk_cases {kvs : List (D × D)} {d : D} (h : dOk kvs d = true) : (∃ k, flatK d = some k ∧ dFlat kvs = true) ∨ ∃ n, tupK d = some n ∧ dTups kvs = true := by
  unfold dOk at h
  rw [Bool.or_eq_true, Bool.and_eq_true, Bool.and_eq_true] at h
  rcases h with ⟨h1, h2⟩ | ⟨h1, h2⟩
  · obtain ⟨k, hk⟩ := Option.isSome_iff_exists.mp h1
    exact .inl ⟨k, hk, h2⟩
  · obtain ⟨k, hk⟩ := Option.isSome_iff_exists.mp h1
    exact .inr ⟨k, hk, h2⟩
theorem Paired_getR {α β : Type} {F : α → β → Prop} : ∀ {xs : List α} {ys : List β} {i : Nat} {y : β}, Paired F xs ys → ys[i]? = some y → ∃ x, xs[i]? = some x ∧ F x y
  | _, _, _, _, .nil, h => by simp at h
  | _, _, 0, _, .cons r _, h => by cases h; exact ⟨_, rfl, r⟩
  | _, _, i + 1, _, .cons _ t, h => by
    obtain ⟨x, h1, h2⟩ := Paired_getR (i := i) t (by simpa using h)
    exact ⟨x, by simpa using h1, h2⟩
theorem Paired_getL {α β : Type} {F : α → β → Prop} : ∀ {xs : List α} {ys : List β} {i : Nat} {x : α}, Paired F xs ys → xs[i]? = some x → ∃ y, ys[i]? = some y ∧ F x y
  | _, _, _, _, .nil, h => by simp at h
  | _, _, 0, _, .cons r _, h => by cases h; exact ⟨_, rfl, r⟩
  | _, _, i + 1, _, .cons _ t, h => by
    obtain ⟨x, h1, h2⟩ := Paired_getL (i := i) t (by simpa using h)
    exact ⟨x, by simpa using h1, h2⟩
section
variable {X : Cx} {pins : List (Addr × Obj)} {σ : L2.St} {H : Hp} {s : Shared} {w : Wd}
mutual
theorem nest_of (I : Inv X pins σ H s) (g : ∀ a o, w.g a = some o → H a = some o) : ∀ {v : V} {d : D} {n : NestedKey} {u : Value}, Is X.K w v d → kOfD d = some n → RelV v u → NestedIs s.heap n u
  | _, _, _, _, .non, h, r => by cases h; cases r; exact .none
  | _, _, _, _, .int i, h, r => by cases h; obtain ⟨t, rfl⟩ := r; exact .int i t
  | _, _, _, _, .str x, h, r => by cases h; obtain ⟨t, rfl⟩ := r; exact .text x t
  | _, _, n, _, .tup (ds := ds) h1 h2, h, r => by
    cases r
    unfold kOfD at h
    cases q : kOfDs ds with
    | none => rw [q] at h; cases h
    | some ks =>
      rw [q] at h
      cases h
      obtain ⟨its, rv, ⟨o, e1, e2, m, e3⟩, _⟩ := I.tuple (sqt_mono g h1.sq)
      refine .tup e1 e2 e3 ?_
      have : its.toArray.toList = its := by simp
      rw [this]
      exact nests_of I g h2 q rv
  | _, _, _, _, .bl _, h, r => by cases h
  | _, _, _, _, .lst _ _, h, r => by cases h
  | _, _, _, _, .rl _ _, h, r => by cases h
  | _, _, _, _, .ty _, h, r => by cases h
  | _, _, _, _, .cst _, h, r => by cases h
  | _, _, _, _, .obj _ _ _, h, r => by cases h
  | _, _, _, _, .ref _, h, r => by cases h
  | _, _, _, _, .exv _ _, h, r => by cases h
  | _, _, _, _, .fnv _, h, r => by cases h
  | _, _, _, _, .unk, h, r => by cases h
  | _, _, _, _, .exn _ _ _ _, h, r => by cases h
theorem nests_of (I : Inv X pins σ H s) (g : ∀ a o, w.g a = some o → H a = some o) : ∀ {vs : List V} {ds : List D} {ks : List NestedKey} {us : List Value}, Iss X.K w vs ds → kOfDs ds = some ks → Vals vs us → NestedAll s.heap ks us
  | _, _, _, _, .nil, h, r => by cases h; cases r; exact .nil
  | _, _, _, _, .cons (d := d) (ds := ds) h1 h2, h, r => by
    unfold kOfDs at h
    cases q : kOfD d with
    | none => rw [q] at h; cases h
    | some x =>
      cases q2 : kOfDs ds with
      | none => rw [q, q2] at h; cases h
      | some ks =>
        rw [q, q2] at h
        cases h
        cases r with
        | cons r1 r2 => exact .cons (nest_of I g h1 q r1) (nests_of I g h2 q2 r2)
end
theorem flat_v {v : V} {d : D} {k : Key} {K : PySem.W.Frag} (i : Is K w v d) (h : flatK d = some k) : v = kV k := by
  cases i with
  | int i => cases h; rfl
  | str x => cases h; rfl
  | _ => cases h
theorem dic_flat {K : PySem.W.Frag} {a : Addr} {kvs : List (D × D)} (o : IsO K w H a (.dic kvs)) (h : dFlat kvs = true) : ∃ ks, H a = some (.dK ks) ∧ Paired (isKV K w) ks kvs := by
  rcases o with o | ⟨xs, h0, h1, h2⟩
  · exact o
  · exfalso
    cases h2 with
    | nil => exact h0 rfl
    | @cons p q ps qs z t =>
      obtain ⟨z1, z2, z3, z4⟩ := z
      unfold dFlat at h
      rw [List.all_cons, Bool.and_eq_true] at h
      obtain ⟨k, hk⟩ := Option.isSome_iff_exists.mp h.1
      have := flat_v z3 hk
      cases k <;> cases this
theorem dic_tups (I : Inv X pins σ H s) (hw : Wld.w = X.w) (g : ∀ a o, w.g a = some o → H a = some o) {a : Addr} {kvs : List (D × D)} (o : IsO X.K w H a (.dic kvs)) (h : dTups kvs = true) :
    ∃ xs vs, Paired (isNV X.K w) xs kvs ∧ Paired sameN xs vs ∧ s.heap.DictOfH (nestedKind X.prog X.w) a vs ∧ (a == sysModules) = false ∧ xs.length ≤ sizeLine ∧ Mut (H a) := by
  rcases o with ⟨ks, h1, h2⟩ | ⟨xs, h0, h1, h2⟩
  · cases h2 with
    | nil =>
      obtain ⟨z, hd, vs, rel, dd⟩ := dk_of I.hok h1
      cases rel
      obtain ⟨o, es, ep, e1, e2, e3, e4, e5, e6⟩ := dd
      have e5 : Pairs (mixKind X.prog X.w) es.toList [] := e5
      have nil : es.toList = [] := by
        generalize es.toList = l at e5
        cases e5
        rfl
      exact ⟨[], [], .nil, .nil, ⟨o, es, ep, e1, e2, e3, nil, (fun x hx => by cases hx), List.nodup_nil⟩, hd, Nat.zero_le _, by rw [h1]; trivial⟩
    | @cons p q ps qs z t =>
      obtain ⟨z1, z2⟩ := z
      unfold dTups at h
      rw [List.all_cons, Bool.and_eq_true] at h
      obtain ⟨n, hn⟩ := Option.isSome_iff_exists.mp h.1
      obtain ⟨_, _, ds, e⟩ := tupK_k hn
      rw [← z1] at e
      cases hp : p.1 with
      | inl i => rw [hp] at e; cases e
      | inr i => rw [hp] at e; cases e
  · have hk := I.hok a _ h1
    obtain ⟨⟨hd, hz, vs, rel, o, es, ep, e1, e2, e3, e4, e5⟩, _, _⟩ := hk
    rw [hw] at e4
    refine ⟨xs, vs, h2, rel, ⟨o, es, ep, e1, e2, e3, e4, fun x hx => ?_, e5⟩, hd, hz, by rw [h1]; trivial⟩
    obtain ⟨i, hi⟩ := List.mem_iff_getElem?.mp hx
    obtain ⟨p, hp, s1, s2, s3⟩ := Paired_getR rel hi
    obtain ⟨q, hq, n1, n2, n3, n4⟩ := Paired_getL h2 hp
    refine ⟨?_, by rw [← s1]; exact n2⟩
    rw [← s1, ← s2]
    exact nest_of I g n3 (by rw [← n1]; exact kOf_nk _) rfl
end
end DL
namespace DL
open PySem PySem.W PyProof.Rows L2
variable [Wld]
theorem kd_inj {a b : Key} (h : kdD a = kdD b) : a = b := by
  cases a <;> cases b <;> cases h <;> rfl
theorem find_cons_t {p : D × D} {r : List (D × D)} {d : D} (h : keyEq p.1 d = true) : dFind (p :: r) d = some p.2 := by
  unfold dFind
  rw [List.find?_cons, h]; rfl
theorem find_cons_f {p : D × D} {r : List (D × D)} {d : D} (h : keyEq p.1 d = false) : dFind (p :: r) d = dFind r d := by
  unfold dFind
  rw [List.find?_cons, h]
theorem look_flat {K : PySem.W.Frag} {w : Wd} {d : D} {k : Key} (hd : flatK d = some k) : ∀ {ks : List (Key × V)} {kvs : List (D × D)}, Paired (isKV K w) ks kvs →
    (∀ e, dFind kvs d = some e → ∃ v, valV ks k = some v ∧ Is K w v e) ∧ (dFind kvs d = none → valV ks k = none)
  | _, _, .nil => ⟨fun e h => (by cases h), fun _ => rfl⟩
  | _, _, .cons (a := p) (b := q) (l₁ := ks) (l₂ := kvs) z t => by
    obtain ⟨ih1, ih2⟩ := look_flat hd t
    obtain ⟨ed, n, hn⟩ := flatK_k hd
    by_cases c : p.1 = k
    · have ke : keyEq q.1 d = true := (keyEq_iff hn).mpr (by rw [← z.1, c, ed])
      rw [valV_pos c, find_cons_t ke]
      exact ⟨fun e h => ⟨p.2, rfl, by cases h; exact z.2⟩, fun h => by cases h⟩
    · have ke : keyEq q.1 d = false := by
        cases e : keyEq q.1 d with
        | false => rfl
        | true =>
          have := (keyEq_iff hn).mp e
          rw [← z.1, ed] at this
          exact absurd (kd_inj this) c
      rw [valV_neg c, find_cons_f ke]
      exact ⟨ih1, ih2⟩
theorem atKey_pos {x : NestedKey × Addr × Value} {r : List (NestedKey × Addr × Value)} {n : NestedKey} (h : x.1 = n) : atKey (x :: r) n = some x.2 := by
  unfold atKey
  rw [List.find?_cons, decide_eq_true h]; rfl
theorem atKey_neg {x : NestedKey × Addr × Value} {r : List (NestedKey × Addr × Value)} {n : NestedKey} (h : ¬ x.1 = n) : atKey (x :: r) n = atKey r n := by
  unfold atKey
  rw [List.find?_cons, decide_eq_false h]
theorem look_tups {K : PySem.W.Frag} {w : Wd} {d : D} {n : NestedKey} (hn : kOfD d = some n) : ∀ {xs : List (NestedKey × Addr × V)} {vs : List (NestedKey × Addr × Value)} {kvs : List (D × D)}, Paired (isNV K w) xs kvs → Paired sameN xs vs →
    (∀ e, dFind kvs d = some e → ∃ p v, atKey vs n = some p ∧ RelV v p.2 ∧ Is K w v e) ∧ (dFind kvs d = none → atKey vs n = none)
  | _, _, _, .nil, .nil => ⟨fun e h => (by cases h), fun _ => rfl⟩
  | _, _, _, .cons (a := p) (b := q) z t, .cons (b := x) r s => by
    obtain ⟨ih1, ih2⟩ := look_tups hn t s
    have ex : x.1 = p.1 := r.1.symm
    by_cases c : p.1 = n
    · have ke : keyEq q.1 d = true := (keyEq_iff hn).mpr (by rw [← z.1, c]; exact nk_kOf d n hn)
      rw [atKey_pos (ex.trans c), find_cons_t ke]
      exact ⟨fun e h => ⟨x.2, p.2.2, rfl, r.2.2, by cases h; exact z.2.2.2⟩, fun h => by cases h⟩
    · have ke : keyEq q.1 d = false := by
        cases e : keyEq q.1 d with
        | false => rfl
        | true =>
          have := (keyEq_iff hn).mp e
          rw [← z.1, ← nk_kOf d n hn] at this
          have h2 := congrArg kOfD this
          rw [kOf_nk, kOf_nk] at h2
          exact absurd (Option.some.inj h2) c
      rw [atKey_neg (fun h => c (ex.symm.trans h)), find_cons_f ke]
      exact ⟨ih1, ih2⟩
theorem put_len (kvs : List (D × D)) (d e : D) : (dPut kvs d e).length ≤ kvs.length + 1 := by
  unfold dPut
  split
  · rw [List.length_map]; omega
  · rw [List.length_append]; exact Nat.le_refl _
theorem any_flat {K : PySem.W.Frag} {w : Wd} {d : D} {k : Key} (hd : flatK d = some k) : ∀ {ks : List (Key × V)} {kvs : List (D × D)}, Paired (isKV K w) ks kvs → (kvs.any fun p => keyEq p.1 d) = (ks.any fun p => decide (p.1 = k))
  | _, _, .nil => rfl
  | _, _, .cons (a := p) (b := q) z t => by
    obtain ⟨ed, n, hn⟩ := flatK_k hd
    rw [List.any_cons, List.any_cons, any_flat hd t]
    congr 1
    by_cases c : p.1 = k
    · rw [decide_eq_true c]; exact (keyEq_iff hn).mpr (by rw [← z.1, c, ed])
    · rw [decide_eq_false c]
      cases e : keyEq q.1 d with
      | false => rfl
      | true =>
        have := (keyEq_iff hn).mp e
        rw [← z.1, ed] at this
        exact absurd (kd_inj this) c
theorem map_flat {K : PySem.W.Frag} {w : Wd} {d e : D} {k : Key} {y : V} (hd : flatK d = some k) (iy : Is K w y e) : ∀ {ks : List (Key × V)} {kvs : List (D × D)}, Paired (isKV K w) ks kvs → Paired (isKV K w) (ks.map fun kv => if kv.1 = k then (kv.1, y) else kv) (kvs.map fun p => if keyEq p.1 d = true then (p.1, e) else p)
  | _, _, .nil => .nil
  | _, _, .cons (a := p) (b := q) z t => by
    obtain ⟨ed, n, hn⟩ := flatK_k hd
    rw [List.map_cons, List.map_cons]
    refine .cons ?_ (map_flat hd iy t)
    by_cases c : p.1 = k
    · have ke : keyEq q.1 d = true := (keyEq_iff hn).mpr (by rw [← z.1, c, ed])
      rw [if_pos c, if_pos ke]
      exact ⟨z.1, iy⟩
    · have ke : ¬ keyEq q.1 d = true := fun h => by
        have := (keyEq_iff hn).mp h
        rw [← z.1, ed] at this
        exact c (kd_inj this)
      rw [if_neg c, if_neg ke]
      exact z
theorem paired_snoc {α β : Type} {F : α → β → Prop} : ∀ {xs : List α} {ys : List β} {x : α} {y : β}, Paired F xs ys → F x y → Paired F (xs ++ [x]) (ys ++ [y])
  | _, _, _, _, .nil, h => .cons h .nil
  | _, _, _, _, .cons z t, h => .cons z (paired_snoc t h)
theorem put_flat {K : PySem.W.Frag} {w : Wd} {d e : D} {k : Key} {y : V} (hd : flatK d = some k) (iy : Is K w y e) {ks : List (Key × V)} {kvs : List (D × D)} (h : Paired (isKV K w) ks kvs) : Paired (isKV K w) (putK ks k y) (dPut kvs d e) := by
  have a := any_flat hd h
  unfold putK dPut
  rw [a]
  by_cases c : (ks.any fun p => decide (p.1 = k)) = true
  · rw [if_pos c, if_pos c]; exact map_flat hd iy h
  · rw [if_neg c, if_neg c]
    obtain ⟨ed, _⟩ := flatK_k hd
    exact paired_snoc h ⟨ed.symm, iy⟩
def storeX (xs : List (NestedKey × Addr × V)) (n : NestedKey) (b : Addr) (y : V) : List (NestedKey × Addr × V) :=
  if (xs.any fun p => decide (p.1 = n)) = true then xs.map fun p => if p.1 = n then (p.1, p.2.1, y) else p else xs ++ [(n, b, y)]
theorem isSome_any {vs : List (NestedKey × Addr × Value)} {n : NestedKey} : (atKey vs n).isSome = vs.any fun p => decide (p.1 = n) := by
  unfold atKey
  rw [Option.isSome_map, List.isSome_find?]
theorem any_same {n : NestedKey} : ∀ {xs : List (NestedKey × Addr × V)} {vs : List (NestedKey × Addr × Value)}, Paired sameN xs vs → (xs.any fun p => decide (p.1 = n)) = vs.any fun p => decide (p.1 = n)
  | _, _, .nil => rfl
  | _, _, .cons z t => by rw [List.any_cons, List.any_cons, any_same t, z.1]
theorem map_same {n : NestedKey} {y : V} {u : Value} (r : RelV y u) : ∀ {xs : List (NestedKey × Addr × V)} {vs : List (NestedKey × Addr × Value)}, Paired sameN xs vs → Paired sameN (xs.map fun p => if p.1 = n then (p.1, p.2.1, y) else p) (vs.map (putAt n u))
  | _, _, .nil => .nil
  | _, _, .cons (a := p) (b := x) z t => by
    rw [List.map_cons, List.map_cons]
    refine .cons ?_ (map_same r t)
    unfold putAt
    by_cases c : p.1 = n
    · rw [if_pos c, if_pos (z.1.symm.trans c)]
      exact ⟨z.1, z.2.1, r⟩
    · rw [if_neg c, if_neg (fun h => c (z.1.trans h))]
      exact z
theorem store_same {n : NestedKey} {b : Addr} {y : V} {u : Value} (r : RelV y u) {xs : List (NestedKey × Addr × V)} {vs : List (NestedKey × Addr × Value)} (h : Paired sameN xs vs) : Paired sameN (storeX xs n b y) (storedH vs n b u) := by
  unfold storeX storedH
  rw [isSome_any, ← any_same h]
  by_cases c : (xs.any fun p => decide (p.1 = n)) = true
  · rw [if_pos c, if_pos c]; exact map_same r h
  · rw [if_neg c, if_neg c]; exact paired_snoc h ⟨rfl, rfl, r⟩
theorem any_tups {K : PySem.W.Frag} {w : Wd} {d : D} {n : NestedKey} (hn : kOfD d = some n) : ∀ {xs : List (NestedKey × Addr × V)} {kvs : List (D × D)}, Paired (isNV K w) xs kvs → (kvs.any fun p => keyEq p.1 d) = (xs.any fun p => decide (p.1 = n))
  | _, _, .nil => rfl
  | _, _, .cons (a := p) (b := q) z t => by
    rw [List.any_cons, List.any_cons, any_tups hn t]
    congr 1
    by_cases c : p.1 = n
    · rw [decide_eq_true c]; exact (keyEq_iff hn).mpr (by rw [← z.1, c]; exact nk_kOf d n hn)
    · rw [decide_eq_false c]
      cases e : keyEq q.1 d with
      | false => rfl
      | true =>
        have := (keyEq_iff hn).mp e
        rw [← z.1, ← nk_kOf d n hn] at this
        have h2 := congrArg kOfD this
        rw [kOf_nk, kOf_nk] at h2
        exact absurd (Option.some.inj h2) c
theorem map_tups {K : PySem.W.Frag} {w : Wd} {d e : D} {n : NestedKey} {y : V} (hn : kOfD d = some n) (iy : Is K w y e) : ∀ {xs : List (NestedKey × Addr × V)} {kvs : List (D × D)}, Paired (isNV K w) xs kvs → Paired (isNV K w) (xs.map fun p => if p.1 = n then (p.1, p.2.1, y) else p) (kvs.map fun p => if keyEq p.1 d = true then (p.1, e) else p)
  | _, _, .nil => .nil
  | _, _, .cons (a := p) (b := q) z t => by
    rw [List.map_cons, List.map_cons]
    refine .cons ?_ (map_tups hn iy t)
    by_cases c : p.1 = n
    · have ke : keyEq q.1 d = true := (keyEq_iff hn).mpr (by rw [← z.1, c]; exact nk_kOf d n hn)
      rw [if_pos c, if_pos ke]
      exact ⟨z.1, z.2.1, z.2.2.1, iy⟩
    · have ke : ¬ keyEq q.1 d = true := fun h => by
        have := (keyEq_iff hn).mp h
        rw [← z.1, ← nk_kOf d n hn] at this
        have h2 := congrArg kOfD this
        rw [kOf_nk, kOf_nk] at h2
        exact c (Option.some.inj h2)
      rw [if_neg c, if_neg ke]
      exact z
theorem put_tups {K : PySem.W.Frag} {w : Wd} {d e : D} {n : NestedKey} {b : Addr} {y : V} (hn : kOfD d = some n) (hdep : n.depth ≤ 8) (ib : Is K w (.ref b) d) (iy : Is K w y e) {xs : List (NestedKey × Addr × V)} {kvs : List (D × D)} (h : Paired (isNV K w) xs kvs) : Paired (isNV K w) (storeX xs n b y) (dPut kvs d e) := by
  have a := any_tups hn h
  unfold storeX dPut
  rw [a]
  by_cases c : (xs.any fun p => decide (p.1 = n)) = true
  · rw [if_pos c, if_pos c]; exact map_tups hn iy h
  · rw [if_neg c, if_neg c]
    exact paired_snoc h ⟨nk_kOf d n hn, hdep, ib, iy⟩
theorem store_ne {xs : List (NestedKey × Addr × V)} {n : NestedKey} {b : Addr} {y : V} : storeX xs n b y ≠ [] := by
  unfold storeX
  by_cases c : (xs.any fun p => decide (p.1 = n)) = true
  · rw [if_pos c]
    intro z
    rw [List.map_eq_nil_iff.mp z] at c
    cases c
  · rw [if_neg c]; simp
theorem dicO_new2 {w w' : World} {P : Program} {H : Hp} {h : Heap} {d : Addr} {xs : List (NestedKey × Addr × V)} (R : DicX w h d xs) : ObjOk P w' H h d (DicO w d xs) := by
  have ⟨_, _, _, _, o, _, _, ho, _⟩ := R
  exact ⟨R, ⟨o, ho⟩, fun h1 h2 p k => DicX.at p k⟩
theorem tup_ref {K : PySem.W.Frag} {w : Wd} {v : V} {ds : List D} (h : Is K w v (.tup ds)) : ∃ b, v = .ref b := by
  cases h with
  | tup _ _ => exact ⟨_, rfl⟩
section
variable {X : Cx} {j : Nat}
def rInDic (K : PySem.W.Frag) (neg : Bool) : R2 := fun x y H Q => ∃ w M k kvs d, Ok K w H M ∧ Is K w x d ∧ Is K w y (.ref k) ∧ M[k]? = some (.dic kvs) ∧ dOk kvs d = true ∧ Q (.bl (if neg = true then !(dFind kvs d).isSome else (dFind kvs d).isSome)) H
theorem some_look {α : Type} {o : Option D} {r : Option α} (h1 : ∀ e, o = some e → r.isSome = true) (h2 : o = none → r = none) : r.isSome = o.isSome := by
  cases o with
  | none => rw [h2 rfl]; rfl
  | some e => exact h1 e rfl
theorem op_inDic (hw : Wld.w = X.w) (hr : Room j X.A) : OpR X (compareOp .In) (rInDic X.K false) := by
  intro pins s σ H x y v u Q I rx ry ⟨w, M, k, kvs, d, o, ix, iy, hk, ok, q⟩
  have hu := hr.units
  cases iy with
  | @ref a _ ha =>
    obtain ⟨b, h1, h2, io⟩ := o.mo hk
    rw [ha] at h1
    cases h1
    cases ry
    rcases dOk_cases ok with ⟨key, hf, hall⟩ | ⟨n, hn, hall⟩
    · obtain ⟨ks, e1, e2⟩ := dic_flat io hall
      have ex := flat_v ix hf
      subst ex
      obtain ⟨l1, l2⟩ := look_flat hf e2
      have is : (valV ks key).isSome = (dFind kvs d).isSome := some_look (fun e h => by obtain ⟨v, hv, _⟩ := l1 e h; rw [hv]; rfl) l2
      exact d_in (by omega) I (DGet.k e1) rx fun s' I' => ⟨.bl (valV ks key).isSome, H, I', rfl, by rw [is]; exact q⟩
    · obtain ⟨hn1, hn2, ds, rfl⟩ := tupK_k hn
      obtain ⟨b', rfl⟩ := tup_ref ix
      have key : (nestedKind X.prog X.w).is s.heap n b' := ⟨nest_of I o.g ix hn1 rfl, hn2⟩
      obtain ⟨xs, vs, p1, p2, dh, hd, _, _⟩ := dic_tups I hw o.g io hall
      obtain ⟨l1, l2⟩ := look_tups hn1 p1 p2
      have is : (atKey vs n).isSome = (dFind kvs (.tup ds)).isSome := some_look (fun e h => by obtain ⟨p, v, hv, _⟩ := l1 e h; rw [hv]; rfl) l2
      cases rx
      exact wpAny_in_heap (knd := nestedKind X.prog X.w) (by show X.A.units + 1 + 8 < cLine; omega) key hd dh ⟨.bl (atKey vs n).isSome, H, I.tok _, rfl, by rw [is]; exact q⟩
theorem op_ninDic (hw : Wld.w = X.w) (hr : Room j X.A) : OpR X (compareOp .NotIn) (rInDic X.K true) := by
  intro pins s σ H x y v u Q I rx ry ⟨w, M, k, kvs, d, o, ix, iy, hk, ok, q⟩
  have hu := hr.units
  cases iy with
  | @ref a _ ha =>
    obtain ⟨b, h1, h2, io⟩ := o.mo hk
    rw [ha] at h1
    cases h1
    cases ry
    rcases dOk_cases ok with ⟨key, hf, hall⟩ | ⟨n, hn, hall⟩
    · obtain ⟨ks, e1, e2⟩ := dic_flat io hall
      have ex := flat_v ix hf
      subst ex
      obtain ⟨l1, l2⟩ := look_flat hf e2
      have is : (valV ks key).isSome = (dFind kvs d).isSome := some_look (fun e h => by obtain ⟨v, hv, _⟩ := l1 e h; rw [hv]; rfl) l2
      exact d_notIn (by omega) I (DGet.k e1) rx fun s' I' => ⟨.bl (!(valV ks key).isSome), H, I', rfl, by rw [is]; exact q⟩
    · obtain ⟨hn1, hn2, ds, rfl⟩ := tupK_k hn
      obtain ⟨b', rfl⟩ := tup_ref ix
      have key : (nestedKind X.prog X.w).is s.heap n b' := ⟨nest_of I o.g ix hn1 rfl, hn2⟩
      obtain ⟨xs, vs, p1, p2, dh, hd, _, _⟩ := dic_tups I hw o.g io hall
      obtain ⟨l1, l2⟩ := look_tups hn1 p1 p2
      have is : (atKey vs n).isSome = (dFind kvs (.tup ds)).isSome := some_look (fun e h => by obtain ⟨p, v, hv, _⟩ := l1 e h; rw [hv]; rfl) l2
      cases rx
      exact wpAny_notIn_heap (knd := nestedKind X.prog X.w) (by show X.A.units + 1 + 8 < cLine; omega) key hd dh ⟨.bl (!(atKey vs n).isSome), H, I.tok _, rfl, by rw [is]; exact q⟩
def rGetDic (K : PySem.W.Frag) : R2 := fun x y H Q => ∃ w M k kvs d e, Ok K w H M ∧ Is K w x (.ref k) ∧ Is K w y d ∧ M[k]? = some (.dic kvs) ∧ dOk kvs d = true ∧ dFind kvs d = some e ∧ ∀ v, Is K w v e → Q v H
theorem get_dic (hw : Wld.w = X.w) (hr : Room j X.A) {pins : List (Addr × Obj)} {s : Shared} {σ : L2.St} {H : Hp} {x y : V} {v u : Value} {Q : VK} (I : Inv X pins σ H s) (rx : RelV x v) (ry : RelV y u) (h : rGetDic X.K x y H Q) :
    s.TypeIs v "dict" ∧ wpAny (model X.prog X.w) X.A (getItem v u) (EP X pins σ Q) X.xe s := by
  obtain ⟨w, M, k, kvs, d, e, o, ix, iy, hk, ok, he, q⟩ := h
  have hu := hr.units
  cases ix with
  | @ref a _ ha =>
    obtain ⟨b, h1, h2, io⟩ := o.mo hk
    rw [ha] at h1
    cases h1
    cases rx
    rcases dOk_cases ok with ⟨key, hf, hall⟩ | ⟨n, hn, hall⟩
    · obtain ⟨ks, e1, e2⟩ := dic_flat io hall
      have ey := flat_v iy hf
      subst ey
      obtain ⟨v', hv, iv⟩ := (look_flat hf e2).1 e he
      have g : DGet H a (kV key) (some v') := by rw [← hv]; exact DGet.k e1
      exact ⟨dict_typeIs I g, d_getItem (by omega) I g ry fun w' s' I' rw' => ⟨v', H, I', rw', q v' iv⟩⟩
    · obtain ⟨hn1, hn2, ds, rfl⟩ := tupK_k hn
      obtain ⟨b', rfl⟩ := tup_ref iy
      have key : (nestedKind X.prog X.w).is s.heap n b' := ⟨nest_of I o.g iy hn1 rfl, hn2⟩
      obtain ⟨xs, vs, p1, p2, dh, hd, _, _⟩ := dic_tups I hw o.g io hall
      obtain ⟨p, v', hv, rv, iv⟩ := (look_tups hn1 p1 p2).1 e he
      cases ry
      exact ⟨dh.typeIs, wpAny_getItem_heap (knd := nestedKind X.prog X.w) (by show X.A.units + 1 + 8 < cLine; omega) key dh hv ⟨v', H, I.tok _, rv, q v' iv⟩⟩
def rPutDic (K : PySem.W.Frag) : TSet := fun o i v H Q => ∃ w M k kvs d e, Ok K w H M ∧ Is K w o (.ref k) ∧ Is K w i d ∧ Is K w v e ∧ M[k]? = some (.dic kvs) ∧ dOk kvs d = true ∧ kvs.length < 16000000 ∧ ∀ H', Ext w H w H' → Ok K w H' (M.set k (.dic (dPut kvs d e))) → Q H'
theorem set_dic (hw : Wld.w = X.w) (hr : Room j X.A) : PSet X (rPutDic X.K) := by
  intro pins s σ H o i v ov iv u Q I ro ri rv ⟨w, M, k, kvs, d, e, ok1, io, ii, iv', hk, ok, sz, q⟩
  have hu := hr.units
  cases io with
  | @ref a _ ha =>
    obtain ⟨b, h1, h2, im⟩ := ok1.mo hk
    rw [ha] at h1
    cases h1
    cases ro
    have line : (16000000 : Nat) < sizeLine := by rw [sizeLine_eq]; decide
    rcases dOk_cases ok with ⟨key, hf, hall⟩ | ⟨n, hn, hall⟩
    · obtain ⟨ks, e1, e2⟩ := dic_flat im hall
      have ey := flat_v ii hf
      subst ey
      have sl : ks.length < sizeLine := by rw [Paired.length e2]; omega
      refine d_setItem (by omega) I (DPut.k e1 sl) ri rv fun s' I' => ⟨_, I', ?_⟩
      obtain ⟨o2, x2⟩ := ok1.write (o' := .dic (dPut kvs d e)) (u := .dK (putK ks key v)) hk ha (.inl ⟨_, upd_same, put_flat hf iv' e2⟩)
      exact q _ x2 o2
    · obtain ⟨hn1, hn2, ds, rfl⟩ := tupK_k hn
      obtain ⟨b', rfl⟩ := tup_ref ii
      have keyb : (nestedKind X.prog X.w).is s.heap n b' := ⟨nest_of I ok1.g ii hn1 rfl, hn2⟩
      obtain ⟨xs, vs, p1, p2, dh, hd, hz, mu⟩ := dic_tups I hw ok1.g im hall
      cases ri
      have lz : vs.length ≤ sizeLine := by rw [← Paired.length p2]; exact hz
      have lx : (storeX xs n b' v).length ≤ sizeLine := by
        have l1 := Paired.length p1
        have l2 := Paired.length (put_tups hn1 hn2 ii iv' p1)
        have l3 := put_len kvs (.tup ds) e
        omega
      refine wpAny_setItem_heap (knd := nestedKind X.prog X.w) (hsz := lz) (by show X.A.units + 1 + 8 < cLine; omega) keyb dh fun h' dd' hs => ?_
      obtain ⟨ob, es, ep, hq, g2, g3, g4, _, g5⟩ := dd'
      have J : Inv X pins σ (upd H a (DicO Wld.w a (storeX xs n b' v))) { s with heap := h', toks := s.toks + (nestedKind X.prog X.w).draws n } :=
        d_write I mu hs ⟨ob, hq⟩ (dicO_new2 ⟨hd, lx, _, store_same rv p2, ob, es, ep, hq, g2, g3, by rw [hw]; exact g4, g5⟩)
      obtain ⟨o2, x2⟩ := ok1.write (o' := .dic (dPut kvs (.tup ds) e)) (u := DicO Wld.w a (storeX xs n b' v)) hk ha (.inr ⟨_, store_ne, upd_same, put_tups hn1 hn2 ii iv' p1⟩)
      exact ⟨_, J, q _ x2 o2⟩
end
def gInDic (neg : Bool) : G2 := fun M d y => match y with
  | .ref k => match M[k]? with
    | some (.dic kvs) => if dOk kvs d = true then some (.bl (if neg = true then !(dFind kvs d).isSome else (dFind kvs d).isSome)) else none
    | _ => none
  | _ => none
def gGetDic : G2 := fun M y d => match y with
  | .ref k => match M[k]? with
    | some (.dic kvs) => if dOk kvs d = true then dFind kvs d else none
    | _ => none
  | _ => none
theorem snd_inDic {K : PySem.W.Frag} {neg : Bool} : SndR2 K (rInDic K neg) (gInDic neg) := fun w H M v1 v2 d1 d2 d Q o i1 i2 e k => by
  unfold gInDic at e
  split at e
  · rename_i k'
    split at e
    · rename_i kvs hk
      split at e
      · rename_i hok
        cases e
        exact ⟨w, M, k', kvs, d1, o, i1, i2, hk, hok, k _ w H (.refl _ _) o (.bl _)⟩
      · cases e
    · cases e
  · cases e
theorem snd_getDic {K : PySem.W.Frag} : SndR2 K (rGetDic K) gGetDic := fun w H M v1 v2 d1 d2 d Q o i1 i2 e k => by
  unfold gGetDic at e
  split at e
  · rename_i k'
    split at e
    · rename_i kvs hk
      split at e
      · rename_i hok
        exact ⟨w, M, k', kvs, d2, d, o, i1, i2, hk, hok, e, fun v iv => k v w H (.refl _ _) o iv⟩
      · cases e
    · cases e
  · cases e
section
variable {X : Cx} {W : WX} {e e1 e2 : Expr} {pos : Pos} {j : Nat} {fa fb : Fe}
def oDic0 : Fo := fun _ M => .ok (.dic []) M
theorem do_dic0 : DO X W (.Dict [] [] pos) oDic0 := ⟨_, pe_dnewK, fun env M σ w H w0 H0 Q I h p hp => by
  obtain ⟨o2, x2⟩ := I.ok.put (o := .dK []) hp
  obtain ⟨n1, n2⟩ := I.ok.new hp
  exact h (.ref p) w _ x2 o2 ⟨p, rfl, hp, n1, n2, .inl ⟨[], upd_same, .nil⟩⟩⟩
def sPutDic (a o i : Fe) : Fs := fun env M => (a env M).thn env fun e M1 => (o env M1).thn env fun y M2 => (i env M2).thn env fun d M3 => match y with
  | .ref k => match M3[k]? with
    | some (.dic kvs) => if dOk kvs d = true ∧ kvs.length < 16000000 then .nx env (M3.set k (.dic (dPut kvs d e))) else .bad
    | _ => .bad
  | _ => .bad
theorem ds_putDic {a fo fi : Fe} {tpos : Pos} (hW : Wld.w = X.w) (hr : Room j X.A) (ha : DE X W e a) (ho : DE X W e1 fo) (hi : DE X W e2 fi) (h1 : ∀ v, assign (.Subscript e1 e2 tpos) X.env v = (do
      let ov ← holding [v] (eval e1 X.env)
      let iv ← holding [v, ov] (eval e2 X.env)
      standAt tpos
      holding [v, ov, iv] (setItem ov iv v)
      release [v, ov, iv] []) := by intro _; rfl)
    (hs : swapsWithSole [.Subscript e1 e2 tpos] e pos.line X.env = pure false := by rfl) (hw : swappedStores [.Subscript e1 e2 tpos] e X.env = pure none := by rfl)
    (h2 : (assignEach [.Subscript e1 e2 tpos] X.env).map (·.2) = [assign (.Subscript e1 e2 tpos) X.env] := by rfl) : DS X W (.Assign [.Subscript e1 e2 tpos] e pos) (sPutDic a fo fi) := by
  obtain ⟨t, q, s⟩ := ha
  obtain ⟨t', q', s'⟩ := ho
  obtain ⟨t'', q'', s''⟩ := hi
  refine ⟨_, ps_asg q (pg_sub q' q'' (set_dic hW hr) h1) hs hw h2, fun env M σ w H w0 H0 B I h => ?_⟩
  refine s env M σ w H w0 H0 _ I (Post.thn I h fun d M1 v w1 H1 x1 I1 r1 k1 => ?_)
  refine s' env M1 σ w1 H1 w0 H0 _ I1 (Post.thn I1 k1 fun c M2 u w2 H2 x2 I2 r2 k2 => ?_)
  refine s'' env M2 σ w2 H2 w0 H0 _ I2 (Post.thn I2 k2 fun z M3 u' w3 H3 x3 I3 r3 k3 => ?_)
  split at k3
  · rename_i k
    split at k3
    · rename_i kvs hds
      split at k3
      · rename_i hok
        exact ⟨w3, M3, k, kvs, z, d, I3.ok, r2.mono x3.more, r3, (r1.mono x2.more).mono x3.more, hds, hok.1, hok.2, fun H' x4 o4 => k3 σ _ _ (I3.step x4 o4) x4.more⟩
      · exact k3.elim
    · exact k3.elim
  · exact k3.elim
end
end DL
namespace DL
open PySem PySem.W PyProof.Rows L2
variable [Wld]
section
variable {K : PySem.W.Frag}
def gLenD : GA := fun M ds => match ds with
  | [.ref k] => match M[k]? with
    | some (.dic kvs) => if dFlat kvs = true then some (.int kvs.length) else none
    | _ => none
  | _ => none
def rLenD : List V → Hp → VK → Prop := fun xs H Q => ∃ a kvs, xs = [V.ref a] ∧ H a = some (.dK kvs) ∧ Q (.int kvs.length) H
theorem snd_lenD : SndC K rLenD gLenD := fun w H M vs ds d Q o i e k => by
  unfold gLenD at e
  split at e
  · rename_i j
    split at e
    · rename_i kvs hk
      split at e
      · rename_i hf
        cases e
        cases i with
        | cons i1 i2 =>
          cases i2
          cases i1 with
          | @ref a _ ha =>
            obtain ⟨b, h1, h2, io⟩ := o.mo hk
            rw [ha] at h1
            cases h1
            obtain ⟨ks, e1, e2⟩ := dic_flat io hf
            exact ⟨a, ks, rfl, e1, by rw [Paired.length e2]; exact k _ w H (.refl _ _) o (.int _)⟩
      · cases e
    · cases e
  · cases e
end
end DL
namespace DL
open PySem PySem.Spec PyProof.Rows L2
variable [Wld]
section
variable {P : Program} {w : World}
def CalmAt (P : Program) (w : World) (n : Nat) (s : Shared) (v : Value) : Prop := ∀ (A : Around) (E : Value → Shared → Prop) (Q : Bool → Shared → Prop), Q false s → wpAny (model P w) A (ofAClassStatement n v) Q E s
def HashSome (P : Program) (w : World) (n : Nat) (s : Shared) (v : Value) : Prop := ∀ (A : Around) (E : Value → Shared → Prop) (Q : Bool → Shared → Prop), (∀ b, Q b s) → wpAny (model P w) A (hashByValue n v) Q E s
theorem calm_of {n : Nat} {s : Shared} {v : Value} (h : ∀ a, v ≠ .ref a) : CalmAt P w n s v := fun A E Q q => by
  have e : ofAClassStatement n v = pure false := by
    cases v with
    | ref a => exact absurd rfl (h a)
    | _ => cases n <;> rfl
  rw [e]
  exact wpAny_pure q
theorem calm_tup {n : Nat} {s : Shared} {a : Addr} {o : Obj} {vs : Array Value} {m : Nat} (ho : s.heap.get? a = some o) (hc : o.cls = .type "tuple") (hd : o.data = .seq vs m) (hq : ∀ v ∈ vs.toList, CalmAt P w n s v) : CalmAt P w (n + 1) s (.ref a) := fun A E Q h => by
  have hT : s.TypeIs (.ref a) "tuple" := ⟨o, ho, hc⟩
  unfold ofAClassStatement
  refine wpAny_bind (wpAny_typeOf hT ?_)
  dsimp only
  have e : (("tuple" : String) == "tuple") = true := by decide
  simp only [e, if_true, Bool.not_true, Bool.false_eq_true, if_false]
  try refine wpAny_bind (wpAny_pure ?_)
  try simp only [Bool.not_true, Bool.false_eq_true, if_false]
  show wpAny _ _ (seqItems? (.ref a) >>= _) _ _ s
  refine wpAny_bind (wpAny_seqItems ho hd ?_)
  dsimp only
  refine wpAny_bind ?_
  show wpAny _ _ (forIn vs _ _) _ _ s
  rw [← Array.forIn_toList]
  refine wpAny_forIn_list _ (fun rest r s' => r.1 = none ∧ s' = s ∧ ∀ v ∈ rest, CalmAt P w n s v) _ ?_ ?_ _ _ ⟨rfl, rfl, hq⟩
  · rintro v rest r s' ⟨hr, rfl, hall⟩
    refine wpAny_bind (hall v List.mem_cons_self _ _ _ ?_)
    simp only [Bool.false_eq_true, if_false]
    exact wpAny_pure ⟨rfl, rfl, fun u hu' => hall u (List.mem_cons_of_mem _ hu')⟩
  · rintro ⟨r1, r2⟩ s' ⟨hr, rfl, _⟩
    simp only at hr
    subst hr
    exact wpAny_pure h
theorem hsome_of {n : Nat} {s : Shared} {v : Value} (h : v = .none ∨ (∃ b, v = .bool b) ∨ (∃ i t, v = .int i t) ∨ ∃ x t, v = .str x t) : HashSome P w n s v := fun A E Q q => by
  have e : ∃ b, hashByValue n v = pure b := by
    rcases h with rfl | ⟨b, rfl⟩ | ⟨i, t, rfl⟩ | ⟨x, t, rfl⟩ <;> cases n <;> exact ⟨_, rfl⟩
  obtain ⟨b, e⟩ := e
  rw [e]
  exact wpAny_pure (q b)
theorem hsome_tup {n : Nat} {s : Shared} {a : Addr} {o : Obj} {vs : Array Value} {m : Nat} (ho : s.heap.get? a = some o) (hc : o.cls = .type "tuple") (hd : o.data = .seq vs m) (hq : ∀ v ∈ vs.toList, HashSome P w n s v) : HashSome P w (n + 1) s (.ref a) := fun A E Q h => by
  have hT : s.TypeIs (.ref a) "tuple" := ⟨o, ho, hc⟩
  unfold hashByValue
  refine wpAny_bind (wpAny_specialOf hT PySem.F.slot_tuple_hash.lookup ?_)
  show wpAny _ _ (seqItems? (.ref a) >>= _) _ _ s
  refine wpAny_bind (wpAny_seqItems ho hd ?_)
  refine wpAny_bind ?_
  show wpAny _ _ (forIn vs _ _) _ _ s
  rw [← Array.forIn_toList]
  refine wpAny_forIn_list _ (fun rest r s' => r.1 = none ∧ s' = s ∧ ∀ v ∈ rest, HashSome P w n s v) _ ?_ ?_ _ _ ⟨rfl, rfl, hq⟩
  · rintro v rest r s' ⟨hr, rfl, hall⟩
    refine wpAny_bind (hall v List.mem_cons_self _ _ _ fun b => ?_)
    cases b with
    | true =>
      simp only [Bool.not_true, Bool.false_eq_true, if_false]
      exact wpAny_pure ⟨rfl, rfl, fun u hu' => hall u (List.mem_cons_of_mem _ hu')⟩
    | false =>
      simp only [Bool.not_false, if_true]
      exact wpAny_pure (wpAny_pure (h _))
  · rintro ⟨r1, r2⟩ s' ⟨hr, rfl, _⟩
    simp only at hr
    subst hr
    exact wpAny_pure (h _)
mutual
theorem calm_key : ∀ (k : NestedKey) (v : Value) (n : Nat) (s : Shared), NestedIs s.heap k v → k.depth ≤ n → CalmAt P w n s v
  | .none, _, n, s, x, _ => by cases x; exact calm_of (fun a => by simp)
  | .num i, _, n, s, x, _ => by cases x <;> exact calm_of (fun a => by simp)
  | .text y, _, n, s, x, _ => by cases x; exact calm_of (fun a => by simp)
  | .tup ks, _, n, s, x, hn => by
    cases x with
    | tup hg hc hd hk =>
      simp only [NestedKey.depth] at hn
      cases n with
      | zero => omega
      | succ n => exact calm_tup hg hc hd (calm_keys ks _ n s hk (by omega))
theorem calm_keys : ∀ (ks : List NestedKey) (vs : List Value) (n : Nat) (s : Shared), NestedAll s.heap ks vs → NestedKey.depthAll ks ≤ n → ∀ v ∈ vs, CalmAt P w n s v
  | [], _, n, s, x, _, v, hv => by cases x; cases hv
  | k :: ks, _, n, s, x, hn, v, hv => by
    cases x with
    | cons x1 x2 =>
      simp only [NestedKey.depthAll] at hn
      rcases List.mem_cons.mp hv with e | hv
      · rw [e]; exact calm_key k _ n s x1 (by omega)
      · exact calm_keys ks _ n s x2 (by omega) v hv
end
mutual
theorem hsome_key : ∀ (k : NestedKey) (v : Value) (n : Nat) (s : Shared), NestedIs s.heap k v → k.depth ≤ n → HashSome P w n s v
  | .none, _, n, s, x, _ => by cases x; exact hsome_of (.inl rfl)
  | .num i, _, n, s, x, _ => by
    cases x with
    | bool e => exact hsome_of (.inr (.inl ⟨_, rfl⟩))
    | int _ t => exact hsome_of (.inr (.inr (.inl ⟨_, _, rfl⟩)))
  | .text y, _, n, s, x, _ => by cases x; exact hsome_of (.inr (.inr (.inr ⟨_, _, rfl⟩)))
  | .tup ks, _, n, s, x, hn => by
    cases x with
    | tup hg hc hd hk =>
      simp only [NestedKey.depth] at hn
      cases n with
      | zero => omega
      | succ n => exact hsome_tup hg hc hd (hsome_keys ks _ n s hk (by omega))
theorem hsome_keys : ∀ (ks : List NestedKey) (vs : List Value) (n : Nat) (s : Shared), NestedAll s.heap ks vs → NestedKey.depthAll ks ≤ n → ∀ v ∈ vs, HashSome P w n s v
  | [], _, n, s, x, _, v, hv => by cases x; cases hv
  | k :: ks, _, n, s, x, hn, v, hv => by
    cases x with
    | cons x1 x2 =>
      simp only [NestedKey.depthAll] at hn
      rcases List.mem_cons.mp hv with e | hv
      · rw [e]; exact hsome_key k _ n s x1 (by omega)
      · exact hsome_keys ks _ n s x2 (by omega) v hv
end
end
def TupN (h : Heap) (k : NestedKey) (a : Addr) : Prop := NestedIs h k (.ref a) ∧ k.depth ≤ 8
theorem TupN.inj {h : Heap} {a : Addr} {k j : NestedKey} (x : TupN h k a) (y : TupN h j a) : k = j := NestedIs.inj _ _ _ x.1 y.1
theorem TupN.keep {h h' : Heap} {k : NestedKey} {b : Addr} (x : TupN h k b) (hk : ∀ c o, h.get? c = some o → h'.get? c = some o) : TupN h' k b := ⟨NestedIs.at (fun a o vs n ha _ => hk a o ha) k _ x.1, x.2⟩
theorem TupN.same {h h' : Heap} {k : NestedKey} {a b : Addr} {o : Obj} {es : Array (Int × Value)} {ep : Nat} {t : SetTable} (x : TupN h k b) (ho : h.get? a = some o) (hd : o.data = .set es ep t) (hs : Heap.SameBut a h h') : TupN h' k b :=
  ⟨NestedIs.at (fun c u vs n hc hu => by
    refine (hs.2 c fun z => ?_).trans hc
    subst z
    rw [ho] at hc
    cases hc
    rw [hd] at hu
    cases hu) k _ x.1, x.2⟩
section
variable {P : Program} {w : World} {A : Around} {E : Value → Shared → Prop} {s : Shared}
end
end DL
namespace DL
open PySem PySem.Spec PyProof.Rows L2
variable [Wld]
section
variable {w : World} {L : NL} {es : Array (Int × Value)} {t : SetTable}
theorem TabN.fits (R : TabN w L es t) : t.fits es.size = true := by
  have h1 := R.tab.sz
  unfold hsN at h1
  rw [List.length_map] at h1
  have h2 := R.size
  have h3 := R.room
  unfold SetTable.fits SetTable.fill
  rw [R.tab.dm, Bool.and_eq_true, beq_iff_eq, decide_eq_true_eq]
  show t.place.size = es.size ∧ t.place.size + 0 ≤ t.mask
  omega
theorem TabN.entry (R : TabN w L es t) {i : Nat} {p : Addr × NestedKey} (h : L[i]? = some p) : es[i]? = some (p.2.hash w, Value.ref p.1) := by
  rw [← Array.getElem?_toList, R.rows]
  unfold rowN
  rw [List.getElem?_map, h]; rfl
end
structure SetNR (w : World) (h : Heap) (a : Addr) (L : NL) (es : Array (Int × Value)) (ep : Nat) (t : SetTable) : Prop where
  ob : ∃ o, h.get? a = some o ∧ o.ExactSet ∧ o.data = .set es ep t
  tb : TabN w L es t
  tup : ∀ p ∈ L, TupN h p.2 p.1
section
variable {P : Program} {w : World} {A : Around} {E : Value → Shared → Prop} {s : Shared} {a : Addr} {L : NL} {es : Array (Int × Value)} {ep : Nat} {t : SetTable}
end
end DL
namespace DL
open PySem PySem.Spec PyProof.Rows L2
variable [Wld]
section
variable {P : Program} {w : World} {A : Around} {E : Value → Shared → Prop} {s : Shared} {a : Addr} {L : NL} {es : Array (Int × Value)} {ep : Nat} {t : SetTable}
end
end DL
namespace DL
open PySem PySem.Spec PySem.W PyProof.Rows L2
variable [Wld]
def insN (ks : List NestedKey) (k : NestedKey) : List NestedKey := if (ks.any fun j => NestedKey.beq j k) = true then ks else k :: ks
def dedN (xs : List NestedKey) : List NestedKey := xs.foldl insN []
def PairN (K : PySem.W.Frag) (w : Wd) (L : NL) : Prop := ∀ p ∈ L, Is K w (.ref p.1) (nkD p.2) ∧ tupK (nkD p.2) = some p.2
end DL
namespace DL
open PySem PySem.Spec PyProof.Rows L2
variable [Wld]
structure GotN (ps : NL) (i : Nat) (L : NL) : Prop where
  sub : ∀ p ∈ L, p ∈ ps
  ks : (L.map (·.2)).Perm (dedN ((ps.take i).map (·.2)))
theorem SetNR.keep {w : World} {h h' : Heap} {a : Addr} {L : NL} {es : Array (Int × Value)} {ep : Nat} {t : SetTable} (R : SetNR w h a L es ep t) (ha : ∀ o, h.get? a = some o → h'.get? a = some o) (ht : ∀ p ∈ L, TupN h' p.2 p.1) : SetNR w h' a L es ep t := by
  obtain ⟨o, ho, r⟩ := R.ob
  exact ⟨⟨o, ha o ho, r⟩, R.tb, ht⟩
section
variable {P : Program} {w : World} {A : Around} {E : Value → Shared → Prop} {s : Shared} {R : Result → Shared → Prop} {I : Addr} {fp wr : List Addr} {G : Array GenState → Array GenState → Prop} {n : Nat} {Pv : Nat → Value → Prop} {St : Nat → Shared → Prop}
end
end DL
namespace DL
open PySem PySem.Spec PyProof.Rows L2
variable [Wld]
section
variable {P : Program} {w : World} {A : Around} {E : Value → Shared → Prop} {s : Shared}
end
def SetN0 (w : World) (h : Heap) (a : Addr) (L : NL) : Prop := ∃ es ep t, (∃ o, h.get? a = some o ∧ o.ExactSet ∧ o.data = .set es ep t) ∧ TabN w L es t
theorem SetN0.at {w : World} {a : Addr} {L : NL} {h h' : Heap} (R : SetN0 w h a L) (k : ∀ o, h.get? a = some o → h'.get? a = some o) : SetN0 w h' a L := by
  obtain ⟨es, ep, t, ⟨o, ho, r⟩, T⟩ := R
  exact ⟨es, ep, t, ⟨o, k o ho, r⟩, T⟩
section
variable {X : Cx} {j : Nat}
end
end DL
namespace DL
open PySem PySem.Spec PySem.W PyProof.Rows L2
variable [Wld]
section
variable {X : Cx} {pins : List (Addr × Obj)} {σ : L2.St} {H : Hp} {s : Shared} {w : Wd}
mutual
theorem readsN_of (I : Inv X pins σ H s) (g : ∀ a o, w.g a = some o → H a = some o) : ∀ {v : V} {d : D} {n : NestedKey} {u : Value}, Is X.K w v d → kOfD d = some n → RelV v u → Reads s.heap u n.data []
  | _, _, _, _, .non, h, r => by cases h; cases r; exact .none
  | _, _, _, _, .int i, h, r => by cases h; obtain ⟨t, rfl⟩ := r; exact .int i t
  | _, _, _, _, .str x, h, r => by cases h; obtain ⟨t, rfl⟩ := r; exact .str x t
  | _, _, n, _, .tup (ds := ds) h1 h2, h, r => by
    cases r
    unfold kOfD at h
    cases q : kOfDs ds with
    | none => rw [q] at h; cases h
    | some ks =>
      rw [q] at h
      cases h
      obtain ⟨its, rv, ⟨o, e1, e2, m, e3⟩, _⟩ := I.tuple (sqt_mono g h1.sq)
      refine .tuple e1 e2 e3 ?_
      have : its.toArray.toList = its := by simp
      rw [this]
      exact readsNs_of I g h2 q rv
  | _, _, _, _, .bl _, h, r => by cases h
  | _, _, _, _, .lst _ _, h, r => by cases h
  | _, _, _, _, .rl _ _, h, r => by cases h
  | _, _, _, _, .ty _, h, r => by cases h
  | _, _, _, _, .cst _, h, r => by cases h
  | _, _, _, _, .obj _ _ _, h, r => by cases h
  | _, _, _, _, .ref _, h, r => by cases h
  | _, _, _, _, .exv _ _, h, r => by cases h
  | _, _, _, _, .fnv _, h, r => by cases h
  | _, _, _, _, .unk, h, r => by cases h
  | _, _, _, _, .exn _ _ _ _, h, r => by cases h
theorem readsNs_of (I : Inv X pins σ H s) (g : ∀ a o, w.g a = some o → H a = some o) : ∀ {vs : List V} {ds : List D} {ks : List NestedKey} {us : List Value}, Iss X.K w vs ds → kOfDs ds = some ks → Vals vs us → ReadsAll s.heap us (NestedKey.datas ks) []
  | _, _, _, _, .nil, h, r => by cases h; cases r; exact .nil
  | _, _, _, _, .cons (d := d) (ds := ds) h1 h2, h, r => by
    unfold kOfDs at h
    cases q : kOfD d with
    | none => rw [q] at h; cases h
    | some x =>
      cases q2 : kOfDs ds with
      | none => rw [q, q2] at h; cases h
      | some ks =>
        rw [q, q2] at h
        cases h
        cases r with
        | cons r1 r2 => exact .cons (as := []) (bs := []) (readsN_of I g h1 q r1) (readsNs_of I g h2 q2 r2)
end
end
theorem vals_refs : ∀ (L : NL), Vals (L.map fun p => V.ref p.1) (L.map fun p => Value.ref p.1)
  | [] => .nil
  | p :: L => .cons rfl (vals_refs L)
section
variable {X : Cx} {j : Nat}
end
end DL
namespace DL
open PySem L2 PySem.W PyProof.Rows
variable [Wld]
theorem PairN.mono {K : PySem.W.Frag} {w w' : Wd} {L : NL} (h : PairN K w L) (m : More w w') : PairN K w' L := fun p hp => ⟨(h p hp).1.mono m, (h p hp).2⟩
section
variable {X : Cx} {W : WX} {e : Expr} {pos p pos2 p2 : Pos} {j : Nat} {fa : Fe}
end
end DL
namespace DL
open PySem PySem.Spec PySem.W PyProof.Rows L2
variable [Wld]
section
variable {X : Cx} {j : Nat}
variable {o e : Expr} {es : List Expr} {to : TE} {t : TA} {apos cpos : Pos}
end
section
variable {X : Cx} {W : WX} {e e1 e2 : Expr} {pos p apos : Pos} {j : Nat} {fa fb : Fe}
end
def fMakeR (x : Str) (F : Fn) (a : Fa) : Fe := fun env M => (a env M).bind fun ds M1 => (F (.ref M1.length :: ds) (M1 ++ [.ins x [] []])).bind fun d M2 => match d, M2[M1.length]? with
  | .non, some (.ins _ _ _) => .ok (.ref M1.length) M2
  | _, _ => .bad
section
variable {X : Cx} {W : WX} {e : Expr} {es : List Expr} {pos p : Pos} {x : Str} {st : Stmt} {k j : Nat} {ps : List Str} {F : Fn} {f : Fa}
end
structure Callee (μ : Bool) (P : Program) (w : World) (K : PySem.W.Frag) (mg : Str → Option Value) (base : Heap) (k n : Nat) (y : Str) (F : Fn) : Prop where
  ex : ∃ fa fd ps, PySem.W.nsIn K mainGlobals y = some (some (.ref fa)) ∧ PySem.W.keepIn K (.ref fa) = true ∧ Binds K fd ps [] ∧ ps.length = n ∧ FnOk P w K mg base (CXm μ P w) k fa fd ps (spD K n F)
section
variable {X : Cx} {W : WX} {e : Expr} {es : List Expr} {pos p : Pos} {x : Str} {k j n : Nat} {f : Fa} {tbl : List (Str × Fn)}
end
end DL
namespace DL
open PySem PySem.Spec PySem.W PyProof.Rows L2
variable [Wld]
def prsR : List (Fe × Fe) → Env → Mem → R (List (D × D))
  | [], _, M => .ok [] M
  | p :: r, env, M => (p.1 env M).bind fun d M1 => (p.2 env M1).bind fun e M2 => (prsR r env M2).bind fun ps M3 => .ok ((d, e) :: ps) M3
def isVV (K : PySem.W.Frag) (w : Wd) (p : V × V) (q : D × D) : Prop := Is K w p.1 q.1 ∧ Is K w p.2 q.2
def RlPs (K : PySem.W.Frag) (w : Wd) (_ : Hp) (vs : List (V × V)) (ds : List (D × D)) : Prop := Paired (isVV K w) vs ds
def SndPs (K : PySem.W.Frag) (W : WX) (trs : List (TE × TE)) (ps : List (Fe × Fe)) : Prop := ∀ env M σ w H w0 H0 (Q : List (V × V) → Hp → Prop), EnvOk K w0 H0 w H M env σ → Post K (RlPs K) w H σ W Q (prsR ps env M) → tPairs trs σ H Q
structure DPs (X : Cx) (W : WX) (pos : Pos) (keys : List (Option Expr)) (values : List Expr) (ps : List (Fe × Fe)) : Prop where
  ex : ∃ trs, PPs X pos keys values trs ∧ SndPs X.K W trs ps
section
variable {X : Cx} {W : WX} {pos : Pos} {k v : Expr} {ks : List (Option Expr)} {vs : List Expr} {fk fv : Fe} {ps : List (Fe × Fe)}
end
end DL
namespace DL
open PySem PySem.Spec PySem.W PyProof.Rows L2
variable [Wld]
section
variable {X : Cx} {W : WX} {e : Expr} {pos p : Pos} {j : Nat} {fa : Fe}
end
def ConAt (K : PySem.W.Frag) (x f : Str) (d : D) : Prop := ∃ C v u, ClsIs K x C ∧ Con K C f v u ∧ ∀ w, Is K w v d
def fCon (x f : Str) (d : D) (a : Fe) : Fe := fun env M => (a env M).bind fun z M1 => if isA x f M1 z = true then .ok d M1 else .bad
theorem de_con {X : Cx} {W : WX} {e : Expr} {pos : Pos} {x f : Str} {d : D} {fa : Fe} (h : ConAt X.K x f d) (ha : DE X W e fa) (hb : attributeBase e f X.env (eval e X.env) = eval e X.env := by rfl) : DE X W (.Attribute e f pos) (fCon x f d fa) := by
  obtain ⟨C, v, u, h1, h2, h3⟩ := h
  obtain ⟨t, p, s⟩ := ha
  refine ⟨_, pe_con p hb, fun env M σ w H w0 H0 Q I h => ?_⟩
  refine s env M σ w H w0 H0 _ I (Post.bind h fun z M1 y w1 H1 x1 o1 r1 k1 => ?_)
  by_cases c : isA x f M1 z = true
  · rw [if_pos c] at k1
    obtain ⟨a, dx, fs, rfl, g1, g2⟩ := isA_at o1 h1 r1 c
    exact ⟨a, C, dx, fs, v, u, rfl, g1, h1.cl, h2, g2, k1 v w1 H1 (.refl _ _) o1 (h3 _)⟩
  · rw [if_neg c] at k1; exact k1.elim
section
variable {P : Program} {w : World} {K : PySem.W.Frag} {mg : Str → Option Value} {base : Heap} {j n : Nat}
end
end DL
namespace DL
open PySem PySem.Spec PySem.W PyProof.Rows L2
variable [Wld]
end DL
namespace DL
open PySem PySem.Spec PySem.W PyProof.Rows L2
variable [Wld]
section
variable {X : Cx} {W : WX} {e1 e2 : Expr} {pos : Pos}
end
end DL
namespace DL
open PySem L2 PyProof.Rows
variable [Wld]
section
variable {X : Cx}
end
end DL
namespace DL
open PySem L2 TL
variable [Wld]
section
variable {ns : List Str} {ds : List D} {c : Str} {M : Mem} {b : Bool}
end
end DL
namespace DL
open PySem PySem.W PySem.Calls PyProof.Rows L2
variable [Wld]
section
variable {M : Model} {A : Around} {E : Value → Shared → Prop} {s : Shared} {pos : Pos} {x C : Addr} {ox : Obj} {first : List Value} {Q : Value → Shared → Prop}
end
section
variable {X : Cx} {W : WX} {e : Expr} {es : List Expr} {pos p : Pos} {x y : Str} {k j : Nat} {ps : List Str} {F : Fn} {fo : Fe} {f : Fa}
end
end DL
namespace DL
open PySem PySem.Spec PySem.W PyProof.Rows L2 PpSet
variable [Wld]
section
variable {X : Cx}
end
end DL
namespace DL
open PySem L2 PySem.W PyProof.Rows
variable [Wld]
section
variable {X : Cx} {W : WX} {tg e : Expr} {j : Nat}
end
end DL
namespace DL
open PySem L2
variable [Wld]
def zipM {α β γ : Type} (op : α → β → Option γ) : List α → List β → Option (List γ)
  | x :: xs, y :: ys => (op x y).bind fun z => (zipM op xs ys).map (z :: ·)
  | _, _ => some []
abbrev Cell := Int × Int
def cT (p q : Cell) : Option Cell := if (if p.2 = -1 then p.1 else p.2) ≠ -1 ∧ q.1 ≠ -1 ∧ (if p.2 = -1 then p.1 else p.2) ≠ q.1 then none else some (if p.1 = -1 then q.1 else p.1, if q.2 = -1 then p.2 else q.2)
def cB (p q : Cell) : Option Cell := if p.1 ≠ -1 ∧ q.1 ≠ -1 ∧ (p.2 ≠ -1 ∨ q.2 ≠ -1 ∨ p.1 ≠ q.1) then none else some (if q.1 > p.1 then q.1 else p.1, if q.2 > p.2 then q.2 else p.2)
theorem then_zip : ∀ xs ys : Ps, thenM xs ys = zipM cT xs ys
  | [], ys => by cases ys <;> rfl
  | x :: xs, [] => rfl
  | (f, l) :: xs, (a, b) :: ys => by
    rw [thenM, zipM, then_zip xs ys]
    unfold cT
    simp only
    by_cases c : (if l = -1 then f else l) ≠ -1 ∧ a ≠ -1 ∧ (if l = -1 then f else l) ≠ a
    · rw [if_pos c, if_pos c]; rfl
    · rw [if_neg c, if_neg c]; rfl
section
variable {α β γ δ ε ζ : Type}
theorem zip_assoc {op1 : α → β → Option γ} {op2 : δ → γ → Option ε} {op3 : δ → α → Option ζ} {op4 : ζ → β → Option ε} {P : α → Prop} {R : β → Prop} {S : δ → Prop} (h : ∀ d a b, S d → P a → R b → ((op1 a b).bind fun z => op2 d z) = (op3 d a).bind fun z => op4 z b) :
    ∀ (ds : List δ) (xs : List α) (ys : List β), ds.length = xs.length → xs.length = ys.length → (∀ d ∈ ds, S d) → (∀ a ∈ xs, P a) → (∀ b ∈ ys, R b) → ((zipM op1 xs ys).bind fun z => zipM op2 ds z) = (zipM op3 ds xs).bind fun z => zipM op4 z ys
  | [], [], [], _, _, _, _, _ => rfl
  | d :: ds, x :: xs, y :: ys, l1, l2, hs, hp, hr => by
    have ih := zip_assoc h ds xs ys (by simpa using l1) (by simpa using l2) (fun z hz => hs z (List.mem_cons_of_mem _ hz)) (fun z hz => hp z (List.mem_cons_of_mem _ hz)) (fun z hz => hr z (List.mem_cons_of_mem _ hz))
    have e := h d x y (hs d List.mem_cons_self) (hp x List.mem_cons_self) (hr y List.mem_cons_self)
    rw [zipM, zipM]
    cases q1 : op1 x y with
    | none =>
      rw [q1] at e
      cases q3 : op3 d x with
      | none => rfl
      | some u =>
        rw [q3] at e
        have e : none = op4 u y := e
        cases zipM op3 ds xs with
        | none => rfl
        | some us =>
          show none = zipM op4 (u :: us) (y :: ys)
          rw [zipM, ← e]
          rfl
    | some z =>
      rw [q1] at e
      have e : op2 d z = (op3 d x).bind fun z => op4 z y := e
      have l : ((some z).bind fun z => (zipM op1 xs ys).map (z :: ·)).bind (fun z => zipM op2 (d :: ds) z) = (op2 d z).bind fun v => ((zipM op1 xs ys).bind fun z => zipM op2 ds z).map (v :: ·) := by
        cases zipM op1 xs ys with
        | none => cases op2 d z <;> rfl
        | some zs =>
          show zipM op2 (d :: ds) (z :: zs) = _
          rw [zipM]
          rfl
      rw [l, e, ih]
      cases q3 : op3 d x with
      | none => rfl
      | some u =>
        show ((op4 u y).bind fun v => ((zipM op3 ds xs).bind fun z => zipM op4 z ys).map (v :: ·)) = (((zipM op3 ds xs).map (u :: ·)).bind fun z => zipM op4 z (y :: ys))
        cases zipM op3 ds xs with
        | none => cases op4 u y <;> rfl
        | some us =>
          show _ = zipM op4 (u :: us) (y :: ys)
          rw [zipM]
          rfl
  | [], [], _ :: _, _, l, _, _, _ => by cases l
  | [], _ :: _, _, l, _, _, _, _ => by cases l
  | _ :: _, [], _, l, _, _, _, _ => by cases l
  | _ :: _, _ :: _, [], _, l, _, _, _ => by cases l
end
def InR (p : Int × Int) : Prop := -1 ≤ p.1 ∧ p.1 ≤ 2 ∧ -1 ≤ p.2 ∧ p.2 ≤ 2 ∧ (p.1 = -1 → p.2 = -1)
theorem cells_inr {ss : List Int} {ps : Ps} (h : Cells ss ps) (hs : ∀ s ∈ ss, s ≤ 3) : ∀ p ∈ ps, InR p := by
  induction h with
  | nil => intro p hp; cases hp
  | cons h1 h2 h3 h4 h5 t ih =>
    intro p hp
    have := hs _ List.mem_cons_self
    rcases List.mem_cons.mp hp with rfl | hp
    · exact ⟨h1, by simp only; omega, h3, by simp only; omega, h5⟩
    · exact ih (fun s hz => hs s (List.mem_cons_of_mem _ hz)) p hp
def cellL : List Cell := [(-1, -1), (0, -1), (0, 0), (0, 1), (0, 2), (1, -1), (1, 0), (1, 1), (1, 2), (2, -1), (2, 0), (2, 1), (2, 2)]
theorem in_cells : ∀ p, InR p → p ∈ cellL := fun ⟨f, l⟩ ⟨h1, h2, h3, h4, h5⟩ => by
  simp only at h1 h2 h3 h4 h5
  have hf : f = -1 ∨ f = 0 ∨ f = 1 ∨ f = 2 := by omega
  have hl : l = -1 ∨ l = 0 ∨ l = 1 ∨ l = 2 := by omega
  rcases hf with rfl | rfl | rfl | rfl <;> rcases hl with rfl | rfl | rfl | rfl <;> first | (exact absurd (h5 rfl) (by decide)) | decide
theorem T_assoc : ∀ d ∈ cellL, ∀ a ∈ cellL, ∀ b ∈ cellL, ((cT a b).bind fun z => cT d z) = (cT d a).bind fun z => cT z b := by decide +kernel
def Pcs (sizes : List Int) (a : Ps) : Prop := a.length = sizes.length ∧ ∀ p ∈ a, p ∈ cellL
section
variable {sizes : List Int} {a b c d : Ps}
def RR (a b c : Ps) : Option Ps := (zipM cT a b).bind fun x => zipM cT x c
theorem rows_eq (ha : Pcs sizes a) (hb : Pcs sizes b) (hc : Pcs sizes c) : ((zipM cT b c).bind fun y => zipM cT a y) = RR a b c :=
  zip_assoc (S := (· ∈ cellL)) (P := (· ∈ cellL)) (R := (· ∈ cellL)) (fun d a b h1 h2 h3 => T_assoc d h1 a h2 b h3) a b c (by rw [ha.1, hb.1]) (by rw [hb.1, hc.1]) ha.2 hb.2 hc.2
def TT (a b c d : Ps) : Option Ps := (zipM cT a b).bind fun x => (zipM cT c d).bind fun y => zipM cB x y
end
section
variable {ss : List Int} {a b c d p x y z r : Ps}
theorem Cells.pcs (h : Cells ss p) (hs : ∀ s ∈ ss, s ≤ 3) : Pcs ss p := ⟨h.len, fun q hq => in_cells q (cells_inr h hs q hq)⟩
theorem then_assoc (hs : ∀ s ∈ ss, s ≤ 3) (ha : Cells ss a) (hb : Cells ss b) (hc : Cells ss c) : ((thenM b c).bind fun y => thenM a y) = (thenM a b).bind fun x => thenM x c := by
  have := rows_eq (ha.pcs hs) (hb.pcs hs) (hc.pcs hs)
  unfold RR at this
  simp only [← then_zip] at this
  exact this
def idlP (ss : List Int) : Ps := ss.map fun _ => (-1, -1)
theorem then_idlL : ∀ {ss : List Int} {p : Ps}, Cells ss p → thenM (idlP ss) p = some p
  | _, _, .nil => rfl
  | s :: ss, (f, l) :: p, .cons a b c d e t => by
    have ih := then_idlL t
    unfold idlP at ih ⊢
    rw [List.map_cons, thenM, ih]
    by_cases z : l = -1
    · simp [z]
    · simp [z]
theorem then_idlR : ∀ {ss : List Int} {p : Ps}, Cells ss p → thenM p (idlP ss) = some p
  | _, _, .nil => rfl
  | s :: ss, (f, l) :: p, .cons a b c d e t => by
    have ih := then_idlR t
    unfold idlP at ih ⊢
    rw [List.map_cons, thenM, ih]
    by_cases z : f = -1
    · simp [z]
    · simp [z]
theorem bes_cellsC : ∀ {ss : List Int} {p : Ps}, Cells ss p → ∀ {q r : Ps}, Cells ss q → besM p q = some r → Cells ss r := by
  intro ss p h
  induction h with
  | nil =>
    intro q r hq e
    cases hq
    cases e
    exact .nil
  | @cons s ss f l ps a1 a2 a3 a4 a5 t ih =>
    intro q r hq e
    cases hq with
    | @cons _ _ a b qs b1 b2 b3 b4 b5 t2 =>
      unfold besM at e
      by_cases c : f ≠ -1 ∧ a ≠ -1 ∧ (l ≠ -1 ∨ b ≠ -1 ∨ f ≠ a)
      · rw [if_pos c] at e; cases e
      · rw [if_neg c] at e
        cases z : besM ps qs with
        | none => rw [z] at e; cases e
        | some rs =>
          rw [z] at e
          cases e
          refine .cons ?_ ?_ ?_ ?_ ?_ (ih t2 z)
          · split <;> omega
          · split <;> omega
          · split <;> omega
          · split <;> omega
          · intro k
            have h1 : f = -1 := by split at k <;> omega
            have h2 : a = -1 := by split at k <;> omega
            have := a5 h1
            have := b5 h2
            split <;> omega
theorem then_cellsC : ∀ {ss : List Int} {p : Ps}, Cells ss p → ∀ {q r : Ps}, Cells ss q → thenM p q = some r → Cells ss r := by
  intro ss p h
  induction h with
  | nil =>
    intro q r hq e
    cases hq
    cases e
    exact .nil
  | @cons s ss f l ps a1 a2 a3 a4 a5 t ih =>
    intro q r hq e
    cases hq with
    | @cons _ _ a b qs b1 b2 b3 b4 b5 t2 =>
      unfold thenM at e
      by_cases c : (if l = -1 then f else l) ≠ -1 ∧ a ≠ -1 ∧ (if l = -1 then f else l) ≠ a
      · rw [if_pos c] at e; cases e
      · rw [if_neg c] at e
        cases z : thenM ps qs with
        | none => rw [z] at e; cases e
        | some rs =>
          rw [z] at e
          cases e
          refine .cons ?_ ?_ ?_ ?_ ?_ (ih t2 z)
          · split <;> omega
          · split <;> omega
          · split <;> omega
          · split <;> omega
          · intro k
            by_cases k2 : f = -1
            · rw [if_pos k2] at k
              rw [if_pos (b5 k)]
              exact a5 k2
            · rw [if_neg k2] at k; exact absurd k k2
end
abbrev PS := Ps → Prop
def CelS (ss : List Int) (P : PS) : Prop := ∀ q, P q → Cells ss q
def thS (P Q : PS) : PS := fun r => ∃ p q, P p ∧ Q q ∧ thenM p q = some r
def bsS (P Q : PS) : PS := fun r => ∃ p q, P p ∧ Q q ∧ besM p q = some r
def huS (H X : PS) : PS := thS (thS H X) H
def lotS (H P Q : PS) : PS := huS H (bsS P Q)
section
variable {ss : List Int} {P Q X C H A B : PS}
theorem CelS.then (hP : CelS ss P) (hQ : CelS ss Q) : CelS ss (thS P Q) := fun r ⟨p, q, h1, h2, e⟩ => then_cellsC (hP p h1) (hQ q h2) e
theorem CelS.bes (hP : CelS ss P) (hQ : CelS ss Q) : CelS ss (bsS P Q) := fun r ⟨p, q, h1, h2, e⟩ => bes_cellsC (hP p h1) (hQ q h2) e
theorem CelS.hu (hH : CelS ss H) (hX : CelS ss X) : CelS ss (huS H X) := (hH.then hX).then hH
theorem CelS.lot (hH : CelS ss H) (hP : CelS ss P) (hQ : CelS ss Q) : CelS ss (lotS H P Q) := hH.hu (hP.bes hQ)
theorem thS_assoc (hs : ∀ s ∈ ss, s ≤ 3) (hP : CelS ss P) (hQ : CelS ss Q) (hX : CelS ss X) : thS (thS P Q) X = thS P (thS Q X) := by
  funext r
  refine propext ⟨?_, ?_⟩
  · rintro ⟨u, x, ⟨p, q, h1, h2, e1⟩, h3, e2⟩
    have := then_assoc hs (hP p h1) (hQ q h2) (hX x h3)
    rw [e1] at this
    have e3 : ((thenM q x).bind fun y => thenM p y) = some r := this.trans e2
    cases z : thenM q x with
    | none => rw [z] at e3; cases e3
    | some v => rw [z] at e3; exact ⟨p, v, h1, ⟨q, x, h2, h3, z⟩, e3⟩
  · rintro ⟨p, v, h1, ⟨q, x, h2, h3, e1⟩, e2⟩
    have := then_assoc hs (hP p h1) (hQ q h2) (hX x h3)
    rw [e1] at this
    have e3 : ((thenM p q).bind fun y => thenM y x) = some r := this.symm.trans e2
    cases z : thenM p q with
    | none => rw [z] at e3; cases e3
    | some u => rw [z] at e3; exact ⟨u, x, ⟨p, q, h1, h2, z⟩, h3, e3⟩
structure HidS (ss : List Int) (H : PS) : Prop where
  c : CelS ss H
  i : H (idlP ss)
  s : ∀ q, thS H H q → H q
theorem HidS.hh (h : HidS ss H) : thS H H = H := by
  funext r
  exact propext ⟨h.s r, fun k => ⟨idlP ss, r, h.i, k, then_idlL (h.c r k)⟩⟩
theorem HidS.le (h : HidS ss H) (hX : CelS ss X) : ∀ q, X q → huS H X q := fun q k => ⟨q, idlP ss, ⟨idlP ss, q, h.i, k, then_idlL (hX q k)⟩, h.i, then_idlR (hX q k)⟩
end
end DL
namespace DL
open PySem PySem.Spec PySem.W PyProof.Rows L2
variable [Wld]
section
variable {X : Cx} {W : WX} {e1 e2 : Expr} {pos : Pos} {fa fb : Fe}
end
end DL
namespace DL
open PySem PySem.Spec PySem.W PyProof.Rows L2
variable [Wld]
end DL
namespace DL
open PySem PySem.Spec PySem.W PyProof.Rows L2
variable [Wld]
section
variable {ss : List Int} {α : Type} {H : PS} {f : α → PS}
def WdS (H : PS) (f : α → PS) : List α → PS
  | [] => H
  | x :: l => thS (f x) (WdS H f l)
structure LetS (ss : List Int) (H : PS) (f : α → PS) : Prop where
  h : HidS ss H
  c : ∀ x, CelS ss (f x)
  l : ∀ x, thS H (f x) = f x
  r : ∀ x, thS (f x) H = f x
theorem WdS.cel (L : LetS ss H f) : ∀ l, CelS ss (WdS H f l)
  | [] => L.h.c
  | x :: l => (L.c x).then (WdS.cel L l)
theorem WdS.r (hs : ∀ s ∈ ss, s ≤ 3) (L : LetS ss H f) : ∀ l, thS (WdS H f l) H = WdS H f l
  | [] => L.h.hh
  | x :: l => by
    show thS (thS (f x) (WdS H f l)) H = thS (f x) (WdS H f l)
    rw [thS_assoc hs (L.c x) (WdS.cel L l) L.h.c, WdS.r hs L l]
theorem WdS.l (hs : ∀ s ∈ ss, s ≤ 3) (L : LetS ss H f) : ∀ l, thS H (WdS H f l) = WdS H f l
  | [] => L.h.hh
  | x :: l => by
    show thS H (thS (f x) (WdS H f l)) = thS (f x) (WdS H f l)
    rw [← thS_assoc hs L.h.c (L.c x) (WdS.cel L l), L.l x]
theorem WdS.hu (hs : ∀ s ∈ ss, s ≤ 3) (L : LetS ss H f) (l : List α) : huS H (WdS H f l) = WdS H f l := by
  unfold huS
  rw [WdS.l hs L, WdS.r hs L]
theorem WdS.app (hs : ∀ s ∈ ss, s ≤ 3) (L : LetS ss H f) : ∀ l l', WdS H f (l ++ l') = thS (WdS H f l) (WdS H f l')
  | [], l' => (WdS.l hs L l').symm
  | x :: l, l' => by
    show thS (f x) (WdS H f (l ++ l')) = thS (thS (f x) (WdS H f l)) (WdS H f l')
    rw [WdS.app hs L l l', thS_assoc hs (L.c x) (WdS.cel L l) (WdS.cel L l')]
end
end DL
namespace DL
open PySem PySem.Spec PySem.W PyProof.Rows L2 HT
section
variable {prog : Program} {w : World} {A : Around} {E : Value → Shared → Prop} {s : Shared}
end
variable [Wld]
section
variable {X : Cx} {e st : Expr} {te : TE} {ts : TO} {pos p2 : Pos}
end
section
variable {X : Cx} {W : WX} {e st : Expr} {a : Fe} {l : Fp} {p2 pos : Pos}
end
end DL
namespace DX
open PySem PySem.W PySem.Spec PySem.Calls PyProof.Rows L2 DL
variable [Wld]
theorem recB_ok {K : PySem.W.Frag} {p : Addr} {n : String} (h : recB K p n = true) : ∃ rest, PySem.W.recIn K p n = some (.ref (ra K p n) :: rest) := by
  unfold recB at h
  unfold ra
  cases e : PySem.W.recIn K p n with
  | none => rw [e] at h; cases h
  | some l =>
    rw [e] at h
    cases l with
    | nil => cases h
    | cons v r =>
      cases v with
      | ref f => exact ⟨r, rfl⟩
      | _ => cases h
theorem staB_ok {K : PySem.W.Frag} {C m : Str} {n : String} (h : staB K C m n = true) : PySem.W.findCls K (.ref (ga K C)) (.type "type") m = some (.get (.builtin n) (.ref (sa K C m)) .none (.ref (ga K C))) := by
  unfold staB at h
  unfold sa
  split at h
  · rename_i g p c e
    obtain ⟨h1, h2⟩ := He.ba h
    rw [e, of_decide_eq_true h1, of_decide_eq_true h2]
  · cases h
theorem fun_of {K : PySem.W.Frag} {m qual : Str} {st : Stmt} {a : Addr} (e : fnO K a = some (m, qual, L2.defArgs st, .stmts (L2.defBody st), L2.defScope st, mainGlobals, [], .none, builtinsNs)) (c : codeB K a qual = true) (k : PySem.W.keepIn K (.ref a) = true) : ∃ fd, Fun K m qual st a fd := by
  unfold codeB at c
  unfold fnO at e
  cases q : K.lookup a with
  | none => rw [q] at c; cases c
  | some o =>
    obtain ⟨oc, od, dt, osl⟩ := o
    rw [q] at c e
    cases dt with
    | func fd =>
      obtain ⟨n1, n2, n3, n4, n5, n6, n7, n8, n9, n10, n11, n12, n13, n14, n15⟩ := fd
      have e2 : (some (n1, n2, n3, n4, n5, n6, n7, n8, n15) : He.FnV) = some (m, qual, L2.defArgs st, .stmts (L2.defBody st), L2.defScope st, mainGlobals, [], .none, builtinsNs) := e
      simp only [Option.some.injEq, Prod.mk.injEq] at e2
      obtain ⟨h1, h2, h3, h4, h5, h6, h7, h8, h9⟩ := e2
      subst h1 h2 h3 h4 h5 h6 h7 h8 h9
      exact ⟨_, ⟨oc, od, n9, n10, n11, n12, n13, n14, osl, rfl, q, c⟩, k⟩
    | _ => cases c
theorem code_of {K : PySem.W.Frag} {m qual : Str} {st : Stmt} {a : Addr} {fd : FuncData} (F : Fun K m qual st a fd) : fd.code = .ref (cA K a) := by
  obtain ⟨oc, od, kV, doc, pm, an, cdv, ct, osl, rfl, lk, hcd⟩ := F.ex
  unfold cA
  rw [lk]
  cases cdv with
  | ref c => rfl
  | _ => cases hcd
theorem clB_ok {K : PySem.W.Frag} {x : Str} (h : clB K x = true) : ClsIs K x (ga K x) := ⟨He.eqO_ok (He.ba h).1, He.cls_ok (He.ba h).2⟩
theorem crB_ok {K : PySem.W.Frag} {x : Str} (h : crB K x = true) : ClX.CRead K (ga K x) (.type "type") := ⟨(He.ba h).1, He.eqO_ok (He.ba h).2⟩
theorem atB_ok {K : PySem.W.Frag} {f : Str} {xs : List Str} (h : atB f xs K = true) : ∀ x ∈ xs, AttrOk K x f := fun x hx => by
  have z := He.ba (List.all_eq_true.mp h x hx)
  exact ⟨_, clB_ok z.1, He.eqO_ok z.2⟩
theorem rlD_ok {K : PySem.W.Frag} : ∀ {n : Nat} {d : D} {u : Value}, rlD K n d u = true → ∃ v, RelV v u ∧ ∀ w, Is K w v d := by
  intro n
  induction n with
  | zero =>
    intro d u h
    cases d with
    | non => cases u with
      | none => exact ⟨.non, rfl, fun _ => .non⟩
      | _ => cases h
    | bl b => cases u with
      | bool c =>
        have e : b = c := eq_of_beq (show (b == c) = true from h)
        exact ⟨.bl b, by rw [e]; rfl, fun _ => .bl b⟩
      | _ => cases h
    | int i => cases u with
      | int j t => exact ⟨.int i, ⟨t, by rw [show i = j from of_decide_eq_true h]⟩, fun _ => .int i⟩
      | _ => cases h
    | str x => cases u with
      | str y t => exact ⟨.str x, ⟨t, by rw [show x = y from of_decide_eq_true h]⟩, fun _ => .str x⟩
      | _ => cases h
    | _ => cases u <;> cases h
  | succ n ih =>
    intro d u h
    cases d with
    | non => cases u with
      | none => exact ⟨.non, rfl, fun _ => .non⟩
      | _ => cases h
    | bl b => cases u with
      | bool c =>
        have e : b = c := eq_of_beq (show (b == c) = true from h)
        exact ⟨.bl b, by rw [e]; rfl, fun _ => .bl b⟩
      | _ => cases h
    | int i => cases u with
      | int j t => exact ⟨.int i, ⟨t, by rw [show i = j from of_decide_eq_true h]⟩, fun _ => .int i⟩
      | _ => cases h
    | str x => cases u with
      | str y t => exact ⟨.str x, ⟨t, by rw [show x = y from of_decide_eq_true h]⟩, fun _ => .str x⟩
      | _ => cases h
    | tup ds => cases u with
      | ref a =>
        have h1 : (match K.lookup a with
          | some ⟨.type c, _, .seq its _, _⟩ => decide (c = "tuple") && (decide (its.size ≤ PySem.sizeLine) && (decide (ds.length = its.toList.length) && ((ds.zip its.toList).all fun p => rlD K n p.1 p.2)))
          | _ => false) = true := h
        split at h1
        · rename_i c dd its nn sl e
          obtain ⟨k1, k2⟩ := He.ba h1
          obtain ⟨k2, k3⟩ := He.ba k2
          obtain ⟨k3, k4⟩ := He.ba k3
          have key : ∀ (ds : List D) (us : List Value), ds.length = us.length → ((ds.zip us).all fun p => rlD K n p.1 p.2) = true → ∃ vs, Vals vs us ∧ ∀ w, Iss K w vs ds := by
            intro ds
            induction ds with
            | nil => intro us hl _; cases us with
              | nil => exact ⟨[], .nil, fun _ => .nil⟩
              | cons _ _ => cases hl
            | cons d r ih2 => intro us hl ha; cases us with
              | nil => cases hl
              | cons u us =>
                obtain ⟨a1, a2⟩ := He.ba ha
                obtain ⟨v, g1, g2⟩ := ih a1
                obtain ⟨vs, g3, g4⟩ := ih2 us (Nat.succ.inj hl) a2
                exact ⟨v :: vs, .cons g1 g3, fun w => .cons (g2 w) (g4 w)⟩
          obtain ⟨vs, g1, g2⟩ := key ds its.toList (of_decide_eq_true k3) k4
          exact ⟨.ref a, rfl, fun w => .tup (.inr ⟨_, its, nn, e, congrArg Value.type (of_decide_eq_true k1), rfl, of_decide_eq_true k2, g1⟩) (g2 w)⟩
        · cases h1
      | _ => cases h
    | _ => cases u <;> cases h
theorem cstB_ok {K : PySem.W.Frag} {h : Heap} {mg : Str → Option Value} (X : K.In h) (G : h.Ns mainGlobals mg) {x : Str} {d : D} (c : cstB x d K = true) : GlobD K mg x d := by
  unfold cstB at c
  split at c
  · rename_i u e
    obtain ⟨v, h1, h2⟩ := rlD_ok c
    exact ⟨u, v, PySem.W.mg_of X G e, h1, h2⟩
  · cases c
theorem tbB_ok {K : PySem.W.Frag} {w : World} {h : Heap} {mg : Str → Option Value} (X : K.In h) (G : h.Ns mainGlobals mg) {x : Str} {tbl : List (Str × D)} (c : tbB x tbl K = true) (hd : He.dicW K (ga K x) = some (He.keysIn w.params (tbl.map (·.1)))) : KTab K w mg x tbl := by
  obtain ⟨c1, c2⟩ := He.ba c
  refine ktab_of (PySem.W.mg_of X G (He.eqO_ok c1)) hd fun zd hz => ?_
  have z := List.all_eq_true.mp c2 zd hz
  split at z
  · rename_i u e
    obtain ⟨v, h1, h2⟩ := rlD_ok z
    exact ⟨u, v, e, h1, h2⟩
  · cases z
theorem conB_ok {K : PySem.W.Frag} {C f : Str} {d : D} (c : conB C f d K = true) (hc : PySem.W.copiedNames.contains f = false) : ConAt K C f d := by
  obtain ⟨c1, c2⟩ := He.ba c
  split at c2
  · rename_i u e
    obtain ⟨k1, k2⟩ := He.ba c2
    obtain ⟨v, h1, h2⟩ := rlD_ok k1
    exact ⟨_, v, u, clB_ok c1, ⟨e, h1, He.eqO_ok k2, hc⟩, h2⟩
  · cases c2
theorem olB_ok {x : Str} {K : PySem.W.Frag} (h : olB x K = true) : ∀ p ∈ TK K, p.1 = tpOf K x → p.2 = (x ++ ".<locals>." ++ "<lambda>" : Str) := fun p hp e => by
  have z := List.all_eq_true.mp h p hp
  simp only [e, decide_true, Bool.not_true, Bool.false_or, decide_eq_true_eq] at z
  exact z
theorem xTail : ∀ b : Nat, PySem.OEG.Tail (xB b) (xN b) (xI b) (xT b)
  | 0 => PySem.OEG.tail_VE
  | 1 => PySem.OEG.tail_LE
  | _ + 2 => PySem.OEG.tail_IE
theorem excB_ok {K : PySem.W.Frag} {C : Addr} {nw : String} {tail : List Value} (q : excB K C nw tail = true) : ∃ nm qn N bs bm sn sub ab col dd k0 k1 k2 k3 k5, K.lookup C = some (excClassObj nm qn C N bs bm true sn sub ab col dd k0 k1 k2 k3 k5 nw) ∧ PySem.OEG.refsT tail bm := by
  unfold excB at q
  split at q
  · rename_i t dd cd sl ho
    obtain ⟨qt, qr⟩ := He.ba q
    clear q
    have qt1 := of_decide_eq_true qt
    clear qt
    split at qr
    · rename_i C' bm k0 k1 k2 k3 n k5 hm hs
      obtain ⟨q1, r1⟩ := He.ba qr
      obtain ⟨q2, r2⟩ := He.ba r1
      obtain ⟨q3, r3⟩ := He.ba r2
      obtain ⟨q4, ht⟩ := He.ba r3
      have p1 := of_decide_eq_true q1
      have p2 := of_decide_eq_true q2
      have hdel := of_decide_eq_true q3
      have hdi := of_decide_eq_true q4
      clear qr q1 r1 q2 r2 q3 r3 q4
      subst qt1 p1 p2
      obtain ⟨nm, bs, mro, ns, qn, hd, sn, sub, ab, col, del⟩ := cd
      dsimp only at hm hdel hdi
      subst hm hdel hdi
      have hsl : sl = #[k0, k1, k2, k3, some (.builtin n), k5] := by
        obtain ⟨l⟩ := sl
        simp only at hs
        rw [hs]
      subst hsl
      exact ⟨nm, qn, ns, bs, bm, sn, sub, ab, col, dd, k0, k1, k2, k3, k5, ho, PySem.OEG.refsTB_ok _ ht⟩
    · cases qr
  · cases q
theorem exF_ok {K : PySem.W.Frag} {C a : Addr} {file q : Str} {st : Stmt} (h : exF K C a file q = true) (e : exO K a = some (("__init__" : Str), q, L2.defArgs st, FuncBody.stmts (L2.defBody st), L2.defScope st, mainGlobals, Value.none, builtinsNs)) :
    ∃ (kV doc pm ct oc cl ccl : Value) (an od cld cdd : Option Addr) (osl csl ccs : Array (Option Value)) (fvs : Array Value) (tf : Tok) (d o : Addr), K.lookup a = some ⟨oc, od, .func (PySem.W.ksFn "__init__" q (L2.defArgs st) (L2.defBody st) (L2.defScope st) .none kV doc pm an (.ref d) ct o), osl⟩ ∧
      PySem.W.codeIn K (.ref d) q = true ∧ K.lookup d = some ⟨ccl, cdd, .fields fvs, ccs⟩ ∧ fvs[2]? = some (.str file tf) ∧ K.lookup o = some ⟨cl, cld, .cell (some (.ref C)), csl⟩ := by
  unfold exF at h
  unfold exO at e
  cases z : K.lookup a with
  | none => rw [z] at h; cases h
  | some ob =>
    obtain ⟨oc, od, dt, osl⟩ := ob
    rw [z] at h e
    cases dt with
    | func fd =>
      obtain ⟨n1, n2, n3, n4, n5, n6, n7, n8, n9, n10, n11, n12, n13, n14, n15⟩ := fd
      have e2 : (some (n1, n2, n3, n4, n5, n6, n8, n15) : Option (Str × Str × Arguments × FuncBody × Scope × Addr × Value × Addr)) = some (("__init__" : Str), q, L2.defArgs st, FuncBody.stmts (L2.defBody st), L2.defScope st, mainGlobals, Value.none, builtinsNs) := e
      simp only [Option.some.injEq, Prod.mk.injEq] at e2
      obtain ⟨h1, h2, h3, h4, h5, h6, h8, h9⟩ := e2
      subst h1 h2 h3 h4 h5 h6 h8 h9
      obtain ⟨g1, gg⟩ := He.ba h
      obtain ⟨g2, g3⟩ := He.ba gg
      clear gg h
      dsimp only at g1 g2 g3
      split at g1
      · rename_i n o
        obtain ⟨f1, f2⟩ := He.ba g1
        have f1 := of_decide_eq_true f1
        subst f1
        split at f2
        · rename_i cl cld c csl ho
          have f2 := of_decide_eq_true f2
          subst f2
          split at g3
          · rename_i d
            split at g3
            · rename_i ccl cdd fvs ccs hd
              split at g3
              · rename_i fl tf hfl
                have g3 := of_decide_eq_true g3
                subst g3
                exact ⟨n9, n10, n11, n14, oc, cl, ccl, n12, od, cld, cdd, osl, csl, ccs, fvs, tf, d, o, rfl, g2, hd, hfl, ho⟩
              · cases g3
            · cases g3
          · cases g3
        · cases f2
      · cases g1
    | _ => cases h
abbrev ExV : Type := Option (Str × Str × Arguments × FuncBody × Scope × Addr × Value × Addr)
abbrev Al : Type := Bool × List He.FnV × List ExV × List (Option (List (Option (Str × Int))))
def obsK (T : Tx) (g : Addr → Option Obj) (K : PySem.W.Frag) : Al :=
  (T.dfs.all (fun d => d.ok K) && (T.fb.all (fun f => f K) && (T.exs.all (fun e => e.ok T.file K) && tabsB g K)), T.dfs.map (fun d => fnO K (fA K d)), T.exs.map (fun e => exO K (ma K (ga K e.x) "__init__")), T.tb.map fun t => He.dicW K (ga K t.1))
def valK (T : Tx) (w : World) : Al := (true, T.dfs.map Df.val, T.exs.map Ex.val, T.tb.map fun t => some (He.keysIn w.params t.2))
structure Says (T : Tx) (w : World) (h : Heap) (K : PySem.W.Frag) : Prop where
  dOk : ∀ d ∈ T.dfs, d.ok K = true
  dVal : ∀ d ∈ T.dfs, fnO K (fA K d) = d.val
  fOk : ∀ f ∈ T.fb, f K = true
  eOk : ∀ e ∈ T.exs, e.ok T.file K = true
  eVal : ∀ e ∈ T.exs, exO K (ma K (ga K e.x) "__init__") = e.val
  tb : ∀ t ∈ T.tb, He.dicW K (ga K t.1) = some (He.keysIn w.params t.2)
  tabs : ∀ p ∈ TC K, PySem.W.codeHdIn K p.1 p.2 = true ∧ K.lookup p.2 = none ∧ h.get? p.2 = some { cls := .none, data := .fields #[] }
omit [Wld] in
theorem says_of {T : Tx} {w : World} {h : Heap} {lo n : Nat} (e : obsK T h.get? (kG lo n h.get?) = valK T w) : Says T w h (kG lo n h.get?) := by
  generalize hK : kG lo n h.get? = K at e ⊢
  have e1 : (T.dfs.all (fun d => d.ok K) && (T.fb.all (fun f => f K) && (T.exs.all (fun e => e.ok T.file K) && tabsB h.get? K))) = true := congrArg (fun z : Al => z.1) e
  have e2 : T.dfs.map (fun d => fnO K (fA K d)) = T.dfs.map Df.val := congrArg (fun z : Al => z.2.1) e
  have e3 : T.exs.map (fun e => exO K (ma K (ga K e.x) "__init__")) = T.exs.map Ex.val := congrArg (fun z : Al => z.2.2.1) e
  have e4 : (T.tb.map fun t => He.dicW K (ga K t.1)) = T.tb.map fun t => some (He.keysIn w.params t.2) := congrArg (fun z : Al => z.2.2.2) e
  obtain ⟨a1, e1⟩ := He.ba e1
  obtain ⟨a2, e1⟩ := He.ba e1
  obtain ⟨a3, a4⟩ := He.ba e1
  refine ⟨List.all_eq_true.mp a1, List.map_inj_left.mp e2, List.all_eq_true.mp a2, List.all_eq_true.mp a3, List.map_inj_left.mp e3, List.map_inj_left.mp e4, fun p hp => ?_⟩
  obtain ⟨h1, h2⟩ := He.ba (List.all_eq_true.mp a4 p hp)
  cases q : h.get? p.2 with
  | none =>
    rw [q] at h2
    cases h2
  | some o =>
    rw [q] at h2
    refine ⟨h1, ?_, by rw [He.emptyTab_eq h2]⟩
    rw [← hK]
    exact He.frT_none q h2
def hook (T : Tx) (lo n : Nat) : PySem.W.Hook where
  α := Al
  obs := fun s => obsK T s.heap.get? (kG lo n s.heap.get?)
  val := fun w => valK T w
  says := fun w h => ∃ K : PySem.W.Frag, K.In h ∧ Says T w h K
  of := fun _ _ e => ⟨_, He.frT_in, says_of e⟩
  keeps := fun _ _ _ ⟨K, hK, c⟩ k => ⟨K, PySem.W.Frag.In.keeps hK k, ⟨c.dOk, c.dVal, c.fOk, c.eOk, c.eVal, c.tb, fun p hp => ⟨(c.tabs p hp).1, (c.tabs p hp).2.1, k _ _ (c.tabs p hp).2.2⟩⟩⟩
def obT (T : Tx) (lo n : Nat) (s : PySem.W.SharedT) : Al := obsK T (HandSHeadRun.getT s) (kG lo n (HandSHeadRun.getT s))
omit [Wld] in
theorem obT_eq (T : Tx) (lo n : Nat) (s : PySem.W.SharedT) : obT T lo n s = (hook T lo n).obs s.abs := by
  have e : HandSHeadRun.getT s = s.abs.heap.get? := funext (HandSHeadRun.getT_eq s)
  unfold obT
  rw [e] <;> rfl
section
variable {T : Tx} {w : World} {h : Heap} {K : PySem.W.Frag} {mg : Str → Option Value}
theorem Says.f (c : Says T w h K) (i : Nat) {f : PySem.W.Frag → Bool} (e : T.fb[i]? = some f) : f K = true := c.fOk f (List.mem_of_getElem? e)
theorem Says.fn (c : Says T w h K) {d : Df} (m : d ∈ T.dfs) : ∃ fd, Fun K d.m d.qual d.st (fA K d) fd := by
  obtain ⟨h1, h2⟩ := He.ba (c.dOk d m)
  exact fun_of (c.dVal d m) h1 (He.ba h2).1
theorem Says.kd (c : Says T w h K) {d : Df} (m : d ∈ T.dfs) : kdB K d = true := (He.ba (He.ba (c.dOk d m)).2).2
theorem Says.kp (c : Says T w h K) {d : Df} (m : d ∈ T.dfs) : PySem.W.keepIn K (.ref (fA K d)) = true := (He.ba (He.ba (c.dOk d m)).2).1
theorem at_i {α : Type} {l : List α} (i : Nat) {a : α} (e : l[i]? = some a) : a ∈ l := List.mem_of_getElem? e
abbrev Bi (m qual : Str) (st : Stmt) (ps : List Str) : Prop := ∀ (kV doc pm : Value) (an : Option Addr) (cdv ct : Value) (us : List Value), us.length = ps.length → bindArgs (PySem.W.fnOf m qual (L2.defArgs st) (L2.defBody st) (L2.defScope st) .none kV doc pm an cdv ct) ⟨us, []⟩ = pure (ps.zip us)
theorem Says.defAt (c : Says T w h K) (X : K.In h) (G : h.Ns mainGlobals mg) {x : Str} {st : Stmt} {C : Str} {ps : List Str} (m : (⟨.D, C, x, x, st⟩ : Df) ∈ T.dfs) (b : Bi x x st ps) : DefAt K mg x st ps := by
  obtain ⟨fd, F⟩ := c.fn m
  exact ⟨_, fd, PySem.W.mg_of X G (He.eqO_ok (c.kd m)), F, F.binds b⟩
theorem Says.metAt (c : Says T w h K) {C x qual : Str} {st : Stmt} {ps : List Str} (m : (⟨.M, C, x, qual, st⟩ : Df) ∈ T.dfs) (hC : clB K C = true) (b : Bi x qual st ps) : MetAt K C x qual st ps := by
  obtain ⟨fd, F⟩ := c.fn m
  obtain ⟨k1, k2⟩ := He.ba (c.kd m)
  exact ⟨_, _, fd, clB_ok hC, ⟨He.eqO_ok k1, k2, c.kp m⟩, F, F.binds b⟩
theorem Says.iniAt (c : Says T w h K) (X : K.In h) (G : h.Ns mainGlobals mg) {C qual : Str} {st : Stmt} {ps : List Str} (m : (⟨.I, C, "__init__", qual, st⟩ : Df) ∈ T.dfs) (hC : clB K C = true) (b : Bi "__init__" qual st (("self" : Str) :: ps)) : IniAt K mg C qual st ps := by
  obtain ⟨fd, F⟩ := c.fn m
  obtain ⟨k1, k2⟩ := He.ba (c.kd m)
  obtain ⟨k2, k3⟩ := He.ba k2
  obtain ⟨k3, k4⟩ := He.ba k3
  exact ⟨_, _, fd, clB_ok hC, PySem.W.mg_of X G (clB_ok hC).nm, ⟨k3, He.eqO_ok k1, k2, k4⟩, F, F.binds b⟩
theorem Says.sta (c : Says T w h K) {C x qual : Str} {st : Stmt} (m : (⟨.S, C, x, qual, st⟩ : Df) ∈ T.dfs) : SMet K (ga K C) (.type "type") x (sa K C x) (fA K ⟨.S, C, x, qual, st⟩) := by
  obtain ⟨k1, k2⟩ := He.ba (c.kd m)
  exact ⟨staB_ok k1, recB_ok k2, c.kp m⟩
theorem Says.staAt (c : Says T w h K) (X : K.In h) (G : h.Ns mainGlobals mg) {C x qual : Str} {st : Stmt} {ps : List Str} (m : (⟨.S, C, x, qual, st⟩ : Df) ∈ T.dfs) (hC : clB K C = true) (hR : crB K C = true) (b : Bi x qual st ps) : StaAt K mg C x qual st ps := by
  obtain ⟨fd, F⟩ := c.fn m
  exact ⟨_, _, _, _, fd, PySem.W.mg_of X G (clB_ok hC).nm, crB_ok hR, c.sta m, F, F.binds b⟩
theorem Says.tab (c : Says T w h K) (X : K.In h) (G : h.Ns mainGlobals mg) {x : Str} {tbl : List (Str × D)} (m : (x, tbl.map (·.1)) ∈ T.tb) (hb : tbB x tbl K = true) : KTab K w mg x tbl := tbB_ok X G hb (c.tb _ m)
theorem Says.errS {P : Program} {base : Heap} (c : Says T w h K) (X : K.In h) (G : h.Ns mainGlobals mg) {x qual : Str} {ps : List Str} {b : Nat} {st : Stmt} {tx : Str} {ar : Arg} {j j' : Nat} {p0 p1 p2 p3 p4 p5 q0 q1 q2 q3 : Pos} {pl : Sem Bool} {sts : List Stmt}
    (m : (⟨x, qual, st, ps, b⟩ : Ex) ∈ T.exs) (hfile : ((P.main.file : Str) == T.file) = true) (hsuper : frB "super" K = true) (htop : (P.main.scope.names.lookup ("super" : Str)).isSome = false) (ho : He.eqO (PySem.W.nsIn K cStatics "thirdparty.any") (some none) = true)
    (hbody : L2.defBody st = .Expr (.Call (.Attribute (.Call (.Name "super" p0) [] [] p1) "__init__" p2) [.Constant (.str tx) j p3] [] p4) p5 :: .Assign [.Attribute (.Name "self" q0) "code" q1] (.Constant (.str x) j' q2) q3 :: sts) (hs : FieldsOk sts ps)
    (S : SupScope (("self" : Str) :: ps) (("self" : Str) :: ps) (L2.defScope st)) (hp : ((L2.defArgs st).posonlyargs ++ (L2.defArgs st).args).head? = some ar) (har : ar.arg = "self") (hd : ps.all (fun p => !(p == ("__debug__" : Str)) && !(p == ("__classdict__" : Str))) = true) (hz : ps.length ≤ 800)
    (hev : ∀ (L f cc : Addr) (cd : Value), eval (.Call (.Attribute (.Call (.Name "super" p0) [] [] p1) "__init__" p2) [.Constant (.str tx) j p3] [] p4) (ksEnv qual (L2.defScope st) L f cd cc) = (do
      let ov ← attributeBase (.Call (.Name "super" p0) [] [] p1) "__init__" (ksEnv qual (L2.defScope st) L f cd cc) (eval (.Call (.Name "super" p0) [] [] p1) (ksEnv qual (L2.defScope st) L f cd cc))
      standAt p2.atName
      let (g, first) ← holding [ov] (getMethod ov "__init__" pl)
      callWith p4 g first (backTo p4 (starEach [.Constant (.str tx) j p3] (ksEnv qual (L2.defScope st) L f cd cc))) []))
    (hsw : ∀ (L f cc : Addr) (cd : Value), swapsWith (.Call (.Attribute (.Call (.Name "super" p0) [] [] p1) "__init__" p2) [.Constant (.str tx) j p3] [] p4) none p5.line (ksEnv qual (L2.defScope st) L f cd cc) = pure false)
    (hbi : ∀ (kV doc pm : Value) (an : Option Addr) (cdv ct : Value) (o : Addr) (us : List Value), us.length = (("self" : Str) :: ps).length → bindArgs (PySem.W.ksFn "__init__" qual (L2.defArgs st) (L2.defBody st) (L2.defScope st) .none kV doc pm an cdv ct o) ⟨us, []⟩ = pure ((("self" : Str) :: ps).zip us)) :
    ErrS P w K mg base x qual st ps := by
  have ok := c.eOk _ m
  unfold Ex.ok at ok
  obtain ⟨a1, ok⟩ := He.ba ok
  obtain ⟨a2, ok⟩ := He.ba ok
  obtain ⟨a3, ok⟩ := He.ba ok
  obtain ⟨a4, ok⟩ := He.ba ok
  obtain ⟨a5, ok⟩ := He.ba ok
  obtain ⟨a6, ok⟩ := He.ba ok
  obtain ⟨a7, ok⟩ := He.ba ok
  obtain ⟨a8, ok⟩ := He.ba ok
  obtain ⟨a9, ok⟩ := He.ba ok
  obtain ⟨b1, ok⟩ := He.ba ok
  obtain ⟨b2, ok⟩ := He.ba ok
  obtain ⟨b3, ok⟩ := He.ba ok
  obtain ⟨b4, b5⟩ := He.ba ok
  obtain ⟨nm, qn, N, bs, bm, sn, sub, ab, col, dd, k0, k1, k2, k3, k5, xc, xb⟩ := excB_ok a2
  obtain ⟨kV, doc, pm, ct, oc, cl, ccl, an, od, cld, cdd, osl, csl, ccs, fvs, tf, d, o, xl, xd, xh, xv, xp⟩ := exF_ok (st := st) a1 (c.eVal _ m)
  exact errS_mk (st := st) (xTail b) (PySem.W.mg_of X G (He.eqO_ok a3)) (He.eqO_ok a3) xc xb (He.eqO_ok a4) (of_decide_eq_true a5) (of_decide_eq_true a6) a7 (He.eqO_ok a8) (of_decide_eq_true a9) xl xd xh xv hfile xp (PySem.W.mg_none_of X G (He.eqO_ok hsuper)) htop (He.eqO_ok ho) (He.eqO_ok b1) (of_decide_eq_true b2) (of_decide_eq_true b3) (He.eqO_ok b4)
    (fun p hp => He.eqO_ok (List.all_eq_true.mp b5 p hp)) hbody hs S hp har hd hz hev hsw (hbi kV doc pm an (.ref d) ct o)
end
omit [Wld] in
/-- the end: a head told by the hook, a law that may make lambdas -/
theorem walk_X {l : PySem.W.OpenLaw} {n k : Nat} {q : Program} {loose : List Str} {XP : (Str → Option Value) → Heap → Prop} {d : DefRec} {CX : World → CXT} {x : Str} {F : World → Fn} {T : Tx} {lo N : Nat}
    (hn : l.most = some n) (hn2 : n ≤ 63) (hdf : d.params.defaults = []) (hr : Room k callerA)
    (hF : ∀ (w : World) (K : PySem.W.Frag) (mg : Str → Option Value) (fa : Addr) (h : Heap), K.In h → Says T w h K → h.Ns mainGlobals mg → mg d.name = some (.ref fa) → ∃ fd : FuncData, (∀ (s : Shared) (u : Value), BindsTo s fd ⟨[u], []⟩ [(x, u)]) ∧
      ∀ base : Heap, K.In base → base.Ns mainGlobals mg → (∀ p ∈ TC K, LamX.TabB base mg p.1 p.2) → FnOk l.prog w K mg base (CX w) k fa fd [x] (@spD ⟨w⟩ K 1 (F w)))
    (truth : ∀ (w : World) (ns : List Int), ns.length ≤ 63 → ∃ M, F w [scriptD ns] [] = .ok (.bl true) M)
    (hCX : ∀ (w : World) (H : Hp) (s : Shared) (e : Value) (s' : Shared), CX w [] H s (fun _ _ _ => False) e s' → False) :
    PySem.W.WalkO q loose XP (hook T lo N).says l.row.toRowW d [] (fun f vs => PySem.call f vs) := by
  refine Att.attach_callB hn hdf fun w s₀ s₁ mg mb fa o pm cd doc a vs ns G Y ho hd hcd hmg hobj hints hlen hbits hg => ?_
  letI : Wld := ⟨w⟩
  obtain ⟨K, KX, c⟩ := Y
  obtain ⟨fd, hb, hf⟩ := hF w K mg fa _ KX c G.T.g hmg
  refine LamX.law_callTs (cs := TC K) KX G.T.g G.T.b G.T.builtins G.T.nolimit hg (fun p hp => (c.tabs p hp).2.2) (fun p hp => (c.tabs p hp).2.1) (fun p hp => PySem.W.codeHd_of_K KX (c.tabs p hp).1) G.T.bmain hobj hints (by rw [sizeLine_eq]; omega) hr hf hb (fun H hH hS => ?_) fun H e s' => hCX w H s₁ e s'
  refine law_spT (truth w) H (fun p hp => ?_) a ns (by omega) hS
  obtain ⟨x, hx, e⟩ := List.mem_filterMap.mp hp
  cases q : tabIn K x with
  | none => rw [q] at e; cases e
  | some c =>
    rw [q] at e
    cases e
    exact LamX.TabS.nil (hH c (List.mem_filterMap.mpr ⟨x, hx, q⟩))
end DX
namespace DX
open PySem PySem.W PySem.Spec PySem.Calls PyProof.Rows HandSHeadRun
theorem run_parts {r : OpenRow} {q : Program} {T : Tx} {lo n M : Nat} {loose : List PySem.Str} {w : World} (hd : RunD r q M loose w) (ha : RunA r T lo n M w) (hb : RunB r T lo n M w) (hc : RunC r T lo n M w) : RunEq r q (hook T lo n) (obT T lo n) M loose w := fun os => by
  have hd := hd os
  have ha := ha os
  have hb := hb os
  have hc := hc os
  generalize endF (stepQ (denQ tabQ) r.prog w) M r.prog w os = o at hd ha hb hc ⊢
  cases o with
  | none => cases hd
  | some s =>
    obtain ⟨d1, d2⟩ := Prod.mk.inj (Option.some.inj hd)
    obtain ⟨a1, a2⟩ := Prod.mk.inj (Option.some.inj ha)
    obtain ⟨b1, b2⟩ := Prod.mk.inj (Option.some.inj hb)
    obtain ⟨c1, c2⟩ := Prod.mk.inj (Option.some.inj hc)
    obtain ⟨c2, c3⟩ := Prod.mk.inj c2
    refine congrArg some (Prod.ext d1 (Prod.ext d2 ?_))
    show obsK T (getT s) (kG lo n (getT s)) = valK T w
    unfold obsK valK
    rw [a1, a2, b1, b2, c1, c2, c3] <;> rfl
end DX
namespace DLZ
open PySem PySem.Spec PyProof.Rows L2
end DLZ
namespace DL
open PySem L2 PySem.W PyProof.Rows DLZ
variable [Wld]
end DL
namespace DL
open PySem L2 PySem.W PyProof.Rows
variable [Wld]
structure HasW (μ : Bool) (P : Program) (w : World) (K : PySem.W.Frag) (mg : Str → Option Value) (base : Heap) (x : Str) (k : Nat) (F : Fn) : Prop where
  ex : ∃ (f : Addr), mg x = some (.ref f) ∧ PySem.W.keepIn K (.ref f) = true ∧ FnR P w K mg base (CXm μ P w) k f (spV K F)
section
variable {X : Cx} {CX : CXT} {k : Nat} {f : Addr} {sp : Sp} {x : Str} {pos p : Pos} {e : Expr} {es : List Expr} {t : TA} {E : L2.St → XK}
end
section
variable {X : Cx} {W : WX} {e : Expr} {es : List Expr} {pos p : Pos} {x : Str} {k j : Nat} {F : Fn} {f : Fa}
end
end DL
namespace DX
open PySem PySem.W PySem.Spec PySem.Calls PyProof.Rows L2 DL
variable [Wld]
variable {T : Tx} {w : World} {h : Heap} {K : PySem.W.Frag} {mg : Str → Option Value}
end DX
namespace DL
open PySem L2 PySem.W PyProof.Rows
variable [Wld]
def tI (K : PySem.W.Frag) (W : WX) (it : Fa) : TI := fun σ H R => ∃ env M w w0 H0, EnvOk K w0 H0 w H M env σ ∧ Post K (RlI K) w H σ W R (it env M)
section
variable {X : Cx} {W : WX} {e e1 tg tg1 : Expr} {pos : Pos}
theorem DI.pi {it : Fa} (h : DI X W tg e it) : PI X tg e (tI X.K W it) := by
  obtain ⟨t, p, s⟩ := h
  exact ⟨fun pins s1 σ H R I ⟨env, M, w, w0, H0, k, q⟩ => p.run pins s1 σ H R I (s env M σ w H w0 H0 R k q)⟩
end
end DL
namespace DL
open PySem L2 PySem.W PyProof.Rows
variable [Wld]
end DL
namespace DX
open PySem PySem.W PySem.Spec PySem.Calls PyProof.Rows L2 DL
variable [Wld]
variable {T : Tx} {w : World} {h : Heap} {K : PySem.W.Frag} {mg : Str → Option Value}
end DX
namespace DL
open PySem L2 PySem.W PyProof.Rows PySem.Spec
variable [Wld]
section
variable {X : Cx}
end
end DL
namespace DL
open PySem L2 PySem.W PyProof.Rows PySem.Spec
variable [Wld]
section
variable {X : Cx} {W : WX} {e : Expr} {es : List Expr} {pos pos' p : Pos} {x : Str} {st : Stmt} {k j : Nat} {ps : List Str} {F : Fn} {f : Fa}
theorem ds_raise0 (T : Err X.prog X.w X.K X.mg X.base x []) (hr : Room 2 X.A) (hc : X.calm = true) (tk : TakesM μ X W) (hg : Gl X x) (hdb : (x == ("__debug__" : Str)) = false := by decide) : DS X W (.Raise (some (.Call (.Name x p) [] [] pos)) none pos') (sRaise x [] fNil) := by
  obtain ⟨C, fI, fd, gC, nC, TC, iC, tI, hb, F, _⟩ := T.ex
  refine ⟨_, ds_raiseM hc tk (pmk_oexN0 TC iC tI F hr hb L2.pass0 hg gC hdb), fun env M σ w H w0 H0 B I h => ?_⟩
  have h : PostS X.K w0 H0 w W B ((R.ok [] M : R (List D)).thn env fun ds M1 => if ds.length = ([] : List Str).length then .ex x (([] : List Str).reverse ++ [("code" : Str)]) (ds.reverse ++ [.str x]) env M1 else .bad) := h
  have s : SndA X.K W tNil fNil := fun env M σ w H w0 H0 Q I h => h [] w H (.refl _ _) I.ok .nil
  refine s env M σ w H w0 H0 _ I (Post.thn I h fun ds M1 vs w1 H1 x1 I1 r1 k1 => ?_)
  by_cases hl : ds.length = ([] : List Str).length
  · rw [if_pos hl] at k1
    have hv : vs.length = 0 := by rw [r1.length, hl]; rfl
    refine ⟨by omega, fun a ha => ?_⟩
    rw [List.append_nil]
    refine ⟨a, vs, rfl, hv, upd_same, fun d hd hne => ?_⟩
    have hd1 : H1 d = none := by rwa [upd_ne hne] at hd
    refine ⟨rfl, d, _, by rw [upd_ne (Ne.symm hne), upd_same], upd_same, hd1, ?_⟩
    have e : upd (del (upd (upd (upd H1 a (exo a C none)) a (exo a C (some d))) d (exd d ((([] : List Str).zip vs).reverse ++ [(("code" : Str), V.str x)]))) a) d (.xd ((([] : List Str).zip vs).reverse ++ [(("code" : Str), V.str x)])) = upd H1 d (.xd ((([] : List Str).zip vs).reverse ++ [(("code" : Str), V.str x)])) := by
      funext b
      by_cases h1 : b = d
      · rw [h1, upd_same, upd_same]
      · rw [upd_ne h1, upd_ne h1]
        by_cases h2 : b = a
        · rw [h2, del_same, ha]
        · rw [del_ne h2, upd_ne h1, upd_ne h2, upd_ne h2]
    rw [e]
    obtain ⟨o2, x2⟩ := I1.ok.put (o := .xd ((([] : List Str).zip vs).reverse ++ [(("code" : Str), V.str x)])) hd1
    refine k1 σ C d _ w1 _ nC (I1.step x2 o2) (More.refl _) (I1.ext.new hd1) upd_same ?_ ?_
    · rw [List.map_append, List.map_reverse, List.map_fst_zip (Nat.zero_le _)]; rfl
    · rw [List.map_append, List.map_reverse, List.map_snd_zip (by rw [hv]; exact Nat.le_refl _)]
      exact (Iss.reverse (r1.mono x2.more)).append (.cons (.str x) .nil)
  · rw [if_neg hl] at k1; exact k1.elim
end
end DL
namespace DL
open PySem L2 PySem.W PyProof.Rows
variable [Wld]
section
variable {X : Cx} {c1 c2 : Value} {k : Nat} {body suite : List Stmt} {b₀ : Stmt} {e1 e2 : Expr} {np pos pos' : Pos} {tb : WX → TS} {ts : Addr → Value → Option Addr → TS} {Wout : WX}
end
structure CatchAt (K : PySem.W.Frag) (mg : Str → Option Value) (n1 n2 : Str) (ys : List Str) : Prop where
  ex : ∃ c1 c2, mg n1 = some c1 ∧ mg n2 = some c2 ∧ ∀ c ∈ ys, ∃ C, nsIn K mainGlobals c = some (some (.ref C)) ∧ exmAny K (.ref C) [c1, c2] = some true
def tSS (K : PySem.W.Frag) (W : WX) (f : Fs) : TS := fun D σ H => ∃ env M w w0 H0, EnvOk K w0 H0 w H M env σ ∧ PostS K w0 H0 w W D (f env M)
def tAA (K : PySem.W.Frag) (W : WX) (f : Fa) : TA := fun σ H Q => ∃ env M w w0 H0, EnvOk K w0 H0 w H M env σ ∧ Post K (RlA K) w H σ W Q (f env M)
theorem DSs.pss {X : Cx} {W : WX} {sts : List Stmt} {f : Fs} (h : DSs X W sts f) : PSs X sts (tSS X.K W f) := by
  obtain ⟨t, p, s⟩ := h
  exact ⟨fun pins s1 σ H D I ⟨env, M, w, w0, H0, k, q⟩ => p.run pins s1 σ H D I (s env M σ w H w0 H0 D k q)⟩
theorem DA.pa {X : Cx} {W : WX} {es : List Expr} {f : Fa} (h : DA X W es f) : PA X es (tAA X.K W f) := by
  obtain ⟨t, p, s⟩ := h
  exact ⟨fun pos pins s1 σ H Q I ⟨env, M, w, w0, H0, k, q⟩ => p.run pos pins s1 σ H Q I (s env M σ w H w0 H0 Q k q)⟩
end DL
namespace DL
open PySem PySem.Spec PySem.W PyProof.Rows L2
variable [Wld]
end DL
namespace DL
open PySem PySem.Spec PySem.W PyProof.Rows L2 HT
variable [Wld]
abbrev Nx := Nat → Mem → Option (Option D)
structure ItV (K : PySem.W.Frag) (J : It) (w : Wd) (nx : Nx) : Prop where
  stop : ∀ i H w1 M, More w w1 → Ok K w1 H M → nx i M = some none → J.stop i H
  go : ∀ i H w1 M d, More w w1 → Ok K w1 H M → nx i M = some (some d) → J.go i H
  yld : ∀ i H v H' w1 M d, More w w1 → Ok K w1 H M → nx i M = some (some d) → J.yld i H v H' → ∃ w2, Ext w1 H w2 H' ∧ Ok K w2 H' M ∧ Is K w2 v d
section
variable {X : Cx} {W : WX} {tg e elt : Expr} {ifs : List Expr} {scope : Scope} {own : List (Str × Nat)} {a : Fe} {g : Fg} {t : Ft} {f : Fe} {pos : Pos}
end
end DL
namespace DL
open PySem PySem.Spec PySem.W PyProof.Rows L2 HT
variable [Wld]
section
variable {X : Cx} {e st : Expr} {te : TE} {ts : TO} {pos p2 : Pos}
end
section
variable {X : Cx} {W : WX} {e st : Expr} {lo hi : Option Expr} {a : Fe} {l u : Fp} {p2 pos : Pos}
end
structure HasCG (μ : Bool) (P : Program) (w : World) (K : PySem.W.Frag) (mg : Str → Option Value) (base : Heap) (x : Str) (n : Nat) (ks : List Str) (is : List Nat) (k : Nat) (F : Fn) : Prop where
  ex : ∃ C f fd ps, ClsIs K x C ∧ mg x = some (.ref C) ∧ Mk K C f ∧ KBn K fd ps (n + 1) ks (fun us ws => us ++ pickB is ws) (fun us ws => us ++ pickB is ws) ∧ FnOk P w K mg base (CXm μ P w) k f fd ps (spD K (n + is.length + 1) F)
section
variable {X : Cx} {CX : CXT} {k : Nat} {f C p : Addr} {fd : FuncData} {ps ks : List Str} {sp : Sp} {x m : Str} {np pos apos : Pos} {e : Expr} {es : List Expr} {kws : List Keyword} {ta tk : TA} {E : L2.St → XK} {g : List Value → List Value → List Value} {gV : List V → List V → List V} {n0 : Nat}
end
section
variable {X : Cx} {W : WX} {pos np : Pos} {x : Str} {e : Expr} {es : List Expr} {k j n0 : Nat} {ks : List Str} {is : List Nat} {kws : List Keyword} {F : Fn} {f fk : Fa} {μ : Bool}
end
end DL
namespace DL
open PySem PySem.Spec PySem.W PyProof.Rows L2 PySem.OEG
variable [Wld]
section
variable {X : Cx} {x : Str} {e : Expr} {es : List Expr} {ta : TA} {p pos : Pos} {CX : CXT} {C fI : Addr} {k : Nat} {fd : FuncData} {ps : List Str} {sp : Sp}
end
section
variable {X : Cx} {W : WX} {e : Expr} {es : List Expr} {pos p : Pos} {x : Str} {ps : List Str} {fa : Fa}
end
structure AttX (K : PySem.W.Frag) (x f : Str) : Prop where
  ex : ∃ C, nsIn K mainGlobals x = some (some (.ref C)) ∧ XfC K C ∧ findIn K (.ref C) f = some none
section
variable {X : Cx} {W : WX} {e : Expr} {pos : Pos} {xs : List Str} {f : Str} {a : Fe} {te : TE}
end
end DL
namespace DL
open PySem PySem.Spec PySem.W PyProof.Rows L2 PySem.OEG DX
variable [Wld]
structure ExI (K : PySem.W.Frag) (D : Addr) : Prop where
  hc : (clsIn K D).isSome = true
  hg : findIn K (.ref D) "__getattribute__" = some (some (.builtin "BaseException.__getattribute__"))
  hk : findIn K (.ref D) "__getattr__" = some none
  hs : subIn K (.ref D) (.type "BaseException") = some true
  ha : findIn K (.ref D) "__class__" = some (some (.builtin "object.__class__"))
  hn : specialIn K (.builtin "object.__class__") "__get__" = some (some (.builtin "getset_descriptor.__get__"))
  ht : takesIn K (.builtin "object.__class__") = some true
  hm : mroIn K D (.type "object") = some true
structure IsX (K : PySem.W.Frag) (cvs : List Value) (yes no : List Str) : Prop where
  y : ∀ x ∈ yes, nsIn K mainGlobals x = some (some (.ref (ga K x))) ∧ ExI K (ga K x) ∧ kitAny K (.ref (ga K x)) cvs = some true
  n : ∀ x ∈ no, nsIn K mainGlobals x = some (some (.ref (ga K x))) ∧ ExI K (ga K x) ∧ kitAny K (.ref (ga K x)) cvs = some false
inductive CE (X : Cx) : Expr → V → Value → Prop
  | own {n : Str} {C : Addr} {p : Pos} : Gl X n → X.mg n = some (.ref C) → (n == ("__debug__" : Str)) = false → CE X (.Name n p) (.ref C) (.ref C)
  | blt {n : Str} {T : String} {p : Pos} : Gl X n → X.mg n = none → bootBuiltins n = some (.type T) → n ≠ "__name__" → (n == ("__debug__" : Str)) = false → CE X (.Name n p) (.ty T) (.type T)
theorem CE.pe {X : Cx} {e : Expr} {v : V} {c : Value} (h : CE X e v c) : PE X e (tC v) := by
  cases h with
  | own h1 h2 h3 => exact pe_glob (v := .ref _) h1 h2 rfl h3
  | blt h1 h2 h3 h4 h5 => exact pe_bltn (v := .ty _) h1 h2 h3 rfl h4 h5
theorem CE.cv {X : Cx} {e : Expr} {v : V} {c : Value} (h : CE X e v c) : ClsV v c := by
  cases h with
  | own => exact .own _
  | blt => exact .ty _
inductive CEs (X : Cx) : List Expr → List V → List Value → Prop
  | nil : CEs X [] [] []
  | cons {e : Expr} {v : V} {c : Value} {es : List Expr} {vs : List V} {cs : List Value} : CE X e v c → (starEach (e :: es) X.env = (false, eval e X.env) :: starEach es X.env) → CEs X es vs cs → CEs X (e :: es) (v :: vs) (c :: cs)
theorem CEs.pa {X : Cx} {es : List Expr} {vs : List V} {cs : List Value} (h : CEs X es vs cs) : ∃ t, PA X es t ∧ (∀ σ H (Q : List V → Hp → Prop), Q vs H → t σ H Q) ∧ Paired ClsV vs cs := by
  induction h with
  | nil => exact ⟨_, pa_nil, fun σ H Q q => q, .nil⟩
  | cons h he t ih =>
    obtain ⟨t1, p, q1, pr⟩ := ih
    exact ⟨_, pa_cons h.pe p he, fun σ H Q q => q1 σ H _ q, .cons h.cv pr⟩
section
variable {X : Cx} {W : WX} {e ce : Expr} {ces : List Expr} {pos p tp : Pos} {k : Nat} {yes no : List Str} {fa : Fe} {v : V} {c : Value} {vs : List V} {cs : List Value}
end
end DL
namespace PySem
namespace OEG
open PySem.W PySem.Calls PyProof.Rows PySem.HandSPX PySem.OEX
open Builtin
section
variable {M : Model} {A : Around} {E : Value → Shared → Prop} {h : Heap} {g : Array GenState} {d : Drawn} {t : Nat} {os : OsState}
variable {nm q : Str} {C N : Addr} {bs bm bmB : List Value} {hdct : Bool} {sn : List Str} {sub : List Value} {ab : Bool} {col : Option Bool} {dd : Option Addr} {k0 k1 k2 k3 k5 : Option Value} {B newId initId : String}
end
section
variable {prog : Program} {w : World} {A : Around} {E : Value → Shared → Prop} {R : Result → Shared → Prop} {h : Heap} {g : Array GenState} {d : Drawn} {t : Nat} {os : OsState}
variable {nm q : Str} {C N : Addr} {bs bm bmB : List Value} {hdct : Bool} {sn : List Str} {sub : List Value} {ab : Bool} {col : Option Bool} {dd : Option Addr} {k0 k1 k2 k3 k5 : Option Value} {B newId initId : String}
end
end OEG
end PySem
namespace DL
open PySem PySem.Spec PySem.W PyProof.Rows L2 PySem.OEG
variable [Wld]
section
variable {X : Cx} {x : Str} {e : Expr} {es : List Expr} {ta tk : TA} {p pos : Pos} {CX : CXT} {C fI : Addr} {k n0 : Nat} {fd : FuncData} {ps ks : List Str} {sp : Sp} {kws : List Keyword} {g : List Value → List Value → List Value} {gV : List V → List V → List V}
end
section
variable {X : Cx} {W : WX} {e : Expr} {es : List Expr} {pos p : Pos} {x qual : Str} {st : Stmt} {ps ks : List Str} {fa fk : Fa} {kws : List Keyword} {n0 : Nat} {is : List Nat}
end
end DL
namespace DL
open PySem PySem.Spec PySem.W PyProof.Rows L2 PySem.OEG DX
variable [Wld]
end DL
namespace DL
open PySem PySem.Spec PySem.W PyProof.Rows L2
variable [Wld]
section
variable {X : Cx} {W : WX} {o e f : Expr} {apos cpos : Pos} {fo fk fz : Fe} {j : Nat}
end
end DL
namespace DL
open PySem PySem.Spec PySem.W PyProof.Rows L2
variable [Wld]
end DL
namespace DL
open PySem PySem.Spec PySem.W PyProof.Rows L2
variable [Wld]
section
variable {prog : Program} {w : World} {A : Around} {E : Value → Shared → Prop} {s : Shared}
theorem dictPut_pairs {K : Type} [DecidableEq K] {knd : KeyKind prog w K} {d : Addr} {kvs : List (K × Value)} {k : K} {key v : Value} {Q : Unit → Shared → Prop} (hkey : knd.is k key = true) (hm : s.heap.DictOf knd d kvs)
    (hQ : ∀ h', h'.DictOf knd d (stored kvs k v) → Heap.SameBut d s.heap h' → Q () { s with heap := h' }) (hsz : kvs.length ≤ sizeLine) :
    wpAny (model prog w) A (dictPut d (knd.hash k) key v) Q E s := by
  obtain ⟨o, es, ep, ho, hc, hd, hk, hp, hn⟩ := hm
  have hes : es.size ≤ sizeLine := by
    have e1 := hp.length
    have e2 : es.toList.length = es.size := by simp
    omega
  unfold dictPut
  refine wpAny_bind (wpAny_dictFind_of hkey ho hd hk ?_)
  have hidx : (es.findIdx? fun e => knd.is k e.key) = kvs.findIdx? fun kv => decide (kv.1 = k) := by
    rw [← hp.findIdx k]; obtain ⟨l⟩ := es; simp
  cases hi : es.findIdx? fun e => knd.is k e.key with
  | some i =>
    refine wpAny_updateDict ho hd (hQ _ ⟨_, _, ep, Heap.get?_update_self _ ho (Obj.isFreed_of_dict (Obj.data_mapDict hd _)), hc.mapDict _, Obj.data_mapDict hd _, hk.modify _ _, ?_, ?_⟩ (Heap.SameBut.update ..))
    · rw [stored, if_pos (any_of_findIdx_some (hidx ▸ hi))]
      have hl : (es.toList.findIdx? fun e => knd.is k e.key) = some i := by rw [← hi]; obtain ⟨l⟩ := es; simp
      have := hp.modify hn hl v
      obtain ⟨l⟩ := es
      simpa using this
    · rw [stored, if_pos (any_of_findIdx_some (hidx ▸ hi)), keys_map_store]; exact hn
  | none =>
    have hnot : k ∉ kvs.map (·.1) := not_mem_of_findIdx_none (hidx ▸ hi)
    have hany : ¬ (kvs.any fun kv => decide (kv.1 = k)) = true := by
      rw [List.any_eq_true]; rintro ⟨kv, hkv, he⟩
      exact hnot (List.mem_map.mpr ⟨kv, hkv, of_decide_eq_true he⟩)
    refine wpAny_updateDictKeys (hz := hes) ho hd (hQ _ ⟨_, _, ep + 1, Heap.get?_update_self _ ho (Obj.isFreed_of_dict (Obj.data_mapDictKeys hd _)), hc.mapDictKeys _, Obj.data_mapDictKeys hd _, hk.push hkey _, ?_, ?_⟩ (Heap.SameBut.update ..))
    · rw [stored, if_neg hany]
      have := hp.append hkey (knd.hash k) v
      obtain ⟨l⟩ := es
      simpa using this
    · rw [stored, if_neg hany, List.map_append, List.nodup_append]
      refine ⟨hn, by simp, ?_⟩
      intro a ha b hb
      simp only [List.map_cons, List.map_nil, List.mem_singleton] at hb
      subst hb
      exact fun e => hnot (e ▸ ha)
theorem merge_into {d o : Addr} {kvs more : List (Key × Value)} {Q : Unit → Shared → Prop} (hdo : d ≠ o) (hoS : (o == sysModules) = false) (hd : s.heap.DictOf (mixKind prog w) d kvs) (ho : s.heap.DictOf (mixKind prog w) o more)
    (hQ : ∀ h', h'.DictOf (mixKind prog w) d (merged kvs more) → h'.DictOf (mixKind prog w) o more → Heap.SameBut d s.heap h' → Q () { s with heap := h' }) (hsz : kvs.length + more.length ≤ sizeLine) :
    wpAny (model prog w) A (mergeMapping d (.ref o) false) Q E s := by
  obtain ⟨od, esd, epd, hod, hcd, hdd, hkd, hpd, hnd⟩ := id hd
  obtain ⟨oo, eso, epo, hoo, hco, hdo', hko, hpo, hno⟩ := id ho
  have hlen : more.length = eso.size := by rw [← hpo.length]; simp
  have refless : ∀ e ∈ eso.toList, ∀ b, e.key ≠ .ref b := fun e he b z => by
    obtain ⟨k, hk, _⟩ := hko e (Array.mem_toList_iff.mp he)
    have hk : keyIs k e.key = true := hk
    rcases keyIs_shape hk with ⟨i, t, _, h2⟩ | ⟨x, t, _, h2⟩
    · rw [h2] at z; cases z
    · rw [h2] at z; cases z
  unfold mergeMapping
  refine wpAny_bind (wpAny_isInstance ho.typeIs isSubtype_dict_dict ?_)
  simp only [if_true]
  refine wpAny_bind (wpAny_specialOf ho.typeIs F.slot_dict_iter.lookup ?_)
  refine wpAny_bind (wpAny_pure ?_)
  simp only [beq_self_eq_true]
  rw [if_neg (by rw [hoS]; exact Bool.false_ne_true)]
  refine wpAny_bind (wpAny_dictEntries hod hdd ?_)
  split
  have hl : ∀ f : DictEntry → PUnit → Sem (ForInStep PUnit), (∀ e ∈ eso.toList, ∀ c, f e c = pure (.yield c)) → forIn eso PUnit.unit f = pure PUnit.unit := fun f hf => by
    rw [← Array.forIn_toList]
    exact forIn_yield_id _ hf
  all_goals try (refine wpAny_bind (wpAny_dictEntries hoo hdo' (wpAny_bind (wpAny_of_eq (hl _ fun e he c => (by
      have := refless e he
      split
      · rename_i a ha; exact absurd ha (this a)
      · rfl)) ?_))))
  all_goals
    refine wpAny_bind (wpAny_dictEntries hoo hdo' ?_)
    refine wpAny_bind (wpAny_dictEpoch hoo hdo' ?_)
    refine wpAny_bind ?_
    refine wpAny_forIn_list _
      (fun rest _ s' => ∃ h' i, s' = { s with heap := h' } ∧ rest = (List.range eso.size).drop i ∧ i ≤ eso.size ∧ h'.DictOf (mixKind prog w) d (merged kvs (more.take i)) ∧ h'.get? o = some oo ∧ Heap.SameBut d s.heap h')
      _ ?_ ?_ _ _ ⟨s.heap, 0, rfl, rfl, Nat.zero_le _, by simpa [merged] using hd, hoo, Heap.SameBut.refl _ _⟩
    · rintro x rest b s' ⟨h', i, rfl, hr, hi, hd', hoo', hs'⟩
      have hlt : i < eso.size := by
        rcases Nat.lt_or_ge i eso.size with h | h
        · exact h
        · rw [List.drop_of_length_le (by rw [List.length_range]; exact h)] at hr; cases hr
      rw [List.drop_eq_getElem_cons (by rw [List.length_range]; exact hlt), List.getElem_range] at hr
      obtain ⟨rfl, hrest⟩ : x = i ∧ rest = (List.range eso.size).drop (i + 1) := by
        injection hr with h1 h2
        exact ⟨h1, h2⟩
      refine wpAny_bind (wpAny_dictEntries hoo' hdo' ?_)
      rw [Array.getElem?_eq_getElem hlt]
      obtain ⟨kv, hkv⟩ : ∃ kv, more[x]? = some kv := ⟨more[x]'(by rw [hlen]; exact hlt), List.getElem?_eq_getElem _⟩
      obtain ⟨k, v⟩ := kv
      obtain ⟨hkey, hval⟩ := hpo.get? (e := eso[x]) (by simp [hlt]) hkv
      obtain ⟨k', hkey', hhash⟩ := hko eso[x] (Array.getElem_mem hlt)
      obtain rfl : k' = k := (mixKind prog w).inj _ _ _ hkey' hkey
      have hmx : (merged kvs (more.take x)).length ≤ sizeLine := by
        have e1 := merged_length_le kvs (more.take x)
        have e2 : (more.take x).length ≤ more.length := by rw [List.length_take]; omega
        omega
      refine wpAny_bind (wpAny_holding ?_)
      simp only [Bool.false_eq_true, if_false]
      rw [hhash, hval]
      refine dictPut_pairs hkey hd' (fun h'' hd'' hs'' => ?_) hmx
      have hoo'' : h''.get? o = some oo := (hs''.2 o (Ne.symm hdo)).trans hoo'
      refine wpAny_bind (wpAny_dictEpoch hoo'' hdo' ?_)
      rw [if_neg (by simp)]
      exact wpAny_pure ⟨h'', x + 1, rfl, hrest, hlt, by rw [merged_take_succ kvs more x (k', v) hkv]; exact hd'', hoo'', hs'.trans hs''⟩
    · rintro b s' ⟨h', i, rfl, hr, hi, hd', hoo', hs'⟩
      have hin : i = eso.size := by
        have := congrArg List.length hr
        rw [List.length_drop, List.length_range] at this
        simp at this
        omega
      refine wpAny_pure (hQ h' ?_ ⟨oo, eso, epo, hoo', hco, hdo', hko, hpo, hno⟩ hs')
      rw [hin, ← hlen, List.take_length] at hd'; exact hd'
end
section
variable {X : Cx} {d k v : Expr} {td tk tv : TE} {pos : Pos}
def tDicU (td tk tv : TE) : TE := fun σ H Q => ∀ D, H D = none → td σ (upd H D (.dK [])) fun x H1 => ∃ o kvs, x = .ref o ∧ D ≠ o ∧ Rd H1 o (.dK kvs) ∧ H1 D = some (.dK []) ∧ kvs.length < 16000000 ∧
  ∀ S, upd H1 D (.dK kvs) S = none → tk σ (upd (upd H1 D (.dK kvs)) S (.dK [])) fun y H2 => tv σ H2 fun z H3 => ∃ key, y = kV key ∧ H3 S = some (.dK []) ∧ H3 D = some (.dK kvs) ∧ S ≠ D ∧
    Q (.ref D) (upd (upd H3 S (.dK [(key, z)])) D (.dK (putK kvs key z)))
theorem pe_dicU (hd : PE X d td) (hk : PE X k tk) (hv : PE X v tv) : PE X (.Dict [none, some k] [d, v] pos) (tDicU td tk tv) := by
  refine ⟨fun pins s σ H Q I h => ?_⟩
  rw [arm_eval_Dict]
  refine wpAny_bind (wpAny_standAt ?_)
  show wpAny _ _ (dictDisplay [(none, do let x ← eval d X.env; standAt pos; pure x), (some (eval k X.env), do let x ← eval v X.env; standAt pos; pure x)]) _ _ s
  unfold dictDisplay
  simp only [List.isEmpty_nil, if_true, List.forIn_cons, List.forIn_nil, pure_bind, bind_assoc, List.nil_append, List.length_cons, List.length_nil]
  refine wpAny_bind (wpAny_alloc ?_)
  have hD := I.hok.fresh (Nat.le_refl s.heap.objs.size)
  have h := h _ hD
  have I1 := I.laid (a := s.heap.objs.size) (o := .dK []) (h' := s.heap.push { cls := .type "dict", data := .dict #[] }) (t' := s.toks) (fun _ _ q => Heap.get?_push_of_some _ q) (Nat.le_refl _) (dk_empty s.heap I.big)
  generalize s.heap.objs.size = D at h I1 hD ⊢
  refine wpAny_bind (wpAny_holding (wpAny_bind (wpAny_mono (hd.run pins _ σ _ _ I1 h) (fun m s2 ⟨x, H1, I2, rx, o, kvs, ex, neDo, ho, hD1, sz, q⟩ => wpAny_bind (wpAny_standAt (wpAny_pure ?_))) fun _ _ z => z)))
  subst ex
  obtain rfl : m = Value.ref o := rx
  have line : (16000000 : Nat) < sizeLine := by rw [sizeLine_eq]; decide
  obtain ⟨z1, lo, vs, rel, dd⟩ := dk_rd I2.hok ho
  obtain ⟨z2, hDs, vs0, r0, ddD⟩ := dk_of I2.hok hD1
  cases r0
  have hl : kvs.length = vs.length := Paired.length rel
  have nd : (vs.map (·.1)).Nodup := let ⟨_, _, _, _, _, _, _, _, hn⟩ := dd; hn
  refine wpAny_bind (wpAny_onRaise (wpAny_tryCatch (wpAny_onRaise (wpAny_holding (merge_into neDo lo ddD dd (fun h' d1 d2 hs => ?_) (by rw [List.length_nil]; omega))))))
  rw [merged_nil_of_nodup vs nd] at d1
  have he : ∃ q, h'.get? D = some q := let ⟨q, _, _, hq, _⟩ := d1; ⟨q, hq⟩
  have I3 : Inv X pins σ (upd H1 D (.dK kvs)) { s2 with heap := h' } := d_write I2 (by rw [hD1]; exact True.intro) hs he (dk_new z1 hDs rel d1)
  simp only [show ((0 + 1 == 17) = true) = False from by simp, if_false, pure_bind, List.isEmpty_cons, Bool.false_eq_true]
  have hS := I3.hok.fresh (Nat.le_refl h'.objs.size)
  have q := q _ hS
  have I4 := I3.laid (a := h'.objs.size) (o := .dK []) (h' := h'.push { cls := .type "dict", data := .dict #[] }) (t' := s2.toks) (fun _ _ q => Heap.get?_push_of_some _ q) (Nat.le_refl _) (dk_empty h' I3.big)
  refine wpAny_bind (wpAny_bind (wpAny_holding (wpAny_subDict (knd := mixKind X.prog X.w) (show 1 ≤ 15 by decide) (evalPairs_cons (wpAny_mono (hk.run pins _ σ _ _ I4 q) (fun kv s4 ⟨y, H2, I5, ry, q2⟩ => wpAny_bind (wpAny_mono (hv.run pins _ σ _ _ I5 q2) (fun vv s5 ⟨z, H3, I6, rz, key, ey, hS3, hD3, neSD, q3⟩ => wpAny_bind (wpAny_standAt (wpAny_pure (evalPairs_nil ?_)))) fun _ _ z => z)) fun _ _ z => z)))))
  subst ey
  obtain ⟨z5, hSs, vs5, r5, ddS⟩ := dk_of I6.hok hS3
  cases r5
  refine ⟨[(key, vv)], ⟨kV_is ry, rfl, trivial⟩, ddS, fun h6 d6 hs6 => ?_⟩
  have e6 : merged ([] : List (Key × Value)) [(key, vv)] = [(key, vv)] := rfl
  rw [e6] at d6
  have he6 : ∃ q, h6.get? h'.objs.size = some q := let ⟨q, _, _, hq, _⟩ := d6; ⟨q, hq⟩
  have relS : KV [(key, z)] [(key, vv)] := .cons ⟨rfl, rz⟩ .nil
  have I7 := d_write (t' := s5.toks + 1) I6 (by rw [hS3]; exact True.intro) hs6 he6 (dk_new (show ([(key, z)] : List (Key × V)).length ≤ sizeLine by rw [List.length_singleton]; omega) hSs relS d6)
  have hD7 : upd H3 h'.objs.size (.dK [(key, z)]) D = some (.dK kvs) := by rw [upd_ne neSD.symm]; exact hD3
  obtain ⟨z7, hDs7, vs7, r7, dd7⟩ := dk_of I7.hok hD7
  obtain ⟨_, hSs7, vsS, rS, ddS7⟩ := dk_of I7.hok (show upd H3 h'.objs.size (.dK [(key, z)]) h'.objs.size = _ from upd_same)
  have hl7 : kvs.length = vs7.length := Paired.length r7
  have hlS : vsS.length = 1 := (Paired.length rS).symm
  refine wpAny_bind (wpAny_onRaise (wpAny_holding (merge_into neSD.symm hSs7 dd7 ddS7 (fun h8 d8 _ hs8 => ?_) (by omega))))
  refine wpAny_pure (wpAny_pure ⟨.ref D, _, d_write I7 (by rw [hD7]; exact True.intro) hs8 (let ⟨q, _, _, hq, _⟩ := d8; ⟨q, hq⟩) (dk_new (kvs := putK kvs key z) ?_ hDs7 ?_ d8), rfl, q3⟩)
  · have := length_putK kvs key z
    omega
  · cases rS with
    | cons a b =>
      cases b
      obtain ⟨a1, a2⟩ := a
      rename_i pr
      obtain ⟨p1, p2⟩ := pr
      cases a1
      exact r7.put _ a2
end
def oDicU (fd fk fv : Fe) : Fo := fun env M => (fd env M).bind fun d M1 => match d with
  | .ref k => (match M1[k]? with
    | some (.dic kvs) => if dFlat kvs = true ∧ small kvs.length = true then (fk env M1).bind fun y M2 => (fv env M2).bind fun z M3 => if (flatK y).isSome = true then .ok (.dic (dPut kvs y z)) M3 else .bad else .bad
    | _ => .bad)
  | _ => .bad
theorem do_dicU {X : Cx} {W : WX} {d k v : Expr} {fd fk fv : Fe} {pos : Pos} (hd : DE X W d fd) (hk : DE X W k fk) (hv : DE X W v fv) : DO X W (.Dict [none, some k] [d, v] pos) (oDicU fd fk fv) := by
  obtain ⟨td, pd, sd⟩ := hd
  obtain ⟨tk, pk, sk⟩ := hk
  obtain ⟨tv, pv, sv⟩ := hv
  refine ⟨_, pe_dicU pd pk pv, fun env M σ w H w0 H0 Q I h => fun D hD => ?_⟩
  obtain ⟨o1, x1⟩ := I.ok.put (o := .dK []) hD
  obtain ⟨n1, n2⟩ := I.ok.new hD
  have keep : ∀ {w1 w2 : Wd} {H1 H2 : Hp} {p : Addr} {u : HO}, w1.g p = none → p ∉ w1.r → H1 p = some u → NoTb u → Ext w1 H1 w2 H2 → w2.g p = none ∧ p ∉ w2.r ∧ H2 p = some u := fun {w1 w2 H1 H2 p u} g r hu nt e => by
    refine ⟨?_, fun z => ?_, e.keep p _ hu r nt⟩
    · cases z : w2.g p with
      | none => rfl
      | some o =>
        rcases e.gn p o z r with z | z
        · rw [g] at z; cases z
        · rw [hu] at z; cases z
    · rcases e.rn p z with z | z
      · exact r z
      · rw [hu] at z; cases z
  refine sd env M σ w _ w0 H0 _ (I.step x1 o1) ?_
  unfold oDicU at h
  cases qd : fd env M with
  | bad => rw [qd] at h; exact h.elim
  | ex c ns us M1 => rw [qd] at h; exact Post.shift (r := R.ex c ns us M1) x1 h
  | ok dd M1 =>
    rw [qd, R.bind_ok] at h
    intro x w1 H1 x2 o2 r2
    obtain ⟨g1, r1, e1⟩ := keep n1 n2 upd_same (fun _ z => by cases z) x2
    cases r2 with
    | @ref o kk hk =>
      cases qm : M1[kk]? with
      | none => simp only [qm] at h; exact h.elim
      | some mo =>
        cases mo with
        | dic kvs =>
          simp only [qm] at h
          by_cases c : dFlat kvs = true ∧ small kvs.length = true
          · rw [if_pos c] at h
            obtain ⟨b, h1, h2, io⟩ := o2.mo qm
            rw [hk] at h1
            cases h1
            obtain ⟨ks, hO, hv⟩ := dic_flat io c.1
            have neDo : D ≠ o := by rintro rfl; exact r1 (List.mem_of_getElem? hk)
            have hz : ks.length < 16000000 := by rw [Paired.length hv]; exact of_decide_eq_true c.2
            refine ⟨o, ks, rfl, neDo, .inl hO, e1, hz, fun S hS => ?_⟩
            have o3 := o2.own (u := .dK ks) g1 r1 e1 ⟨(fun _ z => by cases z), fun c q z => by unfold LamX.CodeO at z; cases z⟩
            have x3 : Ext w H w1 (upd H1 D (.dK ks)) := (x1.trans x2).own hD
            have neS : S ≠ D := by rintro rfl; rw [upd_same] at hS; cases hS
            obtain ⟨o4, x4⟩ := o3.put (o := .dK []) hS
            obtain ⟨m1, m2⟩ := o3.new hS
            have x34 := x3.trans x4
            refine sk env M1 σ w1 _ w0 H0 _ (I.step x34 o4) ?_
            cases qk : fk env M1 with
            | bad => rw [qk] at h; exact h.elim
            | ex c ns us M2 => rw [qk] at h; exact Post.shift (r := R.ex c ns us M2) x34 h
            | ok y M2 =>
              rw [qk, R.bind_ok] at h
              intro vy w2 H2 x5 o5 r5
              refine sv env M2 σ w2 H2 w0 H0 _ ((I.step x34 o4).step x5 o5) ?_
              cases qv : fv env M2 with
              | bad => rw [qv] at h; exact h.elim
              | ex c ns us M3 => rw [qv] at h; exact Post.shift (r := R.ex c ns us M3) (x34.trans x5) h
              | ok z M3 =>
                rw [qv, R.bind_ok] at h
                intro vz w3 H3 x6 o6 r6
                have x56 := x5.trans x6
                obtain ⟨gS, rS, eS⟩ := keep m1 m2 upd_same (fun _ z => by cases z) x56
                obtain ⟨gD, rD, eD⟩ := keep g1 r1 (show upd (upd H1 D (.dK ks)) S (.dK []) D = some (.dK ks) by rw [upd_ne neS.symm, upd_same]) (fun _ z => by cases z) x56
                by_cases cy : (flatK y).isSome = true
                · rw [if_pos cy] at h
                  obtain ⟨key, hkey⟩ := Option.isSome_iff_exists.mp cy
                  have ey := flat_v r5 hkey
                  have o7 := o6.own (u := .dK [(key, vz)]) gS rS eS ⟨(fun _ z => by cases z), fun c q z => by unfold LamX.CodeO at z; cases z⟩
                  have eD7 : upd H3 S (.dK [(key, vz)]) D = some (.dK ks) := by rw [upd_ne neS.symm]; exact eD
                  have o8 := o7.own (u := .dK (putK ks key vz)) gD rD eD7 ⟨(fun _ z => by cases z), fun c q z => by unfold LamX.CodeO at z; cases z⟩
                  have x8 : Ext w H w3 (upd H3 S (.dK [(key, vz)])) := (x34.trans x56).own (x3.new hS)
                  have x9 : Ext w H w3 (upd (upd H3 S (.dK [(key, vz)])) D (.dK (putK ks key vz))) := x8.own hD
                  have hvv : Paired (isKV X.K w3) ks kvs := isKV_mono (x4.more.trans x56.more) hv
                  exact ⟨key, ey, eS, eD, neS, h (.ref D) w3 _ x9 o8 ⟨D, rfl, hD, gD, rD, .inl ⟨_, upd_same, put_flat hkey r6 hvv⟩⟩⟩
                · rw [if_neg cy] at h; exact h.elim
          · rw [if_neg c] at h; exact h.elim
        | _ => simp only [qm] at h; exact h.elim
    | _ => exact h.elim
end DL
namespace DL
open PySem PySem.Spec PySem.W PyProof.Rows L2
variable [Wld]
def tFinB (tb : WX → TS) (tf tfs : TS) (Wout : WX) : TS := fun D σ H => tb (wFin tfs Wout) { nx := fun σ1 H1 => tf D σ1 H1, rt := fun _ _ => False } σ H
theorem ps_finB {X : Cx} {body : List Stmt} {f₀ : Stmt} {fs : List Stmt} {pos : Pos} {tb : WX → TS} {tf tfs : TS} {Wout : WX} (hs : X.stack = X.env :: X.outer) (hf : X.env.frame = some X.env.locals) (hex : X.ex = []) (tk : L2.Takes X Wout)
    (hb : ∀ (W : WX) (pn : List (Addr × Obj)) (xe : Value → Shared → Prop), L2.Takes (X.tr pn xe) W → PassesOwn (model X.prog X.w) X.A X.env xe → PSs (X.tr pn xe) body (tb W))
    (hfin : PSs X.nox (f₀ :: fs) tf) (hsu : ∀ (a : Addr) (pn : List (Addr × Obj)), PSs (X.suite a pn) (f₀ :: fs) tfs) : L2.PS X (.Try body [] [] (f₀ :: fs) pos) (tFinB tb tf tfs Wout) := by
  refine ⟨fun pins s σ H D I h => ?_⟩
  have ok := I.ok
  refine wpAny_Try_finally ?_
  refine wpAny_mono ((hb (wFin tfs Wout) (X.pn ++ pins) (fun x s₁ => wpAny (model X.prog X.w) X.A (noteFrame x X.env) (fun _ s₂ => FinallyRaised X.prog X.w X.A X.xe X.env (f₀ :: fs) (SP X pins D) x s₂) (FinallyRaised X.prog X.w X.A X.xe X.env (f₀ :: fs) (SP X pins D)) s₁)
    (fun u s' xx => ?_) PassesOwn.looking).run [] s σ H { nx := fun σ1 H1 => tf D σ1 H1, rt := fun _ _ => False } (I.toTry _) h) (fun f s1 z => ?_) (fun x s1 hx => hx)
  · exact fin_exc hs hf hex ok tk hsu xx
  · cases f with
    | next =>
      obtain ⟨σ1, H1, I1, q⟩ := z
      refine wpAny_execs_nil ?_
      refine wpAny_mono (hfin.run pins s1 σ1 H1 D ((I1.ofTry ok).wish _) q) (fun g s2 q2 => ?_) fun _ _ z => False.elim z
      have q3 : SP X pins D g s2 := q2.unwish
      cases g <;> exact q3
    | ret u => obtain ⟨v, σ1, H1, I1, r1, q⟩ := z; exact q.elim
    | brk => obtain ⟨σ1, H1, I1, q⟩ := z; exact q.elim
    | cont => obtain ⟨σ1, H1, I1, q⟩ := z; exact q.elim
theorem xd_notr {K : PySem.W.Frag} {w : Wd} {H : Hp} {M : Mem} {dx : Addr} {fs : List (Str × V)} (o : Ok K w H M) (h : H dx = some (.xd fs)) (q : w.g dx = none) : dx ∉ w.r := fun z => by
  obtain ⟨k, hk⟩ := List.mem_iff_getElem?.mp z
  have hl : k < M.length := by rw [← o.len]; exact (List.getElem?_eq_some_iff.mp hk).1
  obtain ⟨b, h1, ⟨_, h2, _⟩ | ⟨_, h2⟩⟩ := o.m k _ (List.getElem?_eq_getElem hl)
  · rw [hk] at h1
    cases h1
    rw [q] at h2
    cases h2
  · rw [hk] at h1
    cases h1
    cases hm : M[k] with
    | gone => rw [hm] at h2; exact h2.elim
    | dic _ =>
      rw [hm] at h2
      rcases h2 with ⟨_, h3, _⟩ | ⟨_, _, h3, _⟩
      · rw [h] at h3; cases h3
      · rw [h] at h3; unfold DicO at h3; cases h3
    | dil _ => rw [hm] at h2; exact h2.elim
    | st _ =>
      rw [hm] at h2
      have h3 := (show H _ = some (SetXO _ _ _) from h2)
      rw [h] at h3; unfold SetXO at h3; cases h3
    | lst ds => rw [hm] at h2; obtain ⟨vs, h3, _⟩ := h2; rw [h] at h3; cases h3
    | ins c ns ds => rw [hm] at h2; obtain ⟨_, _, _, _, h3, _⟩ := h2; rw [h] at h3; cases h3
theorem IsO.noxd {K : PySem.W.Frag} {w : Wd} {H : Hp} {a : Addr} {o : MO} {fs : List (Str × V)} (x : IsO K w H a o) (h : H a = some (.xd fs)) : False := by
  cases o with
  | gone => exact x.elim
  | lst ds => obtain ⟨vs, h1, h2⟩ := x; rw [h] at h1; cases h1
  | ins c ns ds => obtain ⟨C, dx, gs, h0, h1, h2, h3⟩ := x; rw [h] at h1; cases h1
  | dic kvs =>
    rcases x with ⟨ks, h1, h2⟩ | ⟨xs, h0, h1, h2⟩
    · rw [h] at h1; cases h1
    · rw [h] at h1; unfold DicO at h1; cases h1
  | st ks =>
    have x : H a = some (SetXO Wld.w a ks) := x
    rw [h] at x; unfold SetXO at x; cases x
  | dil kvs => exact x.elim
theorem EnvOk.fixX {K : PySem.W.Frag} {w0 w : Wd} {H0 H : Hp} {M : Mem} {env : Env} {σ : L2.St} {dx : Addr} {fs : List (Str × V)} (x : EnvOk K w0 H0 w H M env σ) (h : H dx = some (.xd fs)) (h0 : H0 dx = none) :
    ∃ w1, EnvOk K w0 H0 w1 H M env σ ∧ More w w1 ∧ w1.g dx = some (.xd fs) := by
  cases q : w.g dx with
  | some u =>
    have e := x.ok.g _ _ q
    rw [h] at e
    cases e
    exact ⟨w, x, More.refl w, q⟩
  | none =>
    have nr := xd_notr x.ok h q
    have up : ∀ b u, w.g b = some u → (upd w.g dx (.xd fs)) b = some u := fun b u e => by
      rw [upd_ne (by rintro rfl; rw [q] at e; cases e)]; exact e
    have mr : More w { w with g := upd w.g dx (.xd fs) } := ⟨⟨[], by simp⟩, up⟩
    refine ⟨{ w with g := upd w.g dx (.xd fs) }, ⟨⟨x.ext.r, fun a u e => up a u (x.ext.g a u e), x.ext.keep, x.ext.nn, fun a u e => ?_, x.ext.rn, x.ext.tb⟩, x.ok.freeze h q nr (fun _ z => by cases z), x.len, fun i d hd => ?_, fun i o ho => ?_, x.ap⟩, mr, upd_same⟩
    · have e : upd w.g dx (.xd fs) a = some u := e
      by_cases z : a = dx
      · subst z; exact .inr (.inl h0)
      · rw [upd_ne z] at e; exact x.ext.gx a u e
    · obtain ⟨v, g1, g2⟩ := x.val i d hd
      exact ⟨v, g1, g2.mono mr⟩
    · obtain ⟨a, g1, g2, g3, g4, g5⟩ := x.own i o ho
      refine ⟨a, g1, g2, ?_, g4, g5.mono mr rfl⟩
      show upd w.g dx (.xd fs) a = none
      rw [upd_ne (by rintro rfl; exact g5.noxd h)]
      exact g3
def sFin (f g : Fs) : Fs := fun env M => match f env M with
  | .nx env1 M1 => (match g env1 M1 with
    | .nx env2 M2 => .nx env2 M2
    | _ => .bad)
  | .ex c ns vs env1 M1 => (match g env1 M1 with
    | .nx env2 M2 => .ex c ns vs env2 M2
    | _ => .bad)
  | _ => .bad
theorem ds_fin {X : Cx} {W : WX} {body : List Stmt} {f₀ : Stmt} {fs : List Stmt} {pos : Pos} {f g : Fs} (hs : X.stack = X.env :: X.outer) (hf : X.env.frame = some X.env.locals) (hex : X.ex = []) (tk : TakesM false X W)
    (hb : ∀ (W : WX) (pn : List (Addr × Obj)) (xe : Value → Shared → Prop), TakesM false (X.tr pn xe) W → PassesOwn (model X.prog X.w) X.A X.env xe → DSs (X.tr pn xe) W body f)
    (hfin : DSs X.nox W0 (f₀ :: fs) g) (hsu : ∀ (a : Addr) (pn : List (Addr × Obj)), DSs (X.suite a pn) W0 (f₀ :: fs) g) : DS X W (.Try body [] [] (f₀ :: fs) pos) (sFin f g) := by
  refine ⟨_, ps_finB (tb := fun W1 => tSS X.K W1 f) (tf := tSS X.K W0 g) (tfs := tSS X.K W0 g) hs hf hex tk (fun W1 pn xe tk1 hp => (hb W1 pn xe tk1 hp).pss) hfin.pss (fun a pn => (hsu a pn).pss), fun env M σ w H w0 H0 B I h => ?_⟩
  refine ⟨env, M, w, w0, H0, I, ?_⟩
  unfold sFin at h
  cases q : f env M with
  | nx env1 M1 =>
    simp only [q] at h
    intro σ1 w1 H1 I1 m1
    refine ⟨env1, M1, w1, w0, H0, I1, ?_⟩
    cases qg : g env1 M1 with
    | nx env2 M2 =>
      simp only [qg] at h
      exact fun σ2 w2 H2 I2 m2 => h σ2 w2 H2 I2 (m1.trans m2)
    | rt d M2 => simp only [qg] at h; exact h.elim
    | bk env2 M2 => simp only [qg] at h; exact h.elim
    | ct env2 M2 => simp only [qg] at h; exact h.elim
    | ex c ns vs env2 M2 => simp only [qg] at h; exact h.elim
    | bad => simp only [qg] at h; exact h.elim
  | ex c ns vs env1 M1 =>
    simp only [q] at h
    intro σ1 C dx us w1 H1 hC I1 m1 hd e1 e2 e3
    obtain ⟨w3, I3, m3, g3⟩ := I1.fixX e1 hd
    refine ⟨env1, M1, w3, w0, H0, I3, ?_⟩
    cases qg : g env1 M1 with
    | nx env2 M2 =>
      simp only [qg] at h
      exact fun σ2 w2 H2 I2 m2 => h σ2 C dx us w2 H2 hC I2 (m1.trans (m3.trans m2)) hd (I2.ok.g _ _ (m2.g _ _ g3)) e2 (e3.mono (m3.trans m2))
    | rt d M2 => simp only [qg] at h; exact h.elim
    | bk env2 M2 => simp only [qg] at h; exact h.elim
    | ct env2 M2 => simp only [qg] at h; exact h.elim
    | ex c ns vs env2 M2 => simp only [qg] at h; exact h.elim
    | bad => simp only [qg] at h; exact h.elim
  | rt d M1 => simp only [q] at h; exact h.elim
  | bk env1 M1 => simp only [q] at h; exact h.elim
  | ct env1 M1 => simp only [q] at h; exact h.elim
  | bad => simp only [q] at h; exact h.elim
end DL
namespace DL
open PySem PySem.Spec PySem.W PyProof.Rows L2
variable [Wld]
section
variable {K : PySem.W.Frag} {w : Wd} {p : Addr} {od : Obj} {ks : List (Key × V)}
abbrev Wd.un (w : Wd) (p : Addr) : Wd := { w with g := del w.g p }
theorem tupAt_drop (hg : w.g p = some (.frz od (.dK ks))) {a : Addr} {vs : List V} (h : TupAt K w.g a vs) : TupAt K (del w.g p) a vs := by
  rcases h with h | h
  · exact .inl (by rw [del_ne (by rintro rfl; rw [hg] at h; cases h)]; exact h)
  · exact .inr h
theorem sql_drop (hg : w.g p = some (.frz od (.dK ks))) {a : Addr} {vs : List V} (h : SqL K w.g a vs) : SqL K (del w.g p) a vs := by
  rcases h with (h | ⟨o, h⟩) | h
  · exact .inl (.inl (by rw [del_ne (by rintro rfl; rw [hg] at h; cases h)]; exact h))
  · exact .inl (.inr ⟨o, by rw [del_ne (by rintro rfl; rw [hg] at h; cases h)]; exact h⟩)
  · exact .inr h
mutual
theorem Is.drop (hg : w.g p = some (.frz od (.dK ks))) : ∀ {v : V} {d : D}, Is K w v d → Is K (w.un p) v d
  | _, _, .non => .non
  | _, _, .bl b => .bl b
  | _, _, .int i => .int i
  | _, _, .str x => .str x
  | _, _, .ty n => .ty n
  | _, _, .cst a => .cst a
  | _, _, .tup s h => .tup (tupAt_drop hg s) (Iss.drop' hg h)
  | _, _, .lst (a := a) s h => .lst (show del w.g p a = _ by rw [del_ne (by rintro rfl; rw [hg] at s; cases s)]; exact s) (Iss.drop' hg h)
  | _, _, .rl s h => .rl (sql_drop hg s) (Iss.drop' hg h)
  | _, _, .obj (a := a) n s h => .obj n (show del w.g p a = _ by rw [del_ne (by rintro rfl; rw [hg] at s; cases s)]; exact s) (Iss.drop' hg h)
  | _, _, .ref h => .ref h
  | _, _, .exv (dx := a) s h => .exv (show del w.g p a = _ by rw [del_ne (by rintro rfl; rw [hg] at s; cases s)]; exact s) (Iss.drop' hg h)
  | _, _, .fnv h => .fnv h
  | _, _, .unk => .unk
  | _, _, .exn (a := a) (d := b) n s1 s2 h => .exn n (show del w.g p a = _ by rw [del_ne (by rintro rfl; rw [hg] at s1; unfold exo at s1; cases s1)]; exact s1) (show del w.g p b = _ by rw [del_ne (by rintro rfl; rw [hg] at s2; unfold exd at s2; cases s2)]; exact s2) (Iss.drop' hg h)
theorem Iss.drop' (hg : w.g p = some (.frz od (.dK ks))) : ∀ {vs : List V} {ds : List D}, Iss K w vs ds → Iss K (w.un p) vs ds
  | _, _, .nil => .nil
  | _, _, .cons h t => .cons (Is.drop hg h) (Iss.drop' hg t)
end
theorem isKV_drop (hg : w.g p = some (.frz od (.dK ks))) {xs : List (Key × V)} {kvs : List (D × D)} (h : Paired (isKV K w) xs kvs) : Paired (isKV K (w.un p)) xs kvs := L2.Paired.mapP h fun _ _ z => ⟨z.1, z.2.drop hg⟩
theorem isNV_drop (hg : w.g p = some (.frz od (.dK ks))) {xs : List (NestedKey × Addr × V)} {kvs : List (D × D)} (h : Paired (isNV K w) xs kvs) : Paired (isNV K (w.un p)) xs kvs := L2.Paired.mapP h fun _ _ z => ⟨z.1, z.2.1, z.2.2.1.drop hg, z.2.2.2.drop hg⟩
theorem IsO.drop (hg : w.g p = some (.frz od (.dK ks))) {H H' : Hp} {a : Addr} {o : MO} (h : H' a = H a) (x : IsO K w H a o) : IsO K (w.un p) H' a o := by
  cases o with
  | gone => exact x.elim
  | lst ds => obtain ⟨vs, h1, h2⟩ := x; exact ⟨vs, by rw [h]; exact h1, h2.drop' hg⟩
  | ins c ns ds => obtain ⟨C, dx, fs, h0, h1, h2, h3⟩ := x; exact ⟨C, dx, fs, h0, by rw [h]; exact h1, h2, h3.drop' hg⟩
  | dic kvs =>
    rcases x with ⟨ks, h1, h2⟩ | ⟨xs, h0, h1, h2⟩
    · exact .inl ⟨ks, by rw [h]; exact h1, isKV_drop hg h2⟩
    · exact .inr ⟨xs, h0, by rw [h]; exact h1, isNV_drop hg h2⟩
  | st ks => exact h.trans x
  | dil kvs => exact x.elim
theorem FxOk.drop (hg : w.g p = some (.frz od (.dK ks))) {o : MO} {u : HO} (h : FxOk K w o u) : FxOk K (w.un p) o u := by
  cases o with
  | gone => exact h
  | dil kvs => obtain ⟨od, ks, h1, h2⟩ := h; exact ⟨od, ks, h1, isKV_drop hg h2⟩
  | _ => exact h.elim
end
theorem plain_dK {kvs : List (Key × V)} : PlainO (.dK kvs) := ⟨fun _ z => (by cases z), fun c q z => (by unfold LamX.CodeO at z; cases z)⟩
theorem plain_frz {o : Obj} {u : HO} : PlainO (.frz o u) := ⟨fun _ z => (by cases z), fun c q z => (by unfold LamX.CodeO at z; cases z)⟩
theorem Ok.lock {K : PySem.W.Frag} {w : Wd} {H : Hp} {M : Mem} {k : Nat} {p : Addr} {kvs : List (D × D)} {ks : List (Key × V)} (x : Ok K w H M) (hk : M[k]? = some (.dic kvs)) (hp : w.r[k]? = some p) (gp : w.g p = none) (hH : H p = some (.dK ks)) (hv : Paired (isKV K w) ks kvs) (od : Obj) :
    Ok K { w with g := upd w.g p (.frz od (.dK ks)) } (upd H p (.frz od (.dK ks))) (M.set k (.dil kvs)) ∧ Ext w H { w with g := upd w.g p (.frz od (.dK ks)) } (upd H p (.frz od (.dK ks))) := by
  have up : ∀ b u, w.g b = some u → (upd w.g p (.frz od (.dK ks))) b = some u := fun b u q => by
    rw [upd_ne (by rintro rfl; rw [gp] at q; cases q)]; exact q
  have mr : More w { w with g := upd w.g p (.frz od (.dK ks)) } := ⟨⟨[], by simp⟩, up⟩
  have pr : p ∈ w.r := List.mem_of_getElem? hp
  refine ⟨⟨fun b u q => ?_, fun j mo q => ?_, x.nd, by rw [List.length_set]; exact x.len, tabs_upd x.tt hH plain_dK, fun b ps z => ?_⟩, ⟨⟨[], by simp⟩, up, fun b o hb hr _ => ?_, fun b hb => ?_, fun b u q => ?_, fun b q => .inl q, fun b ps hb => ⟨#[], by rw [upd_ne (by rintro rfl; rw [hH] at hb; cases hb)]; simpa using hb⟩⟩⟩
  · have q : upd w.g p (.frz od (.dK ks)) b = some u := q
    by_cases e : b = p
    · subst e; rw [upd_same] at q ⊢; exact q
    · rw [upd_ne e] at q ⊢; exact x.g _ _ q
  · by_cases e : j = k
    · subst e
      have hl : j < M.length := by rw [← x.len]; exact (List.getElem?_eq_some_iff.mp hp).1
      rw [List.getElem?_set_self hl] at q
      cases q
      exact ⟨p, hp, .inl ⟨_, upd_same, od, ks, rfl, isKV_mono mr hv⟩⟩
    · rw [List.getElem?_set_ne (Ne.symm e)] at q
      obtain ⟨a, h1, h2⟩ := x.m j mo q
      have ne : a ≠ p := fun z => by
        subst z
        obtain ⟨l1, e1⟩ := List.getElem?_eq_some_iff.mp h1
        obtain ⟨l2, e2⟩ := List.getElem?_eq_some_iff.mp hp
        exact e ((List.getElem_inj x.nd).mp (e1.trans e2.symm))
      exact ⟨a, h1, mo_mono mr (upd_ne ne) (upd_ne ne) h2⟩
  · have z : upd w.g p (.frz od (.dK ks)) b = some (.tbl ps) := z
    by_cases e : b = p
    · subst e; rw [upd_same] at z; cases z
    · rw [upd_ne e] at z; exact x.gt _ _ z
  · rw [upd_ne (by rintro rfl; exact hr pr)]; exact hb
  · by_cases e : b = p
    · subst e; rw [upd_same]; simp
    · rw [upd_ne e]; exact hb
  · have q : upd w.g p (.frz od (.dK ks)) b = some u := q
    by_cases e : b = p
    · subst e; exact .inr (.inr pr)
    · rw [upd_ne e] at q; exact .inl q
theorem Ok.unlock {K : PySem.W.Frag} {w : Wd} {H : Hp} {M : Mem} {k : Nat} {p : Addr} {kvs : List (D × D)} {od : Obj} {ks : List (Key × V)} (x : Ok K w H M) (hk : M[k]? = some (.dil kvs)) (hp : w.r[k]? = some p) (hg : w.g p = some (.frz od (.dK ks))) :
    Ok K (w.un p) (upd H p (.dK ks)) (M.set k (.dic kvs)) := by
  have hH := x.g _ _ hg
  refine ⟨fun b u q => ?_, fun j mo q => ?_, x.nd, by rw [List.length_set]; exact x.len, tabs_upd x.tt hH plain_frz, fun b ps z => ?_⟩
  · have q : del w.g p b = some u := q
    have e : b ≠ p := by rintro rfl; rw [del_same] at q; cases q
    rw [del_ne e] at q
    rw [upd_ne e]; exact x.g _ _ q
  · by_cases e : j = k
    · subst e
      have hl : j < M.length := by rw [← x.len]; exact (List.getElem?_eq_some_iff.mp hp).1
      obtain ⟨b, h1, h2⟩ := x.m j _ hk
      rw [hp] at h1
      cases h1
      rcases h2 with ⟨u, h2, od', ks', rfl, h3⟩ | ⟨h2, _⟩
      · rw [hg] at h2
        cases h2
        rw [List.getElem?_set_self hl] at q
        cases q
        exact ⟨p, hp, .inr ⟨del_same, .inl ⟨ks, upd_same, isKV_drop hg h3⟩⟩⟩
      · rw [hg] at h2; cases h2
    · rw [List.getElem?_set_ne (Ne.symm e)] at q
      obtain ⟨a, h1, h2⟩ := x.m j mo q
      have ne : a ≠ p := fun z => by
        subst z
        obtain ⟨l1, e1⟩ := List.getElem?_eq_some_iff.mp h1
        obtain ⟨l2, e2⟩ := List.getElem?_eq_some_iff.mp hp
        exact e ((List.getElem_inj x.nd).mp (e1.trans e2.symm))
      rcases h2 with ⟨u, g1, g2⟩ | ⟨g1, g2⟩
      · exact ⟨a, h1, .inl ⟨u, by show del w.g p a = _; rw [del_ne ne]; exact g1, g2.drop hg⟩⟩
      · exact ⟨a, h1, .inr ⟨by show del w.g p a = _; rw [del_ne ne]; exact g1, g2.drop hg (upd_ne ne)⟩⟩
  · have z : del w.g p b = some (.tbl ps) := z
    have e : b ≠ p := by rintro rfl; rw [del_same] at z; cases z
    rw [del_ne e] at z; exact x.gt _ _ z
theorem Ext.unlock {w w' : Wd} {H H' : Hp} {p : Addr} {u : HO} (e : Ext w H w' H') (pr : p ∈ w'.r) (g0 : w.g p = none) (nt : ∀ ps, H' p ≠ some (.tbl ps)) : Ext w H (w'.un p) (upd H' p u) := by
  have ne : ∀ {b o}, H b = some o → b ∉ w.r → b ≠ p := fun {b o} hb hr z => by
    subst z
    rcases e.rn b pr with z | z
    · exact hr z
    · rw [hb] at z; cases z
  refine ⟨e.r, fun b o q => ?_, fun b o hb hr hn => ?_, fun b hb => ?_, fun b o q => ?_, e.rn, fun b ps hb => ?_⟩
  · show del w'.g p b = some o
    rw [del_ne (by rintro rfl; rw [g0] at q; cases q)]; exact e.g _ _ q
  · rw [upd_ne (ne hb hr)]; exact e.keep b o hb hr hn
  · by_cases z : b = p
    · subst z; rw [upd_same]; simp
    · rw [upd_ne z]; exact e.nn b hb
  · have q : del w'.g p b = some o := q
    have z : b ≠ p := by rintro rfl; rw [del_same] at q; cases q
    rw [del_ne z] at q; exact e.gx b o q
  · obtain ⟨more, h⟩ := e.tb b ps hb
    exact ⟨more, by rw [upd_ne (by rintro rfl; exact nt _ h)]; exact h⟩
theorem EnvOk.unlock {K : PySem.W.Frag} {w0 w : Wd} {H0 H : Hp} {M : Mem} {env : Env} {σ : L2.St} {k : Nat} {p : Addr} {kvs : List (D × D)} {od : Obj} {ks : List (Key × V)} (x : EnvOk K w0 H0 w H M env σ) (g0 : w0.g p = none) (hk : M[k]? = some (.dil kvs)) (hp : w.r[k]? = some p) (hg : w.g p = some (.frz od (.dK ks))) :
    EnvOk K w0 H0 (w.un p) (upd H p (.dK ks)) (M.set k (.dic kvs)) env σ := by
  have hH := x.ok.g _ _ hg
  have pr : p ∈ w.r := List.mem_of_getElem? hp
  refine ⟨x.ext.unlock pr g0 (fun ps z => by rw [hH] at z; cases z), x.ok.unlock hk hp hg, x.len, fun i d q => ?_, fun i o q => ?_, x.ap⟩
  · obtain ⟨v, h1, h2⟩ := x.val i d q
    exact ⟨v, h1, h2.drop hg⟩
  · obtain ⟨a, h1, h2, h3, h4, h5⟩ := x.own i o q
    have ne : a ≠ p := by rintro rfl; exact h4 pr
    exact ⟨a, h1, h2, by show del w.g p a = none; rw [del_ne ne]; exact h3, h4, h5.drop hg (upd_ne ne)⟩
theorem More.unlock {w w1 w' : Wd} {p : Addr} (m : More w1 w') (r : w1.r = w.r) (g : ∀ a o, w.g a = some o → w1.g a = some o) (g0 : w.g p = none) : More w (w'.un p) := by
  obtain ⟨l, e⟩ := m.r
  refine ⟨⟨l, by rw [← r]; exact e⟩, fun a o q => ?_⟩
  show del w'.g p a = some o
  rw [del_ne (by rintro rfl; rw [g0] at q; cases q)]
  exact m.g a o (g a o q)
def unlkM (k : Nat) (M : Mem) : Option Mem := match M[k]? with
  | some (.dil kvs) => some (M.set k (.dic kvs))
  | _ => none
def unlkS (k : Nat) : RS → RS
  | .nx env M => (match unlkM k M with | some M' => .nx env M' | none => .bad)
  | .bk env M => (match unlkM k M with | some M' => .bk env M' | none => .bad)
  | .ct env M => (match unlkM k M with | some M' => .ct env M' | none => .bad)
  | .rt _ _ => .bad
  | .ex c ns vs env M => .ex c ns vs env M
  | .bad => .bad
theorem unlkM_eq {k : Nat} {M M' : Mem} (h : unlkM k M = some M') : ∃ kvs, M[k]? = some (.dil kvs) ∧ M' = M.set k (.dic kvs) := by
  unfold unlkM at h
  split at h
  · rename_i kvs hk
    exact ⟨kvs, hk, (Option.some.inj h).symm⟩
  · cases h
def lockS (a : Fe) (f : Fs) : Fs := fun env M => match a env M with
  | .ok (.ref k) _ => (match M[k]? with
    | some (.dic kvs) => if dFlat kvs = true then unlkS k (f env (M.set k (.dil kvs))) else .bad
    | _ => f env M)
  | _ => .bad
def lockO (a : Fe) (f : Fo) : Fo := fun env M => match a env M with
  | .ok (.ref k) _ => (match M[k]? with
    | some (.dic kvs) => if dFlat kvs = true then (f env (M.set k (.dil kvs))).bind fun o M' => (match unlkM k M' with | some M'' => .ok o M'' | none => .bad) else .bad
    | _ => f env M)
  | _ => .bad
theorem ps_or {X : Cx} {st : Stmt} {t1 t2 : TS} (h1 : L2.PS X st t1) (h2 : L2.PS X st t2) : L2.PS X st (fun D σ H => t1 D σ H ∨ t2 D σ H) := ⟨fun pins s σ H D I h => h.elim (h1.run pins s σ H D I) (h2.run pins s σ H D I)⟩
theorem pe_or {X : Cx} {e : Expr} {t1 t2 : TE} (h1 : PE X e t1) (h2 : PE X e t2) : PE X e (fun σ H Q => t1 σ H Q ∨ t2 σ H Q) := ⟨fun pins s σ H D I h => h.elim (h1.run pins s σ H D I) (h2.run pins s σ H D I)⟩
theorem ds_lock {X : Cx} {W : WX} {st : Stmt} {f : Fs} (a : Fe) (h : DS X W st f) : DS X W st (lockS a f) := by
  obtain ⟨t, ps, s⟩ := h
  refine ⟨_, ps_or (ps_lock ps) ps, fun env M σ w H w0 H0 B I h => ?_⟩
  unfold lockS at h
  cases qa : a env M with
  | bad => rw [qa] at h; exact h.elim
  | ex c ns vs M1 => rw [qa] at h; exact h.elim
  | ok d M1 =>
    rw [qa] at h
    cases d with
    | ref k =>
      cases qk : M[k]? with
      | none => simp only [qk] at h; exact .inr (s env M σ w H w0 H0 B I h)
      | some mo =>
        cases mo with
        | dic kvs =>
          simp only [qk] at h
          by_cases c : dFlat kvs = true
          · rw [if_pos c] at h
            left
            obtain ⟨p, hp, gp, io⟩ := I.ok.mo qk
            obtain ⟨ks, hH, hv⟩ := dic_flat io c
            refine ⟨p, .dK ks, hH, trivial, fun od => ?_⟩
            obtain ⟨o1, x1⟩ := I.ok.lock qk hp gp hH hv od
            have I1 := I.step x1 o1
            have g0 : w0.g p = none := by
              cases z : w0.g p with
              | none => rfl
              | some u => rw [I.ext.g _ _ z] at gp; cases gp
            have fin : ∀ {env' M' M'' σ' w' H'}, EnvOk X.K w0 H0 w' H' M' env' σ' → More { w with g := upd w.g p (.frz od (.dK ks)) } w' → unlkM k M' = some M'' → H' p = some (.frz od (.dK ks)) ∧ EnvOk X.K w0 H0 (w'.un p) (upd H' p (.dK ks)) M'' env' σ' ∧ More w (w'.un p) := fun {env' M' M'' σ' w' H'} I' m' hu => by
              obtain ⟨kvs', h1, rfl⟩ := unlkM_eq hu
              have g' := m'.g p _ upd_same
              exact ⟨I'.ok.g _ _ g', I'.unlock g0 h1 (m'.at hp) g', m'.unlock rfl x1.g gp⟩
            refine s env _ σ _ _ w0 H0 _ I1 ?_
            cases q : f env (M.set k (.dil kvs)) with
            | bad => rw [q] at h; exact h.elim
            | ex c ns vs env' M' => rw [q] at h; exact PostS.shift x1.more h
            | nx env' M' =>
              rw [q] at h
              intro σ' w' H' I' m'
              cases qu : unlkM k M' with
              | none => simp only [unlkS, qu] at h; exact h.elim
              | some M'' =>
                simp only [unlkS, qu] at h
                obtain ⟨h1, h2, h3⟩ := fin I' m' qu
                exact ⟨h1, h σ' _ _ h2 h3⟩
            | bk env' M' =>
              rw [q] at h
              intro σ' w' H' I' m'
              cases qu : unlkM k M' with
              | none => simp only [unlkS, qu] at h; exact h.elim
              | some M'' =>
                simp only [unlkS, qu] at h
                obtain ⟨h1, h2, h3⟩ := fin I' m' qu
                exact ⟨h1, h σ' _ _ h2 h3⟩
            | ct env' M' =>
              rw [q] at h
              intro σ' w' H' I' m'
              cases qu : unlkM k M' with
              | none => simp only [unlkS, qu] at h; exact h.elim
              | some M'' =>
                simp only [unlkS, qu] at h
                obtain ⟨h1, h2, h3⟩ := fin I' m' qu
                exact ⟨h1, h σ' _ _ h2 h3⟩
            | rt d M' => rw [q] at h; exact h.elim
          · rw [if_neg c] at h; exact h.elim
        | _ => simp only [qk] at h; exact .inr (s env M σ w H w0 H0 B I h)
    | _ => exact h.elim
theorem do_lock {X : Cx} {W : WX} {e : Expr} {f : Fo} (a : Fe) (h : DO X W e f) : DO X W e (lockO a f) := by
  obtain ⟨t, pe, s⟩ := h
  refine ⟨_, pe_or (pe_lock pe) pe, fun env M σ w H w0 H0 Q I h => ?_⟩
  unfold lockO at h
  cases qa : a env M with
  | bad => rw [qa] at h; exact h.elim
  | ex c ns vs M1 => rw [qa] at h; exact h.elim
  | ok d M1 =>
    rw [qa] at h
    cases d with
    | ref k =>
      cases qk : M[k]? with
      | none => simp only [qk] at h; exact .inr (s env M σ w H w0 H0 Q I h)
      | some mo =>
        cases mo with
        | dic kvs =>
          simp only [qk] at h
          by_cases c : dFlat kvs = true
          · rw [if_pos c] at h
            left
            obtain ⟨p, hp, gp, io⟩ := I.ok.mo qk
            obtain ⟨ks, hH, hv⟩ := dic_flat io c
            refine ⟨p, .dK ks, hH, trivial, fun od => ?_⟩
            obtain ⟨o1, x1⟩ := I.ok.lock qk hp gp hH hv od
            have I1 := I.step x1 o1
            refine s env _ σ _ _ w0 H0 _ I1 ?_
            cases q : f env (M.set k (.dil kvs)) with
            | bad => rw [q] at h; exact h.elim
            | ex c ns vs M' => rw [q] at h; exact Post.shift (Ra := RlO X.K H) (r := R.ex c ns vs M') x1 h
            | ok o M' =>
              rw [q, R.bind_ok] at h
              intro v w' H' x' o' r'
              cases qu : unlkM k M' with
              | none => simp only [qu] at h; exact h.elim
              | some M'' =>
                simp only [qu] at h
                obtain ⟨kvs', h1, rfl⟩ := unlkM_eq qu
                have g' := x'.g p _ upd_same
                have hp' := x'.more.at hp
                obtain ⟨b, rfl, r1, r2, r3, r4⟩ := r'
                have nb : b ≠ p := by rintro rfl; exact r3 (List.mem_of_getElem? hp')
                have pr : p ∈ w'.r := List.mem_of_getElem? hp'
                refine ⟨o'.g _ _ g', h (.ref b) _ _ ((x1.trans x').unlock pr gp (fun ps z => by rw [o'.g _ _ g'] at z; cases z)) (o'.unlock h1 hp' g') ⟨b, rfl, ?_, ?_, r3, r4.drop g' (upd_ne nb)⟩⟩
                · rw [upd_ne nb] at r1; exact r1
                · show del w'.g p b = none
                  rw [del_ne nb]; exact r2
          · rw [if_neg c] at h; exact h.elim
        | _ => simp only [qk] at h; exact .inr (s env M σ w H w0 H0 Q I h)
    | _ => exact h.elim
def iKeysD (a : Fe) : Fa := fun env M => (a env M).bind fun d M1 => match d with
  | .ref k => (match M1[k]? with
    | some (.dil kvs) => .ok (kvs.map (·.1)) M1
    | _ => .bad)
  | _ => .bad
theorem kd_is {K : PySem.W.Frag} {w : Wd} (k : Key) : Is K w (kV k) (kdD k) := by cases k <;> first | exact .int _ | exact .str _
theorem itok_keys {K : PySem.W.Frag} {w : Wd} {p : Addr} {o : Obj} {ks : List (Key × V)} {kvs : List (D × D)} (hg : w.g p = some (.frz o (.dK ks))) (hv : Paired (isKV K w) ks kvs) : ItOk K (Itk p o ks) w (kvs.map (·.1)) := by
  have hl : (kvs.map (·.1)).length = ks.length := by rw [List.length_map]; exact (Paired.length hv).symm
  refine ⟨fun i H hi g => ⟨g _ _ hg, by omega⟩, fun i H hi g => ⟨g _ _ hg, by omega⟩, fun i H v H' d hd y w1 M m o => ?_⟩
  obtain ⟨rfl, k, v', hk, rfl⟩ := y
  obtain ⟨q, hq, e, _⟩ := paired_get hv hk
  rw [List.getElem?_map, hq] at hd
  cases hd
  exact ⟨w1, .refl _ _, o, by show Is K w1 (kV k) q.1; rw [← e]; exact kd_is k⟩
theorem di_keysD {X : Cx} {W : WX} {tg e : Expr} {a : Fe} (h : DE X W e a) : DI X W tg e (iKeysD a) := by
  obtain ⟨t, p, s⟩ := h
  refine ⟨_, pi_keys p, fun env M σ w H w0 H0 Q I h => ?_⟩
  refine s env M σ w H w0 H0 _ I (Post.bind h fun d M1 v w1 H1 x1 o1 r1 k1 => ?_)
  cases r1 with
  | @ref b k hk =>
    cases qk : M1[k]? with
    | none => simp only [qk] at k1; exact k1.elim
    | some mo =>
      cases mo with
      | dil kvs =>
        simp only [qk] at k1
        obtain ⟨b', h1, h2⟩ := o1.m k _ qk
        rw [hk] at h1
        cases h1
        rcases h2 with ⟨u, g1, od, ks, rfl, hv⟩ | ⟨_, h2⟩
        · exact ⟨b, od, rfl, .inl ⟨ks, o1.g _ _ g1, k1 _ w1 H1 (.refl _ _) o1 (itok_keys g1 hv)⟩⟩
        · exact h2.elim
      | _ => simp only [qk] at k1; exact k1.elim
  | _ => exact k1.elim
end DL
namespace DL
open PySem PySem.W PyProof.Rows L2
variable [Wld]
def gGetDil : G2 := fun M y d => match y with
  | .ref k => (match M[k]? with
    | some (.dil kvs) => if dFlat kvs = true ∧ (flatK d).isSome = true then dFind kvs d else none
    | _ => gGetDic M y d)
  | _ => none
def gInDil (neg : Bool) : G2 := fun M d y => match y with
  | .ref k => (match M[k]? with
    | some (.dil kvs) => if dFlat kvs = true ∧ (flatK d).isSome = true then some (.bl (if neg = true then !(dFind kvs d).isSome else (dFind kvs d).isSome)) else none
    | _ => gInDic neg M d y)
  | _ => none
theorem dil_at {K : PySem.W.Frag} {w : Wd} {H : Hp} {M : Mem} {k : Nat} {a : Addr} {kvs : List (D × D)} (o : Ok K w H M) (hk : M[k]? = some (.dil kvs)) (ha : w.r[k]? = some a) : ∃ od ks, H a = some (.frz od (.dK ks)) ∧ Paired (isKV K w) ks kvs := by
  obtain ⟨b, h1, h2⟩ := o.m k _ hk
  rw [ha] at h1
  cases h1
  rcases h2 with ⟨u, g1, od, ks, rfl, hv⟩ | ⟨_, h2⟩
  · exact ⟨od, ks, o.g _ _ g1, hv⟩
  · exact h2.elim
section
variable {X : Cx} {j : Nat}
def rGetDil (K : PySem.W.Frag) : R2 := fun x y H Q => rGetDic K x y H Q ∨ ∃ w M k kvs key d e, Ok K w H M ∧ Is K w x (.ref k) ∧ Is K w y d ∧ M[k]? = some (.dil kvs) ∧ flatK d = some key ∧ dFind kvs d = some e ∧ ∀ v, Is K w v e → Q v H
theorem get_dil (hw : Wld.w = X.w) (hr : Room j X.A) {pins : List (Addr × Obj)} {s : Shared} {σ : L2.St} {H : Hp} {x y : V} {v u : Value} {Q : VK} (I : Inv X pins σ H s) (rx : RelV x v) (ry : RelV y u) (h : rGetDil X.K x y H Q) :
    s.TypeIs v "dict" ∧ wpAny (model X.prog X.w) X.A (getItem v u) (EP X pins σ Q) X.xe s := by
  rcases h with h | ⟨w, M, k, kvs, key, d, e, o, ix, iy, hk, hf, he, q⟩
  · exact get_dic hw hr I rx ry h
  have hu := hr.units
  cases ix with
  | @ref a _ ha =>
    cases rx
    obtain ⟨od, ks, e1, e2⟩ := dil_at o hk ha
    have ey := flat_v iy hf
    subst ey
    obtain ⟨v', hv, iv⟩ := (look_flat hf e2).1 e he
    have g : DGet H a (kV key) (some v') := .inl ⟨ks, key, .inr ⟨od, e1⟩, rfl, hv.symm⟩
    exact ⟨dict_typeIs I g, d_getItem (by omega) I g ry fun w' s' I' rw' => ⟨v', H, I', rw', q v' iv⟩⟩
theorem pe_getDil {o i : Expr} {to ti : TE} {pos : Pos} (hw : Wld.w = X.w) (hr : Room j X.A) (ho : PE X o to) (hi : PE X i ti) (hs : NoSl i) : PE X (.Subscript o i pos) (tOp (rGetDil X.K) to ti) := by
  refine ⟨fun pins s σ H Q I h => ?_⟩
  refine subD_of PySem.F.slot_dict_getitem.lookup hs (thn (ho.run pins s σ H _ I h) fun u s1 ⟨x, H1, I1, rx, q1⟩ => thn (hi.run pins s1 σ H1 _ I1 q1) fun iv s2 ⟨y, H2, I2, ry, q2⟩ => ?_)
  exact get_dil hw hr I2 rx ry q2
theorem snd_getDil {K : PySem.W.Frag} : SndR2 K (rGetDil K) gGetDil := fun w H M v1 v2 d1 d2 d Q o i1 i2 e k => by
  unfold gGetDil at e
  split at e
  · rename_i j
    split at e
    · rename_i kvs hk
      split at e
      · rename_i c
        obtain ⟨key, hkey⟩ := Option.isSome_iff_exists.mp c.2
        exact .inr ⟨w, M, j, kvs, key, d2, d, o, i1, i2, hk, hkey, e, fun v iv => k v w H (.refl _ _) o iv⟩
      · cases e
    · exact .inl (snd_getDic w H M v1 v2 _ d2 d Q o i1 i2 e k)
  · cases e
def rInDil (K : PySem.W.Frag) (neg : Bool) : R2 := fun x y H Q => rInDic K neg x y H Q ∨ ∃ w M k kvs key d, Ok K w H M ∧ Is K w x d ∧ Is K w y (.ref k) ∧ M[k]? = some (.dil kvs) ∧ flatK d = some key ∧ Q (.bl (if neg = true then !(dFind kvs d).isSome else (dFind kvs d).isSome)) H
theorem op_inDil (hw : Wld.w = X.w) (hr : Room j X.A) : OpR X (compareOp .In) (rInDil X.K false) := by
  intro pins s σ H x y v u Q I rx ry h
  rcases h with h | ⟨w, M, k, kvs, key, d, o, ix, iy, hk, hf, q⟩
  · exact op_inDic hw hr pins s σ H x y v u Q I rx ry h
  have hu := hr.units
  cases iy with
  | @ref a _ ha =>
    cases ry
    obtain ⟨od, ks, e1, e2⟩ := dil_at o hk ha
    have ex := flat_v ix hf
    subst ex
    obtain ⟨l1, l2⟩ := look_flat hf e2
    have is : (valV ks key).isSome = (dFind kvs d).isSome := some_look (fun e h => by obtain ⟨v, hv, _⟩ := l1 e h; rw [hv]; rfl) l2
    exact d_in (by omega) I (.inl ⟨ks, key, .inr ⟨od, e1⟩, rfl, rfl⟩) rx fun s' I' => ⟨.bl (valV ks key).isSome, H, I', rfl, by rw [is]; exact q⟩
theorem op_ninDil (hw : Wld.w = X.w) (hr : Room j X.A) : OpR X (compareOp .NotIn) (rInDil X.K true) := by
  intro pins s σ H x y v u Q I rx ry h
  rcases h with h | ⟨w, M, k, kvs, key, d, o, ix, iy, hk, hf, q⟩
  · exact op_ninDic hw hr pins s σ H x y v u Q I rx ry h
  have hu := hr.units
  cases iy with
  | @ref a _ ha =>
    cases ry
    obtain ⟨od, ks, e1, e2⟩ := dil_at o hk ha
    have ex := flat_v ix hf
    subst ex
    obtain ⟨l1, l2⟩ := look_flat hf e2
    have is : (valV ks key).isSome = (dFind kvs d).isSome := some_look (fun e h => by obtain ⟨v, hv, _⟩ := l1 e h; rw [hv]; rfl) l2
    exact d_notIn (by omega) I (.inl ⟨ks, key, .inr ⟨od, e1⟩, rfl, rfl⟩) rx fun s' I' => ⟨.bl (!(valV ks key).isSome), H, I', rfl, by rw [is]; exact q⟩
theorem snd_inDil {K : PySem.W.Frag} {neg : Bool} : SndR2 K (rInDil K neg) (gInDil neg) := fun w H M v1 v2 d1 d2 d Q o i1 i2 e k => by
  unfold gInDil at e
  split at e
  · rename_i j
    split at e
    · rename_i kvs hk
      split at e
      · rename_i c
        cases e
        obtain ⟨key, hkey⟩ := Option.isSome_iff_exists.mp c.2
        exact .inr ⟨w, M, j, kvs, key, d1, o, i1, i2, hk, hkey, k _ w H (.refl _ _) o (.bl _)⟩
      · cases e
    · exact .inl (snd_inDic w H M v1 v2 d1 _ d Q o i1 i2 e k)
  · cases e
variable {W : WX} {e1 e2 : Expr} {pos : Pos} {fa fb : Fe}
theorem de_getDil (hw : Wld.w = X.w) (hr : Room j X.A) (ha : DE X W e1 fa) (hb : DE X W e2 fb) (hs : NoSl e2 := by exact fun _ _ => rfl) : DE X W (.Subscript e1 e2 pos) (fOp gGetDil fa fb) := by
  obtain ⟨t, p, s⟩ := ha
  obtain ⟨t', p', s'⟩ := hb
  exact ⟨_, pe_getDil hw hr p p' hs, snd_op snd_getDil s s'⟩
end
def fBad : Fe := fun _ _ => .bad
theorem de_bad {X : Cx} {W : WX} {e : Expr} : DE X W e fBad := ⟨fun _ _ _ => False, ⟨fun _ _ _ _ _ _ h => h.elim⟩, fun env M σ w H w0 H0 B I h => h.elim⟩
end DL
namespace DL
open PySem L2 PySem.W PyProof.Rows
variable [Wld]
def spVM (K : PySem.W.Frag) (F : Fn) : Sp := fun vs H Q E => ∃ d ds M w, Ok K w H M ∧ Iss K w vs (d :: ds) ∧ small ds.length = true ∧ Post K (RlE K) w H [] (fun c d _ H' => E c d H') Q (F [d, .tup ds] M)
structure HasMV (μ : Bool) (P : Program) (w : World) (K : PySem.W.Frag) (mg : Str → Option Value) (base : Heap) (x m : Str) (k : Nat) (F : Fn) : Prop where
  ex : ∃ C f, ClsIs K x C ∧ Meth K C m f ∧ FnR P w K mg base (CXm μ P w) k f (spVM K F)
def MevAt (K : PySem.W.Frag) (x m qual : Str) (st : Stmt) (ps pv : Str) : Prop := ∃ C f fd, ClsIs K x C ∧ Meth K C m f ∧ Fun K m qual st f fd ∧ ∀ (u : Value) (rest : List Value), bindArgs fd ⟨u :: rest, []⟩ = (newTuple rest >>= fun t => pure [(ps, u), (pv, t)])
theorem hasMV_of {P : Program} {w : World} {K : PySem.W.Frag} {mg : Str → Option Value} {base : Heap} {x m qual ps pv : Str} {st : Stmt} {N : List Str} {k n : Nat} {f : Fs} (h : MevAt K x m qual st ps pv) (S : FnScope N [ps, pv] (L2.defScope st)) (hm : N.length = n)
    (hb : ∀ (fa : Addr) (cdv : Value) (A : Around) (outer : List PySem.Env) (s : Shared) (H : Hp) (E : XK), Room k (A.deeper (envOfC qual (L2.defScope st) s.heap.objs.size fa cdv)) →
      DSs (cxOf (CXm μ P w) P w K mg base N qual (L2.defScope st) fa cdv A outer s H E) (fun c d _ H' => E c d H') (L2.defBody st) f) : HasMV μ P w K mg base x m (k + 1) (bodyF f n) := by
  obtain ⟨C, fi, fd, h1, h2, h4, h5⟩ := h
  subst hm
  obtain ⟨oc, od, kV, doc, pm, an, cdv, ct, osl, rfl, lk, hcd⟩ := h4.ex
  have G := StX.fn_star (CX := CXm μ P w) (P := P) (w := w) (mg := mg) (base := base) (k := k) (sp := spD K 2 (bodyF f N.length)) (ps := [ps]) (pv := pv) (N := N) lk hcd S cxUpM (fun us rest hl => by
    match us, hl with
    | [u], _ => exact h5 u rest) fun A outer s H vs Q E hr hsp => ?_
  · refine ⟨C, fi, h1, h2, fun A outer s H us vs Q E hr e0 r hsp => ?_⟩
    obtain ⟨d, ds, M, w1, o, i, l, hp⟩ := hsp
    cases i with
    | @cons v vs' _ _ i1 i2 =>
      refine G A outer s H us _ Q E hr e0 r ⟨[v], vs', rfl, rfl, by rw [i2.length]; exact small_le l, fun q hq => ?_⟩
      obtain ⟨o2, x2⟩ := o.fix (o := .tup vs') hq
      exact ⟨[d, .tup ds], M, _, o2, .cons (i1.mono x2.more) (.cons (.tup (.inl upd_same) (i2.mono x2.more)) .nil), rfl, Post.shift x2 hp⟩
  · obtain ⟨ds, M, w1, o, i, l, h⟩ := hsp
    obtain ⟨t, p, sn⟩ := hb fi cdv A outer s H E hr
    refine ⟨t, p, ?_⟩
    refine sn (ds.map Sl.val ++ List.replicate (N.length - ds.length) Sl.no) M _ w1 H w1 H _ (env_start (N := N) o i) ?_
    unfold bodyF at h
    cases q : f (ds.map Sl.val ++ List.replicate (N.length - ds.length) Sl.no) M with
    | nx env' M' => rw [q] at h; exact fun σ' w' H' I m => h .non w' H' I.ext I.ok .non
    | rt d M' => rw [q] at h; exact h
    | bk env' M' => rw [q] at h; exact h.elim
    | ct env' M' => rw [q] at h; exact h.elim
    | ex c ns us env' M' => rw [q] at h; exact fun σ' C dx fs w' H' hC I m hd h1 h2 h3 => h C dx fs w' H' hC I.ext I.ok hd h1 h2 h3
    | bad => rw [q] at h; exact h.elim
def fMethV (x m : Str) (F : Fn) (o : Fe) (a : Fa) : Fe := fun env M => (o env M).bind fun d M1 => if isA x m M1 d = true then (a env M1).bind fun ds M2 => if small ds.length = true then F [d, .tup ds] M2 else .bad else .bad
section
variable {X : Cx} {CX : CXT} {k : Nat} {f C : Addr} {sp : Sp} {m : Str} {pos apos : Pos} {e o : Expr} {es : List Expr} {ta : TE} {t : TA} {E : L2.St → XK} {pl : Sem Bool}
theorem pe_methV (he : PE X o ta) (c : Cls X.K C) (hm : Meth X.K C m f) (G : FnR X.prog X.w X.K X.mg X.base CX k f sp) (room : Room k X.A) (pass : ∀ σ, PassesAt CX X σ (E σ)) (ha : PA X (e :: es) t)
    (hst : starEach (e :: es) X.env = (false, eval e X.env) :: starEach es X.env) (hpl : (backTo pos (starEach es X.env)).any (·.1) = false)
    (ht : eval (.Call (.Attribute o m apos) (e :: es) [] pos) X.env = (do let ov ← eval o X.env; standAt apos.atName; let (f, first) ← holding [ov] (getMethod ov m pl); callWith pos f first (backTo pos (starEach (e :: es) X.env)) (backToKw pos (keywordEach [] X.env)))) :
    PE X (.Call (.Attribute o m apos) (e :: es) [] pos) (tMethAt C m sp E ta t) := by
  refine ⟨fun pins s σ H Q I h => methodCall_KW (pl := pl) (thn (he.run pins s σ H _ I h) fun u s1 ⟨x, H1, I1, rx, a, dx, fs, ex, ea, l, q⟩ => ?_) ht⟩
  subst ex
  obtain rfl : u = Value.ref a := rx
  refine getmeth_ok I1 ea c hm l (callWith_K (first := [.ref a]) (h₀ := X.base) I.ok.mod.kin hm.kp (thn (ha.run pos pins s1 σ H1 _ I1 q) fun us s2 ⟨vs, H2, I2, r, q2⟩ => ⟨I2.kIn, ?_⟩) hst hpl)
  exact run_fnRS (us := .ref a :: us) (vs := .ref a :: vs) G room (pass σ) I2 (.cons rfl r) q2
theorem pe_methV0 (he : PE X o ta) (c : Cls X.K C) (hm : Meth X.K C m f) (G : FnR X.prog X.w X.K X.mg X.base CX k f sp) (room : Room k X.A) (pass : ∀ σ, PassesAt CX X σ (E σ))
    (ht : eval (.Call (.Attribute o m apos) [] [] pos) X.env = (do let ov ← eval o X.env; standAt apos.atName; let (f, first) ← holding [ov] (getMethod ov m pl); callWith pos f first (backTo pos (starEach [] X.env)) (backToKw pos (keywordEach [] X.env)))) :
    PE X (.Call (.Attribute o m apos) [] [] pos) (tMethAt C m sp E ta tNil) := by
  refine ⟨fun pins s σ H Q I h => methodCall_KW (pl := pl) (thn (he.run pins s σ H _ I h) fun u s1 ⟨x, H1, I1, rx, a, dx, fs, ex, ea, l, q⟩ => ?_) ht⟩
  subst ex
  obtain rfl : u = Value.ref a := rx
  exact getmeth_ok I1 ea c hm l (callWith_K0 (first := [.ref a]) I1.kIn hm.kp (run_fnRS (us := [.ref a]) (vs := [.ref a]) G room (pass σ) I1 (.cons rfl .nil) q))
end
section
variable {X : Cx} {W : WX} {e o : Expr} {es : List Expr} {pos apos : Pos} {x m : Str} {k j : Nat} {F : Fn} {fo : Fe} {f : Fa} {pl : Sem Bool}
theorem snd_methV {K : PySem.W.Frag} {C : Addr} {ta : TE} {t : TA} (hC : ClsIs K x C) (so : SndE K W ta fo) (s : SndA K W t f) : SndE K W (tMethAt C m (spVM K F) (WE W) ta t) (fMethV x m F fo f) := fun env M σ w H w0 H0 Q I h => by
  refine so env M σ w H w0 H0 _ I (Post.bind h fun d M1 v w1 H1 x1 o1 r1 k1 => ?_)
  by_cases c : isA x m M1 d = true
  · rw [if_pos c] at k1
    obtain ⟨a, dx, fs, rfl, g1, g2⟩ := isA_at o1 hC r1 c
    refine ⟨a, dx, fs, rfl, g1, g2, s env M1 σ w1 H1 w0 H0 _ (I.step x1 o1) ?_⟩
    cases qf : f env M1 with
    | bad => rw [qf] at k1; exact k1.elim
    | ex c ns us M2 => rw [qf] at k1; exact k1
    | ok ds M2 =>
      rw [qf, R.bind_ok] at k1
      intro vs w2 H2 x2 o2 iss
      by_cases hz : small ds.length = true
      · rw [if_pos hz] at k1
        refine ⟨d, ds, M2, w2, o2, .cons (r1.mono x2.more) iss, hz, ?_⟩
        have k2 := Post.shift (Ra := RlE K) x2 k1
        cases qF : F [d, .tup ds] M2 with
        | bad => rw [qF] at k2; exact k2.elim
        | ex c ns us M3 => rw [qF] at k2; exact k2
        | ok z M3 => rw [qF] at k2; exact k2
      · rw [if_neg hz] at k1; exact k1.elim
  · rw [if_neg c] at k1; exact k1.elim
theorem de_methV (h : HasMV μ X.prog X.w X.K X.mg X.base x m k F) (hr : Room j X.A) (hk : k ≤ j) (tk : TakesM μ X W) (ho : DE X W o fo) (ha : DA X W (e :: es) f)
    (ht : eval (.Call (.Attribute o m apos) (e :: es) [] pos) X.env = (do let ov ← eval o X.env; standAt apos.atName; let (f, first) ← holding [ov] (getMethod ov m pl); callWith pos f first (backTo pos (starEach (e :: es) X.env)) (backToKw pos (keywordEach [] X.env))) := by rfl)
    (hst : starEach (e :: es) X.env = (false, eval e X.env) :: starEach es X.env := by rfl) (hpl : (backTo pos (starEach es X.env)).any (·.1) = false := by rfl) : DE X W (.Call (.Attribute o m apos) (e :: es) [] pos) (fMethV x m F fo f) := by
  obtain ⟨C, fi, hC, hm, G⟩ := h.ex
  obtain ⟨t, q, s⟩ := ha
  obtain ⟨to, qo, so⟩ := ho
  exact ⟨_, pe_methV (pl := pl) qo hC.cl hm G (hr.mono hk) (fun σ => passAtM tk σ) q hst hpl ht, snd_methV hC so s⟩
theorem de_methV0 (h : HasMV μ X.prog X.w X.K X.mg X.base x m k F) (hr : Room j X.A) (hk : k ≤ j) (tk : TakesM μ X W) (ho : DE X W o fo)
    (ht : eval (.Call (.Attribute o m apos) [] [] pos) X.env = (do let ov ← eval o X.env; standAt apos.atName; let (f, first) ← holding [ov] (getMethod ov m pl); callWith pos f first (backTo pos (starEach [] X.env)) (backToKw pos (keywordEach [] X.env))) := by rfl) : DE X W (.Call (.Attribute o m apos) [] [] pos) (fMethV x m F fo fNil) := by
  obtain ⟨C, fi, hC, hm, G⟩ := h.ex
  obtain ⟨to, qo, so⟩ := ho
  exact ⟨_, pe_methV0 (pl := pl) qo hC.cl hm G (hr.mono hk) (fun σ => passAtM tk σ) ht, snd_methV hC so (fun env M σ w H w0 H0 Q I h => h [] w H (.refl _ _) I.ok .nil)⟩
end
def InkAt (K : PySem.W.Frag) (mg : Str → Option Value) (x qual : Str) (st : Stmt) : Prop := ∃ C f fd, ClsIs K x C ∧ mg x = some (.ref C) ∧ Mk K C f ∧ Fun K "__init__" qual st f fd
theorem hasCKo_of {P : Program} {w : World} {K : PySem.W.Frag} {mg : Str → Option Value} {base : Heap} {x qual : Str} {st : Stmt} {N ps ks : List Str} {k n : Nat} {f : Fs} {is : List Nat} (h : InkAt K mg x qual st) (S : FnScope N (("self" : Str) :: ps) (L2.defScope st)) (hm : N.length = n) (hl : ps.length = is.length)
    (hk : ∀ (kV doc pm : Value) (an : Option Addr) (cdv ct : Value) (us ws : List Value), us.length = 1 → ws.length = ks.length → bindArgs (PySem.W.fnOf "__init__" qual (defArgs st) (defBody st) (defScope st) .none kV doc pm an cdv ct) ⟨us, ks.zip ws⟩ = pure ((("self" : Str) :: ps).zip (us ++ pickB is ws)))
    (hb : ∀ (fa : Addr) (cdv : Value) (A : Around) (outer : List PySem.Env) (s : Shared) (H : Hp) (E : XK), Room k (A.deeper (envOfC qual (L2.defScope st) s.heap.objs.size fa cdv)) →
      DSs (cxOf (CXm μ P w) P w K mg base N qual (L2.defScope st) fa cdv A outer s H E) (fun c d _ H' => E c d H') (L2.defBody st) f) : HasCK μ P w K mg base x ks is (k + 1) (bodyF f n) := by
  obtain ⟨C, fi, fd, h1, h2, h3, h4⟩ := h
  exact ⟨C, fi, fd, _, h1, h2, h3, kbn_of h4 is hk, fn_D h4 S (by rw [List.length_cons, hl]) hm fun cdv A outer s H E hr => hb fi cdv A outer s H E hr⟩
section
variable {X : Cx} {W : WX} {pos np apos : Pos} {x m : Str} {o : Expr} {k j n : Nat} {ks : List Str} {is : List Nat} {kws : List Keyword} {F : Fn} {fk : Fa} {fo : Fe} {pl : Sem Bool}
theorem de_makeKR (h : HasCK μ X.prog X.w X.K X.mg X.base x ks is k F) (hr : Room j X.A) (hk : k + 1 ≤ j) (tk : TakesM μ X W) (hg : Gl X x) (hkw : DK X W kws fk) (hl : LenOk ks.length fk) (hp : (is.all fun i => decide (i < ks.length)) = true)
    (hall : (backToKw pos (keywordEach kws X.env)).all (·.1.isSome) = true := by rfl) (hks : (backToKw pos (keywordEach kws X.env)).filterMap (·.1) = ks := by rfl) (hdb : (x == ("__debug__" : Str)) = false := by decide)
    (hpl : ((backTo pos (starEach [] X.env)).any (·.1) || (backToKw pos (keywordEach kws X.env)).any (·.1.isNone)) = false := by rfl) : DE X W (.Call (.Name x np) [] kws pos) (fMakeR x F (fKw is fk)) := by
  obtain ⟨C, fi, fd, ps, hC, hm, M0, hb, G⟩ := h.ex
  obtain ⟨t, q, s⟩ := hkw
  refine ⟨_, pe_makeK M0 G (hr.mono hk) hg hm hb (fun σ => passAtM tk σ) q hall hks hdb hpl, fun env M σ w H w0 H0 Q I h1 => ?_⟩
  refine s env M σ w H w0 H0 _ I ?_
  unfold fMakeR fKw at h1
  cases qf : fk env M with
  | bad => rw [qf] at h1; exact h1.elim
  | ex c ns vs M1 => rw [qf] at h1; exact h1
  | ok es M1 =>
    rw [qf, R.bind_ok, R.bind_ok] at h1
    intro zs w1 H1 x1 o1 iss0
    have l1 := hl env M es M1 qf
    refine ⟨by rw [iss0.length, l1], fun a dx ha hdx hne => ?_⟩
    have iss := pickB_iss iss0 is
    have k1 := Post.shift (Ra := RlE X.K) x1 h1
    obtain ⟨o2, x2⟩ := o1.put (o := .own a) hdx
    have ha2 : upd H1 dx (.own a) a = none := by rw [upd_ne hne.symm]; exact ha
    obtain ⟨o3, x3⟩ := o2.put (o := .ins C dx []) ha2
    obtain ⟨n1, n2⟩ := o1.new ha
    obtain ⟨w2, x4, o4, i4, m4⟩ := (x2.trans x3).lay o3 (v := .ref a) (o := .ins x [] []) ⟨a, rfl, ha, n1, n2, C, dx, [], hC.nm, upd_same, rfl, .nil⟩
    refine ⟨.ref M1.length :: pickB is es, M1 ++ [.ins x [] []], w2, o4, .cons i4 (iss.mono m4), by rw [List.length_cons, pickB_len hp es l1], ?_⟩
    have k2 := Post.shift (Ra := RlE X.K) x4 k1
    cases qF : F (.ref M1.length :: pickB is es) (M1 ++ [.ins x [] []]) with
    | bad => rw [qF] at k2; exact k2.elim
    | ex c ns us M2 => rw [qF] at k2; exact k2
    | ok d M2 =>
      rw [qF, R.bind_ok] at k1
      intro v w5 H5 x5 o5 i5
      cases d with
      | non =>
        cases i5
        cases qm : M2[M1.length]? with
        | none => simp only [qm] at k1; exact k1.elim
        | some mo =>
          cases mo with
          | ins c ns us =>
            simp only [qm] at k1
            exact ⟨rfl, k1 (.ref a) w5 H5 (x4.trans x5) o5 (i4.mono x5.more)⟩
          | _ => simp only [qm] at k1; exact k1.elim
      | _ => exact k1.elim
end
end DL
namespace DX
open PySem PySem.W PySem.Spec PySem.Calls PyProof.Rows L2 DL
variable [Wld]
variable {T : Tx} {w : World} {h : Heap} {K : PySem.W.Frag} {mg : Str → Option Value}
theorem Says.mevAt (c : Says T w h K) {C x qual ps pv : Str} {st : Stmt} (m : (⟨.M, C, x, qual, st⟩ : Df) ∈ T.dfs) (hC : clB K C = true)
    (b : ∀ (kV doc pm : Value) (an : Option Addr) (cdv ct : Value) (u : Value) (rest : List Value), bindArgs (PySem.W.fnOf x qual (L2.defArgs st) (L2.defBody st) (L2.defScope st) .none kV doc pm an cdv ct) ⟨u :: rest, []⟩ = (newTuple rest >>= fun t => pure [(ps, u), (pv, t)])) : MevAt K C x qual st ps pv := by
  obtain ⟨fd, F⟩ := c.fn m
  obtain ⟨k1, k2⟩ := He.ba (c.kd m)
  refine ⟨_, _, fd, clB_ok hC, ⟨He.eqO_ok k1, k2, c.kp m⟩, F, ?_⟩
  obtain ⟨oc, od, kV, doc, pm, an, cdv, ct, osl, rfl, lk, hcd⟩ := F.ex
  exact b kV doc pm an cdv ct
theorem Says.inkAt (c : Says T w h K) (X : K.In h) (G : h.Ns mainGlobals mg) {C qual : Str} {st : Stmt} (m : (⟨.I, C, "__init__", qual, st⟩ : Df) ∈ T.dfs) (hC : clB K C = true) : InkAt K mg C qual st := by
  obtain ⟨fd, F⟩ := c.fn m
  obtain ⟨k1, k2⟩ := He.ba (c.kd m)
  obtain ⟨k2, k3⟩ := He.ba k2
  obtain ⟨k3, k4⟩ := He.ba k3
  exact ⟨_, _, fd, clB_ok hC, PySem.W.mg_of X G (clB_ok hC).nm, ⟨k3, He.eqO_ok k1, k2, k4⟩, F⟩
end DX
namespace PySem.SeqAt
open AutoSeq1 (wpAny_loadPart')
open MeetsSeq MeetsSeq2 MeetsSeq3 SeqRoads2
section
variable {prog : Program} {w : World}
theorem du_list_neIn (l b : Addr) (items items2 : Array Value) (n n2 : Nat) (dd dd2 : Option Addr) (sl sl2 : Array (Option Value)) (hsz : items.size ≠ items2.size) :
    MeetsIn prog w (Builtin.«list.__eq__» ⟨[.ref l, .ref b], []⟩)
      (fun A R s => s.heap.get? l = some { cls := .type "list", dict := dd, data := .seq items n, slots := sl } ∧ s.heap.get? b = some { cls := .type "list", dict := dd2, data := .seq items2 n2, slots := sl2 } ∧
        R (.ok (.ret (.bool false))) s) := by
  intro A R s h
  obtain ⟨hp, g, d, tk, os⟩ := s; obtain ⟨hl, hb, h⟩ := h
  have f3 := AutoSeq1.sub_list_list
  have hne : (items.size != items2.size) = true := by simp [hsz]
  wp_walk using wpAny_loadPart' hl, wpAny_loadPart' hb
  exact h
theorem du_rc_ne {A : Around} {s : Shared} {l b : Addr} {items items2 : Array Value} (hl : s.heap.IsList l items) (hb : s.heap.IsList b items2) (hsz : items.size ≠ items2.size) (hu : A.units < cLine) (E Q : Value → Shared → Prop) (h : Q (.bool false) s) : wpAny (model prog w) A (richCompare .Eq (.ref l) (.ref b)) Q E s := by
  obtain ⟨⟨cls, dd, data, sl⟩, ho, hc, n, hd⟩ := id hl
  obtain ⟨⟨cls2, dd2, data2, sl2⟩, ho2, hc2, n2, hd2⟩ := id hb
  simp only at hc hd hc2 hd2
  subst hc hd hc2 hd2
  have ta : s.TypeIs (.ref l) "list" := ⟨_, ho, rfl⟩
  have tb : s.TypeIs (.ref b) "list" := ⟨_, ho2, rfl⟩
  exact wpAny_richCompare_same_room (op := .Eq) ta tb F.slot_list_eq (call_meetsIn F.slot_list_eq ta F.entry_list_eq (F.args_list_eq_2 _ _) (du_list_neIn l b items items2 n n2 dd dd2 sl sl2 hsz)
    ⟨ho, ho2, show Value.bool false ≠ Value.notImplemented ∧ Q (.bool false) s from ⟨(fun x => nomatch x), h⟩⟩) hu
end
end PySem.SeqAt
namespace DL
open PySem L2 PySem.W PyProof.Rows
variable [Wld]
def fNilQ (a : Fe) (neg : Bool) : Fe := fun env M => (a env M).bind fun d M1 => match d with
  | .ref k => (match M1[k]? with
    | some (.lst ds) => .ok (.bl (if neg = true then !ds.isEmpty else ds.isEmpty)) M1
    | _ => .bad)
  | _ => .bad
def rNilQ (neg : Bool) : R2 := fun x y H Q => ∃ a b vs, x = .ref a ∧ y = .ref b ∧ H a = some (.lst vs) ∧ H b = some (.lst []) ∧ Q (.bl (if neg = true then !vs.isEmpty else vs.isEmpty)) H
section
variable {X : Cx} {W : WX} {e : Expr} {pos p2 : Pos} {fa : Fe} {j : Nat}
theorem op_nilQ (room : Room j X.A) : OpR X (compareOp .Eq) (rNilQ false) := by
  intro pins s σ H x y v u Q I rx ry ⟨a, b, vs, ex, ey, ha, hb, q⟩
  subst ex ey
  cases vs with
  | nil => exact op_eqD room.units pins s σ H _ _ v u Q I rx ry ⟨.list [], .list [], .lst (.inl (.inl ha)) .nil, .lst (.inl (.inl hb)) .nil, by rfl, by rfl, q⟩
  | cons z zs =>
    cases rx
    cases ry
    obtain ⟨_, its, n, r, l1, e1⟩ := I.lstM ha
    obtain ⟨_, its2, n2, r2, l2, e2⟩ := I.lstM hb
    show wpAny _ _ (richCompare .Eq (.ref a) (.ref b)) _ _ _
    refine SeqAt.du_rc_ne (items := its.toArray) (items2 := its2.toArray) ⟨_, e1, rfl, n, rfl⟩ ⟨_, e2, rfl, n2, rfl⟩ ?_ (by have := room.units; omega) _ _ ⟨.bl false, H, I, rfl, q⟩
    rw [List.size_toArray, List.size_toArray, ← l1, ← l2]
    simp
theorem snd_nilQ {t : TE} {neg : Bool} (s : SndE X.K W t fa) : SndE X.K W (tOp (rNilQ neg) t (tLst tNil)) (fNilQ fa neg) := fun env M σ w H w0 H0 Q I h => by
  refine s env M σ w H w0 H0 _ I (Post.bind h fun d M1 v w1 H1 x1 o1 r1 k1 => ?_)
  cases r1 with
  | @ref a k hk =>
    cases qm : M1[k]? with
    | none => simp only [qm] at k1; exact k1.elim
    | some m =>
      cases m with
      | lst ds =>
        simp only [qm] at k1
        obtain ⟨b, g1, g2, vs, g3, g4⟩ := o1.mo qm
        rw [hk] at g1
        cases g1
        refine ⟨Nat.zero_le _, fun q hq => ?_⟩
        obtain ⟨o2, x2⟩ := o1.put (o := .lst []) hq
        have hl : upd H1 q (.lst []) a = some (.lst vs) := by rw [upd_ne (by rintro rfl; rw [g3] at hq; cases hq)]; exact g3
        have he : vs.isEmpty = ds.isEmpty := by cases g4 <;> rfl
        exact ⟨a, q, vs, rfl, rfl, hl, upd_same, by rw [he]; exact k1 _ w1 _ x2 o2 (.bl _)⟩
      | _ => simp only [qm] at k1; exact k1.elim
  | _ => exact k1.elim
theorem dt_nilQ (room : Room j X.A) (ha : DE X W e fa) (hm : behindInMarks .Eq (.List [] p2) = false := by first | exact nobehind _ (by decide) (by decide) | rfl) : DT X W (.Compare e [.Eq] [.List [] p2] pos) (tVal (fNilQ fa false)) := by
  obtain ⟨t, p, s⟩ := ha
  exact ⟨_, pt_cmpR (op_nilQ room) p (pe_lst pa_nil) hm, snd_tval (snd_nilQ (neg := false) s)⟩
end
end DL
namespace DL
open PySem L2 PySem.W PyProof.Rows
variable [Wld]
def dcL (g : Fg) (t : Ft) (fk fv : Fe) (env : Env) : List D → List (D × D) → Mem → R (List (D × D))
  | [], acc, M => .ok acc M
  | d :: ds, acc, M => match g d env with
    | none => .bad
    | some env1 => (t env1 M).nox.bind fun c M1 => if c = true then (fk env1 M1).nox.bind fun x M2 => (fv env1 M2).nox.bind fun y M3 => if (flatK x).isSome = true then dcL g t fk fv env ds (dPut acc x y) M3 else .bad else dcL g t fk fv env ds acc M1
def oDc (it : Fa) (g : Fg) (t : Ft) (fk fv : Fe) (vs : List Nat) : Fo := fun env M => (it env M).bind fun ds M1 => if small ds.length = true then (dcL g t fk fv (wipeE env vs) ds [] M1).bind fun kvs M2 => .ok (.dic kvs) M2 else .bad
theorem snd_dc {K : PySem.W.Frag} {W : WX} {ti : TI} {it : Fa} {g : Fg} {t : Ft} {fk fv : Fe} {vs : List Nat} (si : SndI K W ti it) : SndO K W (tDc ti (tG K g vs) (tT K W0 t) (tE K W0 fk) (tE K W0 fv) vs) (oDc it g t fk fv vs) := fun env M σ w H w0 H0 Q I h => by
  refine si env M σ w H w0 H0 _ I ?_
  unfold oDc at h
  cases qi : it env M with
  | bad => rw [qi] at h; exact h
  | ex c ns us M1 => rw [qi] at h; exact h
  | ok ds M1 =>
    rw [qi, R.bind_ok] at h
    intro J w1 H1 x1 o1 J1 a ha
    by_cases hz : small ds.length = true
    · rw [if_pos hz] at h
      have ha0 : H a = none := by
        cases z : H a with
        | none => rfl
        | some u => exact absurd ha (x1.nn a (by rw [z]; simp))
      obtain ⟨o2, x2⟩ := o1.put (o := .dK []) ha
      obtain ⟨n1, n2⟩ := o1.new ha
      refine ⟨fun i m H' => m = ds.length - i ∧ i ≤ ds.length ∧ ∃ M' w' ks acc, Ext w H w' H' ∧ More w1 w' ∧ Ok K w' H' M' ∧ w'.g a = none ∧ a ∉ w'.r ∧ H' a = some (.dK ks) ∧ Paired (isKV K w') ks acc ∧ acc.length ≤ i ∧
        Post K (RlO K H) w H σ W Q ((dcL g t fk fv (wipeE env vs) (ds.drop i) acc M').bind fun xs M2 => .ok (.dic xs) M2),
        ⟨ds.length, by simp, Nat.zero_le _, M1, w1, [], [], x1.trans x2, More.refl _, o2, n1, n2, upd_same, .nil, Nat.le_refl _, by rw [List.drop_zero]; exact h⟩, ?_⟩
      rintro i m H' ⟨rfl, hi, M', w', ks, acc, xx, mm, o', g', r', h', i', l', k'⟩
      by_cases hlt : i < ds.length
      · right
        refine ⟨J1.go i H' hlt fun b p q => o'.g b p (mm.g b p q), fun H2 => ∃ m, m < ds.length - i ∧ (m = ds.length - (i + 1) ∧ i + 1 ≤ ds.length ∧ ∃ M2 w2 ks2 acc2, Ext w H w2 H2 ∧ More w1 w2 ∧ Ok K w2 H2 M2 ∧ w2.g a = none ∧ a ∉ w2.r ∧ H2 a = some (.dK ks2) ∧ Paired (isKV K w2) ks2 acc2 ∧ acc2.length ≤ i + 1 ∧
          Post K (RlO K H) w H σ W Q ((dcL g t fk fv (wipeE env vs) (ds.drop (i + 1)) acc2 M2).bind fun xs M2 => .ok (.dic xs) M2)), fun H2 z => z, fun x H2 y => ?_⟩
        have hd : ds[i]? = some ds[i] := List.getElem?_eq_getElem hlt
        obtain ⟨w2, y2, o2', i2⟩ := J1.yld i H' x H2 _ hd y w' M' mm o'
        -- what a step leaves of the dict that grows
        have keepA : ∀ {w3 w4 : Wd} {H3 H4 : Hp}, w3.g a = none → a ∉ w3.r → H3 a = some (.dK ks) → Ext w3 H3 w4 H4 → w4.g a = none ∧ a ∉ w4.r ∧ H4 a = some (.dK ks) := fun {w3 w4 H3 H4} e1 e2 e3 e4 => by
          refine ⟨?_, fun z => ?_, e4.keep a _ e3 e2 (fun _ z => by cases z)⟩
          · cases z : w4.g a with
            | none => rfl
            | some p =>
              rcases e4.gn a p z e2 with z | z
              · rw [e1] at z; cases z
              · rw [e3] at z; cases z
          · rcases e4.rn a z with z | z
            · exact e2 z
            · rw [e3] at z; cases z
        obtain ⟨g2, r2, h2⟩ := keepA g' r' h' y2
        rw [List.drop_eq_getElem_cons hlt] at k'
        unfold dcL at k'
        have I2 : EnvOk K w0 H0 w2 H2 M' (wipeE env vs) (L2.wipe σ vs) := (I.wipe vs).step (xx.trans y2) o2'
        cases qg : g ds[i] (wipeE env vs) with
        | none => rw [qg] at k'; exact k'.elim
        | some env2 =>
          rw [qg] at k'
          refine ⟨ds[i], wipeE env vs, env2, M', w2, w0, H0, I2, i2, qg, fun σ3 I3 ag => ⟨?_, ?_⟩⟩
          · have z := ag.wipe
            rw [z]
            apply List.ext_getElem?
            intro j
            rw [wipe_get, wipe_get, wipe_length]
            by_cases hj : j ∈ vs
            · rw [if_pos hj, if_pos hj]
            · rw [if_neg hj, if_neg hj]
          · have xx2 : Ext w H w2 H2 := xx.trans y2
            refine ⟨env2, M', w2, w0, H0, I3, ?_⟩
            have k2 : Post K (RlO K H) w H σ W Q (((t env2 M').nox.bind fun c M1 => if c = true then (fk env2 M1).nox.bind fun x M2 => (fv env2 M2).nox.bind fun y M3 => if (flatK x).isSome = true then dcL g t fk fv (wipeE env vs) (ds.drop (i + 1)) (dPut acc x y) M3 else .bad else dcL g t fk fv (wipeE env vs) (ds.drop (i + 1)) acc M1).bind fun xs M2 => .ok (.dic xs) M2) := k'
            cases qt : t env2 M' with
            | bad => rw [qt] at k2; exact k2
            | ex c ns us' M3 => rw [qt] at k2; exact k2.elim
            | ok c M3 =>
              rw [qt] at k2
              intro v w3 H3 x3 o3 r3
              have r3 : v = c := r3
              subst r3
              obtain ⟨g3, n3, h3⟩ := keepA g2 r2 h2 x3
              have xx3 := xx2.trans x3
              have mm3 := (mm.trans y2.more).trans x3.more
              cases v with
              | false =>
                show ∃ m, _ ∧ _
                exact ⟨_, by omega, rfl, hlt, M3, w3, ks, acc, xx3, mm3, o3, g3, n3, h3, isKV_mono (y2.more.trans x3.more) i', by omega, k2⟩
              | true =>
                show tE K W0 fk σ3 H3 _
                refine ⟨env2, M3, w3, w0, H0, I3.step x3 o3, ?_⟩
                have k3 : Post K (RlO K H) w H σ W Q (((fk env2 M3).nox.bind fun x M2 => (fv env2 M2).nox.bind fun y M3 => if (flatK x).isSome = true then dcL g t fk fv (wipeE env vs) (ds.drop (i + 1)) (dPut acc x y) M3 else .bad).bind fun xs M2 => .ok (.dic xs) M2) := k2
                cases qf : fk env2 M3 with
                | bad => rw [qf] at k3; exact k3
                | ex c ns us' M4 => rw [qf] at k3; exact k3.elim
                | ok kx M4 =>
                  rw [qf] at k3
                  intro u w4 H4 x4 o4 r4
                  obtain ⟨g4, n4, h4⟩ := keepA g3 n3 h3 x4
                  refine ⟨env2, M4, w4, w0, H0, (I3.step x3 o3).step x4 o4, ?_⟩
                  have k4 : Post K (RlO K H) w H σ W Q (((fv env2 M4).nox.bind fun y M3 => if (flatK kx).isSome = true then dcL g t fk fv (wipeE env vs) (ds.drop (i + 1)) (dPut acc kx y) M3 else .bad).bind fun xs M2 => .ok (.dic xs) M2) := k3
                  cases qv : fv env2 M4 with
                  | bad => rw [qv] at k4; exact k4
                  | ex c ns us' M5 => rw [qv] at k4; exact k4.elim
                  | ok vx M5 =>
                    rw [qv] at k4
                    intro z w5 H5 x5 o5 r5
                    obtain ⟨g5, n5, h5⟩ := keepA g4 n4 h4 x5
                    have k5 : Post K (RlO K H) w H σ W Q ((if (flatK kx).isSome = true then dcL g t fk fv (wipeE env vs) (ds.drop (i + 1)) (dPut acc kx vx) M5 else .bad).bind fun xs M2 => .ok (.dic xs) M2) := k4
                    by_cases ck : (flatK kx).isSome = true
                    · rw [if_pos ck] at k5
                      obtain ⟨key, hkey⟩ := Option.isSome_iff_exists.mp ck
                      have eu := flat_v r4 hkey
                      have il : ks.length = acc.length := Paired.length i'
                      have m5 := ((y2.more.trans x3.more).trans x4.more).trans x5.more
                      have iu := put_flat hkey r5 (isKV_mono m5 i')
                      refine ⟨ks, key, eu, h5, ?_, _, by omega, rfl, hlt, M5, w5, putK ks key z, dPut acc kx vx, ((xx3.trans x4).trans x5).own ha0, (mm3.trans x4.more).trans x5.more, o5.own g5 n5 h5 ⟨(fun _ z => by cases z), fun c q z => by unfold LamX.CodeO at z; cases z⟩, g5, n5, upd_same, iu, ?_, k5⟩
                      · have := small_lt hz
                        omega
                      · have := put_len acc kx vx
                        omega
                    · rw [if_neg ck] at k5; exact k5.elim
      · left
        have e : i = ds.length := by omega
        subst e
        rw [List.drop_length] at k'
        have k2 : Post K (RlO K H) w H σ W Q (R.ok (MO.dic acc) M') := k'
        exact ⟨J1.stop _ H' (Nat.le_refl _) fun b p q => o'.g b p (mm.g b p q), k2 _ w' H' xx o' ⟨a, rfl, ha0, g', r', .inl ⟨ks, h', i'⟩⟩⟩
    · rw [if_neg hz] at h; exact h.elim
theorem do_dc {X : Cx} {W : WX} {tg e kx vx : Expr} {pos : Pos} {ifs : List Expr} {scope : Scope} {own : List (Str × Nat)} {it : Fa} {g : Fg} {t : Ft} {fk fv : Fe} (hc : X.calm = true) (hN : X.N.Nodup) (hi : DI X W tg e it) (ok : BlkOk X.N X.env.scope scope own)
    (hg : ∀ (s : Shared) (H : Hp) (C : Addr) (cl : List (Str × Addr)) (fp : List Addr), DG (X.blk s H scope (compEnvC scope cl C X.env) fp) tg g (own.map (·.2)))
    (ht : ∀ (s : Shared) (H : Hp) (C : Addr) (cl : List (Str × Addr)) (fp : List Addr), DTs (X.blk s H scope (compEnvC scope cl C X.env) fp) ifs t)
    (hk : ∀ (s : Shared) (H : Hp) (C : Addr) (cl : List (Str × Addr)) (fp : List Addr), DE (X.blk s H scope (compEnvC scope cl C X.env) fp) W0 kx fk)
    (he : ∀ (s : Shared) (H : Hp) (C : Addr) (cl : List (Str × Addr)) (fp : List Addr), DE (X.blk s H scope (compEnvC scope cl C X.env) fp) W0 vx fv) (hs : ∀ x, foldedSetIterable e X.env x = pure x := by intro _; rfl) :
    DO X W (.DictComp kx vx [⟨tg, e, ifs, 0⟩] scope pos) (oDc it g t fk fv (own.map (·.2))) := by
  obtain ⟨ti, p, si⟩ := hi
  exact ⟨_, pe_dc (g := tG X.K g (own.map (·.2))) (tt := tT X.K W0 t) (tk := tE X.K W0 fk) (tv := tE X.K W0 fv) hc hN p ok (fun s H C cl fp => (hg s H C cl fp).pg) (fun s H C cl fp => (ht s H C cl fp).pts) (fun s H C cl fp => (hk s H C cl fp).pe) (fun s H C cl fp => (he s H C cl fp).pe) hs, snd_dc si⟩
def fPop0R (o : Fe) : Fe := fun env M => (o env M).bind fun d M1 => match d with
  | .ref k => (match M1[k]? with
    | some (.lst ds) => (match ds.getLast? with
      | some x => .ok x (M1.set k (.lst ds.dropLast))
      | none => .bad)
    | _ => .bad)
  | _ => .bad
theorem Iss.dropLast {K : PySem.W.Frag} {w : Wd} {vs : List V} {ds : List D} (h : Iss K w vs ds) : Iss K w vs.dropLast ds.dropLast := by
  rw [List.dropLast_eq_take, List.dropLast_eq_take, h.length]
  exact h.take _
section
variable {X : Cx} {W : WX} {e1 : Expr} {pos apos : Pos} {fa : Fe}
theorem de_pop0R (ha : DE X W e1 fa) (hpe : ∀ t r, MtM X "list.pop" r → PE X e1 t → PE X (.Call (.Attribute e1 "pop" apos) [] [] pos) (tBM0 X.K "list" r t)) : DE X W (.Call (.Attribute e1 "pop" apos) [] [] pos) (fPop0R fa) := by
  obtain ⟨t, q, s⟩ := ha
  refine ⟨_, hpe t _ mt_pop q, fun env M σ w H w0 H0 Q I h => ?_⟩
  refine s env M σ w H w0 H0 _ I (Post.bind h fun d M1 v w1 H1 x1 o1 r1 k1 => ?_)
  cases r1 with
  | @ref a k hk =>
    cases qm : M1[k]? with
    | none => simp only [qm] at k1; exact k1.elim
    | some m =>
      cases m with
      | lst ds =>
        simp only [qm] at k1
        obtain ⟨b, g1, g2, vs, g3, g4⟩ := o1.mo qm
        rw [hk] at g1
        cases g1
        cases ql : ds.getLast? with
        | none => simp only [ql] at k1; exact k1.elim
        | some x =>
          simp only [ql] at k1
          rw [List.getLast?_eq_getElem?] at ql
          obtain ⟨y, hy, iy⟩ := g4.get ql
          obtain ⟨o3, x3⟩ := o1.write (o' := .lst ds.dropLast) (u := .lst vs.dropLast) qm hk ⟨vs.dropLast, upd_same, g4.dropLast⟩
          exact ⟨.inl ⟨rfl, vs, .inl (.inl g3)⟩, a, vs, y, rfl, rfl, g3, by rw [g4.length]; exact hy, k1 y w1 _ x3 o3 (iy.mono x3.more)⟩
      | _ => simp only [qm] at k1; exact k1.elim
  | _ => exact k1.elim
end
end DL
namespace K77
open PySem L2 DL
variable [Wld]
abbrev N_is_number : List Str := ["value"]
theorem sc_is_number : FnScope N_is_number ["value"] (defScope st_is_number) := ⟨rfl, rfl, rfl, by decide +kernel, rfl, by decide +kernel, by decide +kernel⟩
abbrev N_is_within : List Str := ["value", "low", "high"]
theorem sc_is_within : FnScope N_is_within ["value", "low", "high"] (defScope st_is_within) := ⟨rfl, rfl, rfl, by decide +kernel, rfl, by decide +kernel, by decide +kernel⟩
abbrev N_is_sign : List Str := ["value"]
theorem sc_is_sign : FnScope N_is_sign ["value"] (defScope st_is_sign) := ⟨rfl, rfl, rfl, by decide +kernel, rfl, by decide +kernel, by decide +kernel⟩
abbrev N_is_name : List Str := ["value", "sign"]
theorem sc_is_name : FnScope N_is_name ["value"] (defScope st_is_name) := ⟨rfl, rfl, rfl, by decide +kernel, rfl, by decide +kernel, by decide +kernel⟩
abbrev N_deepest : List Str := ["text", "found", "now", "sign"]
theorem sc_deepest : FnScope N_deepest ["text"] (defScope st_deepest) := ⟨rfl, rfl, rfl, by decide +kernel, rfl, by decide +kernel, by decide +kernel⟩
abbrev N_read_row : List Str := ["text", "at", "parts", "part"]
theorem sc_read_row : FnScope N_read_row ["text", "at"] (defScope st_read_row) := ⟨rfl, rfl, rfl, by decide +kernel, rfl, by decide +kernel, by decide +kernel⟩
abbrev N_read_part : List Str := ["text", "at", "mark", "parts"]
theorem sc_read_part : FnScope N_read_part ["text", "at"] (defScope st_read_part) := ⟨rfl, rfl, rfl, by decide +kernel, rfl, by decide +kernel, by decide +kernel⟩
abbrev N_read_parts : List Str := ["text", "at", "gap", "tree", "parts"]
theorem sc_read_parts : FnScope N_read_parts ["text", "at", "gap"] (defScope st_read_parts) := ⟨rfl, rfl, rfl, by decide +kernel, rfl, by decide +kernel, by decide +kernel⟩
abbrev N_read_tree : List Str := ["text", "tree", "at"]
theorem sc_read_tree : FnScope N_read_tree ["text"] (defScope st_read_tree) := ⟨rfl, rfl, rfl, by decide +kernel, rfl, by decide +kernel, by decide +kernel⟩
abbrev N_scheme_fault : List Str := ["value", "path", "is_in_row", "seen", "least", "most", "at", "part", "found"]
theorem sc_scheme_fault : FnScope N_scheme_fault ["value", "path", "is_in_row", "seen"] (defScope st_scheme_fault) := ⟨rfl, rfl, rfl, by decide +kernel, rfl, by decide +kernel, by decide +kernel⟩
abbrev N_scheme_text : List Str := ["tree", "inner", "front", "gap", "back", "part"]
theorem sc_scheme_text : FnScope N_scheme_text ["tree"] (defScope st_scheme_text) := ⟨rfl, rfl, rfl, by decide +kernel, rfl, by decide +kernel, by decide +kernel⟩
abbrev N_Scheme___init__ : List Str := ["self", "tree", "fault"]
theorem sc_Scheme___init__ : FnScope N_Scheme___init__ ["self", "tree"] (defScope st_Scheme___init__) := ⟨rfl, rfl, rfl, by decide +kernel, rfl, by decide +kernel, by decide +kernel⟩
abbrev N_Scheme_read : List Str := ["text", "tree"]
theorem sc_Scheme_read : FnScope N_Scheme_read ["text"] (defScope st_Scheme_read) := ⟨rfl, rfl, rfl, by decide +kernel, rfl, by decide +kernel, by decide +kernel⟩
abbrev N_Scheme_text : List Str := ["self"]
theorem sc_Scheme_text : FnScope N_Scheme_text ["self"] (defScope st_Scheme_text) := ⟨rfl, rfl, rfl, by decide +kernel, rfl, by decide +kernel, by decide +kernel⟩
abbrev N_need_command : List Str := ["command", "item"]
theorem sc_need_command : FnScope N_need_command ["command"] (defScope st_need_command) := ⟨rfl, rfl, rfl, by decide +kernel, rfl, by decide +kernel, by decide +kernel⟩
abbrev N_need_room : List Str := ["entries", "name", "limit"]
theorem sc_need_room : FnScope N_need_room ["entries", "name", "limit"] (defScope st_need_room) := ⟨rfl, rfl, rfl, by decide +kernel, rfl, by decide +kernel, by decide +kernel⟩
abbrev N_behind_text : List Str := ["entries", "limit", "command", "kind", "name", "text", "thing"]
theorem sc_behind_text : FnScope N_behind_text ["entries", "limit", "command"] (defScope st_behind_text) := ⟨rfl, rfl, rfl, by decide +kernel, rfl, by decide +kernel, by decide +kernel⟩
abbrev N_behind : List Str := ["entries", "limit", "command", "name", "one", "fresh"]
theorem sc_behind : FnScope N_behind ["entries", "limit", "command"] (defScope st_behind) := ⟨rfl, rfl, rfl, by decide +kernel, rfl, by decide +kernel, by decide +kernel⟩
abbrev N_Store___init__ : List Str := ["self", "limit"]
theorem sc_Store___init__ : FnScope N_Store___init__ ["self", "limit"] (defScope st_Store___init__) := ⟨rfl, rfl, rfl, by decide +kernel, rfl, by decide +kernel, by decide +kernel⟩
abbrev N_Store_looked_at : List Str := ["self", "entries"]
theorem sc_Store_looked_at : FnScope N_Store_looked_at ["self", "entries"] (defScope st_Store_looked_at) := ⟨rfl, rfl, rfl, by decide +kernel, rfl, by decide +kernel, by decide +kernel⟩
abbrev N_Store_put : List Str := ["self", "entries", "name"]
theorem sc_Store_put : FnScope N_Store_put ["self", "entries"] (defScope st_Store_put) := ⟨rfl, rfl, rfl, by decide +kernel, rfl, by decide +kernel, by decide +kernel⟩
abbrev N_Store_turn_to : List Str := ["self", "later", "kept", "name"]
theorem sc_Store_turn_to : FnScope N_Store_turn_to ["self", "later"] (defScope st_Store_turn_to) := ⟨rfl, rfl, rfl, by decide +kernel, rfl, by decide +kernel, by decide +kernel⟩
abbrev N_Store_apply : List Str := ["self", "commands", "later", "command"]
theorem sc_Store_apply : FnScope N_Store_apply ["self", "commands"] (defScope st_Store_apply) := ⟨rfl, rfl, rfl, by decide +kernel, rfl, by decide +kernel, by decide +kernel⟩
abbrev N_Store_undo : List Str := ["self"]
theorem sc_Store_undo : FnScope N_Store_undo ["self"] (defScope st_Store_undo) := ⟨rfl, rfl, rfl, by decide +kernel, rfl, by decide +kernel, by decide +kernel⟩
abbrev N_Store_redo : List Str := ["self"]
theorem sc_Store_redo : FnScope N_Store_redo ["self"] (defScope st_Store_redo) := ⟨rfl, rfl, rfl, by decide +kernel, rfl, by decide +kernel, by decide +kernel⟩
abbrev N_Store_history : List Str := ["self"]
theorem sc_Store_history : FnScope N_Store_history ["self"] (defScope st_Store_history) := ⟨rfl, rfl, rfl, by decide +kernel, rfl, by decide +kernel, by decide +kernel⟩
abbrev N_Store_names : List Str := ["self", "kinds", "name"]
theorem sc_Store_names : FnScope N_Store_names ["self", "kinds"] (defScope st_Store_names) := ⟨rfl, rfl, rfl, by decide +kernel, rfl, by decide +kernel, by decide +kernel⟩
abbrev N_Store___len__ : List Str := ["self"]
theorem sc_Store___len__ : FnScope N_Store___len__ ["self"] (defScope st_Store___len__) := ⟨rfl, rfl, rfl, by decide +kernel, rfl, by decide +kernel, by decide +kernel⟩
abbrev N__law_bag : List Str := ["_law_script", "_law_row", "_law_mark", "_law_cell"]
theorem sc__law_bag : FnScope N__law_bag ["_law_script"] (defScope st__law_bag) := ⟨rfl, rfl, rfl, by decide +kernel, rfl, by decide +kernel, by decide +kernel⟩
abbrev N__law_take : List Str := ["_law_bag_here", "_law_many", "_law_cell", "_law_digit", "_law_seed"]
theorem sc__law_take : FnScope N__law_take ["_law_bag_here", "_law_many"] (defScope st__law_take) := ⟨rfl, rfl, rfl, by decide +kernel, rfl, by decide +kernel, by decide +kernel⟩
abbrev N__law_like : List Str := ["_law_found", "_law_due", "_law_one", "_law_other"]
theorem sc__law_like : FnScope N__law_like ["_law_found", "_law_due"] (defScope st__law_like) := ⟨rfl, rfl, rfl, by decide +kernel, rfl, by decide +kernel, by decide +kernel⟩
abbrev N__law_field : List Str := ["_law_e"]
theorem sc__law_field : FnScope N__law_field ["_law_e"] (defScope st__law_field) := ⟨rfl, rfl, rfl, by decide +kernel, rfl, by decide +kernel, by decide +kernel⟩
abbrev N__law_why : List Str := ["_law_ask", "_law_e"]
theorem sc__law_why : FnScope N__law_why ["_law_ask"] (defScope st__law_why) := ⟨rfl, rfl, rfl, by decide +kernel, rfl, by decide +kernel, by decide +kernel⟩
abbrev N_law : List Str := ["_law_script", "_law_bag_here", "_law_many", "_law_store", "_law_due", "_law_adds", "_law_letter", "_law_command", "_law_words", "_law_told"]
theorem sc_law : FnScope N_law ["_law_script"] (defScope st_law) := ⟨rfl, rfl, rfl, by decide +kernel, rfl, by decide +kernel, by decide +kernel⟩
structure Txt (w : World) (K : PySem.W.Frag) (mg : Str → Option Value) : Prop where
  pw : Wld.w = w
  d_is_number : DefAt K mg "is_number" st_is_number ["value"]
  d_is_within : DefAt K mg "is_within" st_is_within ["value", "low", "high"]
  d_is_sign : DefAt K mg "is_sign" st_is_sign ["value"]
  d_is_name : DefAt K mg "is_name" st_is_name ["value"]
  d_deepest : DefAt K mg "deepest" st_deepest ["text"]
  d_read_row : DefAt K mg "read_row" st_read_row ["text", "at"]
  d_read_part : DefAt K mg "read_part" st_read_part ["text", "at"]
  d_read_parts : DefAt K mg "read_parts" st_read_parts ["text", "at", "gap"]
  d_read_tree : DefAt K mg "read_tree" st_read_tree ["text"]
  d_scheme_fault : DefAt K mg "scheme_fault" st_scheme_fault ["value", "path", "is_in_row", "seen"]
  d_scheme_text : DefAt K mg "scheme_text" st_scheme_text ["tree"]
  d_Scheme___init__ : IniAt K mg "Scheme" "Scheme.__init__" st_Scheme___init__ ["tree"]
  d_Scheme_read : StaAt K mg "Scheme" "read" "Scheme.read" st_Scheme_read ["text"]
  d_Scheme_text : MetAt K "Scheme" "text" "Scheme.text" st_Scheme_text ["self"]
  d_need_command : DefAt K mg "need_command" st_need_command ["command"]
  d_need_room : DefAt K mg "need_room" st_need_room ["entries", "name", "limit"]
  d_behind_text : DefAt K mg "behind_text" st_behind_text ["entries", "limit", "command"]
  d_behind : DefAt K mg "behind" st_behind ["entries", "limit", "command"]
  d_Store___init__ : InkAt K mg "Store" "Store.__init__" st_Store___init__
  d_Store_looked_at : MetAt K "Store" "looked_at" "Store.looked_at" st_Store_looked_at ["self", "entries"]
  d_Store_put : MetAt K "Store" "put" "Store.put" st_Store_put ["self", "entries"]
  d_Store_turn_to : MetAt K "Store" "turn_to" "Store.turn_to" st_Store_turn_to ["self", "later"]
  d_Store_apply : MevAt K "Store" "apply" "Store.apply" st_Store_apply "self" "commands"
  d_Store_undo : MetAt K "Store" "undo" "Store.undo" st_Store_undo ["self"]
  d_Store_redo : MetAt K "Store" "redo" "Store.redo" st_Store_redo ["self"]
  d_Store_history : MetAt K "Store" "history" "Store.history" st_Store_history ["self"]
  d_Store_names : MevAt K "Store" "names" "Store.names" st_Store_names "self" "kinds"
  d_Store___len__ : MetAt K "Store" "__len__" "Store.__len__" st_Store___len__ ["self"]
  d__law_bag : DefAt K mg "_law_bag" st__law_bag ["_law_script"]
  d__law_take : DefAt K mg "_law_take" st__law_take ["_law_bag_here", "_law_many"]
  d__law_like : DefAt K mg "_law_like" st__law_like ["_law_found", "_law_due"]
  d__law_field : DefAt K mg "_law_field" st__law_field ["_law_e"]
  d__law_why : DefAt K mg "_law_why" st__law_why ["_law_ask"]
  d_law : DefAt K mg "law" st_law ["_law_script"]
  a_algebras : ∀ x ∈ (["Store"] : List Str), AttrOk K x "algebras"
  a_entries : ∀ x ∈ (["Store"] : List Str), AttrOk K x "entries"
  a_future : ∀ x ∈ (["Store"] : List Str), AttrOk K x "future"
  a_is_at_work : ∀ x ∈ (["Store"] : List Str), AttrOk K x "is_at_work"
  a_many : ∀ x ∈ (["Store"] : List Str), AttrOk K x "many"
  a_own_limit : ∀ x ∈ (["Store"] : List Str), AttrOk K x "own_limit"
  a_own_tree : ∀ x ∈ (["Plan", "Scheme"] : List Str), AttrOk K x "own_tree"
  a_past : ∀ x ∈ (["Store"] : List Str), AttrOk K x "past"
  a_rows : ∀ x ∈ (["Store"] : List Str), AttrOk K x "rows"
  b_all : mg "all" = none
  b_bool : mg "bool" = none
  b_enumerate : mg "enumerate" = none
  b_int : mg "int" = none
  b_isinstance : mg "isinstance" = none
  b_len : mg "len" = none
  b_list : mg "list" = none
  b_max : mg "max" = none
  b_str : mg "str" = none
  b_tuple : mg "tuple" = none
  b_zip : mg "zip" = none
  c_LETTERS : GlobD K mg "LETTERS" cD_LETTERS
  c_MOST_BRACKETS : GlobD K mg "MOST_BRACKETS" cD_MOST_BRACKETS
  c_MOST_NESTED : GlobD K mg "MOST_NESTED" cD_MOST_NESTED
  c_MOST_SIGNS_schemes : GlobD K mg "MOST_SIGNS_schemes" cD_MOST_SIGNS_schemes
  t_COUNTS : KTab K w mg "COUNTS" tb_COUNTS
  t_MARKS : KTab K w mg "MARKS" tb_MARKS
  t_PARTS : KTab K w mg "PARTS" tb_PARTS
  cc_Store_MOST : ConAt K "Store" "MOST" (.int 20)
def KS : List Str := ["DuplicateName", "Full", "InvalidCommand", "InvalidLimit", "InvalidName", "InvalidScheme", "InvalidText", "NothingLeft", "UnknownName", "WrongKind"]
def g_is_number : Fs := sRet (fAnd (fB gIsi (fCons (fVar 0) (fCons (fK (.ty "int")) (fNil)))) (fUn gNot (fB gIsi (fCons (fVar 0) (fCons (fK (.ty "bool")) (fNil))))))
def F_is_number : Fn := bodyF g_is_number 1
def g_is_within : Fs := sRet (fAnd (fCall F_is_number [] (fCons (fVar 0) (fNil))) (fChain gLe gLe (fVar 1) (fVar 0) (fVar 2)))
def F_is_within : Fn := bodyF g_is_within 3
def g_is_sign : Fs := sRet (fAnd (fB gIsi (fCons (fVar 0) (fCons (fK (.ty "str")) (fNil)))) (fAnd (fOp gEq (fB gLen (fCons (fVar 0) (fNil))) (fK (.int 1))) (fOp gIn (fVar 0) (fK cD_LETTERS))))
def F_is_sign : Fn := bodyF g_is_sign 1
def g_is_name : Fs := sRet (fAnd (fB gIsi (fCons (fVar 0) (fCons (fK (.ty "str")) (fNil)))) (fAnd (fChain gLe gLe (fK (.int 1)) (fB gLen (fCons (fVar 0) (fNil))) (fK (.int 8))) (fB gAll (fCons (fFz (oLc (iText (fVar 0)) (gN 1) (tYesF) (fCall F_is_sign [] (fCons (fVar 1) (fNil))) [1])) (fNil)))))
def F_is_name : Fn := bodyF g_is_name 2
def b_deepest_0 : Fs := sSeq (sIf (tVal (fOp gIn (fVar 3) (fK (.str "[(")))) (sSet 2 (fOp gAdd (fVar 2) (fK (.int 1)))) (sIf (tVal (fOp gIn (fVar 3) (fK (.str "])")))) (sSet 2 (fOp gSub (fVar 2) (fK (.int 1)))) (sNil))) (sSet 1 (fB gMax2 (fCons (fVar 1) (fCons (fVar 2) (fNil)))))
def g_deepest : Fs := sSeq (sAsg (gT 2 (gsC (gN 1) (gsC (gN 2) (gsN)))) (fTup (fCons (fK (.int 0)) (fCons (fK (.int 0)) (fNil))))) (sSeq (sFor (iText (fVar 0)) (gN 3) b_deepest_0) (sRet (fVar 1)))
def F_deepest : Fn := bodyF g_deepest 4
def b_read_row_0  : Fs := sPar 3 1 (xV (fTup (fCons (fK (.str "loop")) (fCons (fVar 3) (fNil))))) (xV (fOp gAdd (fVar 1) (fK (.int 1))))
def b_read_row_1 (p_read_part : Fn) : Fs := sSeq (sAsg (gT 2 (gsC (gN 3) (gsC (gN 1) (gsN)))) (fCall p_read_part [] (fCons (fVar 0) (fCons (fVar 1) (fNil))))) (sSeq (sWh (fun _ _ => 600) (tVal (fOp gEq (fCut (fVar 0) (pSome (fVar 1)) (pSome (fOp gAdd (fVar 1) (fK (.int 1))))) (fK (.str "+")))) b_read_row_0) (sSeq (sApp 2 (fVar 3)) (sSeq (sIf (tOrF (tVal (fOp gNe (fCut (fVar 0) (pSome (fVar 1)) (pSome (fOp gAdd (fVar 1) (fK (.int 1))))) (fK (.str " ")))) (tVal (fOp gIn (fCut (fVar 0) (pSome (fVar 1)) (pSome (fOp gAdd (fVar 1) (fK (.int 3))))) (fTup (fCons (fK (.str " & ")) (fCons (fK (.str " | ")) (fNil))))))) (sFz 2 (sRet (fTup (fCons (fIf (tVal (fOp gEq (fB gLen (fCons (fVar 2) (fNil))) (fK (.int 1)))) (fOp gIx (fVar 2) (fK (.int 0))) (fTupS (fCons (fK (.str "row")) (fStar (fVar 2) (fNil))))) (fCons (fVar 1) (fNil)))))) (sNil)) (sSet 1 (fOp gAdd (fVar 1) (fK (.int 1)))))))
def b_read_parts_0 (p_read_row : Fn) : Fs := sSeq (sAsg (gT 2 (gsC (gN 3) (gsC (gN 1) (gsN)))) (fCall p_read_row [] (fCons (fVar 0) (fCons (fOp gAdd (fVar 1) (fK (.int 3))) (fNil))))) (sApp 4 (fVar 3))
mutual
def F_read_row : Nat → Fn
  | 0 => noF
  | k + 1 => bodyF (sSeq (sSetO 2 (oLst (fNil))) (sWh (fun _ _ => 600) (tVal (fK (.bl true))) (b_read_row_1 (F_read_part k)))) 4
def F_read_part : Nat → Fn
  | 0 => noF
  | k + 1 => bodyF (sSeq (sSet 2 (fCut (fVar 0) (pSome (fVar 1)) (pSome (fOp gAdd (fVar 1) (fK (.int 1)))))) (sSeq (sIf (tVal (fCall F_is_sign [] (fCons (fVar 2) (fNil)))) (sRet (fTup (fCons (fVar 2) (fCons (fOp gAdd (fVar 1) (fK (.int 1))) (fNil))))) (sNil)) (sSeq (sIf (tVal (fOp gEq (fVar 2) (fK (.str "[")))) (sSeq (sAsg (gT 2 (gsC (gN 3) (gsC (gN 1) (gsN)))) (fCall (F_read_parts k) [] (fCons (fVar 0) (fCons (fOp gAdd (fVar 1) (fK (.int 1))) (fCons (fK (.str " & ")) (fNil)))))) (sIf (tAndF (tVal (fOp gEq (fCut (fVar 0) (pSome (fVar 1)) (pSome (fOp gAdd (fVar 1) (fK (.int 1))))) (fK (.str "]")))) (tVal (fOp gGt (fB gLen (fCons (fVar 3) (fNil))) (fK (.int 1))))) (sRet (fTup (fCons (fTupS (fCons (fK (.str "lot")) (fStar (fVar 3) (fNil)))) (fCons (fOp gAdd (fVar 1) (fK (.int 1))) (fNil))))) (sNil))) (sNil)) (sSeq (sIf (tVal (fOp gEq (fVar 2) (fK (.str "(")))) (sSeq (sAsg (gT 2 (gsC (gN 3) (gsC (gN 1) (gsN)))) (fCall (F_read_parts k) [] (fCons (fVar 0) (fCons (fOp gAdd (fVar 1) (fK (.int 1))) (fCons (fK (.str " | ")) (fNil)))))) (sSeq (sIf (tAndF (tVal (fOp gEq (fCut (fVar 0) (pSome (fVar 1)) (pSome (fOp gAdd (fVar 1) (fK (.int 2))))) (fK (.str ")+")))) (tVal (fOp gEq (fB gLen (fCons (fVar 3) (fNil))) (fK (.int 1))))) (sRet (fTup (fCons (fOp gIx (fVar 3) (fK (.int 0))) (fCons (fOp gAdd (fVar 1) (fK (.int 1))) (fNil))))) (sNil)) (sIf (tAndF (tVal (fOp gEq (fCut (fVar 0) (pSome (fVar 1)) (pSome (fOp gAdd (fVar 1) (fK (.int 1))))) (fK (.str ")")))) (tVal (fOp gGt (fB gLen (fCons (fVar 3) (fNil))) (fK (.int 1))))) (sRet (fTup (fCons (fTupS (fCons (fK (.str "or")) (fStar (fVar 3) (fNil)))) (fCons (fOp gAdd (fVar 1) (fK (.int 1))) (fNil))))) (sNil)))) (sNil)) (sRaise "InvalidText" ["given"] (fCons (fVar 0) (fNil))))))) 4
def F_read_parts : Nat → Fn
  | 0 => noF
  | k + 1 => bodyF (sSeq (sAsg (gT 2 (gsC (gN 3) (gsC (gN 1) (gsN)))) (fCall (F_read_row k) [] (fCons (fVar 0) (fCons (fVar 1) (fNil))))) (sSeq (sSetO 4 (oLst (fCons (fVar 3) (fNil)))) (sSeq (sWh (fun _ _ => 600) (tVal (fOp gEq (fCut (fVar 0) (pSome (fVar 1)) (pSome (fOp gAdd (fVar 1) (fK (.int 3))))) (fVar 2))) (b_read_parts_0 (F_read_row k))) (sFz 4 (sRet (fTup (fCons (fVar 4) (fCons (fVar 1) (fNil))))))))) 5
end
def g_read_tree : Fs := sSeq (sIf (tOrF (tNotF (tVal (fB gIsi (fCons (fVar 0) (fCons (fK (.ty "str")) (fNil)))))) (tVal (fOp gGt (fCall F_deepest [] (fCons (fVar 0) (fNil))) (fK cD_MOST_BRACKETS)))) (sRaise "InvalidText" ["given"] (fCons (fVar 0) (fNil))) (sNil)) (sSeq (sAsg (gT 2 (gsC (gN 1) (gsC (gN 2) (gsN)))) (fCall (F_read_row 60) [] (fCons (fVar 0) (fCons (fK (.int 0)) (fNil))))) (sSeq (sIf (tVal (fOp gNe (fVar 2) (fB gLen (fCons (fVar 0) (fNil))))) (sRaise "InvalidText" ["given"] (fCons (fVar 0) (fNil))) (sNil)) (sRet (fVar 1))))
def F_read_tree : Fn := bodyF g_read_tree 3
def b_scheme_fault_0 (p_scheme_fault : Fn) : Fs := sSeq (sSet 8 (fCall p_scheme_fault [] (fCons (fVar 7) (fCons (fOp gAdd (fVar 1) (fTup (fCons (fVar 6) (fNil)))) (fCons (fOp gEq (fOp gIx (fVar 0) (fK (.int 0))) (fK (.str "row"))) (fCons (fVar 3) (fNil))))))) (sIf (tVal (fOp gIsNot (fVar 8) (fK .non))) (sRet (fVar 8)) (sNil))
def F_scheme_fault : Nat → Fn
  | 0 => noF
  | k + 1 => bodyF (sSeq (sIf (tVal (fOp gGe (fB gLen (fCons (fVar 1) (fNil))) (fK cD_MOST_NESTED))) (sRet (fVar 1)) (sNil)) (sSeq (sIf (tVal (fCall F_is_sign [] (fCons (fVar 0) (fNil)))) (sSeq (sDrop (fAppR (fVar 3) (fVar 0))) (sRet (fIf (tVal (fOp gGt (fB gLen (fCons (fVar 3) (fNil))) (fK cD_MOST_SIGNS_schemes))) (fVar 1) (fK .non)))) (sNil)) (sSeq (sIf (tOrF (tNotF (tVal (fB gIsi (fCons (fVar 0) (fCons (fK (.ty "tuple")) (fNil)))))) (tOrF (tVal (fOp gLt (fB gLen (fCons (fVar 0) (fNil))) (fK (.int 2)))) (tOrF (tNotF (tVal (fB gIsi (fCons (fOp gIx (fVar 0) (fK (.int 0))) (fCons (fK (.ty "str")) (fNil)))))) (tVal (fInT tb_PARTS true (fOp gIx (fVar 0) (fK (.int 0)))))))) (sRet (fVar 1)) (sNil)) (sSeq (sAsg (gT 2 (gsC (gN 4) (gsC (gN 5) (gsN)))) (fDct tb_PARTS (fOp gIx (fVar 0) (fK (.int 0))))) (sSeq (sIf (tOrF (tNotF (tVal (fChain gLe gLe (fVar 4) (fOp gSub (fB gLen (fCons (fVar 0) (fNil))) (fK (.int 1))) (fVar 5)))) (tAndF (tVal (fVar 2)) (tVal (fOp gEq (fOp gIx (fVar 0) (fK (.int 0))) (fK (.str "row")))))) (sRet (fVar 1)) (sNil)) (sSeq (sFor (iNumD (fCons (fCut (fVar 0) (pSome (fK (.int 1))) pNo) (fNil))) (gT 2 (gsC (gN 6) (gsC (gN 7) (gsN)))) (b_scheme_fault_0 (F_scheme_fault k))) (sRet (fK .non)))))))) 9
def F_scheme_text : Nat → Fn
  | 0 => noF
  | k + 1 => bodyF (sSeq (sIf (tVal (fB gIsi (fCons (fVar 0) (fCons (fK (.ty "str")) (fNil))))) (sRet (fVar 0)) (sNil)) (sSeq (sIf (tVal (fOp gEq (fOp gIx (fVar 0) (fK (.int 0))) (fK (.str "loop")))) (sSeq (sSet 1 (fCall (F_scheme_text k) [] (fCons (fOp gIx (fVar 0) (fK (.int 1))) (fNil)))) (sRet (fIf (tAndF (tVal (fB gIsi (fCons (fOp gIx (fVar 0) (fK (.int 1))) (fCons (fK (.ty "tuple")) (fNil))))) (tVal (fOp gEq (fOp gIx (fOp gIx (fVar 0) (fK (.int 1))) (fK (.int 0))) (fK (.str "row"))))) (fJoin [fK (.str "("), fFmt (fVar 1), fK (.str ")+")]) (fJoin [fFmt (fVar 1), fK (.str "+")])))) (sNil)) (sSeq (sAsg (gT 3 (gsC (gN 2) (gsC (gN 3) (gsC (gN 4) (gsN))))) (fDct tb_MARKS (fOp gIx (fVar 0) (fK (.int 0))))) (sRet (fOp gAdd (fOp gAdd (fVar 2) (fM1 gJoin (fVar 3) (fFz (oLc (iSeq (fCut (fVar 0) (pSome (fK (.int 1))) pNo)) (gN 5) (tYesF) (fCall (F_scheme_text k) [] (fCons (fVar 5) (fNil))) [5])))) (fVar 4)))))) 6
def g_Scheme___init__ : Fs := sSeq (sSet 2 (fCall (F_scheme_fault 12) [] (fCons (fVar 1) (fCons (fTup (fNil)) (fCons (fK (.bl false)) (fCons (fAl (oLst (fNil))) (fNil))))))) (sSeq (sIf (tVal (fOp gIsNot (fVar 2) (fK .non))) (sRaise "InvalidScheme" ["path"] (fCons (fVar 2) (fNil))) (sNil)) (sAttr ["Plan", "Scheme"] "own_tree" (fVar 0) (fVar 1)))
def F_Scheme___init__ : Fn := bodyF g_Scheme___init__ 3
def g_Scheme_read : Fs := sSeq (sSet 1 (fCall F_read_tree [] (fCons (fVar 0) (fNil)))) (sSeq (sIf (tOrF (tVal (fOp gIsNot (fCall (F_scheme_fault 12) [] (fCons (fVar 1) (fCons (fTup (fNil)) (fCons (fK (.bl false)) (fCons (fAl (oLst (fNil))) (fNil)))))) (fK .non))) (tVal (fOp gNe (fCall (F_scheme_text 12) [] (fCons (fVar 1) (fNil))) (fVar 0)))) (sRaise "InvalidText" ["given"] (fCons (fVar 0) (fNil))) (sNil)) (sRet (fMake "Scheme" F_Scheme___init__ (fCons (fVar 1) (fNil)))))
def F_Scheme_read : Fn := bodyF g_Scheme_read 2
def g_Scheme_text : Fs := sRet (fCall (F_scheme_text 12) [] (fCons (fAttr ["Plan", "Scheme"] "own_tree" (fVar 0)) (fNil)))
def F_Scheme_text : Fn := bodyF g_Scheme_text 1
def g_need_command : Fs := sSeq (sIf (tOrF (tNotF (tVal (fB gIsi (fCons (fVar 0) (fCons (fK (.ty "tuple")) (fNil)))))) (tNotF (tVal (fB gAll (fCons (fFz (oLc (iSeq (fVar 0)) (gN 1) (tYesF) (fB gIsi (fCons (fVar 1) (fCons (fK (.ty "str")) (fNil)))) [1])) (fNil)))))) (sBad) (sNil)) (sIf (tOrF (tVal (fOp gEq (fB gLen (fCons (fVar 0) (fNil))) (fK (.int 0)))) (tOrF (tVal (fInT tb_COUNTS true (fOp gIx (fVar 0) (fK (.int 0))))) (tVal (fOp gNe (fDct tb_COUNTS (fOp gIx (fVar 0) (fK (.int 0)))) (fB gLen (fCons (fVar 0) (fNil))))))) (sBad) (sNil))
def F_need_command : Fn := bodyF g_need_command 2
def g_need_room : Fs := sIf (tAndF (tVal (fOp (gInDil true) (fVar 1) (fVar 0))) (tVal (fOp gGe (fB gLenD (fCons (fVar 0) (fNil))) (fVar 2)))) (sRaise "Full" ["most"] (fCons (fVar 2) (fNil))) (sNil)
def F_need_room : Fn := bodyF g_need_room 3
def g_behind_text : Fs := sSeq (sAsg (gT 3 (gsC (gN 3) (gsC (gN 4) (gsC (gN 5) (gsN))))) (fVar 2)) (sSeq (sIf (tNotF (tVal (fCall F_is_name [] (fCons (fVar 4) (fNil))))) (sRaise "InvalidName" ["name"] (fCons (fVar 4) (fNil))) (sNil)) (sSeq (sIf (tAndF (tVal (fOp (gInDil false) (fVar 4) (fVar 0))) (tVal (fOp gNe (fOp gIx (fOp gGetDil (fVar 0) (fVar 4)) (fK (.int 0))) (fVar 3)))) (sRaise "WrongKind" ["name"] (fCons (fVar 4) (fNil))) (sNil)) (sSeq (sDrop (fCall F_need_room [] (fCons (fVar 0) (fCons (fVar 4) (fCons (fVar 1) (fNil)))))) (sSeq (sSet 6 (fIf (tVal (fOp gEq (fVar 3) (fK (.str "house")))) (fBad) (fCall F_Scheme_read [] (fCons (fVar 5) (fNil))))) (sRet (fAl (oDicU (fVar 0) (fVar 4) (fTup (fCons (fVar 3) (fCons (fVar 6) (fNil)))))))))))
def F_behind_text : Fn := bodyF g_behind_text 7
def g_behind : Fs := sSeq (sDrop (fCall F_need_command [] (fCons (fVar 2) (fNil)))) (sSeq (sIf (tVal (fOp gIn (fOp gIx (fVar 2) (fK (.int 0))) (fTup (fCons (fK (.str "house")) (fCons (fK (.str "scheme")) (fNil)))))) (sRet (fCall F_behind_text [] (fCons (fVar 0) (fCons (fVar 1) (fCons (fVar 2) (fNil)))))) (sNil)) (sSeq (sIf (tVal (fOp gEq (fB gLen (fCons (fVar 2) (fNil))) (fK (.int 4)))) (sRet (fBad)) (sNil)) (sSeq (sSet 3 (fOp gIx (fVar 2) (fK (.int 1)))) (sSeq (sIf (tVal (fOp (gInDil true) (fVar 3) (fVar 0))) (sRaise "UnknownName" ["name"] (fCons (fVar 3) (fNil))) (sNil)) (sSeq (sIf (tVal (fOp gEq (fOp gIx (fVar 2) (fK (.int 0))) (fK (.str "drop")))) (sRet (fAl (lockO (fVar 0) (oDc (iKeysD (fVar 0)) (gN 4) (tVal (fOp gNe (fVar 4) (fVar 3))) (fVar 4) (fOp gGetDil (fVar 0) (fVar 4)) [4])))) (sNil)) (sSeq (sSet 5 (fOp gIx (fVar 2) (fK (.int 2)))) (sSeq (sIf (tNotF (tVal (fCall F_is_name [] (fCons (fVar 5) (fNil))))) (sRaise "InvalidName" ["name"] (fCons (fVar 5) (fNil))) (sNil)) (sSeq (sIf (tVal (fOp (gInDil false) (fVar 5) (fVar 0))) (sRaise "DuplicateName" ["name"] (fCons (fVar 5) (fNil))) (sNil)) (sRet (fAl (lockO (fVar 0) (oDc (iKeysD (fVar 0)) (gN 4) (tYesF) (fIf (tVal (fOp gEq (fVar 4) (fVar 3))) (fVar 5) (fVar 4)) (fOp gGetDil (fVar 0) (fVar 4)) [4]))))))))))))
def F_behind : Fn := bodyF g_behind 6
def g_Store___init__ : Fs := sSeq (sIf (tNotF (tVal (fCall F_is_within [] (fCons (fVar 1) (fCons (fK (.int 1)) (fCons (fCon "Store" "MOST" (.int 20) (fVar 0)) (fNil))))))) (sRaise "InvalidLimit" ["given"] (fCons (fVar 1) (fNil))) (sNil)) (sSeq (sAttr ["Store"] "own_limit" (fVar 0) (fVar 1)) (sSeq (sAttr ["Store"] "entries" (fVar 0) (fAl oDic0)) (sSeq (sAttr ["Store"] "rows" (fVar 0) (fFz (oLst (fNil)))) (sSeq (sAttr ["Store"] "past" (fVar 0) (fAl (oLst (fNil)))) (sSeq (sAttr ["Store"] "future" (fVar 0) (fAl (oLst (fNil)))) (sSeq (sAttr ["Store"] "algebras" (fVar 0) (fAl oDic0)) (sSeq (sAttr ["Store"] "many" (fVar 0) (fK (.int 0))) (sAttr ["Store"] "is_at_work" (fVar 0) (fK (.bl false))))))))))
def F_Store___init__ : Fn := bodyF g_Store___init__ 2
def g_Store_looked_at : Fs := sRet (fVar 1)
def F_Store_looked_at : Fn := bodyF g_Store_looked_at 2
def g_Store_put : Fs := sSeq (sAttr ["Store"] "entries" (fVar 0) (fVar 1)) (sAttr ["Store"] "rows" (fVar 0) (fFz (lockO (fVar 1) (oLc (iKeysD (fVar 1)) (gN 2) (tYesF) (fTup (fCons (fOp gIx (fOp gGetDil (fVar 1) (fVar 2)) (fK (.int 0))) (fCons (fVar 2) (fCons (fMeth "Scheme" "text" F_Scheme_text (fOp gIx (fOp gGetDil (fVar 1) (fVar 2)) (fK (.int 1))) fNil) (fNil))))) [2]))))
def F_Store_put : Fn := bodyF g_Store_put 3
def b_Store_turn_to_0 : Fs := sIf (tAndF (tVal (fOp (gInDil false) (fVar 3) (fVar 1))) (tAndF (tVal (fOp gEq (fOp gIx (fOp gGetDil (fVar 1) (fVar 3)) (fK (.int 0))) (fK (.str "house")))) (tVal (fOp gEq (fOp gIx (fOp gGetDil (fVar 1) (fVar 3)) (fK (.int 1))) (fOp gIx (fOp gGetDil (fAttr ["Store"] "entries" (fVar 0)) (fVar 3)) (fK (.int 1))))))) (sPutDic (fOp gGetDil (fAttr ["Store"] "algebras" (fVar 0)) (fVar 3)) (fVar 2) (fVar 3)) (sNil)
def g_Store_turn_to : Fs := sSeq (sSet 2 (fAl oDic0)) (sSeq (lockS (fAttr ["Store"] "algebras" (fVar 0)) (sFor (iKeysD (fAttr ["Store"] "algebras" (fVar 0))) (gN 3) b_Store_turn_to_0)) (sSeq (sAttr ["Store"] "algebras" (fVar 0) (fVar 2)) (sDrop (fMeth "Store" "put" F_Store_put (fVar 0) (fCons (fVar 1) (fNil))))))
def F_Store_turn_to : Fn := bodyF g_Store_turn_to 4
def b_Store_apply_0 : Fs := sSet 2 (fCall F_behind [] (fCons (fVar 2) (fCons (fAttr ["Store"] "own_limit" (fVar 0)) (fCons (fVar 3) (fNil)))))
def b_Store_apply_1 : Fs := sSeq (sSet 2 (fAttr ["Store"] "entries" (fVar 0))) (sSeq (sFor (iSeq (fVar 1)) (gN 3) b_Store_apply_0) (sSet 2 (fMeth "Store" "looked_at" F_Store_looked_at (fVar 0) (fCons (fVar 2) (fNil)))))
def g_Store_apply : Fs := sSeq (sAttr ["Store"] "is_at_work" (fVar 0) (fK (.bl true))) (sSeq (sFin b_Store_apply_1 (sAttr ["Store"] "is_at_work" (fVar 0) (fK (.bl false)))) (sSeq (sDrop (fAppR (fAttr ["Store"] "past" (fVar 0)) (fAttr ["Store"] "entries" (fVar 0)))) (sSeq (sAttr ["Store"] "future" (fVar 0) (fAl (oLst (fNil)))) (sDrop (fMeth "Store" "turn_to" F_Store_turn_to (fVar 0) (fCons (fVar 2) (fNil)))))))
def F_Store_apply : Fn := bodyF g_Store_apply 4
def g_Store_undo : Fs := sSeq (sIf (tVal (fNilQ (fAttr ["Store"] "past" (fVar 0)) false)) (sRaise "NothingLeft" [] fNil) (sNil)) (sSeq (sDrop (fAppR (fAttr ["Store"] "future" (fVar 0)) (fAttr ["Store"] "entries" (fVar 0)))) (sDrop (fMeth "Store" "turn_to" F_Store_turn_to (fVar 0) (fCons (fPop0R (fAttr ["Store"] "past" (fVar 0))) (fNil)))))
def F_Store_undo : Fn := bodyF g_Store_undo 1
def g_Store_redo : Fs := sSeq (sIf (tVal (fNilQ (fAttr ["Store"] "future" (fVar 0)) false)) (sRaise "NothingLeft" [] fNil) (sNil)) (sSeq (sDrop (fAppR (fAttr ["Store"] "past" (fVar 0)) (fAttr ["Store"] "entries" (fVar 0)))) (sDrop (fMeth "Store" "turn_to" F_Store_turn_to (fVar 0) (fCons (fPop0R (fAttr ["Store"] "future" (fVar 0))) (fNil)))))
def F_Store_redo : Fn := bodyF g_Store_redo 1
def g_Store_history : Fs := sRet (fTup (fCons (fB gLen (fCons (fAttr ["Store"] "past" (fVar 0)) (fNil))) (fCons (fB gLen (fCons (fAttr ["Store"] "future" (fVar 0)) (fNil))) (fNil))))
def F_Store_history : Fn := bodyF g_Store_history 1
def g_Store_names : Fs := sRet (fFz (lockO (fAttr ["Store"] "entries" (fVar 0)) (oLc (iKeysD (fAttr ["Store"] "entries" (fVar 0))) (gN 2) (tOrF (tVal (fOp gEq (fB gLen (fCons (fVar 1) (fNil))) (fK (.int 0)))) (tVal (fOp gIn (fOp gIx (fOp gGetDil (fAttr ["Store"] "entries" (fVar 0)) (fVar 2)) (fK (.int 0))) (fVar 1)))) (fVar 2) [2])))
def F_Store_names : Fn := bodyF g_Store_names 3
def g_Store___len__ : Fs := sRet (fB gLenD (fCons (fAttr ["Store"] "entries" (fVar 0)) (fNil)))
def F_Store___len__ : Fn := bodyF g_Store___len__ 1
abbrev F__law_bag := DL.F_bag
abbrev F__law_take := DL.F_take
abbrev F__law_like := DL.F_like
def s_910 : Fs := sDrop (fMethV "Store" "apply" F_Store_apply (fVar 3) (fCons (fVar 7) (fNil)))
def b_law_1 : Fs := s_910
def s_913 : Fs := sRet (fK (.bl false))
def s_917 : Fs := sRet (fK (.bl false))
def s_919 : Fs := sDrop (fMeth "Store" "redo" F_Store_redo (fVar 3) fNil)
def s_920 : Fs := sDrop (fMeth "Store" "undo" F_Store_undo (fVar 3) fNil)
def s_924 : Fs := sRet (fK (.bl false))
def s_905 : Fs := sSet 1 (fCall F__law_bag [] (fCons (fVar 0) (fNil)))
def s_906 : Fs := sSet 2 (fOp gAdd (fK (.int 1)) (fCall F__law_take [] (fCons (fVar 1) (fCons (fK (.int 11)) (fNil)))))
def s_907 : Fs := sAsg (gT 2 (gsC (gN 3) (gsC (gN 4) (gsN)))) (fTup (fCons (fMakeR "Store" F_Store___init__ (fKw [0] (fCons (fVar 2) (fNil)))) (fCons (fTup (fCons (fK (.str "Full")) (fCons (fVar 2) (fNil)))) (fNil))))
def s_908 : Fs := sSet 5 (fFz (oLc (iText (fK (.str "abcdefghijklm"))) (gN 6) (tYesF) (fTup (fCons (fK (.str "scheme")) (fCons (fOp gAdd (fK (.str "n")) (fVar 6)) (fCons (fK (.str "a")) (fNil))))) [6]))
def s_909 : Fs := sFor (iSeq (fCut (fVar 5) pNo (pSome (fOp gSub (fVar 2) (fK (.int 1)))))) (gN 7) b_law_1
def s_911 : Fs := sSet 8 (fFz (oLst (fCons (fWhy KS F_field (fMethV "Store" "apply" F_Store_apply (fVar 3) (fCons (fOp gIx (fVar 5) (fK (.int 11))) (fCons (fOp gIx (fVar 5) (fK (.int 12))) (fNil))))) (fCons (fWhy KS F_field (fMethV "Store" "apply" F_Store_apply (fVar 3) (fCons (fOp gIx (fVar 5) (fK (.int 11))) (fNil)))) (fCons (fWhy KS F_field (fMethV "Store" "apply" F_Store_apply (fVar 3) (fCons (fOp gIx (fVar 5) (fK (.int 12))) (fCons (fTup (fCons (fK (.str "drop")) (fCons (fK (.str "nl")) (fNil)))) (fNil))))) (fCons (fWhy KS F_field (fMethV "Store" "apply" F_Store_apply (fVar 3) (fCons (fTup (fCons (fK (.str "drop")) (fCons (fK (.str "nl")) (fNil)))) (fCons (fOp gIx (fVar 5) (fK (.int 12))) (fNil))))) (fNil)))))))
def s_912 : Fs := sIf (tNotF (tVal (fCall (F__law_like 12) [] (fCons (fFz (oLst (fCons (fVar 8) (fCons (fOp gIx (fMethV "Store" "names" F_Store_names (fVar 3) fNil) (fUn gNeg (fK (.int 1)))) (fCons (fLenM "Store" F_Store___len__ (fVar 3)) (fCons (fMeth "Store" "history" F_Store_history (fVar 3) fNil) (fNil))))))) (fCons (fFz (oLst (fCons (fFz (oLst (fCons (fVar 4) (fCons (fTup (fCons (fK (.str "")) (fCons (fK .non) (fNil)))) (fCons (fVar 4) (fCons (fTup (fCons (fK (.str "")) (fCons (fK .non) (fNil)))) (fNil))))))) (fCons (fK (.str "nm")) (fCons (fVar 2) (fCons (fTup (fCons (fOp gAdd (fVar 2) (fK (.int 1))) (fCons (fK (.int 0)) (fNil)))) (fNil))))))) (fNil)))))) (s_913) (sNil)
def s_914 : Fs := sDrop (fMeth "Store" "undo" F_Store_undo (fVar 3) fNil)
def s_915 : Fs := sSet 9 (fFz (oLst (fCons (fWhy KS F_field (fMethV "Store" "apply" F_Store_apply (fVar 3) (fCons (fOp gIx (fVar 5) (fK (.int 12))) (fNil)))) (fCons (fMeth "Store" "history" F_Store_history (fVar 3) fNil) (fCons (fOp gIx (fMethV "Store" "names" F_Store_names (fVar 3) fNil) (fUn gNeg (fK (.int 1)))) (fNil))))))
def s_916 : Fs := sIf (tNotF (tVal (fCall (F__law_like 12) [] (fCons (fVar 9) (fCons (fFz (oLst (fCons (fVar 4) (fCons (fTup (fCons (fVar 2) (fCons (fK (.int 1)) (fNil)))) (fCons (fK (.str "nl")) (fNil)))))) (fNil)))))) (s_917) (sNil)
def s_918 : Fs := sIf (tVal (fOp gEq (fCall F__law_take [] (fCons (fVar 1) (fCons (fK (.int 2)) (fNil)))) (fK (.int 0)))) (sSeq (s_919) (s_920)) (sNil)
def s_921 : Fs := sDrop (fMethV "Store" "apply" F_Store_apply (fVar 3) fNil)
def s_922 : Fs := sSet 9 (fFz (oLst (fCons (fMeth "Store" "history" F_Store_history (fVar 3) fNil) (fCons (fWhy KS F_field (fMeth "Store" "redo" F_Store_redo (fVar 3) fNil)) (fCons (fOp gIx (fMethV "Store" "names" F_Store_names (fVar 3) fNil) (fUn gNeg (fK (.int 1)))) (fCons (fLenM "Store" F_Store___len__ (fVar 3)) (fNil)))))))
def s_923 : Fs := sIf (tNotF (tVal (fCall (F__law_like 12) [] (fCons (fVar 9) (fCons (fFz (oLst (fCons (fTup (fCons (fOp gAdd (fVar 2) (fK (.int 1))) (fCons (fK (.int 0)) (fNil)))) (fCons (fTup (fCons (fK (.str "NothingLeft")) (fCons (fK .non) (fNil)))) (fCons (fK (.str "nl")) (fCons (fVar 2) (fNil))))))) (fNil)))))) (s_924) (sNil)
def s_925 : Fs := sDrop (fMeth "Store" "undo" F_Store_undo (fVar 3) fNil)
def s_926 : Fs := sDrop (fMethV "Store" "apply" F_Store_apply (fVar 3) (fCons (fTup (fCons (fK (.str "drop")) (fCons (fK (.str "nl")) (fNil)))) (fNil)))
def s_927 : Fs := sDrop (fMeth "Store" "undo" F_Store_undo (fVar 3) fNil)
def s_928 : Fs := sRet (fCall (F__law_like 12) [] (fCons (fFz (oLst (fCons (fOp gIx (fMethV "Store" "names" F_Store_names (fVar 3) fNil) (fUn gNeg (fK (.int 1)))) (fCons (fMeth "Store" "history" F_Store_history (fVar 3) fNil) (fCons (fLenM "Store" F_Store___len__ (fVar 3)) (fNil)))))) (fCons (fFz (oLst (fCons (fK (.str "nl")) (fCons (fTup (fCons (fVar 2) (fCons (fK (.int 1)) (fNil)))) (fCons (fVar 2) (fNil)))))) (fNil))))
def g_law : Fs := sSeq (s_905) (sSeq (s_906) (sSeq (s_907) (sSeq (s_908) (sSeq (s_909) (sSeq (s_911) (sSeq (s_912) (sSeq (s_914) (sSeq (s_915) (sSeq (s_916) (sSeq (s_918) (sSeq (s_921) (sSeq (s_922) (sSeq (s_923) (sSeq (s_925) (sSeq (s_926) (sSeq (s_927) (s_928)))))))))))))))))
def F_law : Fn := bodyF g_law 10
section
variable {P : Program} {w : World} {K : PySem.W.Frag} {mg : Str → Option Value} {base : Heap}
theorem why_mk (T : Txt w K mg) {c1 c2 c3 : Value} (m1 : mg "LoomError" = some c1) (m2 : mg "Missing" = some c2) (m3 : mg "NothingLeft" = some c3) (hks : ∀ c ∈ KS, ∃ C, Caught K [c1, c2, c3] c C) : WhyAt P w K mg base 0 "_law_why" "_law_field" "_law_ask" "_law_e" "_law_e" st__law_why KS F_field := by
  obtain ⟨g, fd, h1, h2, h3⟩ := T.d__law_why
  obtain ⟨ff, fdf, g1, g2, g3⟩ := T.d__law_field
  have nd : (N__law_field).Nodup := sc__law_field.nd
  refine ⟨g, ff, fd, fdf, 1, c1, c2, c3, h1, h2, h3, g1, g2.kp, g3, by decide, fld_mk (k := 0) (N := N__law_field) (g := fieldS) g2 sc__law_field rfl field_hF (fun cdv A outer s H a oe n C dx hr hz hfl hc => ?_), hks, m1, m2, m3⟩
  exact dss_cons (ds_if (dt_cmp (op_inG (un65H hr)) snd_in (de_exc hc.xf (hc.no "code" (by simp)) hz hfl List.mem_cons_self (de_var 0)) (de_tup (da_cons (de_str) (da_cons (de_str) (da_cons (de_str) (da_cons (de_str) (da_cons (de_str) (da_cons (de_str) (da_nil))))))) (len_cons (len_cons (len_cons (len_cons (len_cons (len_cons len_nil)))))))) (dss_one (ds_ret (de_exc hc.xf (hc.no "given" (by simp)) hz hfl List.mem_cons_self (de_var 0)))) (dss_nil)) (dss_cons (ds_if (dt_cmp (op_inG (un65H hr)) snd_in (de_exc hc.xf (hc.no "code" (by simp)) hz hfl List.mem_cons_self (de_var 0)) (de_tup (da_cons (de_str) (da_cons (de_str) (da_nil))) (len_cons (len_cons len_nil)))) (dss_one (ds_ret (de_exc hc.xf (hc.no "path" (by simp)) hz hfl List.mem_cons_self (de_var 0)))) (dss_nil)) (dss_cons (ds_if (dt_cmp (op_inG (un65H hr)) snd_in (de_exc hc.xf (hc.no "code" (by simp)) hz hfl List.mem_cons_self (de_var 0)) (de_tup (da_cons (de_str) (da_cons (de_str) (da_cons (de_str) (da_cons (de_str) (da_nil))))) (len_cons (len_cons (len_cons (len_cons len_nil)))))) (dss_one (ds_ret (de_exc hc.xf (hc.no "name" (by simp)) hz hfl List.mem_cons_self (de_var 0)))) (dss_nil)) (dss_cons (ds_if (dt_cmp (op_inG (un65H hr)) snd_in (de_exc hc.xf (hc.no "code" (by simp)) hz hfl List.mem_cons_self (de_var 0)) (de_tup (da_cons (de_str) (da_cons (de_str) (da_nil))) (len_cons (len_cons len_nil)))) (dss_one (ds_ret (de_if (dt_cmp (op_eqD (unH hr)) snd_eq (de_exc hc.xf (hc.no "code" (by simp)) hz hfl List.mem_cons_self (de_var 0)) (de_str)) (de_exc hc.xf (hc.no "part" (by simp)) hz hfl List.mem_cons_self (de_var 0)) (de_exc hc.xf (hc.no "word" (by simp)) hz hfl List.mem_cons_self (de_var 0))))) (dss_nil)) (dss_cons (ds_if (dt_cmp (op_eqD (unH hr)) snd_eq (de_exc hc.xf (hc.no "code" (by simp)) hz hfl List.mem_cons_self (de_var 0)) (de_str)) (dss_one (ds_ret (de_tup (da_cons (de_exc hc.xf (hc.no "subject" (by simp)) hz hfl List.mem_cons_self (de_var 0)) (da_cons (de_exc hc.xf (hc.no "most" (by simp)) hz hfl List.mem_cons_self (de_var 0)) (da_nil))) (len_cons (len_cons len_nil))))) (dss_nil)) (dss_cons (ds_if (dt_cmp (op_eqD (unH hr)) snd_eq (de_exc hc.xf (hc.no "code" (by simp)) hz hfl List.mem_cons_self (de_var 0)) (de_str)) (dss_one (ds_bad)) (dss_nil)) (dss_cons (ds_if (dt_cmp (op_inG (un65H hr)) snd_in (de_exc hc.xf (hc.no "code" (by simp)) hz hfl List.mem_cons_self (de_var 0)) (de_tup (da_cons (de_str) (da_cons (de_str) (da_nil))) (len_cons (len_cons len_nil)))) (dss_one (ds_ret (de_if (dt_cmp (op_eqD (unH hr)) snd_eq (de_exc hc.xf (hc.no "code" (by simp)) hz hfl List.mem_cons_self (de_var 0)) (de_str)) (de_exc hc.xf (hc.no "most" (by simp)) hz hfl List.mem_cons_self (de_var 0)) (de_exc hc.xf (hc.no "line" (by simp)) hz hfl List.mem_cons_self (de_var 0))))) (dss_nil)) (dss_one (ds_ret (de_non)))))))))
theorem ok_is_number (T : Txt w K mg)      : Has true P w K mg base "is_number" st_is_number 1 ["value"] F_is_number := by
  refine has_of (N := N_is_number) (k := 0) T.d_is_number sc_is_number rfl fun fa cdv A outer s H E hr => ?_
  have nd : (N_is_number).Nodup := sc_is_number.nd
  have tk : TakesM true (cxOf (CXm true P w) P w K mg base N_is_number "is_number" (defScope st_is_number) fa cdv A outer s H E) (fun c d _ H' => E c d H') := takesM_of rfl rfl rfl rfl
  exact dss_one (ds_ret (de_and (de_callB call_isi3 snd_isi rfl T.b_isinstance (by decide +kernel) (da_cons (de_var 0) (da_cons (de_ty rfl T.b_int (by decide +kernel)) (da_nil)))) (de_one (de_not (de_callB call_isi3 snd_isi rfl T.b_isinstance (by decide +kernel) (da_cons (de_var 0) (da_cons (de_ty rfl T.b_bool (by decide +kernel)) (da_nil))))))))
theorem ok_is_within (T : Txt w K mg) (h_is_number : Has true P w K mg base "is_number" st_is_number 1 ["value"] F_is_number)     : Has true P w K mg base "is_within" st_is_within 2 ["value", "low", "high"] F_is_within := by
  refine has_of (N := N_is_within) (k := 1) T.d_is_within sc_is_within rfl fun fa cdv A outer s H E hr => ?_
  have nd : (N_is_within).Nodup := sc_is_within.nd
  have tk : TakesM true (cxOf (CXm true P w) P w K mg base N_is_within "is_within" (defScope st_is_within) fa cdv A outer s H E) (fun c d _ H' => E c d H') := takesM_of rfl rfl rfl rfl
  exact dss_one (ds_ret (de_and (de_own h_is_number hr (by decide) tk.to rfl (da_cons (de_var 0) (da_nil)) (len_cons len_nil)) (de_one (de_chain op_le snd_le op_le snd_le (de_var 1) (de_var 0) (de_var 2)))))
theorem ok_is_sign (T : Txt w K mg)      : Has true P w K mg base "is_sign" st_is_sign 1 ["value"] F_is_sign := by
  refine has_of (N := N_is_sign) (k := 0) T.d_is_sign sc_is_sign rfl fun fa cdv A outer s H E hr => ?_
  have nd : (N_is_sign).Nodup := sc_is_sign.nd
  have tk : TakesM true (cxOf (CXm true P w) P w K mg base N_is_sign "is_sign" (defScope st_is_sign) fa cdv A outer s H E) (fun c d _ H' => E c d H') := takesM_of rfl rfl rfl rfl
  exact dss_one (ds_ret (de_and (de_callB call_isi3 snd_isi rfl T.b_isinstance (by decide +kernel) (da_cons (de_var 0) (da_cons (de_ty rfl T.b_str (by decide +kernel)) (da_nil)))) (de_and (de_cmp (op_eqD hr.units) snd_eq (de_callB call_len2 snd_len rfl T.b_len (by decide +kernel) (da_cons (de_var 0) (da_nil))) (de_int)) (de_one (de_cmp (op_inG (un65 hr)) snd_in (de_var 0) (de_globD rfl T.c_LETTERS))))))
theorem ok_is_name (T : Txt w K mg) (h_is_sign : Has true P w K mg base "is_sign" st_is_sign 1 ["value"] F_is_sign)     : Has true P w K mg base "is_name" st_is_name 2 ["value"] F_is_name := by
  refine has_of (N := N_is_name) (k := 1) T.d_is_name sc_is_name rfl fun fa cdv A outer s H E hr => ?_
  have nd : (N_is_name).Nodup := sc_is_name.nd
  have tk : TakesM true (cxOf (CXm true P w) P w K mg base N_is_name "is_name" (defScope st_is_name) fa cdv A outer s H E) (fun c d _ H' => E c d H') := takesM_of rfl rfl rfl rfl
  exact dss_one (ds_ret (de_and (de_callB call_isi3 snd_isi rfl T.b_isinstance (by decide +kernel) (da_cons (de_var 0) (da_cons (de_ty rfl T.b_str (by decide +kernel)) (da_nil)))) (de_and (de_chain op_le snd_le op_le snd_le (de_int) (de_callB call_len2 snd_len rfl T.b_len (by decide +kernel) (da_cons (de_var 0) (da_nil))) (de_int)) (de_one (de_callB (cr_all rfl) snd_all rfl T.b_all (by decide +kernel) (da_cons (de_fz (do_lc (own := [("sign", 1)]) rfl nd (di_text (de_var 0)) (blkOk_by (N := N_is_name) (sc := (defScope st_is_name)) (by decide +kernel)) (fun _ _ _ _ _ => dg_name 1 nd) (fun _ _ _ _ _ => dts_nil) (fun _ _ _ _ _ => de_own h_is_sign hr (by decide) takesM0 rfl (da_cons (de_var 1) (da_nil)) (len_cons len_nil)))) (da_nil)))))))
theorem ok_deepest (T : Txt w K mg)      : Has true P w K mg base "deepest" st_deepest 1 ["text"] F_deepest := by
  refine has_of (N := N_deepest) (k := 0) T.d_deepest sc_deepest rfl fun fa cdv A outer s H E hr => ?_
  have nd : (N_deepest).Nodup := sc_deepest.nd
  have tk : TakesM true (cxOf (CXm true P w) P w K mg base N_deepest "deepest" (defScope st_deepest) fa cdv A outer s H E) (fun c d _ H' => E c d H') := takesM_of rfl rfl rfl rfl
  exact dss_cons (ds_asg (de_tup (da_cons (de_int) (da_cons (de_int) (da_nil))) (len_cons (len_cons len_nil))) (dg_tup rfl (dgs_cons (dg_name 1 nd) (dgs_cons (dg_name 2 nd) (dgs_nil))))) (dss_cons (ds_for (passes_of rfl) rfl (di_text (de_var 0)) (dg_name 3 nd) (dss_cons (ds_if (dt_cmp (op_inG (un65 hr)) snd_in (de_var 3) (de_str)) (dss_one (ds_set 2 (de_op op_add4 snd_add (de_var 2) (de_int)) nd)) (dss_one (ds_if (dt_cmp (op_inG (un65 hr)) snd_in (de_var 3) (de_str)) (dss_one (ds_set 2 (de_op op_sub snd_sub (de_var 2) (de_int)) nd)) (dss_nil)))) (dss_one (ds_set 1 (de_callB (call_max2 rfl) snd_max2 rfl T.b_max (by decide +kernel) (da_cons (de_var 1) (da_cons (de_var 2) (da_nil)))) nd)))) (dss_one (ds_ret (de_var 1))))
theorem ok_read_row (T : Txt w K mg) (h_is_sign : Has true P w K mg base "is_sign" st_is_sign 1 ["value"] F_is_sign)   (e_InvalidText : Err P w K mg base "InvalidText" ["given"])  : ∀ k : Nat, Has true P w K mg base "read_row" st_read_row (3 + k) ["text", "at"] (F_read_row k) ∧ Has true P w K mg base "read_part" st_read_part (3 + k) ["text", "at"] (F_read_part k) ∧ Has true P w K mg base "read_parts" st_read_parts (3 + k) ["text", "at", "gap"] (F_read_parts k)
  | 0 => ⟨has_no T.d_read_row, has_no T.d_read_part, has_no T.d_read_parts⟩
  | k + 1 => by
    have ih := ok_read_row T h_is_sign   e_InvalidText  k
    obtain ⟨h_read_row, h_read_part, h_read_parts⟩ := ih
    refine ⟨?_, ?_, ?_⟩
    · exact has_of (N := N_read_row) (k := 3 + k) T.d_read_row sc_read_row rfl fun fa cdv A outer s H E hr => by
        have nd : (N_read_row).Nodup := sc_read_row.nd
        have tk : TakesM true (cxOf (CXm true P w) P w K mg base N_read_row "read_row" (defScope st_read_row) fa cdv A outer s H E) (fun c d _ H' => E c d H') := takesM_of rfl rfl rfl rfl
        exact dss_cons (ds_setO 2 (do_lst (da_nil) len_nil) nd) (dss_one (ds_wh (fun _ _ => 600) (passes_of rfl) (dt_val (de_bl)) (dss_cons (ds_asg (de_own h_read_part hr (Nat.le_refl _) tk.to rfl (da_cons (de_var 0) (da_cons (de_var 1) (da_nil))) (len_cons (len_cons len_nil))) (dg_tup rfl (dgs_cons (dg_name 3 nd) (dgs_cons (dg_name 1 nd) (dgs_nil))))) (dss_cons (ds_wh (fun _ _ => 600) (passes_of rfl) (dt_cmp (op_eqD hr.units) snd_eq (de_cut (de_var 0) (dp_some (de_var 1)) (dp_some (de_op op_add4 snd_add (de_var 1) (de_int)))) (de_str)) (dss_one (ds_par 3 1 rfl nd (dx_v (de_tup (da_cons (de_str) (da_cons (de_var 3) (da_nil))) (len_cons (len_cons len_nil)))) (dx_v (de_op op_add4 snd_add (de_var 1) (de_int)))))) (dss_cons (ds_app2 2 (de_var 3) (fun _ q => pe_bm PySem.F.plainAttrs_list PySem.F.slot_list_append PySem.F.type_list_append mt_append (pv 2) (pa_cons q pa_nil))) (dss_cons (ds_if (DW.t (dw_or (dt_cmp (op_neD hr.units) snd_ne (de_cut (de_var 0) (dp_some (de_var 1)) (dp_some (de_op op_add4 snd_add (de_var 1) (de_int)))) (de_str)) (dw_or1 (dt_cmp (op_inG (un65 hr)) snd_in (de_cut (de_var 0) (dp_some (de_var 1)) (dp_some (de_op op_add4 snd_add (de_var 1) (de_int)))) (de_tup (da_cons (de_str) (da_cons (de_str) (da_nil))) (len_cons (len_cons len_nil))))))) (dss_fz 2 (dss_one (ds_ret (de_tup (da_cons (de_if (dt_cmp (op_eqD hr.units) snd_eq (de_callB call_len2 snd_len rfl T.b_len (by decide +kernel) (da_cons (de_var 2) (da_nil))) (de_int)) (de_ix ix_seq snd_ix (de_var 2) (de_int)) (de_tupS (da_cons (de_str) (da_star (de_var 2) (da_nil))))) (da_cons (de_var 1) (da_nil))) (len_cons (len_cons len_nil)))))) (dss_nil)) (dss_one (ds_set 1 (de_op op_add4 snd_add (de_var 1) (de_int)) nd))))))))
    · exact has_of (N := N_read_part) (k := 3 + k) T.d_read_part sc_read_part rfl fun fa cdv A outer s H E hr => by
        have nd : (N_read_part).Nodup := sc_read_part.nd
        have tk : TakesM true (cxOf (CXm true P w) P w K mg base N_read_part "read_part" (defScope st_read_part) fa cdv A outer s H E) (fun c d _ H' => E c d H') := takesM_of rfl rfl rfl rfl
        exact dss_cons (ds_set 2 (de_cut (de_var 0) (dp_some (de_var 1)) (dp_some (de_op op_add4 snd_add (de_var 1) (de_int)))) nd) (dss_cons (ds_if (dt_val (de_own h_is_sign hr (by omega) tk.to rfl (da_cons (de_var 2) (da_nil)) (len_cons len_nil))) (dss_one (ds_ret (de_tup (da_cons (de_var 2) (da_cons (de_op op_add4 snd_add (de_var 1) (de_int)) (da_nil))) (len_cons (len_cons len_nil))))) (dss_nil)) (dss_cons (ds_if (dt_cmp (op_eqD hr.units) snd_eq (de_var 2) (de_str)) (dss_cons (ds_asg (de_own h_read_parts hr (Nat.le_refl _) tk.to rfl (da_cons (de_var 0) (da_cons (de_op op_add4 snd_add (de_var 1) (de_int)) (da_cons (de_str) (da_nil)))) (len_cons (len_cons (len_cons len_nil)))) (dg_tup rfl (dgs_cons (dg_name 3 nd) (dgs_cons (dg_name 1 nd) (dgs_nil))))) (dss_one (ds_if (DW.t (dw_and (dt_cmp (op_eqD hr.units) snd_eq (de_cut (de_var 0) (dp_some (de_var 1)) (dp_some (de_op op_add4 snd_add (de_var 1) (de_int)))) (de_str)) (dw_and1 (dt_cmp op_gt snd_gt (de_callB call_len2 snd_len rfl T.b_len (by decide +kernel) (da_cons (de_var 3) (da_nil))) (de_int))))) (dss_one (ds_ret (de_tup (da_cons (de_tupS (da_cons (de_str) (da_star (de_var 3) (da_nil)))) (da_cons (de_op op_add4 snd_add (de_var 1) (de_int)) (da_nil))) (len_cons (len_cons len_nil))))) (dss_nil)))) (dss_nil)) (dss_cons (ds_if (dt_cmp (op_eqD hr.units) snd_eq (de_var 2) (de_str)) (dss_cons (ds_asg (de_own h_read_parts hr (Nat.le_refl _) tk.to rfl (da_cons (de_var 0) (da_cons (de_op op_add4 snd_add (de_var 1) (de_int)) (da_cons (de_str) (da_nil)))) (len_cons (len_cons (len_cons len_nil)))) (dg_tup rfl (dgs_cons (dg_name 3 nd) (dgs_cons (dg_name 1 nd) (dgs_nil))))) (dss_cons (ds_if (DW.t (dw_and (dt_cmp (op_eqD hr.units) snd_eq (de_cut (de_var 0) (dp_some (de_var 1)) (dp_some (de_op op_add4 snd_add (de_var 1) (de_int)))) (de_str)) (dw_and1 (dt_cmp (op_eqD hr.units) snd_eq (de_callB call_len2 snd_len rfl T.b_len (by decide +kernel) (da_cons (de_var 3) (da_nil))) (de_int))))) (dss_one (ds_ret (de_tup (da_cons (de_ix ix_seq snd_ix (de_var 3) (de_int)) (da_cons (de_op op_add4 snd_add (de_var 1) (de_int)) (da_nil))) (len_cons (len_cons len_nil))))) (dss_nil)) (dss_one (ds_if (DW.t (dw_and (dt_cmp (op_eqD hr.units) snd_eq (de_cut (de_var 0) (dp_some (de_var 1)) (dp_some (de_op op_add4 snd_add (de_var 1) (de_int)))) (de_str)) (dw_and1 (dt_cmp op_gt snd_gt (de_callB call_len2 snd_len rfl T.b_len (by decide +kernel) (da_cons (de_var 3) (da_nil))) (de_int))))) (dss_one (ds_ret (de_tup (da_cons (de_tupS (da_cons (de_str) (da_star (de_var 3) (da_nil)))) (da_cons (de_op op_add4 snd_add (de_var 1) (de_int)) (da_nil))) (len_cons (len_cons len_nil))))) (dss_nil))))) (dss_nil)) (dss_one (ds_raise e_InvalidText (hr.mono (by omega)) rfl tk rfl (da_cons (de_var 0) (da_nil)))))))
    · exact has_of (N := N_read_parts) (k := 3 + k) T.d_read_parts sc_read_parts rfl fun fa cdv A outer s H E hr => by
        have nd : (N_read_parts).Nodup := sc_read_parts.nd
        have tk : TakesM true (cxOf (CXm true P w) P w K mg base N_read_parts "read_parts" (defScope st_read_parts) fa cdv A outer s H E) (fun c d _ H' => E c d H') := takesM_of rfl rfl rfl rfl
        exact dss_cons (ds_asg (de_own h_read_row hr (Nat.le_refl _) tk.to rfl (da_cons (de_var 0) (da_cons (de_var 1) (da_nil))) (len_cons (len_cons len_nil))) (dg_tup rfl (dgs_cons (dg_name 3 nd) (dgs_cons (dg_name 1 nd) (dgs_nil))))) (dss_cons (ds_setO 4 (do_lst (da_cons (de_var 3) (da_nil)) (len_cons len_nil)) nd) (dss_cons (ds_wh (fun _ _ => 600) (passes_of rfl) (dt_cmp (op_eqD hr.units) snd_eq (de_cut (de_var 0) (dp_some (de_var 1)) (dp_some (de_op op_add4 snd_add (de_var 1) (de_int)))) (de_var 2)) (dss_cons (ds_asg (de_own h_read_row hr (Nat.le_refl _) tk.to rfl (da_cons (de_var 0) (da_cons (de_op op_add4 snd_add (de_var 1) (de_int)) (da_nil))) (len_cons (len_cons len_nil))) (dg_tup rfl (dgs_cons (dg_name 3 nd) (dgs_cons (dg_name 1 nd) (dgs_nil))))) (dss_one (ds_app2 4 (de_var 3) (fun _ q => pe_bm PySem.F.plainAttrs_list PySem.F.slot_list_append PySem.F.type_list_append mt_append (pv 4) (pa_cons q pa_nil)))))) (dss_fz 4 (dss_one (ds_ret (de_tup (da_cons (de_var 4) (da_cons (de_var 1) (da_nil))) (len_cons (len_cons len_nil))))))))
theorem ok_read_row_ (T : Txt w K mg) (h_is_sign : Has true P w K mg base "is_sign" st_is_sign 1 ["value"] F_is_sign)   (e_InvalidText : Err P w K mg base "InvalidText" ["given"])  (k : Nat) : Has true P w K mg base "read_row" st_read_row (3 + k) ["text", "at"] (F_read_row k) := (ok_read_row T h_is_sign   e_InvalidText  k).1
theorem ok_read_part_ (T : Txt w K mg) (h_is_sign : Has true P w K mg base "is_sign" st_is_sign 1 ["value"] F_is_sign)   (e_InvalidText : Err P w K mg base "InvalidText" ["given"])  (k : Nat) : Has true P w K mg base "read_part" st_read_part (3 + k) ["text", "at"] (F_read_part k) := (ok_read_row T h_is_sign   e_InvalidText  k).2.1
theorem ok_read_parts_ (T : Txt w K mg) (h_is_sign : Has true P w K mg base "is_sign" st_is_sign 1 ["value"] F_is_sign)   (e_InvalidText : Err P w K mg base "InvalidText" ["given"])  (k : Nat) : Has true P w K mg base "read_parts" st_read_parts (3 + k) ["text", "at", "gap"] (F_read_parts k) := (ok_read_row T h_is_sign   e_InvalidText  k).2.2
theorem ok_read_tree (T : Txt w K mg) (h_deepest : Has true P w K mg base "deepest" st_deepest 1 ["text"] F_deepest) (h_read_row : Has true P w K mg base "read_row" st_read_row 63 ["text", "at"] (F_read_row 60))   (e_InvalidText : Err P w K mg base "InvalidText" ["given"])  : Has true P w K mg base "read_tree" st_read_tree 64 ["text"] F_read_tree := by
  refine has_of (N := N_read_tree) (k := 63) T.d_read_tree sc_read_tree rfl fun fa cdv A outer s H E hr => ?_
  have nd : (N_read_tree).Nodup := sc_read_tree.nd
  have tk : TakesM true (cxOf (CXm true P w) P w K mg base N_read_tree "read_tree" (defScope st_read_tree) fa cdv A outer s H E) (fun c d _ H' => E c d H') := takesM_of rfl rfl rfl rfl
  exact dss_cons (ds_if (DW.t (dw_or (dt_not (dt_val (de_callB call_isi3 snd_isi rfl T.b_isinstance (by decide +kernel) (da_cons (de_var 0) (da_cons (de_ty rfl T.b_str (by decide +kernel)) (da_nil)))))) (dw_or1 (dt_cmp op_gt snd_gt (de_own h_deepest hr (by decide) tk.to rfl (da_cons (de_var 0) (da_nil)) (len_cons len_nil)) (de_globD rfl T.c_MOST_BRACKETS))))) (dss_one (ds_raise e_InvalidText (hr.mono (by decide)) rfl tk rfl (da_cons (de_var 0) (da_nil)))) (dss_nil)) (dss_cons (ds_asg (de_own h_read_row hr (by decide) tk.to rfl (da_cons (de_var 0) (da_cons (de_int) (da_nil))) (len_cons (len_cons len_nil))) (dg_tup rfl (dgs_cons (dg_name 1 nd) (dgs_cons (dg_name 2 nd) (dgs_nil))))) (dss_cons (ds_if (dt_cmp (op_neD hr.units) snd_ne (de_var 2) (de_callB call_len2 snd_len rfl T.b_len (by decide +kernel) (da_cons (de_var 0) (da_nil)))) (dss_one (ds_raise e_InvalidText (hr.mono (by decide)) rfl tk rfl (da_cons (de_var 0) (da_nil)))) (dss_nil)) (dss_one (ds_ret (de_var 1)))))
theorem ok_scheme_fault (T : Txt w K mg) (h_is_sign : Has true P w K mg base "is_sign" st_is_sign 1 ["value"] F_is_sign)     : ∀ k : Nat, Has true P w K mg base "scheme_fault" st_scheme_fault (1 + k) ["value", "path", "is_in_row", "seen"] (F_scheme_fault k)
  | 0 => has_no T.d_scheme_fault
  | k + 1 => by
    have ih := ok_scheme_fault T h_is_sign     k
    have h_scheme_fault := ih
    · exact has_of (N := N_scheme_fault) (k := 1 + k) T.d_scheme_fault sc_scheme_fault rfl fun fa cdv A outer s H E hr => by
        have nd : (N_scheme_fault).Nodup := sc_scheme_fault.nd
        have tk : TakesM true (cxOf (CXm true P w) P w K mg base N_scheme_fault "scheme_fault" (defScope st_scheme_fault) fa cdv A outer s H E) (fun c d _ H' => E c d H') := takesM_of rfl rfl rfl rfl
        exact dss_cons (ds_if (dt_cmp op_ge snd_ge (de_callB call_len2 snd_len rfl T.b_len (by decide +kernel) (da_cons (de_var 1) (da_nil))) (de_globD rfl T.c_MOST_NESTED)) (dss_one (ds_ret (de_var 1))) (dss_nil)) (dss_cons (ds_if (dt_val (de_own h_is_sign hr (by omega) tk.to rfl (da_cons (de_var 0) (da_nil)) (len_cons len_nil))) (dss_cons (ds_drop (de_appR (de_var 3) (de_var 0) (fun _ _ _ hm p q => pe_bm PySem.F.plainAttrs_list PySem.F.slot_list_append PySem.F.type_list_append hm p (pa_cons q pa_nil)))) (dss_one (ds_ret (de_if (dt_cmp op_gt snd_gt (de_callB call_len2 snd_len rfl T.b_len (by decide +kernel) (da_cons (de_var 3) (da_nil))) (de_globD rfl T.c_MOST_SIGNS_schemes)) (de_var 1) (de_non))))) (dss_nil)) (dss_cons (ds_if (DW.t (dw_or (dt_not (dt_val (de_callB call_isi3 snd_isi rfl T.b_isinstance (by decide +kernel) (da_cons (de_var 0) (da_cons (de_ty rfl T.b_tuple (by decide +kernel)) (da_nil)))))) (dw_or (dt_cmp op_lt snd_lt (de_callB call_len2 snd_len rfl T.b_len (by decide +kernel) (da_cons (de_var 0) (da_nil))) (de_int)) (dw_or (dt_not (dt_val (de_callB call_isi3 snd_isi rfl T.b_isinstance (by decide +kernel) (da_cons (de_ix ix_seq snd_ix (de_var 0) (de_int)) (da_cons (de_ty rfl T.b_str (by decide +kernel)) (da_nil)))))) (dw_or1 (dt_ninT rfl T.t_PARTS (de_ix ix_seq snd_ix (de_var 0) (de_int)))))))) (dss_one (ds_ret (de_var 1))) (dss_nil)) (dss_cons (ds_asg (de_dct rfl T.t_PARTS (de_ix ix_seq snd_ix (de_var 0) (de_int))) (dg_tup rfl (dgs_cons (dg_name 4 nd) (dgs_cons (dg_name 5 nd) (dgs_nil))))) (dss_cons (ds_if (DW.t (dw_or (dt_not (dt_chain op_le snd_le op_le snd_le (de_var 4) (de_op op_sub snd_sub (de_callB call_len2 snd_len rfl T.b_len (by decide +kernel) (da_cons (de_var 0) (da_nil))) (de_int)) (de_var 5))) (dw_or1 (DW.t (dw_and (dt_val (de_var 2)) (dw_and1 (dt_cmp (op_eqD hr.units) snd_eq (de_ix ix_seq snd_ix (de_var 0) (de_int)) (de_str)))))))) (dss_one (ds_ret (de_var 1))) (dss_nil)) (dss_cons (ds_for (passes_of rfl) rfl (di_num rfl T.b_enumerate (da_cons (de_cut (de_var 0) (dp_some (de_int)) dp_no) (da_nil))) (dg_tup rfl (dgs_cons (dg_name 6 nd) (dgs_cons (dg_name 7 nd) (dgs_nil)))) (dss_cons (ds_set 8 (de_own h_scheme_fault hr (Nat.le_refl _) tk.to rfl (da_cons (de_var 7) (da_cons (de_op op_add4 snd_add (de_var 1) (de_tup (da_cons (de_var 6) (da_nil)) (len_cons len_nil))) (da_cons (de_cmp (op_eqD hr.units) snd_eq (de_ix ix_seq snd_ix (de_var 0) (de_int)) (de_str)) (da_cons (de_var 3) (da_nil))))) (len_cons (len_cons (len_cons (len_cons len_nil))))) nd) (dss_one (ds_if (dt_cmp op_notN snd_isnot (de_var 8) (de_non)) (dss_one (ds_ret (de_var 8))) (dss_nil))))) (dss_one (ds_ret (de_non))))))))
theorem ok_scheme_text (T : Txt w K mg)      : ∀ k : Nat, Has true P w K mg base "scheme_text" st_scheme_text (0 + k) ["tree"] (F_scheme_text k)
  | 0 => has_no T.d_scheme_text
  | k + 1 => by
    have ih := ok_scheme_text T      k
    have h_scheme_text := ih
    · exact has_of (N := N_scheme_text) (k := 0 + k) T.d_scheme_text sc_scheme_text rfl fun fa cdv A outer s H E hr => by
        have nd : (N_scheme_text).Nodup := sc_scheme_text.nd
        have tk : TakesM true (cxOf (CXm true P w) P w K mg base N_scheme_text "scheme_text" (defScope st_scheme_text) fa cdv A outer s H E) (fun c d _ H' => E c d H') := takesM_of rfl rfl rfl rfl
        exact dss_cons (ds_if (dt_val (de_callB call_isi3 snd_isi rfl T.b_isinstance (by decide +kernel) (da_cons (de_var 0) (da_cons (de_ty rfl T.b_str (by decide +kernel)) (da_nil))))) (dss_one (ds_ret (de_var 0))) (dss_nil)) (dss_cons (ds_if (dt_cmp (op_eqD hr.units) snd_eq (de_ix ix_seq snd_ix (de_var 0) (de_int)) (de_str)) (dss_cons (ds_set 1 (de_own h_scheme_text hr (Nat.le_refl _) tk.to rfl (da_cons (de_ix ix_seq snd_ix (de_var 0) (de_int)) (da_nil)) (len_cons len_nil)) nd) (dss_one (ds_ret (de_if (DW.t (dw_and (dt_val (de_callB call_isi3 snd_isi rfl T.b_isinstance (by decide +kernel) (da_cons (de_ix ix_seq snd_ix (de_var 0) (de_int)) (da_cons (de_ty rfl T.b_tuple (by decide +kernel)) (da_nil))))) (dw_and1 (dt_cmp (op_eqD hr.units) snd_eq (de_ix ix_seq snd_ix (de_ix ix_seq snd_ix (de_var 0) (de_int)) (de_int)) (de_str))))) (de_joined (.cons (de_str) (.cons (de_fmt (de_var 1)) (.cons (de_str) (.nil))))) (de_joined (.cons (de_fmt (de_var 1)) (.cons (de_str) (.nil)))))))) (dss_nil)) (dss_cons (ds_asg (de_dct rfl T.t_MARKS (de_ix ix_seq snd_ix (de_var 0) (de_int))) (dg_tup rfl (dgs_cons (dg_name 2 nd) (dgs_cons (dg_name 3 nd) (dgs_cons (dg_name 4 nd) (dgs_nil)))))) (dss_one (ds_ret (de_op op_add4 snd_add (de_op op_add4 snd_add (de_var 2) (de_join (de_var 3) (de_fz (do_lc (own := [("part", 5)]) rfl nd (di_seq (de_cut (de_var 0) (dp_some (de_int)) dp_no)) (blkOk_by (N := N_scheme_text) (sc := (defScope st_scheme_text)) (by decide +kernel)) (fun _ _ _ _ _ => dg_name 5 nd) (fun _ _ _ _ _ => dts_nil) (fun _ _ _ _ _ => de_own h_scheme_text hr (Nat.le_refl _) takesM0 rfl (da_cons (de_var 5) (da_nil)) (len_cons len_nil)))))) (de_var 4))))))
theorem ok_Scheme___init__ (T : Txt w K mg) (h_scheme_fault : Has true P w K mg base "scheme_fault" st_scheme_fault 13 ["value", "path", "is_in_row", "seen"] (F_scheme_fault 12))   (e_InvalidScheme : Err P w K mg base "InvalidScheme" ["path"])  : HasC true P w K mg base "Scheme" st_Scheme___init__ 15 ["tree"] F_Scheme___init__ := by
  refine hasC_of (N := N_Scheme___init__) (k := 14) T.d_Scheme___init__ sc_Scheme___init__ rfl fun fa cdv A outer s H E hr => ?_
  have nd : (N_Scheme___init__).Nodup := sc_Scheme___init__.nd
  have tk : TakesM true (cxOf (CXm true P w) P w K mg base N_Scheme___init__ "Scheme.__init__" (defScope st_Scheme___init__) fa cdv A outer s H E) (fun c d _ H' => E c d H') := takesM_of rfl rfl rfl rfl
  exact dss_cons (ds_set 2 (de_own h_scheme_fault hr (by decide) tk.to rfl (da_cons (de_var 1) (da_cons (de_tup (da_nil) len_nil) (da_cons (de_bl) (da_cons (de_al (do_lst (da_nil) len_nil)) (da_nil))))) (len_cons (len_cons (len_cons (len_cons len_nil))))) nd) (dss_cons (ds_if (dt_cmp op_notN snd_isnot (de_var 2) (de_non)) (dss_one (ds_raise e_InvalidScheme (hr.mono (by decide)) rfl tk rfl (da_cons (de_var 2) (da_nil)))) (dss_nil)) (dss_one (ds_attr T.a_own_tree (de_var 1) (de_var 0))))
theorem ok_Scheme_read (T : Txt w K mg) (h_read_tree : Has true P w K mg base "read_tree" st_read_tree 64 ["text"] F_read_tree) (h_scheme_fault : Has true P w K mg base "scheme_fault" st_scheme_fault 13 ["value", "path", "is_in_row", "seen"] (F_scheme_fault 12)) (h_scheme_text : Has true P w K mg base "scheme_text" st_scheme_text 12 ["tree"] (F_scheme_text 12)) (h_Scheme___init__ : HasC true P w K mg base "Scheme" st_Scheme___init__ 15 ["tree"] F_Scheme___init__)   (e_InvalidText : Err P w K mg base "InvalidText" ["given"])  : HasS true P w K mg base "Scheme" "read" 65 1 F_Scheme_read := by
  refine hasS_of (N := N_Scheme_read) (k := 64) T.d_Scheme_read sc_Scheme_read rfl fun fa cdv A outer s H E hr => ?_
  have nd : (N_Scheme_read).Nodup := sc_Scheme_read.nd
  have tk : TakesM true (cxOf (CXm true P w) P w K mg base N_Scheme_read "Scheme.read" (defScope st_Scheme_read) fa cdv A outer s H E) (fun c d _ H' => E c d H') := takesM_of rfl rfl rfl rfl
  exact dss_cons (ds_set 1 (de_own h_read_tree hr (by decide) tk.to rfl (da_cons (de_var 0) (da_nil)) (len_cons len_nil)) nd) (dss_cons (ds_if (DW.t (dw_or (dt_cmp op_notN snd_isnot (de_own h_scheme_fault hr (by decide) tk.to rfl (da_cons (de_var 1) (da_cons (de_tup (da_nil) len_nil) (da_cons (de_bl) (da_cons (de_al (do_lst (da_nil) len_nil)) (da_nil))))) (len_cons (len_cons (len_cons (len_cons len_nil))))) (de_non)) (dw_or1 (dt_cmp (op_neD hr.units) snd_ne (de_own h_scheme_text hr (by decide) tk.to rfl (da_cons (de_var 1) (da_nil)) (len_cons len_nil)) (de_var 0))))) (dss_one (ds_raise e_InvalidText (hr.mono (by decide)) rfl tk rfl (da_cons (de_var 0) (da_nil)))) (dss_nil)) (dss_one (ds_ret (de_make h_Scheme___init__ hr (by decide) tk.to rfl (da_cons (de_var 1) (da_nil)) (len_cons len_nil)))))
theorem ok_Scheme_text (T : Txt w K mg) (h_scheme_text : Has true P w K mg base "scheme_text" st_scheme_text 12 ["tree"] (F_scheme_text 12))     : HasM true P w K mg base "Scheme" "text" 14 ["self"] F_Scheme_text := by
  refine hasM_of (N := N_Scheme_text) (k := 13) T.d_Scheme_text sc_Scheme_text rfl fun fa cdv A outer s H E hr => ?_
  have nd : (N_Scheme_text).Nodup := sc_Scheme_text.nd
  have tk : TakesM true (cxOf (CXm true P w) P w K mg base N_Scheme_text "Scheme.text" (defScope st_Scheme_text) fa cdv A outer s H E) (fun c d _ H' => E c d H') := takesM_of rfl rfl rfl rfl
  exact dss_one (ds_ret (de_own h_scheme_text hr (by decide) tk.to rfl (da_cons (de_attr T.a_own_tree (de_var 0)) (da_nil)) (len_cons len_nil)))
theorem ok_need_command (T : Txt w K mg)    (e_InvalidCommand : Err P w K mg base "InvalidCommand" ["word"])  : Has true P w K mg base "need_command" st_need_command 3 ["command"] F_need_command := by
  refine has_of (N := N_need_command) (k := 2) T.d_need_command sc_need_command rfl fun fa cdv A outer s H E hr => ?_
  have nd : (N_need_command).Nodup := sc_need_command.nd
  have tk : TakesM true (cxOf (CXm true P w) P w K mg base N_need_command "need_command" (defScope st_need_command) fa cdv A outer s H E) (fun c d _ H' => E c d H') := takesM_of rfl rfl rfl rfl
  exact dss_cons (ds_if (DW.t (dw_or (dt_not (dt_val (de_callB call_isi3 snd_isi rfl T.b_isinstance (by decide +kernel) (da_cons (de_var 0) (da_cons (de_ty rfl T.b_tuple (by decide +kernel)) (da_nil)))))) (dw_or1 (dt_not (dt_val (de_callB (cr_all rfl) snd_all rfl T.b_all (by decide +kernel) (da_cons (de_fz (do_lc (own := [("item", 1)]) rfl nd (di_seq (de_var 0)) (blkOk_by (N := N_need_command) (sc := (defScope st_need_command)) (by decide +kernel)) (fun _ _ _ _ _ => dg_name 1 nd) (fun _ _ _ _ _ => dts_nil) (fun _ _ _ _ _ => de_callB call_isi3 snd_isi rfl T.b_isinstance (by decide +kernel) (da_cons (de_var 1) (da_cons (de_ty rfl T.b_str (by decide +kernel)) (da_nil)))))) (da_nil)))))))) (dss_one (ds_bad)) (dss_nil)) (dss_one (ds_if (DW.t (dw_or (dt_cmp (op_eqD hr.units) snd_eq (de_callB call_len2 snd_len rfl T.b_len (by decide +kernel) (da_cons (de_var 0) (da_nil))) (de_int)) (dw_or (dt_ninT rfl T.t_COUNTS (de_ix ix_seq snd_ix (de_var 0) (de_int))) (dw_or1 (dt_cmp (op_neD hr.units) snd_ne (de_dct rfl T.t_COUNTS (de_ix ix_seq snd_ix (de_var 0) (de_int))) (de_callB call_len2 snd_len rfl T.b_len (by decide +kernel) (da_cons (de_var 0) (da_nil)))))))) (dss_one (ds_bad)) (dss_nil)))
theorem ok_need_room (T : Txt w K mg)    (e_Full : Err P w K mg base "Full" ["most"])  : Has true P w K mg base "need_room" st_need_room 3 ["entries", "name", "limit"] F_need_room := by
  refine has_of (N := N_need_room) (k := 2) T.d_need_room sc_need_room rfl fun fa cdv A outer s H E hr => ?_
  have nd : (N_need_room).Nodup := sc_need_room.nd
  have tk : TakesM true (cxOf (CXm true P w) P w K mg base N_need_room "need_room" (defScope st_need_room) fa cdv A outer s H E) (fun c d _ H' => E c d H') := takesM_of rfl rfl rfl rfl
  exact dss_one (ds_if (DW.t (dw_and (dt_cmp (op_ninDil T.pw hr) snd_inDil (de_var 1) (de_var 0)) (dw_and1 (dt_cmp op_ge snd_ge (de_callB call_lenD snd_lenD rfl T.b_len (by decide +kernel) (da_cons (de_var 0) (da_nil))) (de_var 2))))) (dss_one (ds_raise e_Full (hr.mono (by decide)) rfl tk rfl (da_cons (de_var 2) (da_nil)))) (dss_nil))
theorem ok_behind_text (T : Txt w K mg) (h_is_name : Has true P w K mg base "is_name" st_is_name 2 ["value"] F_is_name) (h_Scheme_read : HasS true P w K mg base "Scheme" "read" 65 1 F_Scheme_read) (h_need_room : Has true P w K mg base "need_room" st_need_room 3 ["entries", "name", "limit"] F_need_room)   (e_InvalidName : Err P w K mg base "InvalidName" ["name"]) (e_WrongKind : Err P w K mg base "WrongKind" ["name"])  : Has true P w K mg base "behind_text" st_behind_text 66 ["entries", "limit", "command"] F_behind_text := by
  refine has_of (N := N_behind_text) (k := 65) T.d_behind_text sc_behind_text rfl fun fa cdv A outer s H E hr => ?_
  have nd : (N_behind_text).Nodup := sc_behind_text.nd
  have tk : TakesM true (cxOf (CXm true P w) P w K mg base N_behind_text "behind_text" (defScope st_behind_text) fa cdv A outer s H E) (fun c d _ H' => E c d H') := takesM_of rfl rfl rfl rfl
  exact dss_cons (ds_asg (de_var 2) (dg_tup rfl (dgs_cons (dg_name 3 nd) (dgs_cons (dg_name 4 nd) (dgs_cons (dg_name 5 nd) (dgs_nil)))))) (dss_cons (ds_if (dt_not (dt_val (de_own h_is_name hr (by decide) tk.to rfl (da_cons (de_var 4) (da_nil)) (len_cons len_nil)))) (dss_one (ds_raise e_InvalidName (hr.mono (by decide)) rfl tk rfl (da_cons (de_var 4) (da_nil)))) (dss_nil)) (dss_cons (ds_if (DW.t (dw_and (dt_cmp (op_inDil T.pw hr) snd_inDil (de_var 4) (de_var 0)) (dw_and1 (dt_cmp (op_neD hr.units) snd_ne (de_ix ix_seq snd_ix (de_getDil T.pw hr (de_var 0) (de_var 4)) (de_int)) (de_var 3))))) (dss_one (ds_raise e_WrongKind (hr.mono (by decide)) rfl tk rfl (da_cons (de_var 4) (da_nil)))) (dss_nil)) (dss_cons (ds_drop (de_own h_need_room hr (by decide) tk.to rfl (da_cons (de_var 0) (da_cons (de_var 4) (da_cons (de_var 1) (da_nil)))) (len_cons (len_cons (len_cons len_nil))))) (dss_cons (ds_set 6 (de_if (dt_cmp (op_eqD hr.units) snd_eq (de_var 3) (de_str)) (de_bad) (de_static h_Scheme_read hr (by decide) tk.to rfl (da_cons (de_var 5) (da_nil)) (len_cons len_nil))) nd) (dss_one (ds_ret (de_al (do_dicU (de_var 0) (de_var 4) (de_tup (da_cons (de_var 3) (da_cons (de_var 6) (da_nil))) (len_cons (len_cons len_nil)))))))))))
theorem ok_behind (T : Txt w K mg) (h_is_name : Has true P w K mg base "is_name" st_is_name 2 ["value"] F_is_name) (h_need_command : Has true P w K mg base "need_command" st_need_command 3 ["command"] F_need_command) (h_behind_text : Has true P w K mg base "behind_text" st_behind_text 66 ["entries", "limit", "command"] F_behind_text)   (e_DuplicateName : Err P w K mg base "DuplicateName" ["name"]) (e_InvalidName : Err P w K mg base "InvalidName" ["name"]) (e_UnknownName : Err P w K mg base "UnknownName" ["name"])  : Has true P w K mg base "behind" st_behind 67 ["entries", "limit", "command"] F_behind := by
  refine has_of (N := N_behind) (k := 66) T.d_behind sc_behind rfl fun fa cdv A outer s H E hr => ?_
  have nd : (N_behind).Nodup := sc_behind.nd
  have tk : TakesM true (cxOf (CXm true P w) P w K mg base N_behind "behind" (defScope st_behind) fa cdv A outer s H E) (fun c d _ H' => E c d H') := takesM_of rfl rfl rfl rfl
  exact dss_cons (ds_drop (de_own h_need_command hr (by decide) tk.to rfl (da_cons (de_var 2) (da_nil)) (len_cons len_nil))) (dss_cons (ds_if (dt_cmp (op_inG (un65 hr)) snd_in (de_ix ix_seq snd_ix (de_var 2) (de_int)) (de_tup (da_cons (de_str) (da_cons (de_str) (da_nil))) (len_cons (len_cons len_nil)))) (dss_one (ds_ret (de_own h_behind_text hr (by decide) tk.to rfl (da_cons (de_var 0) (da_cons (de_var 1) (da_cons (de_var 2) (da_nil)))) (len_cons (len_cons (len_cons len_nil)))))) (dss_nil)) (dss_cons (ds_if (dt_cmp (op_eqD hr.units) snd_eq (de_callB call_len2 snd_len rfl T.b_len (by decide +kernel) (da_cons (de_var 2) (da_nil))) (de_int)) (dss_one (ds_ret (de_bad))) (dss_nil)) (dss_cons (ds_set 3 (de_ix ix_seq snd_ix (de_var 2) (de_int)) nd) (dss_cons (ds_if (dt_cmp (op_ninDil T.pw hr) snd_inDil (de_var 3) (de_var 0)) (dss_one (ds_raise e_UnknownName (hr.mono (by decide)) rfl tk rfl (da_cons (de_var 3) (da_nil)))) (dss_nil)) (dss_cons (ds_if (dt_cmp (op_eqD hr.units) snd_eq (de_ix ix_seq snd_ix (de_var 2) (de_int)) (de_str)) (dss_one (ds_ret (de_al (do_lock (fVar 0) (do_dc (own := [("one", 4)]) rfl nd (di_keysD (de_var 0)) (blkOk_by (N := N_behind) (sc := (defScope st_behind)) (by decide +kernel)) (fun _ _ _ _ _ => dg_name 4 nd) (fun _ _ _ _ _ => dts_one (dt_cmp (op_neD hr.units) snd_ne (de_var 4) (de_var 3))) (fun _ _ _ _ _ => de_var 4) (fun _ _ _ _ _ => de_getDil T.pw hr (de_var 0) (de_var 4))))))) (dss_nil)) (dss_cons (ds_set 5 (de_ix ix_seq snd_ix (de_var 2) (de_int)) nd) (dss_cons (ds_if (dt_not (dt_val (de_own h_is_name hr (by decide) tk.to rfl (da_cons (de_var 5) (da_nil)) (len_cons len_nil)))) (dss_one (ds_raise e_InvalidName (hr.mono (by decide)) rfl tk rfl (da_cons (de_var 5) (da_nil)))) (dss_nil)) (dss_cons (ds_if (dt_cmp (op_inDil T.pw hr) snd_inDil (de_var 5) (de_var 0)) (dss_one (ds_raise e_DuplicateName (hr.mono (by decide)) rfl tk rfl (da_cons (de_var 5) (da_nil)))) (dss_nil)) (dss_one (ds_ret (de_al (do_lock (fVar 0) (do_dc (own := [("one", 4)]) rfl nd (di_keysD (de_var 0)) (blkOk_by (N := N_behind) (sc := (defScope st_behind)) (by decide +kernel)) (fun _ _ _ _ _ => dg_name 4 nd) (fun _ _ _ _ _ => dts_nil) (fun _ _ _ _ _ => de_if (dt_cmp (op_eqD hr.units) snd_eq (de_var 4) (de_var 3)) (de_var 5) (de_var 4)) (fun _ _ _ _ _ => de_getDil T.pw hr (de_var 0) (de_var 4)))))))))))))))
theorem okk_Store___init__ (T : Txt w K mg) (h_is_within : Has true P w K mg base "is_within" st_is_within 2 ["value", "low", "high"] F_is_within)   (e_InvalidLimit : Err P w K mg base "InvalidLimit" ["given"])  : HasCK true P w K mg base "Store" ["limit"] [0] 3 F_Store___init__ := by
  refine hasCKo_of (N := N_Store___init__) (k := 2) T.d_Store___init__ sc_Store___init__ rfl rfl (fun _ _ _ _ _ _ us ws l1 l2 => match us, ws, l1, l2 with | [_], [_], _, _ => rfl) fun fa cdv A outer s H E hr => ?_
  have nd : (N_Store___init__).Nodup := sc_Store___init__.nd
  have tk : TakesM true (cxOf (CXm true P w) P w K mg base N_Store___init__ "Store.__init__" (defScope st_Store___init__) fa cdv A outer s H E) (fun c d _ H' => E c d H') := takesM_of rfl rfl rfl rfl
  exact dss_cons (ds_if (dt_not (dt_val (de_own h_is_within hr (by decide) tk.to rfl (da_cons (de_var 1) (da_cons (de_int) (da_cons (de_con T.cc_Store_MOST (de_var 0)) (da_nil)))) (len_cons (len_cons (len_cons len_nil)))))) (dss_one (ds_raise e_InvalidLimit (hr.mono (by decide)) rfl tk rfl (da_cons (de_var 1) (da_nil)))) (dss_nil)) (dss_cons (ds_attr T.a_own_limit (de_var 1) (de_var 0)) (dss_cons (ds_attr T.a_entries (de_al do_dic0) (de_var 0)) (dss_cons (ds_attr T.a_rows (de_fz (do_lst (da_nil) len_nil)) (de_var 0)) (dss_cons (ds_attr T.a_past (de_al (do_lst (da_nil) len_nil)) (de_var 0)) (dss_cons (ds_attr T.a_future (de_al (do_lst (da_nil) len_nil)) (de_var 0)) (dss_cons (ds_attr T.a_algebras (de_al do_dic0) (de_var 0)) (dss_cons (ds_attr T.a_many (de_int) (de_var 0)) (dss_one (ds_attr T.a_is_at_work (de_bl) (de_var 0))))))))))
theorem ok_Store_looked_at (T : Txt w K mg)      : HasM true P w K mg base "Store" "looked_at" 1 ["self", "entries"] F_Store_looked_at := by
  refine hasM_of (N := N_Store_looked_at) (k := 0) T.d_Store_looked_at sc_Store_looked_at rfl fun fa cdv A outer s H E hr => ?_
  have nd : (N_Store_looked_at).Nodup := sc_Store_looked_at.nd
  have tk : TakesM true (cxOf (CXm true P w) P w K mg base N_Store_looked_at "Store.looked_at" (defScope st_Store_looked_at) fa cdv A outer s H E) (fun c d _ H' => E c d H') := takesM_of rfl rfl rfl rfl
  exact dss_one (ds_ret (de_var 1))
theorem ok_Store_put (T : Txt w K mg) (h_Scheme_text : HasM true P w K mg base "Scheme" "text" 14 ["self"] F_Scheme_text)     : HasM true P w K mg base "Store" "put" 15 ["self", "entries"] F_Store_put := by
  refine hasM_of (N := N_Store_put) (k := 14) T.d_Store_put sc_Store_put rfl fun fa cdv A outer s H E hr => ?_
  have nd : (N_Store_put).Nodup := sc_Store_put.nd
  have tk : TakesM true (cxOf (CXm true P w) P w K mg base N_Store_put "Store.put" (defScope st_Store_put) fa cdv A outer s H E) (fun c d _ H' => E c d H') := takesM_of rfl rfl rfl rfl
  exact dss_cons (ds_attr T.a_entries (de_var 1) (de_var 0)) (dss_one (ds_attr T.a_rows (de_fz (do_lock (fVar 1) (do_lc (own := [("name", 2)]) rfl nd (di_keysD (de_var 1)) (blkOk_by (N := N_Store_put) (sc := (defScope st_Store_put)) (by decide +kernel)) (fun _ _ _ _ _ => dg_name 2 nd) (fun _ _ _ _ _ => dts_nil) (fun _ _ _ _ _ => de_tup (da_cons (de_ix ix_seq snd_ix (de_getDil T.pw hr (de_var 1) (de_var 2)) (de_int)) (da_cons (de_var 2) (da_cons (de_meth0 h_Scheme_text hr (by decide) takesM0 (de_ix ix_seq snd_ix (de_getDil T.pw hr (de_var 1) (de_var 2)) (de_int)) rfl) (da_nil)))) (len_cons (len_cons (len_cons len_nil))))))) (de_var 0)))
theorem ok_Store_turn_to (T : Txt w K mg) (h_Store_put : HasM true P w K mg base "Store" "put" 15 ["self", "entries"] F_Store_put)     : HasM true P w K mg base "Store" "turn_to" 16 ["self", "later"] F_Store_turn_to := by
  refine hasM_of (N := N_Store_turn_to) (k := 15) T.d_Store_turn_to sc_Store_turn_to rfl fun fa cdv A outer s H E hr => ?_
  have nd : (N_Store_turn_to).Nodup := sc_Store_turn_to.nd
  have tk : TakesM true (cxOf (CXm true P w) P w K mg base N_Store_turn_to "Store.turn_to" (defScope st_Store_turn_to) fa cdv A outer s H E) (fun c d _ H' => E c d H') := takesM_of rfl rfl rfl rfl
  exact dss_cons (ds_set 2 (de_al do_dic0) nd) (dss_cons (ds_lock (fAttr ["Store"] "algebras" (fVar 0)) (ds_for (passes_of rfl) rfl (di_keysD (de_attr T.a_algebras (de_var 0))) (dg_name 3 nd) (dss_one (ds_if (DW.t (dw_and (dt_cmp (op_inDil T.pw hr) snd_inDil (de_var 3) (de_var 1)) (dw_and (dt_cmp (op_eqD hr.units) snd_eq (de_ix ix_seq snd_ix (de_getDil T.pw hr (de_var 1) (de_var 3)) (de_int)) (de_str)) (dw_and1 (dt_cmp (op_eqD hr.units) snd_eq (de_ix ix_seq snd_ix (de_getDil T.pw hr (de_var 1) (de_var 3)) (de_int)) (de_ix ix_seq snd_ix (de_getDil T.pw hr (de_attr T.a_entries (de_var 0)) (de_var 3)) (de_int))))))) (dss_one (ds_putDic T.pw hr (de_getDil T.pw hr (de_attr T.a_algebras (de_var 0)) (de_var 3)) (de_var 2) (de_var 3))) (dss_nil))))) (dss_cons (ds_attr T.a_algebras (de_var 2) (de_var 0)) (dss_one (ds_drop (de_meth h_Store_put hr (by decide) tk.to (de_var 0) (da_cons (de_var 1) (da_nil)) (len_cons len_nil) rfl)))))
theorem ok_Store_apply (T : Txt w K mg) (h_behind : Has true P w K mg base "behind" st_behind 67 ["entries", "limit", "command"] F_behind) (h_Store_looked_at : HasM true P w K mg base "Store" "looked_at" 1 ["self", "entries"] F_Store_looked_at) (h_Store_turn_to : HasM true P w K mg base "Store" "turn_to" 16 ["self", "later"] F_Store_turn_to)     : HasMV false P w K mg base "Store" "apply" 68 F_Store_apply := by
  refine hasMV_of (N := N_Store_apply) (k := 67) T.d_Store_apply sc_Store_apply rfl fun fa cdv A outer s H E hr => ?_
  have nd : (N_Store_apply).Nodup := sc_Store_apply.nd
  have tk : TakesM false (cxOf (CXm false P w) P w K mg base N_Store_apply "Store.apply" (defScope st_Store_apply) fa cdv A outer s H E) (fun c d _ H' => E c d H') := takesM_of rfl rfl rfl rfl
  exact dss_cons (ds_attr T.a_is_at_work (de_bl) (de_var 0)) (dss_cons (ds_fin rfl rfl rfl tk (fun W1 pn xe tk hp => dss_cons (ds_set 2 (de_attr T.a_entries (de_var 0)) nd) (dss_cons (ds_for hp rfl (di_seq (de_var 1)) (dg_name 3 nd) (dss_one (ds_set 2 (de_own h_behind hr (by decide) tk.to rfl (da_cons (de_var 2) (da_cons (de_attr T.a_own_limit (de_var 0)) (da_cons (de_var 3) (da_nil)))) (len_cons (len_cons (len_cons len_nil)))) nd))) (dss_one (ds_set 2 (de_meth h_Store_looked_at hr (by decide) tk.to (de_var 0) (da_cons (de_var 2) (da_nil)) (len_cons len_nil) rfl) nd)))) (dss_one (ds_attr T.a_is_at_work (de_bl) (de_var 0))) (fun a pn => dss_one (ds_attr T.a_is_at_work (de_bl) (de_var 0)))) (dss_cons (ds_drop (de_appR (de_attr T.a_past (de_var 0)) (de_attr T.a_entries (de_var 0)) (fun _ _ _ hm p q => pe_bm PySem.F.plainAttrs_list PySem.F.slot_list_append PySem.F.type_list_append hm p (pa_cons q pa_nil)))) (dss_cons (ds_attr T.a_future (de_al (do_lst (da_nil) len_nil)) (de_var 0)) (dss_one (ds_drop (de_meth h_Store_turn_to hr (by decide) tk.to (de_var 0) (da_cons (de_var 2) (da_nil)) (len_cons len_nil) rfl))))))
theorem ok_Store_undo (T : Txt w K mg) (h_Store_turn_to : HasM true P w K mg base "Store" "turn_to" 16 ["self", "later"] F_Store_turn_to)   (e_NothingLeft : Err P w K mg base "NothingLeft" [])  : HasM true P w K mg base "Store" "undo" 17 ["self"] F_Store_undo := by
  refine hasM_of (N := N_Store_undo) (k := 16) T.d_Store_undo sc_Store_undo rfl fun fa cdv A outer s H E hr => ?_
  have nd : (N_Store_undo).Nodup := sc_Store_undo.nd
  have tk : TakesM true (cxOf (CXm true P w) P w K mg base N_Store_undo "Store.undo" (defScope st_Store_undo) fa cdv A outer s H E) (fun c d _ H' => E c d H') := takesM_of rfl rfl rfl rfl
  exact dss_cons (ds_if (dt_nilQ hr (de_attr T.a_past (de_var 0))) (dss_one (ds_raise0 e_NothingLeft (hr.mono (by decide)) rfl tk rfl)) (dss_nil)) (dss_cons (ds_drop (de_appR (de_attr T.a_future (de_var 0)) (de_attr T.a_entries (de_var 0)) (fun _ _ _ hm p q => pe_bm PySem.F.plainAttrs_list PySem.F.slot_list_append PySem.F.type_list_append hm p (pa_cons q pa_nil)))) (dss_one (ds_drop (de_meth h_Store_turn_to hr (by decide) tk.to (de_var 0) (da_cons (de_pop0R (de_attr T.a_past (de_var 0)) (fun _ _ hm p => pe_bm0 PySem.F.plainAttrs_list PySem.F.slot_list_pop PySem.F.type_list_pop hm p)) (da_nil)) (len_cons len_nil) rfl))))
theorem ok_Store_redo (T : Txt w K mg) (h_Store_turn_to : HasM true P w K mg base "Store" "turn_to" 16 ["self", "later"] F_Store_turn_to)   (e_NothingLeft : Err P w K mg base "NothingLeft" [])  : HasM true P w K mg base "Store" "redo" 17 ["self"] F_Store_redo := by
  refine hasM_of (N := N_Store_redo) (k := 16) T.d_Store_redo sc_Store_redo rfl fun fa cdv A outer s H E hr => ?_
  have nd : (N_Store_redo).Nodup := sc_Store_redo.nd
  have tk : TakesM true (cxOf (CXm true P w) P w K mg base N_Store_redo "Store.redo" (defScope st_Store_redo) fa cdv A outer s H E) (fun c d _ H' => E c d H') := takesM_of rfl rfl rfl rfl
  exact dss_cons (ds_if (dt_nilQ hr (de_attr T.a_future (de_var 0))) (dss_one (ds_raise0 e_NothingLeft (hr.mono (by decide)) rfl tk rfl)) (dss_nil)) (dss_cons (ds_drop (de_appR (de_attr T.a_past (de_var 0)) (de_attr T.a_entries (de_var 0)) (fun _ _ _ hm p q => pe_bm PySem.F.plainAttrs_list PySem.F.slot_list_append PySem.F.type_list_append hm p (pa_cons q pa_nil)))) (dss_one (ds_drop (de_meth h_Store_turn_to hr (by decide) tk.to (de_var 0) (da_cons (de_pop0R (de_attr T.a_future (de_var 0)) (fun _ _ hm p => pe_bm0 PySem.F.plainAttrs_list PySem.F.slot_list_pop PySem.F.type_list_pop hm p)) (da_nil)) (len_cons len_nil) rfl))))
theorem ok_Store_history (T : Txt w K mg)      : HasM true P w K mg base "Store" "history" 1 ["self"] F_Store_history := by
  refine hasM_of (N := N_Store_history) (k := 0) T.d_Store_history sc_Store_history rfl fun fa cdv A outer s H E hr => ?_
  have nd : (N_Store_history).Nodup := sc_Store_history.nd
  have tk : TakesM true (cxOf (CXm true P w) P w K mg base N_Store_history "Store.history" (defScope st_Store_history) fa cdv A outer s H E) (fun c d _ H' => E c d H') := takesM_of rfl rfl rfl rfl
  exact dss_one (ds_ret (de_tup (da_cons (de_callB call_len2 snd_len rfl T.b_len (by decide +kernel) (da_cons (de_attr T.a_past (de_var 0)) (da_nil))) (da_cons (de_callB call_len2 snd_len rfl T.b_len (by decide +kernel) (da_cons (de_attr T.a_future (de_var 0)) (da_nil))) (da_nil))) (len_cons (len_cons len_nil))))
theorem ok_Store_names (T : Txt w K mg)      : HasMV true P w K mg base "Store" "names" 1 F_Store_names := by
  refine hasMV_of (N := N_Store_names) (k := 0) T.d_Store_names sc_Store_names rfl fun fa cdv A outer s H E hr => ?_
  have nd : (N_Store_names).Nodup := sc_Store_names.nd
  have tk : TakesM true (cxOf (CXm true P w) P w K mg base N_Store_names "Store.names" (defScope st_Store_names) fa cdv A outer s H E) (fun c d _ H' => E c d H') := takesM_of rfl rfl rfl rfl
  exact dss_one (ds_ret (de_fz (do_lock (fAttr ["Store"] "entries" (fVar 0)) (do_lc (own := [("name", 2)]) rfl nd (di_keysD (de_attr T.a_entries (de_var 0))) (blkOk_by (N := N_Store_names) (sc := (defScope st_Store_names)) (by decide +kernel)) (fun _ _ _ _ _ => dg_name 2 nd) (fun _ _ _ _ _ => dts_one (DW.t (dw_or (dt_cmp (op_eqD hr.units) snd_eq (de_callB call_len2 snd_len rfl T.b_len (by decide +kernel) (da_cons (de_var 1) (da_nil))) (de_int)) (dw_or1 (dt_cmp (op_inG (un65 hr)) snd_in (de_ix ix_seq snd_ix (de_getDil T.pw hr (de_attr T.a_entries (de_var 0)) (de_var 2)) (de_int)) (de_var 1)))))) (fun _ _ _ _ _ => de_var 2)))))
theorem ok_Store___len__ (T : Txt w K mg)      : HasM true P w K mg base "Store" "__len__" 1 ["self"] F_Store___len__ := by
  refine hasM_of (N := N_Store___len__) (k := 0) T.d_Store___len__ sc_Store___len__ rfl fun fa cdv A outer s H E hr => ?_
  have nd : (N_Store___len__).Nodup := sc_Store___len__.nd
  have tk : TakesM true (cxOf (CXm true P w) P w K mg base N_Store___len__ "Store.__len__" (defScope st_Store___len__) fa cdv A outer s H E) (fun c d _ H' => E c d H') := takesM_of rfl rfl rfl rfl
  exact dss_one (ds_ret (de_callB call_lenD snd_lenD rfl T.b_len (by decide +kernel) (da_cons (de_attr T.a_entries (de_var 0)) (da_nil))))
theorem ok__law_bag (T : Txt w K mg)      : Has true P w K mg base "_law_bag" st__law_bag 1 ["_law_script"] F__law_bag := by
  refine has_of (N := N__law_bag) (k := 0) T.d__law_bag sc__law_bag rfl fun fa cdv A outer s H E hr => ?_
  have nd : (N__law_bag).Nodup := sc__law_bag.nd
  have tk : TakesM true (cxOf (CXm true P w) P w K mg base N__law_bag "_law_bag" (defScope st__law_bag) fa cdv A outer s H E) (fun c d _ H' => E c d H') := takesM_of rfl rfl rfl rfl
  exact dss_cons (ds_set 1 (de_fz (do_callT call_list_of snd_list rfl T.b_list (by decide +kernel) (da_cons (de_cut (de_var 0) dp_no (dp_some (de_int))) (da_nil)))) nd) (dss_cons (ds_set 2 (de_op op_add4 snd_add (de_int) (de_op op_mul2 snd_mul (de_int) (de_callB call_len2 snd_len rfl T.b_len (by decide +kernel) (da_cons (de_var 1) (da_nil))))) nd) (dss_cons (ds_for (passes_of rfl) rfl (di_seq (de_var 1)) (dg_name 3 nd) (dss_one (ds_set 2 (de_op op_mod snd_mod (de_callT call_int1 snd_int rfl T.b_int (by decide +kernel) (da_cons (de_op op_add4 snd_add (de_op op_add4 snd_add (de_op op_mul2 snd_mul (de_var 2) (de_int)) (de_op op_mod snd_mod (de_callT call_int1 snd_int rfl T.b_int (by decide +kernel) (da_cons (de_var 3) (da_nil))) (de_int))) (de_int)) (da_nil))) (de_int)) nd))) (dss_one (ds_ret (de_al (do_lst (da_cons (de_var 1) (da_cons (de_int) (da_cons (de_int) (da_cons (de_var 2) (da_cons (de_int) (da_nil)))))) (len_cons (len_cons (len_cons (len_cons (len_cons len_nil)))))))))))
theorem ok__law_take (T : Txt w K mg)      : Has true P w K mg base "_law_take" st__law_take 1 ["_law_bag_here", "_law_many"] F__law_take := by
  refine has_of (N := N__law_take) (k := 0) T.d__law_take sc__law_take rfl fun fa cdv A outer s H E hr => ?_
  have nd : (N__law_take).Nodup := sc__law_take.nd
  have tk : TakesM true (cxOf (CXm true P w) P w K mg base N__law_take "_law_take" (defScope st__law_take) fa cdv A outer s H E) (fun c d _ H' => E c d H') := takesM_of rfl rfl rfl rfl
  exact dss_cons (ds_put (de_op op_add4 snd_add (de_ix ix_seq snd_ix (de_var 0) (de_int)) (de_int)) (de_var 0) (de_int)) (dss_cons (ds_if (DW.t (dw_and (dt_cmp (op_eqD hr.units) snd_eq (de_ix ix_seq snd_ix (de_var 0) (de_int)) (de_int)) (dw_and1 (dt_cmp op_lt snd_lt (de_ix ix_seq snd_ix (de_var 0) (de_int)) (de_callB call_len2 snd_len rfl T.b_len (by decide +kernel) (da_cons (de_ix ix_seq snd_ix (de_var 0) (de_int)) (da_nil))))))) (dss_cons (ds_set 2 (de_ix ix_seq snd_ix (de_ix ix_seq snd_ix (de_var 0) (de_int)) (de_ix ix_seq snd_ix (de_var 0) (de_int))) nd) (dss_cons (ds_put (de_op op_add4 snd_add (de_ix ix_seq snd_ix (de_var 0) (de_int)) (de_int)) (de_var 0) (de_int)) (dss_one (ds_if (dt_cmp op_ge snd_ge (de_var 2) (de_op op_pow snd_pow (de_int) (de_int))) (dss_one (ds_put (de_var 2) (de_var 0) (de_int))) (dss_one (ds_put (de_op op_mod snd_mod (de_callT call_int1 snd_int rfl T.b_int (by decide +kernel) (da_cons (de_op op_add4 snd_add (de_op op_add4 snd_add (de_op op_mul2 snd_mul (de_ix ix_seq snd_ix (de_var 0) (de_int)) (de_int)) (de_op op_mul2 snd_mul (de_op op_mod snd_mod (de_callT call_int1 snd_int rfl T.b_int (by decide +kernel) (da_cons (de_var 2) (da_nil))) (de_int)) (de_int))) (de_int)) (da_nil))) (de_int)) (de_var 0) (de_int))))))) (dss_nil)) (dss_cons (ds_if (dt_cmp op_gt snd_gt (de_ix ix_seq snd_ix (de_var 0) (de_int)) (de_int)) (dss_cons (ds_set 3 (de_op op_mod snd_mod (de_callT call_int1 snd_int rfl T.b_int (by decide +kernel) (da_cons (de_ix ix_seq snd_ix (de_var 0) (de_int)) (da_nil))) (de_var 1)) nd) (dss_cons (ds_put (de_op op_fdiv snd_div (de_ix ix_seq snd_ix (de_var 0) (de_int)) (de_var 1)) (de_var 0) (de_int)) (dss_one (ds_ret (de_var 3))))) (dss_nil)) (dss_cons (ds_set 4 (de_ix ix_seq snd_ix (de_var 0) (de_int)) nd) (dss_cons (ds_put (de_op op_mod snd_mod (de_callT call_int1 snd_int rfl T.b_int (by decide +kernel) (da_cons (de_op op_add4 snd_add (de_op op_add4 snd_add (de_op op_add4 snd_add (de_op op_pow snd_pow (de_var 4) (de_int)) (de_op op_mul2 snd_mul (de_var 4) (de_int))) (de_op op_mul2 snd_mul (de_ix ix_seq snd_ix (de_var 0) (de_int)) (de_int))) (de_int)) (da_nil))) (de_int)) (de_var 0) (de_int)) (dss_one (ds_ret (de_op op_mod snd_mod (de_callT call_int1 snd_int rfl T.b_int (by decide +kernel) (da_cons (de_op op_add4 snd_add (de_op op_fdiv snd_div (de_ix ix_seq snd_ix (de_var 0) (de_int)) (de_int)) (de_op op_mul2 snd_mul (de_op op_mod snd_mod (de_callT call_int1 snd_int rfl T.b_int (by decide +kernel) (da_cons (de_ix ix_seq snd_ix (de_var 0) (de_int)) (da_nil))) (de_int)) (de_int))) (da_nil))) (de_var 1))))))))
theorem ok__law_like (T : Txt w K mg)      : ∀ k : Nat, Has true P w K mg base "_law_like" st__law_like (0 + k) ["_law_found", "_law_due"] (F__law_like k)
  | 0 => has_no T.d__law_like
  | k + 1 => by
    have ih := ok__law_like T      k
    have h__law_like := ih
    · exact has_of (N := N__law_like) (k := 0 + k) T.d__law_like sc__law_like rfl fun fa cdv A outer s H E hr => by
        have nd : (N__law_like).Nodup := sc__law_like.nd
        have tk : TakesM true (cxOf (CXm true P w) P w K mg base N__law_like "_law_like" (defScope st__law_like) fa cdv A outer s H E) (fun c d _ H' => E c d H') := takesM_of rfl rfl rfl rfl
        exact dss_cons (ds_if (dt_val (de_callB call_isi3 snd_isi rfl T.b_isinstance (by decide +kernel) (da_cons (de_var 1) (da_cons (de_tup (da_cons (de_ty rfl T.b_list (by decide +kernel)) (da_cons (de_ty rfl T.b_tuple (by decide +kernel)) (da_nil))) (len_cons (len_cons len_nil))) (da_nil))))) (dss_cons (ds_if (DW.t (dw_or (dt_cmp (op_neD hr.units) snd_ne (de_callB call_isi3 snd_isi rfl T.b_isinstance (by decide +kernel) (da_cons (de_var 0) (da_cons (de_ty rfl T.b_list (by decide +kernel)) (da_nil)))) (de_callB call_isi3 snd_isi rfl T.b_isinstance (by decide +kernel) (da_cons (de_var 1) (da_cons (de_ty rfl T.b_list (by decide +kernel)) (da_nil))))) (dw_or1 (dt_cmp (op_neD hr.units) snd_ne (de_callB call_isi3 snd_isi rfl T.b_isinstance (by decide +kernel) (da_cons (de_var 0) (da_cons (de_ty rfl T.b_tuple (by decide +kernel)) (da_nil)))) (de_callB call_isi3 snd_isi rfl T.b_isinstance (by decide +kernel) (da_cons (de_var 1) (da_cons (de_ty rfl T.b_tuple (by decide +kernel)) (da_nil)))))))) (dss_one (ds_ret (de_bl))) (dss_nil)) (dss_one (ds_ret (de_and (de_cmp (op_eqD hr.units) snd_eq (de_callB call_len2 snd_len rfl T.b_len (by decide +kernel) (da_cons (de_var 0) (da_nil))) (de_callB call_len2 snd_len rfl T.b_len (by decide +kernel) (da_cons (de_var 1) (da_nil)))) (de_one (de_callB (cr_all rfl) snd_all rfl T.b_all (by decide +kernel) (da_cons (de_fz (do_lc (own := [("_law_one", 2), ("_law_other", 3)]) rfl nd (di_zip 2 rfl T.b_zip (da_cons (de_var 0) (da_cons (de_var 1) (da_nil))) (len_cons (len_cons len_nil)) (by decide) (by decide) DLZ.ok_zip2) (blkOk_by (N := N__law_like) (sc := (defScope st__law_like)) (by decide +kernel)) (fun _ _ _ _ _ => dg_tup rfl (dgs_cons (dg_name 2 nd) (dgs_cons (dg_name 3 nd) (dgs_nil)))) (fun _ _ _ _ _ => dts_nil) (fun _ _ _ _ _ => de_own h__law_like hr (Nat.le_refl _) takesM0 rfl (da_cons (de_var 2) (da_cons (de_var 3) (da_nil))) (len_cons (len_cons len_nil))))) (da_nil)))))))) (dss_nil)) (dss_cons (ds_if (DW.t (dw_or (dt_cmp op_isN snd_is (de_var 1) (de_non)) (dw_or1 (dt_cmp op_isN snd_is (de_var 0) (de_non))))) (dss_one (ds_ret (de_and (de_cmp op_isN snd_is (de_var 1) (de_non)) (de_one (de_cmp op_isN snd_is (de_var 0) (de_non)))))) (dss_nil)) (dss_cons (ds_if (DW.t (dw_or (dt_cmp (op_neD hr.units) snd_ne (de_callB call_isi3 snd_isi rfl T.b_isinstance (by decide +kernel) (da_cons (de_var 1) (da_cons (de_ty rfl T.b_bool (by decide +kernel)) (da_nil)))) (de_callB call_isi3 snd_isi rfl T.b_isinstance (by decide +kernel) (da_cons (de_var 0) (da_cons (de_ty rfl T.b_bool (by decide +kernel)) (da_nil))))) (dw_or1 (dt_cmp (op_neD hr.units) snd_ne (de_callB call_isi3 snd_isi rfl T.b_isinstance (by decide +kernel) (da_cons (de_var 1) (da_cons (de_ty rfl T.b_int (by decide +kernel)) (da_nil)))) (de_callB call_isi3 snd_isi rfl T.b_isinstance (by decide +kernel) (da_cons (de_var 0) (da_cons (de_ty rfl T.b_int (by decide +kernel)) (da_nil)))))))) (dss_one (ds_ret (de_bl))) (dss_nil)) (dss_one (ds_ret (de_and (de_cmp (op_eqD hr.units) snd_eq (de_callB call_isi3 snd_isi rfl T.b_isinstance (by decide +kernel) (da_cons (de_var 1) (da_cons (de_ty rfl T.b_str (by decide +kernel)) (da_nil)))) (de_callB call_isi3 snd_isi rfl T.b_isinstance (by decide +kernel) (da_cons (de_var 0) (da_cons (de_ty rfl T.b_str (by decide +kernel)) (da_nil))))) (de_one (de_cmp (op_eqD hr.units) snd_eq (de_var 0) (de_var 1))))))))
theorem ok_law (T : Txt w K mg) (h_Store_apply : HasMV false P w K mg base "Store" "apply" 68 F_Store_apply) (h_Store_undo : HasM true P w K mg base "Store" "undo" 17 ["self"] F_Store_undo) (h_Store_redo : HasM true P w K mg base "Store" "redo" 17 ["self"] F_Store_redo) (h_Store_history : HasM true P w K mg base "Store" "history" 1 ["self"] F_Store_history) (h_Store_names : HasMV true P w K mg base "Store" "names" 1 F_Store_names) (h_Store___len__ : HasM true P w K mg base "Store" "__len__" 1 ["self"] F_Store___len__) (h__law_bag : Has true P w K mg base "_law_bag" st__law_bag 1 ["_law_script"] F__law_bag) (h__law_take : Has true P w K mg base "_law_take" st__law_take 1 ["_law_bag_here", "_law_many"] F__law_take) (h__law_like : Has true P w K mg base "_law_like" st__law_like 12 ["_law_found", "_law_due"] (F__law_like 12)) (hk_Store___init__ : HasCK true P w K mg base "Store" ["limit"] [0] 3 F_Store___init__)    {cA tP : Addr} (hwhy : WhyAt P w K mg base 0 "_law_why" "_law_field" "_law_ask" "_law_e" "_law_e" st__law_why KS F_field) (tb : LamX.TabB base mg cA tP) (inT : (tP, ("law" ++ ".<locals>." ++ "<lambda>" : Str)) ∈ TK K) (one : ∀ p ∈ TK K, p.1 = tP → p.2 = ("law" ++ ".<locals>." ++ "<lambda>" : Str)) {fa : Addr} {fd : FuncData} (F : Fun K "law" "law" st_law fa fd) (hcA : fd.code = .ref cA) : FnOk P w K mg base (CXm false P w) 71 fa fd ["_law_script"] (spD K 1 F_law) := by
  refine fn_DL (N := N_law) (k := 70) F sc_law hcA rfl rfl fun A outer s H E hr => ?_
  have nd : (N_law).Nodup := sc_law.nd
  have tk : TakesM false (cxOf (CXm false P w) P w K mg base N_law "law" (defScope st_law) fa (.ref cA) A outer s H E) (fun c d _ H' => E c d H') := takesM_of rfl rfl rfl rfl
  exact dss_cons (ds_set 1 (de_own h__law_bag hr (by decide) tk.to rfl (da_cons (de_var 0) (da_nil)) (len_cons len_nil)) nd) (dss_cons (ds_set 2 (de_op op_add4 snd_add (de_int) (de_own h__law_take hr (by decide) tk.to rfl (da_cons (de_var 1) (da_cons (de_int) (da_nil))) (len_cons (len_cons len_nil)))) nd) (dss_cons (ds_asg (de_tup (da_cons (de_makeKR hk_Store___init__ hr (by decide) tk.to rfl (dk_cons (de_var 2) (dk_nil)) (len_cons len_nil) (by decide)) (da_cons (de_tup (da_cons (de_str) (da_cons (de_var 2) (da_nil))) (len_cons (len_cons len_nil))) (da_nil))) (len_cons (len_cons len_nil))) (dg_tup rfl (dgs_cons (dg_name 3 nd) (dgs_cons (dg_name 4 nd) (dgs_nil))))) (dss_cons (ds_set 5 (de_fz (do_lc (own := [("_law_letter", 6)]) rfl nd (di_text (de_str)) (blkOk_by (N := N_law) (sc := (defScope st_law)) (by decide +kernel)) (fun _ _ _ _ _ => dg_name 6 nd) (fun _ _ _ _ _ => dts_nil) (fun _ _ _ _ _ => de_tup (da_cons (de_str) (da_cons (de_op op_add4 snd_add (de_str) (de_var 6)) (da_cons (de_str) (da_nil)))) (len_cons (len_cons (len_cons len_nil)))))) nd) (dss_cons (ds_for (passes_of rfl) rfl (di_seq (de_cut (de_var 5) dp_no (dp_some (de_op op_sub snd_sub (de_var 2) (de_int))))) (dg_name 7 nd) (dss_one (ds_drop (de_methV h_Store_apply hr (by decide) tk.to (de_var 3) (da_cons (de_var 7) (da_nil)))))) (dss_cons (ds_set 8 (de_fz (do_lst (da_cons (de_why (k := 0) (kk := 68) hwhy rfl rfl sc__law_why (.inl rfl) rfl rfl rfl rfl rfl tb rfl inT one (hr.mono (by decide)) (Nat.zero_le _) (LamX.lamS_by rfl) (fun A outer s H E f1 c1 hr tk => de_methV h_Store_apply hr (by decide) tk.to (de_var 3) (da_cons (de_ix ix_seq snd_ix (de_var 5) (de_int)) (da_cons (de_ix ix_seq snd_ix (de_var 5) (de_int)) (da_nil))))) (da_cons (de_whyP (y0 := "_law_a") (k := 0) (kk := 68) hwhy rfl rfl sc__law_why (.inl rfl) rfl rfl rfl rfl rfl tb rfl inT one (hr.mono (by decide)) (Nat.zero_le _) (lamP_by rfl) (fun A outer s H E f1 c1 hr tk => de_methV h_Store_apply hr (by decide) tk.to (de_var 3) (da_cons (de_ix ix_seq snd_ix (de_var 5) (de_int)) (da_nil))) (show ("_law_a" : Str) ∉ N_law by decide +kernel)) (da_cons (de_whyP (y0 := "_law_b") (k := 0) (kk := 68) hwhy rfl rfl sc__law_why (.inl rfl) rfl rfl rfl rfl rfl tb rfl inT one (hr.mono (by decide)) (Nat.zero_le _) (lamP_by rfl) (fun A outer s H E f1 c1 hr tk => de_methV h_Store_apply hr (by decide) tk.to (de_var 3) (da_cons (de_ix ix_seq snd_ix (de_var 5) (de_int)) (da_cons (de_tup (da_cons (de_str) (da_cons (de_str) (da_nil))) (len_cons (len_cons len_nil))) (da_nil)))) (show ("_law_b" : Str) ∉ N_law by decide +kernel)) (da_cons (de_whyP (y0 := "_law_c") (k := 0) (kk := 68) hwhy rfl rfl sc__law_why (.inl rfl) rfl rfl rfl rfl rfl tb rfl inT one (hr.mono (by decide)) (Nat.zero_le _) (lamP_by rfl) (fun A outer s H E f1 c1 hr tk => de_methV h_Store_apply hr (by decide) tk.to (de_var 3) (da_cons (de_tup (da_cons (de_str) (da_cons (de_str) (da_nil))) (len_cons (len_cons len_nil))) (da_cons (de_ix ix_seq snd_ix (de_var 5) (de_int)) (da_nil)))) (show ("_law_c" : Str) ∉ N_law by decide +kernel)) (da_nil))))) (len_cons (len_cons (len_cons (len_cons len_nil)))))) nd) (dss_cons (ds_if (dt_not (dt_val (de_own h__law_like hr (by decide) tk.to rfl (da_cons (de_fz (do_lst (da_cons (de_var 8) (da_cons (de_ix ix_seq snd_ix (de_methV0 h_Store_names hr (by decide) tk.to (de_var 3)) (de_un un_neg snd_neg (de_int))) (da_cons (de_lenM h_Store___len__ hr (by decide) rfl T.b_len (de_var 3) rfl) (da_cons (de_meth0 h_Store_history hr (by decide) tk.to (de_var 3) rfl) (da_nil))))) (len_cons (len_cons (len_cons (len_cons len_nil)))))) (da_cons (de_fz (do_lst (da_cons (de_fz (do_lst (da_cons (de_var 4) (da_cons (de_tup (da_cons (de_str) (da_cons (de_non) (da_nil))) (len_cons (len_cons len_nil))) (da_cons (de_var 4) (da_cons (de_tup (da_cons (de_str) (da_cons (de_non) (da_nil))) (len_cons (len_cons len_nil))) (da_nil))))) (len_cons (len_cons (len_cons (len_cons len_nil)))))) (da_cons (de_str) (da_cons (de_var 2) (da_cons (de_tup (da_cons (de_op op_add4 snd_add (de_var 2) (de_int)) (da_cons (de_int) (da_nil))) (len_cons (len_cons len_nil))) (da_nil))))) (len_cons (len_cons (len_cons (len_cons len_nil)))))) (da_nil))) (len_cons (len_cons len_nil))))) (dss_one (ds_ret (de_bl))) (dss_nil)) (dss_cons (ds_drop (de_meth0 h_Store_undo hr (by decide) tk.to (de_var 3) rfl)) (dss_cons (ds_set 9 (de_fz (do_lst (da_cons (de_why (k := 0) (kk := 68) hwhy rfl rfl sc__law_why (.inl rfl) rfl rfl rfl rfl rfl tb rfl inT one (hr.mono (by decide)) (Nat.zero_le _) (LamX.lamS_by rfl) (fun A outer s H E f1 c1 hr tk => de_methV h_Store_apply hr (by decide) tk.to (de_var 3) (da_cons (de_ix ix_seq snd_ix (de_var 5) (de_int)) (da_nil)))) (da_cons (de_meth0 h_Store_history hr (by decide) tk.to (de_var 3) rfl) (da_cons (de_ix ix_seq snd_ix (de_methV0 h_Store_names hr (by decide) tk.to (de_var 3)) (de_un un_neg snd_neg (de_int))) (da_nil)))) (len_cons (len_cons (len_cons len_nil))))) nd) (dss_cons (ds_if (dt_not (dt_val (de_own h__law_like hr (by decide) tk.to rfl (da_cons (de_var 9) (da_cons (de_fz (do_lst (da_cons (de_var 4) (da_cons (de_tup (da_cons (de_var 2) (da_cons (de_int) (da_nil))) (len_cons (len_cons len_nil))) (da_cons (de_str) (da_nil)))) (len_cons (len_cons (len_cons len_nil))))) (da_nil))) (len_cons (len_cons len_nil))))) (dss_one (ds_ret (de_bl))) (dss_nil)) (dss_cons (ds_if (dt_cmp (op_eqD hr.units) snd_eq (de_own h__law_take hr (by decide) tk.to rfl (da_cons (de_var 1) (da_cons (de_int) (da_nil))) (len_cons (len_cons len_nil))) (de_int)) (dss_cons (ds_drop (de_meth0 h_Store_redo hr (by decide) tk.to (de_var 3) rfl)) (dss_one (ds_drop (de_meth0 h_Store_undo hr (by decide) tk.to (de_var 3) rfl)))) (dss_nil)) (dss_cons (ds_drop (de_methV0 h_Store_apply hr (by decide) tk.to (de_var 3))) (dss_cons (ds_set 9 (de_fz (do_lst (da_cons (de_meth0 h_Store_history hr (by decide) tk.to (de_var 3) rfl) (da_cons (de_why (k := 0) (kk := 68) hwhy rfl rfl sc__law_why (.inl rfl) rfl rfl rfl rfl rfl tb rfl inT one (hr.mono (by decide)) (Nat.zero_le _) (LamX.lamS_by rfl) (fun A outer s H E f1 c1 hr tk => de_meth0 h_Store_redo hr (by decide) tk.to (de_var 3) rfl)) (da_cons (de_ix ix_seq snd_ix (de_methV0 h_Store_names hr (by decide) tk.to (de_var 3)) (de_un un_neg snd_neg (de_int))) (da_cons (de_lenM h_Store___len__ hr (by decide) rfl T.b_len (de_var 3) rfl) (da_nil))))) (len_cons (len_cons (len_cons (len_cons len_nil)))))) nd) (dss_cons (ds_if (dt_not (dt_val (de_own h__law_like hr (by decide) tk.to rfl (da_cons (de_var 9) (da_cons (de_fz (do_lst (da_cons (de_tup (da_cons (de_op op_add4 snd_add (de_var 2) (de_int)) (da_cons (de_int) (da_nil))) (len_cons (len_cons len_nil))) (da_cons (de_tup (da_cons (de_str) (da_cons (de_non) (da_nil))) (len_cons (len_cons len_nil))) (da_cons (de_str) (da_cons (de_var 2) (da_nil))))) (len_cons (len_cons (len_cons (len_cons len_nil)))))) (da_nil))) (len_cons (len_cons len_nil))))) (dss_one (ds_ret (de_bl))) (dss_nil)) (dss_cons (ds_drop (de_meth0 h_Store_undo hr (by decide) tk.to (de_var 3) rfl)) (dss_cons (ds_drop (de_methV h_Store_apply hr (by decide) tk.to (de_var 3) (da_cons (de_tup (da_cons (de_str) (da_cons (de_str) (da_nil))) (len_cons (len_cons len_nil))) (da_nil)))) (dss_cons (ds_drop (de_meth0 h_Store_undo hr (by decide) tk.to (de_var 3) rfl)) (dss_one (ds_ret (de_own h__law_like hr (by decide) tk.to rfl (da_cons (de_fz (do_lst (da_cons (de_ix ix_seq snd_ix (de_methV0 h_Store_names hr (by decide) tk.to (de_var 3)) (de_un un_neg snd_neg (de_int))) (da_cons (de_meth0 h_Store_history hr (by decide) tk.to (de_var 3) rfl) (da_cons (de_lenM h_Store___len__ hr (by decide) rfl T.b_len (de_var 3) rfl) (da_nil)))) (len_cons (len_cons (len_cons len_nil))))) (da_cons (de_fz (do_lst (da_cons (de_str) (da_cons (de_tup (da_cons (de_var 2) (da_cons (de_int) (da_nil))) (len_cons (len_cons len_nil))) (da_cons (de_var 2) (da_nil)))) (len_cons (len_cons (len_cons len_nil))))) (da_nil))) (len_cons (len_cons len_nil)))))))))))))))))))))
end
omit [Wld] in
theorem all_mk {l : PySem.W.OpenLaw} {w : World} {K : PySem.W.Frag} {h : Heap} {mg : Str → Option Value} {fa : Addr} (hmain : l.prog.main = PySem.Challenge.pw_planloom_k77_room_within_a_step.main) (X : K.In h) (G : h.Ns mainGlobals mg) (hfa : mg "law" = some (.ref fa)) (c : DX.Says endX w h K)
    : ∃ fd : FuncData, (∀ (s : Shared) (v : Value), BindsTo s fd ⟨[v], []⟩ [("_law_script", v)]) ∧ ∀ base : Heap, K.In base → base.Ns mainGlobals mg → (∀ p ∈ TC K, LamX.TabB base mg p.1 p.2) → FnOk l.prog w K mg base (L2.CX l.prog w) 71 fa fd ["_law_script"] (@spD ⟨w⟩ K 1 F_law) := by
  letI : Wld := ⟨w⟩
  have T : Txt w K mg := {
    pw := rfl
    d_is_number := c.defAt X G (C := "") (DX.at_i 0 (by kernel_rfl)) (fun _ _ _ _ _ _ us hl => match us, hl with | [_], _ => rfl)
    d_is_within := c.defAt X G (C := "") (DX.at_i 1 (by kernel_rfl)) (fun _ _ _ _ _ _ us hl => match us, hl with | [_, _, _], _ => rfl)
    d_is_sign := c.defAt X G (C := "") (DX.at_i 2 (by kernel_rfl)) (fun _ _ _ _ _ _ us hl => match us, hl with | [_], _ => rfl)
    d_is_name := c.defAt X G (C := "") (DX.at_i 3 (by kernel_rfl)) (fun _ _ _ _ _ _ us hl => match us, hl with | [_], _ => rfl)
    d_deepest := c.defAt X G (C := "") (DX.at_i 4 (by kernel_rfl)) (fun _ _ _ _ _ _ us hl => match us, hl with | [_], _ => rfl)
    d_read_row := c.defAt X G (C := "") (DX.at_i 5 (by kernel_rfl)) (fun _ _ _ _ _ _ us hl => match us, hl with | [_, _], _ => rfl)
    d_read_part := c.defAt X G (C := "") (DX.at_i 6 (by kernel_rfl)) (fun _ _ _ _ _ _ us hl => match us, hl with | [_, _], _ => rfl)
    d_read_parts := c.defAt X G (C := "") (DX.at_i 7 (by kernel_rfl)) (fun _ _ _ _ _ _ us hl => match us, hl with | [_, _, _], _ => rfl)
    d_read_tree := c.defAt X G (C := "") (DX.at_i 8 (by kernel_rfl)) (fun _ _ _ _ _ _ us hl => match us, hl with | [_], _ => rfl)
    d_scheme_fault := c.defAt X G (C := "") (DX.at_i 9 (by kernel_rfl)) (fun _ _ _ _ _ _ us hl => match us, hl with | [_, _, _, _], _ => rfl)
    d_scheme_text := c.defAt X G (C := "") (DX.at_i 10 (by kernel_rfl)) (fun _ _ _ _ _ _ us hl => match us, hl with | [_], _ => rfl)
    d_Scheme___init__ := c.iniAt X G (DX.at_i 11 (by kernel_rfl)) (c.f 0 (f := fun K => DX.clB K "Scheme") (by kernel_rfl)) (fun _ _ _ _ _ _ us hl => match us, hl with | [_, _], _ => rfl)
    d_Scheme_read := c.staAt X G (DX.at_i 12 (by kernel_rfl)) (c.f 0 (f := fun K => DX.clB K "Scheme") (by kernel_rfl)) (c.f 1 (f := fun K => DX.crB K "Scheme") (by kernel_rfl)) (fun _ _ _ _ _ _ us hl => match us, hl with | [_], _ => rfl)
    d_Scheme_text := c.metAt (DX.at_i 13 (by kernel_rfl)) (c.f 0 (f := fun K => DX.clB K "Scheme") (by kernel_rfl)) (fun _ _ _ _ _ _ us hl => match us, hl with | [_], _ => rfl)
    d_need_command := c.defAt X G (C := "") (DX.at_i 14 (by kernel_rfl)) (fun _ _ _ _ _ _ us hl => match us, hl with | [_], _ => rfl)
    d_need_room := c.defAt X G (C := "") (DX.at_i 15 (by kernel_rfl)) (fun _ _ _ _ _ _ us hl => match us, hl with | [_, _, _], _ => rfl)
    d_behind_text := c.defAt X G (C := "") (DX.at_i 16 (by kernel_rfl)) (fun _ _ _ _ _ _ us hl => match us, hl with | [_, _, _], _ => rfl)
    d_behind := c.defAt X G (C := "") (DX.at_i 17 (by kernel_rfl)) (fun _ _ _ _ _ _ us hl => match us, hl with | [_, _, _], _ => rfl)
    d_Store___init__ := c.inkAt X G (DX.at_i 18 (by kernel_rfl)) (c.f 2 (f := fun K => DX.clB K "Store") (by kernel_rfl))
    d_Store_looked_at := c.metAt (DX.at_i 19 (by kernel_rfl)) (c.f 2 (f := fun K => DX.clB K "Store") (by kernel_rfl)) (fun _ _ _ _ _ _ us hl => match us, hl with | [_, _], _ => rfl)
    d_Store_put := c.metAt (DX.at_i 20 (by kernel_rfl)) (c.f 2 (f := fun K => DX.clB K "Store") (by kernel_rfl)) (fun _ _ _ _ _ _ us hl => match us, hl with | [_, _], _ => rfl)
    d_Store_turn_to := c.metAt (DX.at_i 21 (by kernel_rfl)) (c.f 2 (f := fun K => DX.clB K "Store") (by kernel_rfl)) (fun _ _ _ _ _ _ us hl => match us, hl with | [_, _], _ => rfl)
    d_Store_apply := c.mevAt (DX.at_i 22 (by kernel_rfl)) (c.f 2 (f := fun K => DX.clB K "Store") (by kernel_rfl)) (fun _ _ _ _ _ _ u rest => match rest with | [] => rfl | _ :: _ => rfl)
    d_Store_undo := c.metAt (DX.at_i 23 (by kernel_rfl)) (c.f 2 (f := fun K => DX.clB K "Store") (by kernel_rfl)) (fun _ _ _ _ _ _ us hl => match us, hl with | [_], _ => rfl)
    d_Store_redo := c.metAt (DX.at_i 24 (by kernel_rfl)) (c.f 2 (f := fun K => DX.clB K "Store") (by kernel_rfl)) (fun _ _ _ _ _ _ us hl => match us, hl with | [_], _ => rfl)
    d_Store_history := c.metAt (DX.at_i 25 (by kernel_rfl)) (c.f 2 (f := fun K => DX.clB K "Store") (by kernel_rfl)) (fun _ _ _ _ _ _ us hl => match us, hl with | [_], _ => rfl)
    d_Store_names := c.mevAt (DX.at_i 26 (by kernel_rfl)) (c.f 2 (f := fun K => DX.clB K "Store") (by kernel_rfl)) (fun _ _ _ _ _ _ u rest => match rest with | [] => rfl | _ :: _ => rfl)
    d_Store___len__ := c.metAt (DX.at_i 27 (by kernel_rfl)) (c.f 2 (f := fun K => DX.clB K "Store") (by kernel_rfl)) (fun _ _ _ _ _ _ us hl => match us, hl with | [_], _ => rfl)
    d__law_bag := c.defAt X G (C := "") (DX.at_i 28 (by kernel_rfl)) (fun _ _ _ _ _ _ us hl => match us, hl with | [_], _ => rfl)
    d__law_take := c.defAt X G (C := "") (DX.at_i 29 (by kernel_rfl)) (fun _ _ _ _ _ _ us hl => match us, hl with | [_, _], _ => rfl)
    d__law_like := c.defAt X G (C := "") (DX.at_i 30 (by kernel_rfl)) (fun _ _ _ _ _ _ us hl => match us, hl with | [_, _], _ => rfl)
    d__law_field := c.defAt X G (C := "") (DX.at_i 31 (by kernel_rfl)) (fun _ _ _ _ _ _ us hl => match us, hl with | [_], _ => rfl)
    d__law_why := c.defAt X G (C := "") (DX.at_i 32 (by kernel_rfl)) (fun _ _ _ _ _ _ us hl => match us, hl with | [_], _ => rfl)
    d_law := c.defAt X G (C := "") (DX.at_i 33 (by kernel_rfl)) (fun _ _ _ _ _ _ us hl => match us, hl with | [_], _ => rfl)
    a_algebras := DX.atB_ok (c.f 3 (f := DX.atB "algebras" ["Store"]) (by kernel_rfl))
    a_entries := DX.atB_ok (c.f 4 (f := DX.atB "entries" ["Store"]) (by kernel_rfl))
    a_future := DX.atB_ok (c.f 5 (f := DX.atB "future" ["Store"]) (by kernel_rfl))
    a_is_at_work := DX.atB_ok (c.f 6 (f := DX.atB "is_at_work" ["Store"]) (by kernel_rfl))
    a_many := DX.atB_ok (c.f 7 (f := DX.atB "many" ["Store"]) (by kernel_rfl))
    a_own_limit := DX.atB_ok (c.f 8 (f := DX.atB "own_limit" ["Store"]) (by kernel_rfl))
    a_own_tree := DX.atB_ok (c.f 9 (f := DX.atB "own_tree" ["Plan", "Scheme"]) (by kernel_rfl))
    a_past := DX.atB_ok (c.f 10 (f := DX.atB "past" ["Store"]) (by kernel_rfl))
    a_rows := DX.atB_ok (c.f 11 (f := DX.atB "rows" ["Store"]) (by kernel_rfl))
    b_all := PySem.W.mg_none_of X G (He.eqO_ok (c.f 12 (f := DX.frB "all") (by kernel_rfl)))
    b_bool := PySem.W.mg_none_of X G (He.eqO_ok (c.f 13 (f := DX.frB "bool") (by kernel_rfl)))
    b_enumerate := PySem.W.mg_none_of X G (He.eqO_ok (c.f 14 (f := DX.frB "enumerate") (by kernel_rfl)))
    b_int := PySem.W.mg_none_of X G (He.eqO_ok (c.f 15 (f := DX.frB "int") (by kernel_rfl)))
    b_isinstance := PySem.W.mg_none_of X G (He.eqO_ok (c.f 16 (f := DX.frB "isinstance") (by kernel_rfl)))
    b_len := PySem.W.mg_none_of X G (He.eqO_ok (c.f 17 (f := DX.frB "len") (by kernel_rfl)))
    b_list := PySem.W.mg_none_of X G (He.eqO_ok (c.f 18 (f := DX.frB "list") (by kernel_rfl)))
    b_max := PySem.W.mg_none_of X G (He.eqO_ok (c.f 19 (f := DX.frB "max") (by kernel_rfl)))
    b_str := PySem.W.mg_none_of X G (He.eqO_ok (c.f 20 (f := DX.frB "str") (by kernel_rfl)))
    b_tuple := PySem.W.mg_none_of X G (He.eqO_ok (c.f 21 (f := DX.frB "tuple") (by kernel_rfl)))
    b_zip := PySem.W.mg_none_of X G (He.eqO_ok (c.f 22 (f := DX.frB "zip") (by kernel_rfl)))
    c_LETTERS := DX.cstB_ok X G (c.f 23 (f := DX.cstB "LETTERS" cD_LETTERS) (by kernel_rfl))
    c_MOST_BRACKETS := DX.cstB_ok X G (c.f 24 (f := DX.cstB "MOST_BRACKETS" cD_MOST_BRACKETS) (by kernel_rfl))
    c_MOST_NESTED := DX.cstB_ok X G (c.f 25 (f := DX.cstB "MOST_NESTED" cD_MOST_NESTED) (by kernel_rfl))
    c_MOST_SIGNS_schemes := DX.cstB_ok X G (c.f 26 (f := DX.cstB "MOST_SIGNS_schemes" cD_MOST_SIGNS_schemes) (by kernel_rfl))
    t_COUNTS := c.tab X G (DX.at_i 0 (by kernel_rfl)) (c.f 27 (f := DX.tbB "COUNTS" tb_COUNTS) (by kernel_rfl))
    t_MARKS := c.tab X G (DX.at_i 1 (by kernel_rfl)) (c.f 28 (f := DX.tbB "MARKS" tb_MARKS) (by kernel_rfl))
    t_PARTS := c.tab X G (DX.at_i 2 (by kernel_rfl)) (c.f 29 (f := DX.tbB "PARTS" tb_PARTS) (by kernel_rfl))
    cc_Store_MOST := DX.conB_ok (c.f 30 (f := DX.conB "Store" "MOST" (.int 20)) (by kernel_rfl)) (by decide +kernel) }
  obtain ⟨fd, F0_⟩ := c.fn (d := ⟨.D, "", "law", "law", st_law⟩) (DX.at_i 33 (by kernel_rfl))
  have F_law : Fun K "law" "law" st_law (DX.ga K "law") fd := F0_
  have ka : DX.kdB K ⟨.D, "", "law", "law", st_law⟩ = true := c.kd (DX.at_i 33 (by kernel_rfl))
  have e := hfa.symm.trans (PySem.W.mg_of X G (He.eqO_ok ka))
  cases e
  refine ⟨fd, fun s v => by
    obtain ⟨oc, od, kV, doc, pm, an, cdv, ct, osl, rfl, lk, hcd⟩ := F_law.ex
    exact .of_eq rfl, fun base _ _ hTB => ?_⟩
  have es_DuplicateName : ErrS l.prog w K mg base "DuplicateName" "DuplicateName.__init__" st_i_DuplicateName ["name"] := c.errS (st := st_i_DuplicateName) (qual := "DuplicateName.__init__") (b := 0) X G (DX.at_i 0 (by kernel_rfl)) (by rw [hmain]; rfl) (c.f 31 (f := DX.frB "super") (by kernel_rfl)) (by rw [hmain]; decide +kernel) (c.f 32 (f := fun K => He.eqO (PySem.W.nsIn K cStatics "thirdparty.any") (some none)) (by kernel_rfl)) rfl (.cons (.nil)) ⟨rfl, rfl, rfl, by decide +kernel, rfl, by decide +kernel, by decide +kernel, by decide +kernel, by decide +kernel, by decide +kernel⟩ rfl rfl (by decide +kernel) (by decide) (fun _ _ _ _ => rfl) (fun _ _ _ _ => rfl) (fun _ _ _ _ _ _ _ us hl => match us, hl with | [_, _], _ => rfl)
  have e_DuplicateName := es_DuplicateName.err
  have es_Full : ErrS l.prog w K mg base "Full" "Full.__init__" st_i_Full ["most"] := c.errS (st := st_i_Full) (qual := "Full.__init__") (b := 0) X G (DX.at_i 1 (by kernel_rfl)) (by rw [hmain]; rfl) (c.f 31 (f := DX.frB "super") (by kernel_rfl)) (by rw [hmain]; decide +kernel) (c.f 32 (f := fun K => He.eqO (PySem.W.nsIn K cStatics "thirdparty.any") (some none)) (by kernel_rfl)) rfl (.cons (.nil)) ⟨rfl, rfl, rfl, by decide +kernel, rfl, by decide +kernel, by decide +kernel, by decide +kernel, by decide +kernel, by decide +kernel⟩ rfl rfl (by decide +kernel) (by decide) (fun _ _ _ _ => rfl) (fun _ _ _ _ => rfl) (fun _ _ _ _ _ _ _ us hl => match us, hl with | [_, _], _ => rfl)
  have e_Full := es_Full.err
  have es_InvalidCommand : ErrS l.prog w K mg base "InvalidCommand" "InvalidCommand.__init__" st_i_InvalidCommand ["word"] := c.errS (st := st_i_InvalidCommand) (qual := "InvalidCommand.__init__") (b := 0) X G (DX.at_i 2 (by kernel_rfl)) (by rw [hmain]; rfl) (c.f 31 (f := DX.frB "super") (by kernel_rfl)) (by rw [hmain]; decide +kernel) (c.f 32 (f := fun K => He.eqO (PySem.W.nsIn K cStatics "thirdparty.any") (some none)) (by kernel_rfl)) rfl (.cons (.nil)) ⟨rfl, rfl, rfl, by decide +kernel, rfl, by decide +kernel, by decide +kernel, by decide +kernel, by decide +kernel, by decide +kernel⟩ rfl rfl (by decide +kernel) (by decide) (fun _ _ _ _ => rfl) (fun _ _ _ _ => rfl) (fun _ _ _ _ _ _ _ us hl => match us, hl with | [_, _], _ => rfl)
  have e_InvalidCommand := es_InvalidCommand.err
  have es_InvalidLimit : ErrS l.prog w K mg base "InvalidLimit" "InvalidLimit.__init__" st_i_InvalidLimit ["given"] := c.errS (st := st_i_InvalidLimit) (qual := "InvalidLimit.__init__") (b := 0) X G (DX.at_i 3 (by kernel_rfl)) (by rw [hmain]; rfl) (c.f 31 (f := DX.frB "super") (by kernel_rfl)) (by rw [hmain]; decide +kernel) (c.f 32 (f := fun K => He.eqO (PySem.W.nsIn K cStatics "thirdparty.any") (some none)) (by kernel_rfl)) rfl (.cons (.nil)) ⟨rfl, rfl, rfl, by decide +kernel, rfl, by decide +kernel, by decide +kernel, by decide +kernel, by decide +kernel, by decide +kernel⟩ rfl rfl (by decide +kernel) (by decide) (fun _ _ _ _ => rfl) (fun _ _ _ _ => rfl) (fun _ _ _ _ _ _ _ us hl => match us, hl with | [_, _], _ => rfl)
  have e_InvalidLimit := es_InvalidLimit.err
  have es_InvalidName : ErrS l.prog w K mg base "InvalidName" "InvalidName.__init__" st_i_InvalidName ["name"] := c.errS (st := st_i_InvalidName) (qual := "InvalidName.__init__") (b := 0) X G (DX.at_i 4 (by kernel_rfl)) (by rw [hmain]; rfl) (c.f 31 (f := DX.frB "super") (by kernel_rfl)) (by rw [hmain]; decide +kernel) (c.f 32 (f := fun K => He.eqO (PySem.W.nsIn K cStatics "thirdparty.any") (some none)) (by kernel_rfl)) rfl (.cons (.nil)) ⟨rfl, rfl, rfl, by decide +kernel, rfl, by decide +kernel, by decide +kernel, by decide +kernel, by decide +kernel, by decide +kernel⟩ rfl rfl (by decide +kernel) (by decide) (fun _ _ _ _ => rfl) (fun _ _ _ _ => rfl) (fun _ _ _ _ _ _ _ us hl => match us, hl with | [_, _], _ => rfl)
  have e_InvalidName := es_InvalidName.err
  have es_InvalidScheme : ErrS l.prog w K mg base "InvalidScheme" "InvalidScheme.__init__" st_i_InvalidScheme ["path"] := c.errS (st := st_i_InvalidScheme) (qual := "InvalidScheme.__init__") (b := 0) X G (DX.at_i 5 (by kernel_rfl)) (by rw [hmain]; rfl) (c.f 31 (f := DX.frB "super") (by kernel_rfl)) (by rw [hmain]; decide +kernel) (c.f 32 (f := fun K => He.eqO (PySem.W.nsIn K cStatics "thirdparty.any") (some none)) (by kernel_rfl)) rfl (.cons (.nil)) ⟨rfl, rfl, rfl, by decide +kernel, rfl, by decide +kernel, by decide +kernel, by decide +kernel, by decide +kernel, by decide +kernel⟩ rfl rfl (by decide +kernel) (by decide) (fun _ _ _ _ => rfl) (fun _ _ _ _ => rfl) (fun _ _ _ _ _ _ _ us hl => match us, hl with | [_, _], _ => rfl)
  have e_InvalidScheme := es_InvalidScheme.err
  have es_InvalidText : ErrS l.prog w K mg base "InvalidText" "InvalidText.__init__" st_i_InvalidText ["given"] := c.errS (st := st_i_InvalidText) (qual := "InvalidText.__init__") (b := 0) X G (DX.at_i 6 (by kernel_rfl)) (by rw [hmain]; rfl) (c.f 31 (f := DX.frB "super") (by kernel_rfl)) (by rw [hmain]; decide +kernel) (c.f 32 (f := fun K => He.eqO (PySem.W.nsIn K cStatics "thirdparty.any") (some none)) (by kernel_rfl)) rfl (.cons (.nil)) ⟨rfl, rfl, rfl, by decide +kernel, rfl, by decide +kernel, by decide +kernel, by decide +kernel, by decide +kernel, by decide +kernel⟩ rfl rfl (by decide +kernel) (by decide) (fun _ _ _ _ => rfl) (fun _ _ _ _ => rfl) (fun _ _ _ _ _ _ _ us hl => match us, hl with | [_, _], _ => rfl)
  have e_InvalidText := es_InvalidText.err
  have es_NothingLeft : ErrS l.prog w K mg base "NothingLeft" "NothingLeft.__init__" st_i_NothingLeft [] := c.errS (st := st_i_NothingLeft) (qual := "NothingLeft.__init__") (b := 2) X G (DX.at_i 7 (by kernel_rfl)) (by rw [hmain]; rfl) (c.f 31 (f := DX.frB "super") (by kernel_rfl)) (by rw [hmain]; decide +kernel) (c.f 32 (f := fun K => He.eqO (PySem.W.nsIn K cStatics "thirdparty.any") (some none)) (by kernel_rfl)) rfl (.nil) ⟨rfl, rfl, rfl, by decide +kernel, rfl, by decide +kernel, by decide +kernel, by decide +kernel, by decide +kernel, by decide +kernel⟩ rfl rfl (by decide +kernel) (by decide) (fun _ _ _ _ => rfl) (fun _ _ _ _ => rfl) (fun _ _ _ _ _ _ _ us hl => match us, hl with | [_], _ => rfl)
  have e_NothingLeft := es_NothingLeft.err
  have es_UnknownName : ErrS l.prog w K mg base "UnknownName" "UnknownName.__init__" st_i_UnknownName ["name"] := c.errS (st := st_i_UnknownName) (qual := "UnknownName.__init__") (b := 1) X G (DX.at_i 8 (by kernel_rfl)) (by rw [hmain]; rfl) (c.f 31 (f := DX.frB "super") (by kernel_rfl)) (by rw [hmain]; decide +kernel) (c.f 32 (f := fun K => He.eqO (PySem.W.nsIn K cStatics "thirdparty.any") (some none)) (by kernel_rfl)) rfl (.cons (.nil)) ⟨rfl, rfl, rfl, by decide +kernel, rfl, by decide +kernel, by decide +kernel, by decide +kernel, by decide +kernel, by decide +kernel⟩ rfl rfl (by decide +kernel) (by decide) (fun _ _ _ _ => rfl) (fun _ _ _ _ => rfl) (fun _ _ _ _ _ _ _ us hl => match us, hl with | [_, _], _ => rfl)
  have e_UnknownName := es_UnknownName.err
  have es_WrongKind : ErrS l.prog w K mg base "WrongKind" "WrongKind.__init__" st_i_WrongKind ["name"] := c.errS (st := st_i_WrongKind) (qual := "WrongKind.__init__") (b := 0) X G (DX.at_i 9 (by kernel_rfl)) (by rw [hmain]; rfl) (c.f 31 (f := DX.frB "super") (by kernel_rfl)) (by rw [hmain]; decide +kernel) (c.f 32 (f := fun K => He.eqO (PySem.W.nsIn K cStatics "thirdparty.any") (some none)) (by kernel_rfl)) rfl (.cons (.nil)) ⟨rfl, rfl, rfl, by decide +kernel, rfl, by decide +kernel, by decide +kernel, by decide +kernel, by decide +kernel, by decide +kernel⟩ rfl rfl (by decide +kernel) (by decide) (fun _ _ _ _ => rfl) (fun _ _ _ _ => rfl) (fun _ _ _ _ _ _ _ us hl => match us, hl with | [_, _], _ => rfl)
  have e_WrongKind := es_WrongKind.err
  have hwhy := why_mk (P := l.prog) (w := w) (base := base) T (PySem.W.mg_of X G (He.eqO_ok (c.f 53 (f := DX.vaB "LoomError") (by kernel_rfl)))) (PySem.W.mg_of X G (He.eqO_ok (c.f 54 (f := DX.vaB "Missing") (by kernel_rfl)))) (PySem.W.mg_of X G (He.eqO_ok (c.f 55 (f := DX.vaB "NothingLeft") (by kernel_rfl)))) (List.forall_mem_cons.mpr ⟨⟨_, caught_of (He.eqO_ok (c.f 52 (f := DX.fvB "DuplicateName") (by kernel_rfl))) (c.f 51 (f := fun K => caughtB K [DX.vaN K "LoomError", DX.vaN K "Missing", DX.vaN K "NothingLeft"] (DX.ga K "DuplicateName")) (by kernel_rfl))⟩, List.forall_mem_cons.mpr ⟨⟨_, caught_of (He.eqO_ok (c.f 50 (f := DX.fvB "Full") (by kernel_rfl))) (c.f 49 (f := fun K => caughtB K [DX.vaN K "LoomError", DX.vaN K "Missing", DX.vaN K "NothingLeft"] (DX.ga K "Full")) (by kernel_rfl))⟩, List.forall_mem_cons.mpr ⟨⟨_, caught_of (He.eqO_ok (c.f 48 (f := DX.fvB "InvalidCommand") (by kernel_rfl))) (c.f 47 (f := fun K => caughtB K [DX.vaN K "LoomError", DX.vaN K "Missing", DX.vaN K "NothingLeft"] (DX.ga K "InvalidCommand")) (by kernel_rfl))⟩, List.forall_mem_cons.mpr ⟨⟨_, caught_of (He.eqO_ok (c.f 46 (f := DX.fvB "InvalidLimit") (by kernel_rfl))) (c.f 45 (f := fun K => caughtB K [DX.vaN K "LoomError", DX.vaN K "Missing", DX.vaN K "NothingLeft"] (DX.ga K "InvalidLimit")) (by kernel_rfl))⟩, List.forall_mem_cons.mpr ⟨⟨_, caught_of (He.eqO_ok (c.f 44 (f := DX.fvB "InvalidName") (by kernel_rfl))) (c.f 43 (f := fun K => caughtB K [DX.vaN K "LoomError", DX.vaN K "Missing", DX.vaN K "NothingLeft"] (DX.ga K "InvalidName")) (by kernel_rfl))⟩, List.forall_mem_cons.mpr ⟨⟨_, caught_of (He.eqO_ok (c.f 42 (f := DX.fvB "InvalidScheme") (by kernel_rfl))) (c.f 41 (f := fun K => caughtB K [DX.vaN K "LoomError", DX.vaN K "Missing", DX.vaN K "NothingLeft"] (DX.ga K "InvalidScheme")) (by kernel_rfl))⟩, List.forall_mem_cons.mpr ⟨⟨_, caught_of (He.eqO_ok (c.f 40 (f := DX.fvB "InvalidText") (by kernel_rfl))) (c.f 39 (f := fun K => caughtB K [DX.vaN K "LoomError", DX.vaN K "Missing", DX.vaN K "NothingLeft"] (DX.ga K "InvalidText")) (by kernel_rfl))⟩, List.forall_mem_cons.mpr ⟨⟨_, caught_of (He.eqO_ok (c.f 38 (f := DX.fvB "NothingLeft") (by kernel_rfl))) (c.f 37 (f := fun K => caughtB K [DX.vaN K "LoomError", DX.vaN K "Missing", DX.vaN K "NothingLeft"] (DX.ga K "NothingLeft")) (by kernel_rfl))⟩, List.forall_mem_cons.mpr ⟨⟨_, caught_of (He.eqO_ok (c.f 36 (f := DX.fvB "UnknownName") (by kernel_rfl))) (c.f 35 (f := fun K => caughtB K [DX.vaN K "LoomError", DX.vaN K "Missing", DX.vaN K "NothingLeft"] (DX.ga K "UnknownName")) (by kernel_rfl))⟩, List.forall_mem_cons.mpr ⟨⟨_, caught_of (He.eqO_ok (c.f 34 (f := DX.fvB "WrongKind") (by kernel_rfl))) (c.f 33 (f := fun K => caughtB K [DX.vaN K "LoomError", DX.vaN K "Missing", DX.vaN K "NothingLeft"] (DX.ga K "WrongKind")) (by kernel_rfl))⟩, fun c h => by cases h⟩⟩⟩⟩⟩⟩⟩⟩⟩⟩)
  have tl := tl_of (of_decide_eq_true (c.f 56 (f := DX.tlB "law") (by kernel_rfl)))
  have tb := hTB (DX.cA K (DX.ga K "law"), tpOf K "law") (List.mem_filterMap.mpr ⟨"law", by decide, tl⟩)
  have inT : (tpOf K "law", ("law" ++ ".<locals>." ++ "<lambda>" : Str)) ∈ TK K := List.mem_filterMap.mpr ⟨"law", by decide, by rw [tl]; rfl⟩
  have one := DX.olB_ok (c.f 57 (f := DX.olB "law") (by kernel_rfl))
  have h_is_number := ok_is_number (P := l.prog) (w := w) (base := base) T     
  have h_is_within := ok_is_within (P := l.prog) (w := w) (base := base) T h_is_number    
  have h_is_sign := ok_is_sign (P := l.prog) (w := w) (base := base) T     
  have h_is_name := ok_is_name (P := l.prog) (w := w) (base := base) T h_is_sign    
  have h_deepest := ok_deepest (P := l.prog) (w := w) (base := base) T     
  have h_read_row := ok_read_row_ (P := l.prog) (w := w) (base := base) T h_is_sign   e_InvalidText  60
  have h_read_part := ok_read_part_ (P := l.prog) (w := w) (base := base) T h_is_sign   e_InvalidText  60
  have h_read_parts := ok_read_parts_ (P := l.prog) (w := w) (base := base) T h_is_sign   e_InvalidText  60
  have h_read_tree := ok_read_tree (P := l.prog) (w := w) (base := base) T h_deepest h_read_row   e_InvalidText 
  have h_scheme_fault := ok_scheme_fault (P := l.prog) (w := w) (base := base) T h_is_sign     12
  have h_scheme_text := ok_scheme_text (P := l.prog) (w := w) (base := base) T      12
  have h_Scheme___init__ := ok_Scheme___init__ (P := l.prog) (w := w) (base := base) T h_scheme_fault   e_InvalidScheme 
  have h_Scheme_read := ok_Scheme_read (P := l.prog) (w := w) (base := base) T h_read_tree h_scheme_fault h_scheme_text h_Scheme___init__   e_InvalidText 
  have h_Scheme_text := ok_Scheme_text (P := l.prog) (w := w) (base := base) T h_scheme_text    
  have h_need_command := ok_need_command (P := l.prog) (w := w) (base := base) T    e_InvalidCommand 
  have h_need_room := ok_need_room (P := l.prog) (w := w) (base := base) T    e_Full 
  have h_behind_text := ok_behind_text (P := l.prog) (w := w) (base := base) T h_is_name h_Scheme_read h_need_room   e_InvalidName e_WrongKind 
  have h_behind := ok_behind (P := l.prog) (w := w) (base := base) T h_is_name h_need_command h_behind_text   e_DuplicateName e_InvalidName e_UnknownName 
  have hk_Store___init__ := okk_Store___init__ (P := l.prog) (w := w) (base := base) T h_is_within   e_InvalidLimit 
  have h_Store_looked_at := ok_Store_looked_at (P := l.prog) (w := w) (base := base) T     
  have h_Store_put := ok_Store_put (P := l.prog) (w := w) (base := base) T h_Scheme_text    
  have h_Store_turn_to := ok_Store_turn_to (P := l.prog) (w := w) (base := base) T h_Store_put    
  have h_Store_apply := ok_Store_apply (P := l.prog) (w := w) (base := base) T h_behind h_Store_looked_at h_Store_turn_to    
  have h_Store_undo := ok_Store_undo (P := l.prog) (w := w) (base := base) T h_Store_turn_to   e_NothingLeft 
  have h_Store_redo := ok_Store_redo (P := l.prog) (w := w) (base := base) T h_Store_turn_to   e_NothingLeft 
  have h_Store_history := ok_Store_history (P := l.prog) (w := w) (base := base) T     
  have h_Store_names := ok_Store_names (P := l.prog) (w := w) (base := base) T     
  have h_Store___len__ := ok_Store___len__ (P := l.prog) (w := w) (base := base) T     
  have h__law_bag := ok__law_bag (P := l.prog) (w := w) (base := base) T     
  have h__law_take := ok__law_take (P := l.prog) (w := w) (base := base) T     
  have h__law_like := ok__law_like (P := l.prog) (w := w) (base := base) T      12
  exact ok_law T h_Store_apply h_Store_undo h_Store_redo h_Store_history h_Store_names h_Store___len__ h__law_bag h__law_take h__law_like hk_Store___init__    hwhy tb inT one F_law (DX.code_of F_law)
end K77
namespace K77
open PySem L2 DL
variable [Wld]
abbrev E0 (d0 : D) (n : Int) : DL.Env := [.val d0, .val (.ref 0), .val (.int n), .no, .no, .no, .no, .no, .no, .no]
def P1 : Fs := sSeq (s_907) (sSeq (s_908) (sSeq (s_909) (sSeq (s_911) (sSeq (s_912) (sSeq (s_914) (sSeq (s_915) (s_916)))))))
def P2 : Fs := sSeq (s_921) (sSeq (s_922) (sSeq (s_923) (sSeq (s_925) (sSeq (s_926) (sSeq (s_927) (s_928))))))
def fin : RS → Bool
  | .rt (.bl true) _ => true
  | _ => false
def chk (n : Int) (r : Bool) (d0 : D) (b b' : MO) : Bool := match P1 (E0 d0 n) [b] with
  | .nx e M => (match (match r with | true => sSeq s_919 s_920 e (M.set 0 b') | false => .nx e (M.set 0 b')) with
    | .nx e2 M2 => fin (P2 e2 M2)
    | _ => false)
  | _ => false
def at0 (n : Int) (d0 : D) (b : MO) : Option MO × Option Sl := match P1 (E0 d0 n) [b] with
  | .nx e M => (M.head?, e[1]?)
  | _ => (none, none)
theorem c1_true (d0 : D) (b b' : MO) : chk 1 true d0 b b' = true := by kernel_rfl
theorem c1_false (d0 : D) (b b' : MO) : chk 1 false d0 b b' = true := by kernel_rfl
theorem a1 (d0 : D) (b : MO) : at0 1 d0 b = (some b, some (.val (.ref 0))) := by kernel_rfl
theorem c2_true (d0 : D) (b b' : MO) : chk 2 true d0 b b' = true := by kernel_rfl
theorem c2_false (d0 : D) (b b' : MO) : chk 2 false d0 b b' = true := by kernel_rfl
theorem a2 (d0 : D) (b : MO) : at0 2 d0 b = (some b, some (.val (.ref 0))) := by kernel_rfl
theorem c3_true (d0 : D) (b b' : MO) : chk 3 true d0 b b' = true := by kernel_rfl
theorem c3_false (d0 : D) (b b' : MO) : chk 3 false d0 b b' = true := by kernel_rfl
theorem a3 (d0 : D) (b : MO) : at0 3 d0 b = (some b, some (.val (.ref 0))) := by kernel_rfl
theorem c4_true (d0 : D) (b b' : MO) : chk 4 true d0 b b' = true := by kernel_rfl
theorem c4_false (d0 : D) (b b' : MO) : chk 4 false d0 b b' = true := by kernel_rfl
theorem a4 (d0 : D) (b : MO) : at0 4 d0 b = (some b, some (.val (.ref 0))) := by kernel_rfl
theorem c5_true (d0 : D) (b b' : MO) : chk 5 true d0 b b' = true := by kernel_rfl
theorem c5_false (d0 : D) (b b' : MO) : chk 5 false d0 b b' = true := by kernel_rfl
theorem a5 (d0 : D) (b : MO) : at0 5 d0 b = (some b, some (.val (.ref 0))) := by kernel_rfl
theorem c6_true (d0 : D) (b b' : MO) : chk 6 true d0 b b' = true := by kernel_rfl
theorem c6_false (d0 : D) (b b' : MO) : chk 6 false d0 b b' = true := by kernel_rfl
theorem a6 (d0 : D) (b : MO) : at0 6 d0 b = (some b, some (.val (.ref 0))) := by kernel_rfl
theorem c7_true (d0 : D) (b b' : MO) : chk 7 true d0 b b' = true := by kernel_rfl
theorem c7_false (d0 : D) (b b' : MO) : chk 7 false d0 b b' = true := by kernel_rfl
theorem a7 (d0 : D) (b : MO) : at0 7 d0 b = (some b, some (.val (.ref 0))) := by kernel_rfl
theorem c8_true (d0 : D) (b b' : MO) : chk 8 true d0 b b' = true := by kernel_rfl
theorem c8_false (d0 : D) (b b' : MO) : chk 8 false d0 b b' = true := by kernel_rfl
theorem a8 (d0 : D) (b : MO) : at0 8 d0 b = (some b, some (.val (.ref 0))) := by kernel_rfl
theorem c9_true (d0 : D) (b b' : MO) : chk 9 true d0 b b' = true := by kernel_rfl
theorem c9_false (d0 : D) (b b' : MO) : chk 9 false d0 b b' = true := by kernel_rfl
theorem a9 (d0 : D) (b : MO) : at0 9 d0 b = (some b, some (.val (.ref 0))) := by kernel_rfl
theorem c10_true (d0 : D) (b b' : MO) : chk 10 true d0 b b' = true := by kernel_rfl
theorem c10_false (d0 : D) (b b' : MO) : chk 10 false d0 b b' = true := by kernel_rfl
theorem a10 (d0 : D) (b : MO) : at0 10 d0 b = (some b, some (.val (.ref 0))) := by kernel_rfl
theorem c11_true (d0 : D) (b b' : MO) : chk 11 true d0 b b' = true := by kernel_rfl
theorem c11_false (d0 : D) (b b' : MO) : chk 11 false d0 b b' = true := by kernel_rfl
theorem a11 (d0 : D) (b : MO) : at0 11 d0 b = (some b, some (.val (.ref 0))) := by kernel_rfl
theorem all_n (n : Int) (h : 1 ≤ n) (h2 : n ≤ 11) (d0 : D) (b : MO) : at0 n d0 b = (some b, some (.val (.ref 0))) ∧ ∀ r b', chk n r d0 b b' = true := by
  have : n = 1 ∨ n = 2 ∨ n = 3 ∨ n = 4 ∨ n = 5 ∨ n = 6 ∨ n = 7 ∨ n = 8 ∨ n = 9 ∨ n = 10 ∨ n = 11 := by omega
  rcases this with rfl | rfl | rfl | rfl | rfl | rfl | rfl | rfl | rfl | rfl | rfl
  · exact ⟨a1 d0 b, fun r b' => match r with | true => c1_true d0 b b' | false => c1_false d0 b b'⟩
  · exact ⟨a2 d0 b, fun r b' => match r with | true => c2_true d0 b b' | false => c2_false d0 b b'⟩
  · exact ⟨a3 d0 b, fun r b' => match r with | true => c3_true d0 b b' | false => c3_false d0 b b'⟩
  · exact ⟨a4 d0 b, fun r b' => match r with | true => c4_true d0 b b' | false => c4_false d0 b b'⟩
  · exact ⟨a5 d0 b, fun r b' => match r with | true => c5_true d0 b b' | false => c5_false d0 b b'⟩
  · exact ⟨a6 d0 b, fun r b' => match r with | true => c6_true d0 b b' | false => c6_false d0 b b'⟩
  · exact ⟨a7 d0 b, fun r b' => match r with | true => c7_true d0 b b' | false => c7_false d0 b b'⟩
  · exact ⟨a8 d0 b, fun r b' => match r with | true => c8_true d0 b b' | false => c8_false d0 b b'⟩
  · exact ⟨a9 d0 b, fun r b' => match r with | true => c9_true d0 b b' | false => c9_false d0 b b'⟩
  · exact ⟨a10 d0 b, fun r b' => match r with | true => c10_true d0 b b' | false => c10_false d0 b b'⟩
  · exact ⟨a11 d0 b, fun r b' => match r with | true => c11_true d0 b b' | false => c11_false d0 b b'⟩
end K77
namespace K77
open PySem L2 DL
variable [Wld]
theorem seq_assoc (a b c : Fs) : sSeq a (sSeq b c) = sSeq (sSeq a b) c := by
  funext env M
  unfold sSeq
  cases a env M <;> rfl
theorem gEq_int (M : Mem) (x y : Int) : gEq M (.int x) (.int y) = some (.bl (x == y)) := by
  simp [gEq, toPy, SeqAt.shaped, PyData.canLay0, PyData.depth, PyData.eqv]
theorem g_law_is : g_law = sSeq s_905 (sSeq s_906 (sSeq P1 (sSeq s_918 P2))) := by
  unfold g_law P1 P2
  simp only [seq_assoc]
theorem truth (ns : List Int) (h : ns.length ≤ 63) : ∃ M, F_law [scriptD ns] [] = .ok (.bl true) M := by
  obtain ⟨M, q, B⟩ := bag_ok h
  have t1 : s_905 [.val (scriptD ns), .no, .no, .no, .no, .no, .no, .no, .no, .no] [] = .nx [.val (scriptD ns), .val (.ref 0), .no, .no, .no, .no, .no, .no, .no, .no] M := set_of (call_of rfl q)
  obtain ⟨r, M1, q1, r0, r1, B1⟩ := take_ok B (n := 11) (by decide) (by decide)
  have t2 : s_906 [.val (scriptD ns), .val (.ref 0), .no, .no, .no, .no, .no, .no, .no, .no] M = .nx (E0 (scriptD ns) (1 + r)) M1 := by
    refine set_of ?_
    show ((R.ok (D.int 1) M).bind fun d M1 => (fCall F__law_take [] _ _ M1).bind _) = _
    rw [R.bind_ok, call_of (F := F__law_take) (ds := [.ref 0, .int 11]) (M1 := M) rfl q1, R.bind_ok]
    rfl
  obtain ⟨row, i, g, m, c, rfl, hi⟩ := B1
  obtain ⟨a1, a2⟩ := all_n (1 + r) (by omega) (by omega) (scriptD ns) (bagO row i g m c)
  cases qP : P1 (E0 (scriptD ns) (1 + r)) [bagO row i g m c] with
  | nx e M2 =>
    unfold at0 at a1
    rw [qP] at a1
    have a1 : (M2.head?, e[1]?) = (some (bagO row i g m c), some (Sl.val (D.ref 0))) := a1
    obtain ⟨h1, h2⟩ := Prod.mk.inj a1
    cases M2 with
    | nil => cases h1
    | cons b0 R2 =>
      have h1 : b0 = _ := Option.some.inj h1
      subst h1
      obtain ⟨r', M3, q3, z0, z1, B3⟩ := take_ok (R := R2) (M := bagO row i g m c :: R2) (n := 2) ⟨row, i, g, m, c, rfl, hi⟩ (by decide) (by decide)
      obtain ⟨row', i', g', m', c', rfl, hi'⟩ := B3
      have c2 := a2 (r' == 0) (bagO row' i' g' m' c')
      unfold chk at c2
      rw [qP] at c2
      have tst : tVal (fOp gEq (fCall F__law_take [] (fCons (fVar 1) (fCons (fK (.int 2)) (fNil)))) (fK (.int 0))) e (bagO row i g m c :: R2) = .ok (r' == 0) (bagO row' i' g' m' c' :: R2) := by
        refine val_of ?_
        have e1 : (fCall F__law_take [] (fCons (fVar 1) (fCons (fK (.int 2)) (fNil)))) e (bagO row i g m c :: R2) = .ok (.int r') (bagO row' i' g' m' c' :: R2) := by
          refine call_of (F := F__law_take) (ds := [.ref 0, .int 2]) (M1 := bagO row i g m c :: R2) ?_ q3
          show ((fVar 1 e _).bind _) = _
          unfold fVar
          rw [h2]
          rfl
        unfold fOp
        rw [e1, R.bind_ok]
        show ((R.ok (D.int 0) _).bind _) = _
        rw [R.bind_ok, gEq_int]
      have s8 : s_918 e (bagO row i g m c :: R2) = (if (r' == 0) = true then sSeq s_919 s_920 e (bagO row' i' g' m' c' :: R2) else .nx e (bagO row' i' g' m' c' :: R2)) := if_of tst
      have c2 : (match (match (r' == 0) with | true => sSeq s_919 s_920 e (bagO row' i' g' m' c' :: R2) | false => .nx e (bagO row' i' g' m' c' :: R2)) with
        | .nx e2 M2 => fin (P2 e2 M2)
        | _ => false) = true := c2
      have key : ∃ M', sSeq s_918 P2 e (bagO row i g m c :: R2) = .rt (.bl true) M' := by
        have fn : ∀ x, fin x = true → ∃ M', x = .rt (.bl true) M' := fun x hx => by
          unfold fin at hx
          split at hx
          · exact ⟨_, rfl⟩
          · cases hx
        unfold sSeq
        rw [s8]
        cases hz : (r' == 0) with
        | true =>
          rw [hz] at c2
          simp only [if_true]
          revert c2
          cases hq : sSeq s_919 s_920 e (bagO row' i' g' m' c' :: R2) with
          | nx e2 M4 => exact fun c2 => fn _ c2
          | _ => intro c2; cases c2
        | false =>
          rw [hz] at c2
          exact fn _ c2
      obtain ⟨M', hM⟩ := key
      refine ⟨M', body_rt rfl ?_⟩
      rw [g_law_is]
      exact (seq_of t1).trans ((seq_of t2).trans ((seq_of qP).trans hM))
  | _ => unfold at0 at a1; rw [qP] at a1; cases a1
end K77
open PySem PySem.W PyProof.Rows
set_option maxHeartbeats 0 in
theorem K77.endX_run_false (w : World) : HandSHeadRun.RunEq (PySem.W.OpenLaw.row PySem.Challenge.rw_planloom_k77_room_within_a_step) (PySem.W.view (PySem.W.OpenLaw.row PySem.Challenge.rw_planloom_k77_room_within_a_step).prog [118]) (DX.hook K77.endX 0 2500) (DX.obT K77.endX 0 2500) 20000 K77.endX_loose (w.withFollow "special-get-raises" false) := DX.run_parts (K77.endX_run_false_D w) (K77.endX_run_false_A w) (K77.endX_run_false_B w) (K77.endX_run_false_C w)
set_option maxHeartbeats 0 in
theorem K77.endX_run_true (w : World) : HandSHeadRun.RunEq (PySem.W.OpenLaw.row PySem.Challenge.rw_planloom_k77_room_within_a_step) (PySem.W.view (PySem.W.OpenLaw.row PySem.Challenge.rw_planloom_k77_room_within_a_step).prog [118]) (DX.hook K77.endX 0 2500) (DX.obT K77.endX 0 2500) 20000 K77.endX_loose (w.withFollow "special-get-raises" true) := DX.run_parts (K77.endX_run_true_D w) (K77.endX_run_true_A w) (K77.endX_run_true_B w) (K77.endX_run_true_C w)
set_option maxHeartbeats 0 in
theorem K77.endX_run (w : World) : HandSHeadRun.RunEq (PySem.W.OpenLaw.row PySem.Challenge.rw_planloom_k77_room_within_a_step) (PySem.W.view (PySem.W.OpenLaw.row PySem.Challenge.rw_planloom_k77_room_within_a_step).prog [118]) (DX.hook K77.endX 0 2500) (DX.obT K77.endX 0 2500) 20000 K77.endX_loose w := byRow2 "special-get-raises" (P := fun w => HandSHeadRun.RunEq (PySem.W.OpenLaw.row PySem.Challenge.rw_planloom_k77_room_within_a_step) (PySem.W.view (PySem.W.OpenLaw.row PySem.Challenge.rw_planloom_k77_room_within_a_step).prog [118]) (DX.hook K77.endX 0 2500) (DX.obT K77.endX 0 2500) 20000 K77.endX_loose w) K77.endX_run_false K77.endX_run_true w
set_option maxRecDepth 100000 in
set_option maxHeartbeats 0 in
theorem PySem.Challenge.cw_planloom_k77_room_within_a_step_holds : PySem.Challenge.rw_planloom_k77_room_within_a_step.Holds := by
  w_on; o_law
  refine HandSHeadRun.head_any (r := PySem.W.OpenLaw.row PySem.Challenge.rw_planloom_k77_room_within_a_step) (q := PySem.W.view (PySem.W.OpenLaw.row PySem.Challenge.rw_planloom_k77_room_within_a_step).prog [118]) (H := DX.hook K77.endX 0 2500) (ob := DX.obT K77.endX 0 2500) (M := 20000) (loose := K77.endX_loose) (d := HandSHeadRun.topDef (PySem.W.OpenLaw.row PySem.Challenge.rw_planloom_k77_room_within_a_step).prog 118) (kwd := []) (DX.obT_eq K77.endX 0 2500) (by kernel_rfl) (fun s => by kernel_rfl) K77.endX_run (by kernel_rfl) (by kernel_rfl) (by kernel_rfl) (by rfl) (by first | assumption | decide +kernel) (by decide +kernel) ⟨rfl, rfl, rfl, rfl, rfl, by decide +kernel⟩ ?hw ?hc
  case hw => w_witness2
  case hc =>
    refine DX.walk_X (l := PySem.Challenge.rw_planloom_k77_room_within_a_step) (n := 63) (k := 71) (x := "_law_script") (T := K77.endX) (CX := fun w => L2.CX PySem.Challenge.rw_planloom_k77_room_within_a_step.prog w) (F := fun w => letI : DL.Wld := ⟨w⟩; K77.F_law) rfl (by decide) (by kernel_rfl) ⟨rfl, by decide, by decide⟩ (fun w K mg fa h KX c G hmg => K77.all_mk rfl KX G ((congrArg mg (show ("law" : PySem.Str) = (HandSHeadRun.topDef (PySem.W.OpenLaw.row PySem.Challenge.rw_planloom_k77_room_within_a_step).prog 118).name by kernel_rfl)).trans hmg) c) (fun w => letI : DL.Wld := ⟨w⟩; K77.truth) (fun w H s e s' z => letI : DL.Wld := ⟨w⟩; DL.cx_no z)
