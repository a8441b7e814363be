import PyProof.Rows.All
import Wide.All
import OpenK.AllK
import Wide.FinOn
import HandS.ForMost
import HandS.ForExc
import HandS.HeadHook1
import HandS.Slots
import KE.KeyNested
import HandS.Defaults
import HandS.TupAny
import HandS.TupMul
import HandS.Wide
import HandS.Style
import HandS.Star
import HandS.IsInst
import HandS.Flow
import HandS.Conv
import KE.GoesEnum
import HandS.Head0
import HandS.Head1
import HandS.Head2
import HandS.HeadEnd
import HandS.HeadHook2
import KE.KExcSuper
import HandS.ExcInit
import HandS.Nested
import HandS.Lambda
import HandS.ExcIs
import HandS.ExcField
import KE.KExcIs
import KE.DataAny
import HandS.HeadHook4
import HandS.EndTab
import HandS.NestedK
import KE.KRevSl
import HandS.Strs
import HandS.SetBool
import HandS.SetFor
import PyProof.ListNew
import HandS.SortInts
import HandS.GenList
import KE.DataEq
import HandS.TupLe
import KE.LtData
import KE.KSortTup
import HandS.SortRule
import KE.KDictList
import HandS.HeadHook3
import KE.GoesMore
import HandS.Zip
import HandS.SlotsOwn
import HandS.Property
import HandS.MakeKw
import HandS.NamedTupGet
import HandS.HotCalls
import HandS.TupSets
import HandS.DictTup
import KE.KDictWalk
import PyProof.DictFindH
import HandS.DictComp
import KE.KDictCopyH
import KE.KDictPairs
import KE.KDictKeyed
import HandS.BytesMake
import HandS.Bytes
import HandS.ToBytes
import HandS.Deep
import HandS.ExcValue
import KE.SortKeyHeap
import KE.KDictSum
import HandS.Flt
import HandS.TryOnly
import HandS.FStr
import HandS.Replace
import HandS.RaiseMore
import HandS.MakeKwOnly
import PySem.Challenge.RW_honestbars_k08_signs_written_and_read
set_option Elab.async false
set_option linter.all false
set_option maxRecDepth 100000
set_option maxHeartbeats 0
namespace Dl
open PySem L2
inductive D where
  | non
  | bl (b : Bool)
  | int (i : Int)
  | str (x : Str)
  | byt (b : Array UInt8)
  | tup (xs : List D)
  | lst (xs : List D)
  | ref (a : Addr)
  /-- the script: a list of ints that is read alone -/
  | scr (ns : List Int)
  /-- a lambda, by what is true of its object and its code object (of the name q); n0, H0: what stood when it was handed on -/
  | fn (q : Str) (φ : Addr → Addr → Heap → Prop) (n0 : Addr → Prop) (H0 : Hp)
  /-- an exception at a that is handled: of the class of the name c, its fields at d -/
  | exh (a : Addr) (c : Str) (d : Addr) (ns : List Str) (vs : List D)
def kempB (K : PySem.W.Frag) : Bool := K.any fun p => match p.2 with
  | ⟨.type c, _, .seq its _, _⟩ => decide (c = "tuple") && (match its.toList with
    | .str x _ :: _ => decide (x = ("row" : Str))
    | _ => false)
  | _ => false
end Dl
namespace Dl
open PySem L2
mutual
def repB (K : PySem.W.Frag) : D → Value → Bool
  | .non, u => (match u with
    | .none => true
    | _ => false)
  | .bl b, u => (match u with
    | .bool c => b == c
    | _ => false)
  | .int i, u => (match u with
    | .int j _ => decide (i = j)
    | _ => false)
  | .str x, u => (match u with
    | .str y _ => decide (x = y)
    | _ => false)
  | .tup ds, u => (match u with
    | .ref a => (match K.lookup a with
      | some ⟨.type c, _, .seq its _, _⟩ => decide (c = "tuple") && (decide (its.size ≤ sizeLine) && ((!ds.isEmpty || kempB K) && repBs K ds its.toList))
      | _ => false)
    | _ => false)
  | _, _ => false
def repBs (K : PySem.W.Frag) : List D → List Value → Bool
  | [], [] => true
  | d :: ds, u :: us => repB K d u && repBs K ds us
  | _, _ => false
end
inductive Fx where
  | glo (x : Str)
  | free (x : Str)
  | dat (x : Str) (d : D)
  /-- a fact of a class -/
  | fa (f : He.Fa)
  /-- any other look at the written part -/
  | kb (f : PySem.W.Frag → Bool)
def Fx.ok (K : PySem.W.Frag) : Fx → Bool
  | .glo x => (He.Fa.glo x).ok K
  | .free x => (He.Fa.free x).ok K
  | .dat x d => (match PySem.W.nsIn K mainGlobals x with
    | some (some u) => repB K d u
    | _ => false)
  | .fa f => f.ok K
  | .kb f => f K
def obsX (fx : List Fx) (fn : List He.DefD) (K : PySem.W.Frag) : He.AlD := ((fx.all fun f => f.ok K) && fn.all fun d => d.ok K, fn.map fun d => He.fnW K d.at_)
def SaysX (fx : List Fx) (fn : List He.DefD) (K : PySem.W.Frag) : Prop := obsX fx fn K = He.valD fn
end Dl
namespace Dl
open PySem L2 PyProof.Rows
abbrev veInit : String := "ValueError.__init__"
end Dl
namespace Dl
open PySem L2 PyProof.Rows LamX NdefX
section
variable {P : Program} {w : World} {K : PySem.W.Frag} {mg : Str → Option Value} {base : Heap} {C f c cc D : Addr} {qual x1 x2 f1 f2 : Str} {params : Arguments} {scope : Scope} {dV kV doc pm ct oc : Value} {an od : Option Addr} {osl : Array (Option Value)}
  {p0 p1 p2 p3 p4 q1 q2 r1 r2 r3 r4 r5 r6 r7 r8 : Pos} {ar : Arg}
end
end Dl
namespace Dl
open PySem L2 PyProof.Rows
abbrev CTab := List (Str × List Str × List Str)
def CTab.names (T : CTab) : List Str := T.map (·.1)
def exT1B (K : PySem.W.Frag) (T : CTab) (c : Str) (as fs : List Str) : Bool :=
  (PySem.W.clsIn K (He.ga K c)).isSome && (xfB K (He.ga K c) && (decide (PySem.W.findIn K (.ref (He.ga K c)) "__class__" = some (some (.builtin "object.__class__"))) && (decide (PySem.W.specialIn K (.builtin "object.__class__") "__get__" = some (some (.builtin "getset_descriptor.__get__"))) &&
  (decide (PySem.W.takesIn K (.builtin "object.__class__") = some true) && (decide (PySem.W.mroIn K (He.ga K c) (.type "object") = some true) && (decide (PySem.W.kitOne K (.ref (He.ga K c)) (.type "ValueError") = some true) && (fs.all (fun f => decide (PySem.W.findIn K (.ref (He.ga K c)) f = some none)) &&
  T.names.all fun t => decide (PySem.W.kitOne K (.ref (He.ga K c)) (.ref (He.ga K t)) = some (as.contains t)) && decide (PySem.W.exmOne K (.ref (He.ga K c)) (.ref (He.ga K t)) = some (as.contains t)))))))))
def exTB (K : PySem.W.Frag) (T : CTab) : Bool := T.all fun p => exT1B K T p.1 p.2.1 p.2.2
end Dl
namespace Dl
open PySem PySem.Spec PyProof.Rows L2 LamX
def clsObjB (K : PySem.W.Frag) (C : Addr) : Bool := match K.lookup C with
  | some ⟨.type t, _, .cls cd, sl⟩ => decide (t = "type") && (match cd.mro, sl.toList with
    | .ref C' :: bm, [_, _, _, _, some (.builtin n), _] => decide (C' = C) && (decide (n = "ValueError.__new__") && (!cd.hasDel && (cd.hasDict && PySem.HandSPX.refsVE bm)))
    | _, _ => false)
  | _ => false
structure XD where
  x : Str
  qual : Str
  params : Arguments
  body : List Stmt
  scope : Scope
  fl : List Str
abbrev FnE : Type := Option (Str × Str × Arguments × FuncBody × Scope × Addr × List Str × Addr)
def iniA (K : PySem.W.Frag) (x : Str) : Addr := He.ma K (He.ga K x) "__init__"
def fnE (K : PySem.W.Frag) (x : Str) : FnE := match K.lookup (iniA K x) with
  | some ⟨_, _, .func fd, _⟩ => some (fd.name, fd.qualname, fd.params, fd.body, fd.scope, fd.globals, fd.closure.map (·.1), fd.builtins)
  | _ => none
def XD.val (d : XD) : FnE := some ("__init__", d.qual, d.params, .stmts d.body, d.scope, mainGlobals, [("__class__" : Str)], builtinsNs)
def inimB (K : PySem.W.Frag) (file : Str) (C f : Addr) (qual : Str) : Bool := match K.lookup f with
  | some ⟨_, _, .func fd, _⟩ => (match fd.closure, fd.code, fd.defaults, fd.kwdefaults with
    | [(_, cc)], .ref c, .none, .none => (match K.lookup cc, K.lookup c with
      | some ⟨_, _, .cell (some (.ref D)), _⟩, some ⟨_, _, .fields vs, _⟩ => PySem.W.codeIn K (.ref c) qual && ((PySem.W.clsIn K D).isSome && (decide (PySem.W.mroIn K C (.ref D) = some true) && (decide (PySem.W.ks_superIn K C D "__init__" = some (some (.builtin veInit))) && (match (vs[2]? : Option Value) with
        | some (Value.str fl _) => (file : Str) == fl
        | _ => false))))
      | _, _ => false)
    | _, _, _, _ => false)
  | _ => false
def xinB (K : PySem.W.Frag) (file : Str) (d : XD) : Bool :=
  clsObjB K (He.ga K d.x) && (decide (PySem.W.findIn K (.ref (He.ga K d.x)) "__setattr__" = some (some (.builtin "object.__setattr__"))) && (decide (PySem.W.subIn K (.ref (He.ga K d.x)) (.type "BaseException") = some true) && (decide (PySem.W.typeIn K (.ref (He.ga K d.x)) = some (.type "type")) &&
  (PySem.W.keepIn K (.ref (He.ga K d.x)) && (decide (PySem.W.findIn K (.ref (He.ga K d.x)) "__init__" = some (some (.ref (iniA K d.x)))) && (decide (PySem.W.typeIn K (.ref (iniA K d.x)) = some (.type "function")) && (decide (PySem.W.subIn K (.ref (He.ga K d.x)) (.type "ValueError") = some true) &&
  (decide (PySem.W.nsIn K mainGlobals "super" = some none) && (decide (PySem.W.nsIn K cStatics "thirdparty.any" = some none) && (decide (PySem.W.nsIn K mainGlobals d.x = some (some (.ref (He.ga K d.x)))) && (d.fl.all (fun f => decide (PySem.W.findIn K (.ref (He.ga K d.x)) f = some none)) && inimB K file (He.ga K d.x) (iniA K d.x) d.qual)))))))))))
structure PDef where
  c : Str
  f : Str
  params : Arguments
  body : List Stmt
  scope : Scope
def atA (K : PySem.W.Frag) (c f : Str) : Addr := He.ma K (He.ga K c) f
def getA (K : PySem.W.Frag) (c f : Str) : Addr := match PySem.W.recIn K (atA K c f) "property" with
  | some (.ref g :: _) => g
  | _ => 0
def fnP (K : PySem.W.Frag) (c f : Str) : FnE := match K.lookup (getA K c f) with
  | some ⟨_, _, .func fd, _⟩ => some (fd.name, fd.qualname, fd.params, fd.body, fd.scope, fd.globals, fd.closure.map (·.1), fd.builtins)
  | _ => none
def PDef.qual (d : PDef) : Str := d.c ++ "." ++ d.f
def PDef.val (d : PDef) : FnE := some (d.f, d.qual, d.params, .stmts d.body, d.scope, mainGlobals, [], builtinsNs)
abbrev AlE : Type := He.AlD × Bool × List FnE × List FnE
def obsE (fx : List Fx) (fn : List He.DefD) (tf : List He.Defn) (ex : PySem.W.Frag → Bool) (xs : List XD) (pd : List PDef) (g : Addr → Option Obj) (K : PySem.W.Frag) : AlE := (obsX fx fn K, (ex K && (xs.all fun _ => true) && He.tabsB g tf K && decide ((tf.map fun p => (He.cT K p).2).Nodup)), (xs.map fun d => fnE K d.x), pd.map fun d => fnP K d.c d.f)
def valE (fn : List He.DefD) (xs : List XD) (pd : List PDef) : AlE := (He.valD fn, true, xs.map XD.val, pd.map PDef.val)
structure SaysE (fx : List Fx) (fn : List He.DefD) (tf : List He.Defn) (ex : PySem.W.Frag → Bool) (xs : List XD) (pd : List PDef) (h : Heap) (K : PySem.W.Frag) : Prop where
  x : SaysX fx fn K
  more : ex K = true
  ini : ∀ d ∈ xs, fnE K d.x = d.val
  get : ∀ d ∈ pd, fnP K d.c d.f = d.val
  hd : ∀ p ∈ tf, PySem.W.codeHdIn K (He.cT K p).1 (He.cT K p).2 = true
  out : ∀ p ∈ tf, K.lookup (He.cT K p).2 = none
  empty : ∀ p ∈ tf, h.get? (He.cT K p).2 = some { cls := .none, data := .fields #[] }
  nd : (tf.map fun p => (He.cT K p).2).Nodup
theorem saysE_of {fx : List Fx} {fn : List He.DefD} {tf : List He.Defn} {ex : PySem.W.Frag → Bool} {xs : List XD} {pd : List PDef} {h : Heap} {as : List Addr} (e : obsE fx fn tf ex xs pd h.get? (He.frT h.get? as) = valE fn xs pd) : SaysE fx fn tf ex xs pd h (He.frT h.get? as) := by
  have e1 := congrArg (fun z : AlE => z.1) e
  have e2 := congrArg (fun z : AlE => z.2.1) e
  have e3 := congrArg (fun z : AlE => z.2.2.1) e
  have e4 := congrArg (fun z : AlE => z.2.2.2) e
  dsimp only [obsE, valE] at e1 e2 e3 e4
  simp only [Bool.and_eq_true, decide_eq_true_eq] at e2
  obtain ⟨⟨⟨h1, _⟩, h2⟩, h3⟩ := e2
  have key : ∀ p ∈ tf, PySem.W.codeHdIn (He.frT h.get? as) (He.cT (He.frT h.get? as) p).1 (He.cT (He.frT h.get? as) p).2 = true ∧ ∃ o, h.get? (He.cT (He.frT h.get? as) p).2 = some o ∧ He.emptyTab o = true := fun p hp => by
    obtain ⟨h4, h5⟩ := Bool.and_eq_true_iff.mp (List.all_eq_true.mp h2 p hp)
    refine ⟨h4, ?_⟩
    split at h5
    · rename_i o q
      exact ⟨o, q, h5⟩
    · cases h5
  refine ⟨e1, h1, fun d hd => ?_, fun d hd => ?_, fun p hp => (key p hp).1, fun p hp => ?_, fun p hp => ?_, h3⟩
  · have z : ∀ (l : List XD), (l.map fun d => fnE (He.frT h.get? as) d.x) = l.map XD.val → ∀ d ∈ l, fnE (He.frT h.get? as) d.x = d.val := by
      intro l
      induction l with
      | nil => intro _ d hd; cases hd
      | cons y ys ih =>
        intro q d hd
        simp only [List.map_cons, List.cons.injEq] at q
        rcases List.mem_cons.mp hd with rfl | hd
        · exact q.1
        · exact ih q.2 d hd
    exact z xs e3 d hd
  · have z : ∀ (l : List PDef), (l.map fun d => fnP (He.frT h.get? as) d.c d.f) = l.map PDef.val → ∀ d ∈ l, fnP (He.frT h.get? as) d.c d.f = d.val := by
      intro l
      induction l with
      | nil => intro _ d hd; cases hd
      | cons y ys ih =>
        intro q d hd
        simp only [List.map_cons, List.cons.injEq] at q
        rcases List.mem_cons.mp hd with rfl | hd
        · exact q.1
        · exact ih q.2 d hd
    exact z pd e4 d hd
  · obtain ⟨_, o, q, z⟩ := key p hp
    exact He.frT_none q z
  · obtain ⟨_, o, q, z⟩ := key p hp
    rw [q, He.emptyTab_eq z]
def obsEG (n : Nat) (fx : List Fx) (fn : List He.DefD) (tf : List He.Defn) (ex : PySem.W.Frag → Bool) (xs : List XD) (pd : List PDef) (g : Addr → Option Obj) : AlE := obsE fx fn tf ex xs pd g (He.frT g (cStatics :: He.asD g n))
def hookE (n : Nat) (fx : List Fx) (fn : List He.DefD) (tf : List He.Defn) (ex : PySem.W.Frag → Bool) (xs : List XD) (pd : List PDef) : PySem.W.Hook where
  α := AlE
  obs := fun s => obsEG n fx fn tf ex xs pd s.heap.get?
  val := fun _ => valE fn xs pd
  says := fun _ h => ∃ K : PySem.W.Frag, K.In h ∧ SaysE fx fn tf ex xs pd h K
  of := fun _ _ e => ⟨_, He.frT_in, saysE_of e⟩
  keeps := fun _ _ _ ⟨K, hK, c⟩ k => ⟨K, PySem.W.Frag.In.keeps hK k, ⟨c.x, c.more, c.ini, c.get, c.hd, c.out, fun p hp => k _ _ (c.empty p hp), c.nd⟩⟩
end Dl
namespace K08
open PySem L2 Dl
open PyProof.Rows
def top (i : Nat) : Stmt := PySem.Challenge.pw_honestbars_k08_signs_written_and_read.main.body.getD i (.Pass ⟨0, 0, 0, 0⟩)
abbrev s_is_sided : Stmt := top 15
abbrev s_sign_text : Stmt := top 18
abbrev s_signs_text : Stmt := top 19
abbrev s_number_or_none : Stmt := top 24
abbrev s_sign_or_none : Stmt := top 25
abbrev s_found_or_refused : Stmt := top 27
abbrev s_require_one : Stmt := top 28
abbrev s_sign_read : Stmt := top 29
abbrev s_signs_read : Stmt := top 30
abbrev s_law_feed : Stmt := top 32
abbrev s_law_draw : Stmt := top 33
abbrev s_law_sign : Stmt := top 34
abbrev s_law_signs : Stmt := top 35
abbrev s_law_heard : Stmt := top 36
abbrev s_law_numeral : Stmt := top 37
abbrev s_law_sign_of : Stmt := top 38
abbrev s_law_sign_word : Stmt := top 39
abbrev s_law_row_text : Stmt := top 40
abbrev s_law_spoilt : Stmt := top 41
abbrev s_law_row_due : Stmt := top 42
abbrev s_law_sign_due : Stmt := top 43
abbrev s_law_line_right : Stmt := top 44
abbrev s_law_texts_by_hand : Stmt := top 45
abbrev s_law : Stmt := top 46
def d_is_sided_ : He.DefD := ⟨("is_sided", none), "is_sided", "is_sided", defArgs s_is_sided, defBody s_is_sided, defScope s_is_sided, [], []⟩
def d_sign_text_ : He.DefD := ⟨("sign_text", none), "sign_text", "sign_text", defArgs s_sign_text, defBody s_sign_text, defScope s_sign_text, [], []⟩
def d_signs_text_ : He.DefD := ⟨("signs_text", none), "signs_text", "signs_text", defArgs s_signs_text, defBody s_signs_text, defScope s_signs_text, [], []⟩
def d_number_or_none_ : He.DefD := ⟨("number_or_none", none), "number_or_none", "number_or_none", defArgs s_number_or_none, defBody s_number_or_none, defScope s_number_or_none, [], []⟩
def d_sign_or_none_ : He.DefD := ⟨("sign_or_none", none), "sign_or_none", "sign_or_none", defArgs s_sign_or_none, defBody s_sign_or_none, defScope s_sign_or_none, [], []⟩
def d_found_or_refused_ : He.DefD := ⟨("found_or_refused", none), "found_or_refused", "found_or_refused", defArgs s_found_or_refused, defBody s_found_or_refused, defScope s_found_or_refused, [], []⟩
def d_require_one_ : He.DefD := ⟨("require_one", none), "require_one", "require_one", defArgs s_require_one, defBody s_require_one, defScope s_require_one, [], []⟩
def d_sign_read_ : He.DefD := ⟨("sign_read", none), "sign_read", "sign_read", defArgs s_sign_read, defBody s_sign_read, defScope s_sign_read, [], [("line", .int (0)), ("field", .int (0))]⟩
def d_signs_read_ : He.DefD := ⟨("signs_read", none), "signs_read", "signs_read", defArgs s_signs_read, defBody s_signs_read, defScope s_signs_read, [], [("line", .int (0)), ("field", .int (0))]⟩
def d_law_feed_ : He.DefD := ⟨("_law_feed", none), "_law_feed", "_law_feed", defArgs s_law_feed, defBody s_law_feed, defScope s_law_feed, [], []⟩
def d_law_draw_ : He.DefD := ⟨("_law_draw", none), "_law_draw", "_law_draw", defArgs s_law_draw, defBody s_law_draw, defScope s_law_draw, [], []⟩
def d_law_sign_ : He.DefD := ⟨("_law_sign", none), "_law_sign", "_law_sign", defArgs s_law_sign, defBody s_law_sign, defScope s_law_sign, [], []⟩
def d_law_signs_ : He.DefD := ⟨("_law_signs", none), "_law_signs", "_law_signs", defArgs s_law_signs, defBody s_law_signs, defScope s_law_signs, [], []⟩
def d_law_heard_ : He.DefD := ⟨("_law_heard", none), "_law_heard", "_law_heard", defArgs s_law_heard, defBody s_law_heard, defScope s_law_heard, [], []⟩
def d_law_numeral_ : He.DefD := ⟨("_law_numeral", none), "_law_numeral", "_law_numeral", defArgs s_law_numeral, defBody s_law_numeral, defScope s_law_numeral, [], []⟩
def d_law_sign_of_ : He.DefD := ⟨("_law_sign_of", none), "_law_sign_of", "_law_sign_of", defArgs s_law_sign_of, defBody s_law_sign_of, defScope s_law_sign_of, [], []⟩
def d_law_sign_word_ : He.DefD := ⟨("_law_sign_word", none), "_law_sign_word", "_law_sign_word", defArgs s_law_sign_word, defBody s_law_sign_word, defScope s_law_sign_word, [], []⟩
def d_law_row_text_ : He.DefD := ⟨("_law_row_text", none), "_law_row_text", "_law_row_text", defArgs s_law_row_text, defBody s_law_row_text, defScope s_law_row_text, [], []⟩
def d_law_spoilt_ : He.DefD := ⟨("_law_spoilt", none), "_law_spoilt", "_law_spoilt", defArgs s_law_spoilt, defBody s_law_spoilt, defScope s_law_spoilt, [], []⟩
def d_law_row_due_ : He.DefD := ⟨("_law_row_due", none), "_law_row_due", "_law_row_due", defArgs s_law_row_due, defBody s_law_row_due, defScope s_law_row_due, [], []⟩
def d_law_sign_due_ : He.DefD := ⟨("_law_sign_due", none), "_law_sign_due", "_law_sign_due", defArgs s_law_sign_due, defBody s_law_sign_due, defScope s_law_sign_due, [], []⟩
def d_law_line_right_ : He.DefD := ⟨("_law_line_right", none), "_law_line_right", "_law_line_right", defArgs s_law_line_right, defBody s_law_line_right, defScope s_law_line_right, [], []⟩
def d_law_texts_by_hand_ : He.DefD := ⟨("_law_texts_by_hand", none), "_law_texts_by_hand", "_law_texts_by_hand", defArgs s_law_texts_by_hand, defBody s_law_texts_by_hand, defScope s_law_texts_by_hand, [], []⟩
def d_law_ : He.DefD := ⟨("law", none), "law", "law", defArgs s_law, defBody s_law, defScope s_law, [], []⟩
def fn : List He.DefD := [d_is_sided_, d_sign_text_, d_signs_text_, d_number_or_none_, d_sign_or_none_, d_found_or_refused_, d_require_one_, d_sign_read_, d_signs_read_, d_law_feed_, d_law_draw_, d_law_sign_, d_law_signs_, d_law_heard_, d_law_numeral_, d_law_sign_of_, d_law_sign_word_, d_law_row_text_, d_law_spoilt_, d_law_row_due_, d_law_sign_due_, d_law_line_right_, d_law_texts_by_hand_, d_law_]
def pd : List PDef := []
def fx : List Fx := ([.glo "is_sided", .glo "sign_text", .glo "signs_text", .glo "number_or_none", .glo "sign_or_none", .glo "found_or_refused", .glo "require_one", .glo "sign_read", .glo "signs_read", .glo "_law_feed", .glo "_law_draw", .glo "_law_sign", .glo "_law_signs", .glo "_law_heard", .glo "_law_numeral", .glo "_law_sign_of", .glo "_law_sign_word", .glo "_law_row_text", .glo "_law_spoilt", .glo "_law_row_due", .glo "_law_sign_due", .glo "_law_line_right", .glo "_law_texts_by_hand", .glo "law", .free "all", .free "enumerate", .free "int", .free "isinstance", .free "len", .free "list"] : List Fx) ++ ([.free "range", .free "repr", .free "str", .free "tuple", .dat "PLAIN_SIGNS" (.tup [(.str "tick"), (.str "more"), (.str "end")]), .dat "NUMBER_SIGNS" (.tup [(.str "many"), (.str "way")]), .dat "SIDES" (.tup [(.str "left"), (.str "right")]), .dat "NO_SIGNS" (.str "-"), .dat "DIGITS" (.str "0123456789"), .dat "MOST_DIGITS" (.int 60), .dat "MOST_AROUND" (.int 30), .glo "BarError", .glo "InvalidPaper", .glo "InvalidRow", .glo "InvalidText", .glo "LiveError", .glo "NotNext", .glo "NotUsable", .glo "PaperError", .glo "TextError", .glo "WorkError"] : List Fx)
abbrev Rw : PySem.W.OpenRow := PySem.W.OpenLaw.row PySem.Challenge.rw_honestbars_k08_signs_written_and_read
abbrev CTh : CTab := [("BarError", ["BarError"], []), ("PaperError", ["PaperError", "BarError"], []), ("WorkError", ["WorkError", "BarError"], []), ("LiveError", ["LiveError", "BarError"], []), ("TextError", ["TextError", "BarError"], []), ("InvalidPaper", ["InvalidPaper", "PaperError", "BarError"], ["word", "at"]), ("NotUsable", ["NotUsable", "WorkError", "BarError"], ["word", "at"]), ("NotNext", ["NotNext", "WorkError", "BarError"], ["sign", "at"]), ("InvalidText", ["InvalidText", "TextError", "BarError"], ["line", "field"]), ("InvalidRow", ["InvalidRow", "TextError", "BarError"], ["row"])]
abbrev i_InvalidText : Stmt := inClass (top 9) 0
def xd_InvalidText : XD := ⟨"InvalidText", "InvalidText.__init__", defArgs i_InvalidText, defBody i_InvalidText, defScope i_InvalidText, ["line", "field"]⟩
def xs : List XD := [xd_InvalidText]
abbrev fileS : Str := (PySem.Challenge.rw_honestbars_k08_signs_written_and_read).prog.main.file
def ex (K : PySem.W.Frag) : Bool := exTB K CTh && (xinB K fileS xd_InvalidText)
def tq : List (He.Defn × Str) := [(("_law_line_right", none), "_law_line_right.<locals>.<lambda>")]
abbrev hk : PySem.W.Hook := hookE 4 fx fn (tq.map (·.1)) ex xs pd
def ob (s : PySem.W.SharedT) : AlE := obsEG 4 fx fn (tq.map (·.1)) ex xs pd (HandSHeadRun.getT s)
abbrev loose : List Str := (["PLAIN_SIGNS", "NUMBER_SIGNS", "SIDES", "NO_SIGNS", "DIGITS", "MOST_DIGITS", "MOST_AROUND", "is_sided", "sign_text", "signs_text", "number_or_none", "sign_or_none", "found_or_refused", "require_one", "sign_read", "signs_read", "_law_feed", "_law_draw", "_law_sign", "_law_signs", "_law_heard", "_law_numeral", "_law_sign_of", "_law_sign_word", "_law_row_text", "_law_spoilt", "_law_row_due", "_law_sign_due", "_law_line_right", "_law_texts_by_hand"] : List Str) ++ (["BarError", "PaperError", "WorkError", "LiveError", "TextError", "InvalidPaper", "NotUsable", "NotNext", "InvalidText", "InvalidRow"] : List Str)
theorem run (w : World) : HandSHeadRun.RunEq Rw (PySem.W.view Rw.prog [46]) hk ob 8000 loose w := by
  intro os
  kernel_rfl
end K08
namespace Dl
open PySem L2
mutual
def nk : D → NestedKey
  | .int i => .num i
  | .str x => .text x
  | .tup ds => .tup (nks ds)
  | _ => .none
def nks : List D → List NestedKey
  | [] => []
  | d :: ds => nk d :: nks ds
end
mutual
def isK : D → Bool
  | .int _ => true
  | .str x => PyData.strOk x
  | .tup ds => isKs ds
  | _ => false
def isKs : List D → Bool
  | [] => true
  | d :: ds => isK d && isKs ds
end
def keyOk (d : D) : Prop := isK d = true ∧ (nk d).depth ≤ 8
def DnyO (a : Addr) (q : List (Int × V × V)) : HO := .ext fun h => q.length ≤ sizeLine ∧ (a == sysModules) = false ∧ ∃ o es ep, h.get? a = some o ∧ o.ExactDict ∧ o.data = .dict es ep ∧ Paired (fun (x : Int × V × V) (e : DictEntry) => e.hash = x.1 ∧ RelV x.2.1 e.key ∧ RelV x.2.2 e.val) q es.toList
def KvOk (kvs : List (D × D)) : Prop := (kvs.map fun p => nk p.1).Nodup ∧ ∀ p ∈ kvs, keyOk p.1
inductive DO where
  | lst (xs : List D)
  | dct (kvs : List (Key × D))
  | raw (o : HO)
  /-- an instance of the class of that name, its attributes -/
  | ins (c : Str) (fs : List (Str × D))
  /-- a dict whose keys are tuples of ints and texts -/
  | dtp (kvs : List (List Key × D))
  /-- a table of code objects of the name q -/
  | tab (q : Str)
  /-- an instance with slots of the class of the name c -/
  | slt (c : Str) (vs : List (Option D))
  /-- a dict whose keys are data of any kind, in the world w; while it is walked: the object -/
  | dny (w : World) (lk : Option Obj) (kvs : List (D × D))
abbrev GH := Addr → Option DO
def updG (G : GH) (a : Addr) (o : DO) : GH := fun b => if b = a then some o else G b
def dropG (G : GH) (a : Addr) : GH := fun b => if b = a then none else G b
theorem updG_same {G : GH} {a : Addr} {o : DO} : updG G a o a = some o := by unfold updG; rw [if_pos rfl]
theorem updG_ne {G : GH} {a b : Addr} {o : DO} (h : b ≠ a) : updG G a o b = G b := by unfold updG; rw [if_neg h]
theorem dropG_same {G : GH} {a : Addr} : dropG G a a = none := by unfold dropG; rw [if_pos rfl]
theorem dropG_ne {G : GH} {a b : Addr} (h : b ≠ a) : dropG G a b = G b := by unfold dropG; rw [if_neg h]
theorem updG_updG {G : GH} {a : Addr} {o u : DO} : updG (updG G a o) a u = updG G a u := by
  funext b; unfold updG; split <;> rfl
theorem dropG_updG {G : GH} {a : Addr} {o : DO} (h : G a = none) : dropG (updG G a o) a = G := by
  funext b
  by_cases e : b = a
  · subst e; rw [dropG_same, h]
  · rw [dropG_ne e, updG_ne e]
def TupAt (K : PySem.W.Frag) (G : GH) (H : Hp) (a : Addr) (xs : List V) : Prop := (G a = none ∧ H a = some (.tup xs)) ∨
  (xs = [] → kempB K = true) ∧ ∃ (o : Obj) (its : Array Value) (n : Nat), K.lookup a = some o ∧ o.cls = .type "tuple" ∧ o.data = .seq its n ∧ its.size ≤ sizeLine ∧ Vals xs its.toList
def LstAt (G : GH) (H : Hp) (a : Addr) (xs : List V) : Prop := G a = none ∧ H a = some (.lst xs)
theorem TupAt.sq {K : PySem.W.Frag} {G : GH} {H : Hp} {a : Addr} {xs : List V} (h : TupAt K G H a xs) : SqT K H a xs := h.elim (fun h => .inl (.inl h.2)) (fun h => .inr h.2)
theorem LstAt.sq {K : PySem.W.Frag} {G : GH} {H : Hp} {a : Addr} {xs : List V} (h : LstAt G H a xs) : SqL K H a xs := SqL.of h.2
def ScrAt (K : PySem.W.Frag) (G : GH) (H : Hp) (a : Addr) (xs : List V) : Prop := (G a = none ∧ Rd H a (.lst xs)) ∨
  ∃ (o : Obj) (its : Array Value) (n : Nat), K.lookup a = some o ∧ o.cls = .type "list" ∧ o.dict = none ∧ o.data = .seq its n ∧ its.size ≤ sizeLine ∧ Vals xs its.toList
theorem ScrAt.sq {K : PySem.W.Frag} {G : GH} {H : Hp} {a : Addr} {xs : List V} (h : ScrAt K G H a xs) : SqL K H a xs := h.elim (fun h => .inl h.2) .inr
def CodeQ (c : Addr) (q : Str) : HO := .ext fun h => ∃ (oc : Obj) (vs : Array Value) (t : Tok), h.get? c = some oc ∧ oc.data = .fields vs ∧ vs[1]? = some (.str q t)
mutual
def RepV (K : PySem.W.Frag) (G : GH) (H : Hp) : D → V → Prop
  | .non, v => v = .non
  | .bl b, v => v = .bl b
  | .int i, v => v = .int i
  | .str x, v => v = .str x
  | .byt x, v => v = .byt x
  | .tup ds, v => ∃ a xs, v = .ref a ∧ TupAt K G H a xs ∧ RepL K G H ds xs
  | .lst ds, v => ∃ a xs, v = .ref a ∧ LstAt G H a xs ∧ RepL K G H ds xs
  | .ref a, v => v = .ref a
  | .scr ns, v => ∃ a, v = .ref a ∧ ScrAt K G H a (ns.map V.int)
  | .fn q φ n0 H0, v => ∃ a c, v = .ref a ∧ G a = none ∧ H a = some (.ext (φ a c)) ∧ G c = none ∧ H c = some (CodeQ c q) ∧ ∀ b o, H0 b = some o → (∃ o', H b = some o') ∧ (n0 b → G b = none ∧ H b = some o)
  | .exh a c d ns ds, v => ∃ ws : List (Str × V), v = .ref a ∧ G d = none ∧ H d = some (.xd ws) ∧ ws.map (·.1) = ns ∧ RepL K G H ds (ws.map (·.2))
def RepL (K : PySem.W.Frag) (G : GH) (H : Hp) : List D → List V → Prop
  | [], xs => xs = []
  | d :: ds, xs => ∃ x r, xs = x :: r ∧ RepV K G H d x ∧ RepL K G H ds r
end
def Ext (G : GH) (H : Hp) (G' : GH) (H' : Hp) : Prop := ∀ a o, H a = some o → (∃ o', H' a = some o') ∧ (G a = none → G' a = none ∧ H' a = some o)
theorem Ext.refl (G : GH) (H : Hp) : Ext G H G H := fun a o h => ⟨⟨o, h⟩, fun g => ⟨g, h⟩⟩
theorem Ext.trans {G G1 G2 : GH} {H H1 H2 : Hp} (a : Ext G H G1 H1) (b : Ext G1 H1 G2 H2) : Ext G H G2 H2 := fun x o h => by
  obtain ⟨⟨o1, h1⟩, k⟩ := a x o h
  obtain ⟨⟨o2, h2⟩, _⟩ := b x o1 h1
  refine ⟨⟨o2, h2⟩, fun g => ?_⟩
  obtain ⟨g1, e1⟩ := k g
  exact (b x o e1).2 g1
theorem Ext.new {G : GH} {H : Hp} {p : Addr} {o : HO} (h : H p = none) : Ext G H G (upd H p o) := fun a u e => by
  have n : a ≠ p := ne_of_none e h
  rw [upd_ne n]
  exact ⟨⟨u, e⟩, fun g => ⟨g, e⟩⟩
theorem Ext.newG {G : GH} {H : Hp} {p : Addr} {o : HO} {u : DO} (h : H p = none) : Ext G H (updG G p u) (upd H p o) := fun a v e => by
  have n : a ≠ p := ne_of_none e h
  rw [upd_ne n, updG_ne n]
  exact ⟨⟨v, e⟩, fun g => ⟨g, e⟩⟩
theorem Ext.write {G : GH} {H : Hp} {p : Addr} {o : HO} {u w : DO} (h : G p = some w) : Ext G H (updG G p u) (upd H p o) := fun a v e => by
  by_cases n : a = p
  · subst n
    refine ⟨⟨_, upd_same⟩, fun g => ?_⟩
    rw [h] at g; cases g
  · rw [upd_ne n, updG_ne n]
    exact ⟨⟨v, e⟩, fun g => ⟨g, e⟩⟩
theorem Ext.drop {G : GH} {H : Hp} {p : Addr} : Ext G H (dropG G p) H := fun a v e => by
  refine ⟨⟨v, e⟩, fun g => ⟨?_, e⟩⟩
  by_cases n : a = p
  · subst n; exact dropG_same
  · rw [dropG_ne n]; exact g
def TabD (G : GH) (H : Hp) (a : Addr) (q : Str) : Prop :=
  ∃ ps : Array Value, H a = some (.tbl ps) ∧ TriplesOk ps.toList ∧ ∀ (pos : Pos) (cv : Value), codeAmong pos ps.toList = some cv → ∃ c, cv = .ref c ∧ G c = none ∧ H c = some (CodeQ c q)
def RepO (K : PySem.W.Frag) (G : GH) (H : Hp) (vs : List (Option D)) (ws : List (Option V)) : Prop := vs.length = ws.length ∧ ∀ (i : Nat) (d : D), vs[i]? = some (some d) → ∃ v, ws[i]? = some (some v) ∧ RepV K G H d v
def SltD (K : PySem.W.Frag) (G : GH) (H : Hp) (a : Addr) (c : Str) (vs : List (Option D)) : Prop := ∃ (dx : Addr) (ws : List (Option V)), G dx = none ∧ H a = some (SlX.SlO a (He.ga K c) dx ws) ∧ H dx = some (.xd []) ∧ RepO K G H vs ws
def NyH (a : Addr) (lk : Option Obj) (q : List (Int × V × V)) : HO := match lk with
  | none => DnyO a q
  | some od => .frz od (DnyO a q)
def NyD (K : PySem.W.Frag) (G : GH) (H : Hp) (a : Addr) (w : World) (lk : Option Obj) (kvs : List (D × D)) : Prop := KvOk kvs ∧ ∃ q : List (Int × V × V), H a = some (NyH a lk q) ∧ q.map (·.1) = kvs.map (fun p => (nk p.1).hash w) ∧ RepL K G H (kvs.map (·.1)) (q.map (·.2.1)) ∧ RepL K G H (kvs.map (·.2)) (q.map (·.2.2))
def DOk (K : PySem.W.Frag) (G : GH) (H : Hp) (a : Addr) : DO → Prop
  | .lst ds => ∃ xs, H a = some (.lst xs) ∧ RepL K G H ds xs
  | .dct kvs => ∃ ws : List (Key × V), H a = some (.dK ws) ∧ ws.map (·.1) = kvs.map (·.1) ∧ RepL K G H (kvs.map (·.2)) (ws.map (·.2))
  | .raw o => H a = some o
  | .ins c fs => ∃ (dx : Addr) (ws : List (Str × V)), H a = some (.ins (He.ga K c) dx ws) ∧ ws.map (·.1) = fs.map (·.1) ∧ RepL K G H (fs.map (·.2)) (ws.map (·.2))
  | .dtp kvs => ∃ ws : List (List Key × V), H a = some (.dT ws) ∧ ws.map (·.1) = kvs.map (·.1) ∧ RepL K G H (kvs.map (·.2)) (ws.map (·.2))
  | .tab q => TabD G H a q
  | .slt c vs => SltD K G H a c vs
  | .dny w lk kvs => NyD K G H a w lk kvs
def GOk (K : PySem.W.Frag) (G : GH) (H : Hp) : Prop := ∀ a o, G a = some o → DOk K G H a o
theorem DOk.there {K : PySem.W.Frag} {G : GH} {H : Hp} {a : Addr} {o : DO} (h : DOk K G H a o) : ∃ u, H a = some u := by
  cases o with
  | lst ds => obtain ⟨xs, e, _⟩ := h; exact ⟨_, e⟩
  | dct kvs => obtain ⟨xs, e, _⟩ := h; exact ⟨_, e⟩
  | dtp kvs => obtain ⟨xs, e, _⟩ := h; exact ⟨_, e⟩
  | raw u => exact ⟨u, h⟩
  | ins c fs => obtain ⟨dx, xs, e, _⟩ := h; exact ⟨_, e⟩
  | tab q => obtain ⟨ps, e, _⟩ := h; exact ⟨_, e⟩
  | slt c vs => obtain ⟨dx, ws, _, e, _⟩ := h; exact ⟨_, e⟩
  | dny w lk kvs => obtain ⟨_, q, e, _⟩ := h; exact ⟨_, e⟩
theorem GOk.fresh {K : PySem.W.Frag} {G : GH} {H : Hp} (g : GOk K G H) {p : Addr} (h : H p = none) : G p = none := by
  cases q : G p with
  | none => rfl
  | some o =>
    obtain ⟨u, e⟩ := (g p o q).there
    rw [h] at e; cases e
section
variable {K : PySem.W.Frag} {G G' : GH} {H H' : Hp}
theorem TabD.ext (e : Ext G H G' H') {a : Addr} {q : Str} (h : TabD G H a q) (ha : H' a = H a) : TabD G' H' a q := by
  obtain ⟨ps, h1, h2, h3⟩ := h
  refine ⟨ps, ha.trans h1, h2, fun pos cv hc => ?_⟩
  obtain ⟨c, e1, g, e2⟩ := h3 pos cv hc
  exact ⟨c, e1, (e _ _ e2).2 g⟩
theorem TupAt.ext (e : Ext G H G' H') {a : Addr} {xs : List V} (h : TupAt K G H a xs) : TupAt K G' H' a xs := by
  rcases h with ⟨g, h⟩ | h
  · exact .inl (((e _ _ h).2 g))
  · exact .inr h
theorem ScrAt.ext (e : Ext G H G' H') {a : Addr} {xs : List V} (h : ScrAt K G H a xs) : ScrAt K G' H' a xs := by
  rcases h with ⟨g, h | ⟨o, h⟩⟩ | h
  · exact .inl ⟨((e _ _ h).2 g).1, .inl ((e _ _ h).2 g).2⟩
  · exact .inl ⟨((e _ _ h).2 g).1, .inr ⟨o, ((e _ _ h).2 g).2⟩⟩
  · exact .inr h
theorem LstAt.ext (e : Ext G H G' H') {a : Addr} {xs : List V} (h : LstAt G H a xs) : LstAt G' H' a xs := (e _ _ h.2).2 h.1
mutual
theorem RepV.ext (e : Ext G H G' H') : ∀ {d : D} {v : V}, RepV K G H d v → RepV K G' H' d v
  | .non, _, h => h
  | .bl _, _, h => h
  | .int _, _, h => h
  | .str _, _, h => h
  | .byt _, _, h => h
  | .tup _, _, h => by
    unfold RepV at h ⊢
    obtain ⟨a, xs, ev, t, r⟩ := h
    exact ⟨a, xs, ev, t.ext e, r.ext e⟩
  | .lst _, _, h => by
    unfold RepV at h ⊢
    obtain ⟨a, xs, ev, t, r⟩ := h
    exact ⟨a, xs, ev, t.ext e, r.ext e⟩
  | .ref _, _, h => h
  | .scr _, _, h => by
    unfold RepV at h ⊢
    obtain ⟨a, ev, t⟩ := h
    exact ⟨a, ev, t.ext e⟩
  | .fn _ _ _ _, _, h => by
    unfold RepV at h ⊢
    obtain ⟨a, c, ev, g, t, g2, t2, k⟩ := h
    refine ⟨a, c, ev, ((e _ _ t).2 g).1, ((e _ _ t).2 g).2, ((e _ _ t2).2 g2).1, ((e _ _ t2).2 g2).2, fun b o z => ?_⟩
    obtain ⟨⟨o1, h1⟩, h2⟩ := k b o z
    exact ⟨(e b o1 h1).1, fun n => (e b o (h2 n).2).2 (h2 n).1⟩
  | .exh _ _ _ _ _, _, h => by
    unfold RepV at h ⊢
    obtain ⟨ws, ev, g, t, n, r⟩ := h
    exact ⟨ws, ev, ((e _ _ t).2 g).1, ((e _ _ t).2 g).2, n, r.ext e⟩
theorem RepL.ext (e : Ext G H G' H') : ∀ {ds : List D} {xs : List V}, RepL K G H ds xs → RepL K G' H' ds xs
  | [], _, h => h
  | _ :: _, _, h => by
    unfold RepL at h ⊢
    obtain ⟨x, r, ev, h1, h2⟩ := h
    exact ⟨x, r, ev, h1.ext e, h2.ext e⟩
end
theorem RepO.ext (e : Ext G H G' H') {vs : List (Option D)} {ws : List (Option V)} (h : RepO K G H vs ws) : RepO K G' H' vs ws := ⟨h.1, fun i d q => by obtain ⟨v, h1, h2⟩ := h.2 i d q; exact ⟨v, h1, h2.ext e⟩⟩
theorem SltD.ext (e : Ext G H G' H') {a : Addr} {c : Str} {vs : List (Option D)} (h : SltD K G H a c vs) (ha : H' a = H a) : SltD K G' H' a c vs := by
  obtain ⟨dx, ws, g, h1, h2, r⟩ := h
  obtain ⟨g', e'⟩ := (e _ _ h2).2 g
  exact ⟨dx, ws, g', by rw [ha]; exact h1, e', r.ext e⟩
theorem NyD.ext (e : Ext G H G' H') {a : Addr} {w : World} {lk : Option Obj} {kvs : List (D × D)} (h : NyD K G H a w lk kvs) (ha : H' a = H a) : NyD K G' H' a w lk kvs := by
  obtain ⟨h0, q, h1, h2, h3, h4⟩ := h
  exact ⟨h0, q, ha.trans h1, h2, h3.ext e, h4.ext e⟩
theorem RepL.length : ∀ {ds : List D} {xs : List V}, RepL K G H ds xs → xs.length = ds.length
  | [], _, h => by unfold RepL at h; rw [h]; rfl
  | _ :: ds, _, h => by
    unfold RepL at h
    obtain ⟨x, r, rfl, _, h2⟩ := h
    simp [RepL.length h2]
theorem repL_nil : RepL K G H [] [] := by unfold RepL; rfl
theorem repL_cons {d : D} {ds : List D} {x : V} {xs : List V} (h : RepV K G H d x) (r : RepL K G H ds xs) : RepL K G H (d :: ds) (x :: xs) := by
  unfold RepL; exact ⟨x, xs, rfl, h, r⟩
theorem repL_one {d : D} {x : V} (h : RepV K G H d x) : RepL K G H [d] [x] := repL_cons h repL_nil
theorem RepL.append : ∀ {ds es : List D} {xs ys : List V}, RepL K G H ds xs → RepL K G H es ys → RepL K G H (ds ++ es) (xs ++ ys)
  | [], _, _, _, h, r => by unfold RepL at h; subst h; exact r
  | _ :: _, _, _, _, h, r => by
    unfold RepL at h
    obtain ⟨x, t, rfl, h1, h2⟩ := h
    exact repL_cons h1 (RepL.append h2 r)
theorem RepL.get : ∀ {ds : List D} {xs : List V} {i : Nat} {d : D}, RepL K G H ds xs → ds[i]? = some d → ∃ x, xs[i]? = some x ∧ RepV K G H d x
  | [], _, _, _, _, e => by simp at e
  | _ :: _, _, 0, _, h, e => by
    unfold RepL at h
    obtain ⟨x, t, rfl, h1, h2⟩ := h
    simp at e; subst e
    exact ⟨x, rfl, h1⟩
  | _ :: ds, _, i + 1, d, h, e => by
    unfold RepL at h
    obtain ⟨x, t, rfl, h1, h2⟩ := h
    obtain ⟨y, e1, e2⟩ := RepL.get (i := i) (d := d) h2 (by simpa using e)
    exact ⟨y, by simpa using e1, e2⟩
theorem RepL.get' : ∀ {ds : List D} {xs : List V} {i : Nat} {x : V}, RepL K G H ds xs → xs[i]? = some x → ∃ d, ds[i]? = some d ∧ RepV K G H d x
  | [], _, _, _, h, e => by unfold RepL at h; subst h; simp at e
  | _ :: _, _, 0, _, h, e => by
    unfold RepL at h
    obtain ⟨x, t, rfl, h1, h2⟩ := h
    simp at e; subst e
    exact ⟨_, rfl, h1⟩
  | _ :: ds, _, i + 1, d, h, e => by
    unfold RepL at h
    obtain ⟨x, t, rfl, h1, h2⟩ := h
    obtain ⟨y, e1, e2⟩ := RepL.get' (i := i) (x := d) h2 (by simpa using e)
    exact ⟨y, by simpa using e1, e2⟩
theorem RepL.take : ∀ {ds : List D} {xs : List V} (n : Nat), RepL K G H ds xs → RepL K G H (ds.take n) (xs.take n)
  | _, _, 0, _ => by simp [repL_nil]
  | [], _, _ + 1, h => by unfold RepL at h; subst h; simp [repL_nil]
  | _ :: _, _, n + 1, h => by
    unfold RepL at h
    obtain ⟨x, t, rfl, h1, h2⟩ := h
    exact repL_cons h1 (RepL.take n h2)
theorem RepL.drop : ∀ {ds : List D} {xs : List V} (n : Nat), RepL K G H ds xs → RepL K G H (ds.drop n) (xs.drop n)
  | _, _, 0, h => by simpa using h
  | [], _, _ + 1, h => by unfold RepL at h; subst h; simp [repL_nil]
  | _ :: _, _, n + 1, h => by
    unfold RepL at h
    obtain ⟨x, t, rfl, h1, h2⟩ := h
    exact RepL.drop n h2
theorem RepL.set {d : D} {x : V} (hd : RepV K G H d x) : ∀ {ds : List D} {xs : List V} (n : Nat), RepL K G H ds xs → RepL K G H (ds.set n d) (xs.set n x)
  | [], _, _, h => by unfold RepL at h; subst h; simp [repL_nil]
  | _ :: _, _, 0, h => by
    unfold RepL at h
    obtain ⟨x, t, rfl, h1, h2⟩ := h
    exact repL_cons hd h2
  | _ :: _, _, n + 1, h => by
    unfold RepL at h
    obtain ⟨x, t, rfl, h1, h2⟩ := h
    exact repL_cons h1 (RepL.set hd n h2)
theorem RepL.reverse : ∀ {ds : List D} {xs : List V}, RepL K G H ds xs → RepL K G H ds.reverse xs.reverse
  | [], _, h => by unfold RepL at h; subst h; simp [repL_nil]
  | _ :: _, _, h => by
    unfold RepL at h
    obtain ⟨x, t, rfl, h1, h2⟩ := h
    simp only [List.reverse_cons]
    exact (RepL.reverse h2).append (repL_one h1)
theorem RepL.rep {ds : List D} {xs : List V} (h : RepL K G H ds xs) : ∀ k : Nat, RepL K G H (List.replicate k ds).flatten (List.replicate k xs).flatten
  | 0 => by simp [repL_nil]
  | k + 1 => by simp only [List.replicate_succ, List.flatten_cons]; exact h.append (RepL.rep h k)
theorem repL_of_ints : ∀ {ns : List Int}, RepL K G H (ns.map D.int) (ns.map V.int)
  | [] => repL_nil
  | n :: ns => repL_cons (by unfold RepV; rfl) repL_of_ints
theorem GOk.new (g : GOk K G H) {p : Addr} {o : HO} (h : H p = none) : GOk K G (upd H p o) := fun a u e => by
  have x := g a u e
  have ex : Ext G H G (upd H p o) := Ext.new h
  have n : a ≠ p := by obtain ⟨w, ew⟩ := x.there; exact ne_of_none ew h
  cases u with
  | lst ds => obtain ⟨xs, e1, r⟩ := x; exact ⟨xs, by rw [upd_ne n]; exact e1, r.ext ex⟩
  | dct kvs => obtain ⟨xs, e1, e2, r⟩ := x; exact ⟨xs, by rw [upd_ne n]; exact e1, e2, r.ext ex⟩
  | dtp kvs => obtain ⟨xs, e1, e2, r⟩ := x; exact ⟨xs, by rw [upd_ne n]; exact e1, e2, r.ext ex⟩
  | raw w => show upd H p o a = some w; rw [upd_ne n]; exact x
  | ins c fs => obtain ⟨dx, xs, e1, e2, r⟩ := x; exact ⟨dx, xs, by rw [upd_ne n]; exact e1, e2, r.ext ex⟩
  | tab q => exact TabD.ext ex x (upd_ne n)
  | slt c vs => exact SltD.ext ex x (upd_ne n)
  | dny w lk kvs => exact NyD.ext ex x (upd_ne n)
theorem GOk.put (g : GOk K G H) {p : Addr} {o : HO} {u : DO} (ex : Ext G H (updG G p u) (upd H p o)) (new : DOk K (updG G p u) (upd H p o) p u) : GOk K (updG G p u) (upd H p o) := fun a w e => by
  by_cases n : a = p
  · subst n
    rw [updG_same] at e; cases e
    exact new
  · rw [updG_ne n] at e
    have x := g a w e
    cases w with
    | lst ds => obtain ⟨xs, e1, r⟩ := x; exact ⟨xs, by rw [upd_ne n]; exact e1, r.ext ex⟩
    | dct kvs => obtain ⟨xs, e1, e2, r⟩ := x; exact ⟨xs, by rw [upd_ne n]; exact e1, e2, r.ext ex⟩
    | dtp kvs => obtain ⟨xs, e1, e2, r⟩ := x; exact ⟨xs, by rw [upd_ne n]; exact e1, e2, r.ext ex⟩
    | raw w => show upd H p o a = some w; rw [upd_ne n]; exact x
    | ins c fs => obtain ⟨dx, xs, e1, e2, r⟩ := x; exact ⟨dx, xs, by rw [upd_ne n]; exact e1, e2, r.ext ex⟩
    | tab q => exact TabD.ext ex x (upd_ne n)
    | slt c vs => exact SltD.ext ex x (upd_ne n)
    | dny w lk kvs => exact NyD.ext ex x (upd_ne n)
theorem GOk.drop (g : GOk K G H) {p : Addr} : GOk K (dropG G p) H := fun a w e => by
  by_cases n : a = p
  · subst n; rw [dropG_same] at e; cases e
  · rw [dropG_ne n] at e
    have ex : Ext G H (dropG G p) H := Ext.drop
    have x := g a w e
    cases w with
    | lst ds => obtain ⟨xs, e1, r⟩ := x; exact ⟨xs, e1, r.ext ex⟩
    | dct kvs => obtain ⟨xs, e1, e2, r⟩ := x; exact ⟨xs, e1, e2, r.ext ex⟩
    | dtp kvs => obtain ⟨xs, e1, e2, r⟩ := x; exact ⟨xs, e1, e2, r.ext ex⟩
    | raw w => exact x
    | ins c fs => obtain ⟨dx, xs, e1, e2, r⟩ := x; exact ⟨dx, xs, e1, e2, r.ext ex⟩
    | tab q => exact TabD.ext ex x rfl
    | slt c vs => exact SltD.ext ex x rfl
    | dny w lk kvs => exact NyD.ext ex x rfl
end
end Dl
namespace Dl
open PySem L2
abbrev DSt := List (Option D)
def sl : DSt → Nat → Option D
  | [], _ => none
  | x :: _, 0 => x
  | _ :: r, i + 1 => sl r i
theorem sl_get : ∀ {ρ : DSt} {i : Nat} {d : D}, sl ρ i = some d → ρ[i]? = some (some d)
  | [], _, _, h => by simp [sl] at h
  | _ :: _, 0, _, h => by simp [sl] at h; simp [h]
  | _ :: r, i + 1, d, h => by simp [sl] at h; simpa using sl_get h
structure DRel (K : PySem.W.Frag) (σ : St) (H : Hp) (ρ : DSt) (G : GH) : Prop where
  len : ρ.length = σ.length
  at_ : ∀ (i : Nat) (d : D), ρ[i]? = some (some d) → ∃ v, σ[i]? = some (some v) ∧ RepV K G H d v
  gok : GOk K G H
section
variable {K : PySem.W.Frag} {σ : St} {H H' : Hp} {ρ : DSt} {G G' : GH}
theorem DRel.ext (r : DRel K σ H ρ G) (e : Ext G H G' H') (g : GOk K G' H') : DRel K σ H' ρ G' :=
  ⟨r.len, fun i d h => let ⟨v, h1, h2⟩ := r.at_ i d h; ⟨v, h1, h2.ext e⟩, g⟩
theorem DRel.set (r : DRel K σ H ρ G) (i : Nat) {d : D} {v : V} (h : RepV K G H d v) : DRel K (σ.set i (some v)) H (ρ.set i (some d)) G := by
  refine ⟨by simp [r.len], fun j e hj => ?_, r.gok⟩
  by_cases q : i = j
  · subst q
    by_cases hl : i < ρ.length
    · rw [List.getElem?_set_self hl] at hj
      cases hj
      exact ⟨v, List.getElem?_set_self (by rw [← r.len]; exact hl), h⟩
    · rw [List.getElem?_eq_none (by simpa using hl)] at hj; cases hj
  · rw [List.getElem?_set_ne q] at hj
    obtain ⟨w, h1, h2⟩ := r.at_ j e hj
    exact ⟨w, by rw [List.getElem?_set_ne q]; exact h1, h2⟩
theorem DRel.sl (r : DRel K σ H ρ G) {i : Nat} {d : D} (h : Dl.sl ρ i = some d) : ∃ v, σ[i]? = some (some v) ∧ RepV K G H d v := r.at_ i d (sl_get h)
end
abbrev DK := D → GH → Prop
abbrev DTE := DSt → GH → DK → Prop
abbrev DTT := DSt → GH → (Bool → GH → Prop) → Prop
abbrev DTA := DSt → GH → (List D → GH → Prop) → Prop
structure DEnds where
  nx : DSt → GH → Prop
  rt : DK
  bk : DSt → GH → Prop := fun _ _ => False
  ct : DSt → GH → Prop := fun _ _ => False
abbrev DTS := DEnds → DSt → GH → Prop
abbrev DTG := D → DSt → GH → (DSt → GH → Prop) → Prop
abbrev DTGs := List D → DSt → GH → (DSt → GH → Prop) → Prop
def up (K : PySem.W.Frag) (t : DTE) : TE := fun σ H Qv => ∃ ρ G Q, DRel K σ H ρ G ∧ t ρ G Q ∧ ∀ v d H' G', Ext G H G' H' → DRel K σ H' ρ G' → RepV K G' H' d v → Q d G' → Qv v H'
def upT (K : PySem.W.Frag) (t : DTT) : TT := fun σ H Qv => ∃ ρ G Q, DRel K σ H ρ G ∧ t ρ G Q ∧ ∀ b H' G', Ext G H G' H' → DRel K σ H' ρ G' → Q b G' → Qv b H'
def upA (K : PySem.W.Frag) (t : DTA) : TA := fun σ H Qv => ∃ ρ G Q, DRel K σ H ρ G ∧ t ρ G Q ∧ ∀ vs ds H' G', Ext G H G' H' → DRel K σ H' ρ G' → RepL K G' H' ds vs → Q ds G' → Qv vs H'
def upS (K : PySem.W.Frag) (t : DTS) : TS := fun Dv σ H => ∃ (ρ : DSt) (G : GH) (E : DEnds), DRel K σ H ρ G ∧ t E ρ G ∧
  (∀ σ' ρ' H' G', Ext G H G' H' → DRel K σ' H' ρ' G' → E.nx ρ' G' → Dv.nx σ' H') ∧
  (∀ v d H' G', Ext G H G' H' → GOk K G' H' → RepV K G' H' d v → E.rt d G' → Dv.rt v H') ∧
  (∀ σ' ρ' H' G', Ext G H G' H' → DRel K σ' H' ρ' G' → E.bk ρ' G' → Dv.bk σ' H') ∧
  (∀ σ' ρ' H' G', Ext G H G' H' → DRel K σ' H' ρ' G' → E.ct ρ' G' → Dv.ct σ' H')
def upG (K : PySem.W.Frag) (g : DTG) : TG := fun v σ H Qv => ∃ ρ G d Q, DRel K σ H ρ G ∧ RepV K G H d v ∧ g d ρ G Q ∧ ∀ σ' ρ' H' G', Ext G H G' H' → DRel K σ' H' ρ' G' → Q ρ' G' → Qv σ' H'
def upGs (K : PySem.W.Frag) (g : DTGs) : TGs := fun vs σ H Qv => ∃ ρ G ds Q, DRel K σ H ρ G ∧ RepL K G H ds vs ∧ g ds ρ G Q ∧ ∀ σ' ρ' H' G', Ext G H G' H' → DRel K σ' H' ρ' G' → Q ρ' G' → Qv σ' H'
abbrev DE (X : Cx) (e : Expr) (t : DTE) : Prop := PE X e (up X.K t)
abbrev DT (X : Cx) (e : Expr) (t : DTT) : Prop := PT X e (upT X.K t)
abbrev DA (X : Cx) (es : List Expr) (t : DTA) : Prop := PA X es (upA X.K t)
abbrev DS (X : Cx) (st : Stmt) (t : DTS) : Prop := PS X st (upS X.K t)
abbrev DSs (X : Cx) (sts : List Stmt) (t : DTS) : Prop := PSs X sts (upS X.K t)
abbrev DG (X : Cx) (e : Expr) (t : DTG) : Prop := PG X e (upG X.K t)
abbrev DGs (X : Cx) (es : List Expr) (t : DTGs) : Prop := PGs X es (upGs X.K t)
section
variable {X : Cx}
theorem _root_.L2.PE.imp {e : Expr} {t t' : TE} (h : PE X e t) (i : ∀ σ H Q, t' σ H Q → t σ H Q) : PE X e t' := ⟨fun pins s σ H Q I q => h.run pins s σ H Q I (i σ H Q q)⟩
theorem _root_.L2.PT.imp {e : Expr} {t t' : TT} (h : PT X e t) (i : ∀ σ H Q, t' σ H Q → t σ H Q) : PT X e t' := ⟨fun pins s σ H Q I q => h.run pins s σ H Q I (i σ H Q q)⟩
theorem _root_.L2.PW.imp {e : Expr} {t t' : TT} (h : PW X e t) (i : ∀ σ H Q, t' σ H Q → t σ H Q) : PW X e t' := ⟨fun wh pins s σ H Q I q => h.run wh pins s σ H Q I (i σ H Q q)⟩
theorem _root_.L2.PA.imp {es : List Expr} {t t' : TA} (h : PA X es t) (i : ∀ σ H Q, t' σ H Q → t σ H Q) : PA X es t' := ⟨fun pos pins s σ H Q I q => h.run pos pins s σ H Q I (i σ H Q q)⟩
theorem _root_.L2.PS.imp {st : Stmt} {t t' : TS} (h : PS X st t) (i : ∀ D σ H, t' D σ H → t D σ H) : PS X st t' := ⟨fun pins s σ H D I q => h.run pins s σ H D I (i D σ H q)⟩
theorem _root_.L2.PSs.imp {st : List Stmt} {t t' : TS} (h : PSs X st t) (i : ∀ D σ H, t' D σ H → t D σ H) : PSs X st t' := ⟨fun pins s σ H D I q => h.run pins s σ H D I (i D σ H q)⟩
theorem _root_.L2.PG.imp {e : Expr} {t t' : TG} (h : PG X e t) (i : ∀ v σ H Q, t' v σ H Q → t v σ H Q) : PG X e t' := ⟨fun pins s σ H v u Q I r q => h.run pins s σ H v u Q I r (i v σ H Q q)⟩
theorem _root_.L2.PGs.imp {es : List Expr} {t t' : TGs} (h : PGs X es t) (i : ∀ v σ H Q, t' v σ H Q → t v σ H Q) : PGs X es t' := ⟨fun pins s σ H v u Q I r q => h.run pins s σ H v u Q I r (i v σ H Q q)⟩
@[simp] def dVar (i : Nat) : DTE := fun ρ G Q => match sl ρ i with
  | some d => Q d G
  | none => False
@[simp] def dC (d : D) : DTE := fun _ G Q => Q d G
theorem dVar_of {ρ : DSt} {G : GH} {Q : DK} {i : Nat} (h : dVar i ρ G Q) : ∃ d, sl ρ i = some d ∧ Q d G := by
  unfold dVar at h
  split at h
  · exact ⟨_, by assumption, h⟩
  · exact h.elim
theorem de_var {i : Nat} {x : Str} {pos : Pos} (hN : X.N[i]? = some x) (hv : Vis X.env.scope x) (hd : (x == ("__debug__" : Str)) = false := by decide) (hcd : (x == ("__classdict__" : Str)) = false := by decide) : DE X (.Name x pos) (dVar i) := by
  refine (pe_var hN hv hd hcd).imp fun σ H Q ⟨ρ, G, q, r, h, k⟩ => ?_
  obtain ⟨d, e, h⟩ := dVar_of h
  obtain ⟨v, e1, e2⟩ := r.sl e
  exact ⟨v, e1, k v d H G (Ext.refl G H) r e2 h⟩
theorem dv (i : Nat) {x : Str} {pos : Pos} (hN : X.N[i]? = some x := by rfl) (hv : Vis X.env.scope x := by first | exact Or.inl rfl | exact Or.inr (Or.inl rfl) | exact Or.inr (Or.inr rfl)) (hd : (x == ("__debug__" : Str)) = false := by decide)
    (hcd : (x == ("__classdict__" : Str)) = false := by decide) : DE X (.Name x pos) (dVar i) := de_var hN hv hd hcd
theorem de_c {e : Expr} {v : V} {d : D} (h : PE X e (tC v)) (r : ∀ G H, RepV X.K G H d v) : DE X e (dC d) :=
  h.imp fun σ H Q ⟨ρ, G, q, rel, h, k⟩ => k v d H G (Ext.refl G H) rel (r G H) h
theorem de_int {i j pos} : DE X (.Constant (.int i) j pos) (dC (.int i)) := de_c pe_int fun _ _ => by unfold RepV; rfl
theorem de_bl {b j pos} : DE X (.Constant (.bool b) j pos) (dC (.bl b)) := de_c pe_bl fun _ _ => by unfold RepV; rfl
theorem de_non {j pos} : DE X (.Constant .none j pos) (dC .non) := de_c pe_non fun _ _ => by unfold RepV; rfl
theorem de_str {x j pos} : DE X (.Constant (.str x) j pos) (dC (.str x)) := de_c pe_str fun _ _ => by unfold RepV; rfl
def GlD (X : Cx) (x : Str) (d : D) : Prop := ∃ u, X.mg x = some u ∧ ∃ v, RelV v u ∧ ∀ G H, RepV X.K G H d v
theorem de_glob {x : Str} {d : D} {pos : Pos} (hg : Gl X x) (hm : GlD X x d) (hd : (x == ("__debug__" : Str)) = false := by decide) : DE X (.Name x pos) (dC d) := by
  obtain ⟨u, h1, v, h2, h3⟩ := hm
  exact de_c (pe_glob hg h1 h2 hd) h3
@[simp] def dNil : DTA := fun _ G Q => Q [] G
@[simp] def dCons (ta : DTE) (tr : DTA) : DTA := fun ρ G Q => ta ρ G fun x G1 => tr ρ G1 fun xs G2 => Q (x :: xs) G2
theorem da_nil : DA X [] dNil := (pa_nil (X := X)).imp fun σ H Q ⟨ρ, G, q, r, h, k⟩ => k [] [] H G (Ext.refl G H) r repL_nil h
theorem da_cons {e : Expr} {es : List Expr} {te : DTE} {t : DTA} (ha : DE X e te) (hr : DA X es t) (hs : starEach (e :: es) X.env = (false, eval e X.env) :: starEach es X.env := by rfl) : DA X (e :: es) (dCons te t) := by
  refine (pa_cons ha hr hs).imp fun σ H Q ⟨ρ, G, q, r, h, k⟩ => ?_
  refine ⟨ρ, G, _, r, h, fun v d H1 G1 e1 r1 v1 h1 => ?_⟩
  refine ⟨ρ, G1, _, r1, h1, fun vs ds H2 G2 e2 r2 v2 h2 => ?_⟩
  exact k (v :: vs) (d :: ds) H2 G2 (e1.trans e2) r2 (repL_cons (v1.ext e2) v2) h2
@[simp] def dTup (t : DTA) : DTE := fun ρ G Q => t ρ G fun xs G1 => xs.length ≤ sizeLine ∧ Q (.tup xs) G1
@[simp] def dLst (t : DTA) : DTE := fun ρ G Q => t ρ G fun xs G1 => xs.length ≤ sizeLine ∧ ∀ p, G1 p = none → Q (.ref p) (updG G1 p (.lst xs))
theorem DRel.newTup {K : PySem.W.Frag} {σ : St} {H : Hp} {ρ : DSt} {G : GH} {p : Addr} {ds : List D} {vs : List V} (r : DRel K σ H ρ G) (hp : H p = none) (hv : RepL K G H ds vs) :
    Ext G H G (upd H p (.tup vs)) ∧ DRel K σ (upd H p (.tup vs)) ρ G ∧ RepV K G (upd H p (.tup vs)) (.tup ds) (.ref p) := by
  have e : Ext G H G (upd H p (.tup vs)) := Ext.new hp
  refine ⟨e, r.ext e (r.gok.new hp), ?_⟩
  unfold RepV
  exact ⟨p, vs, rfl, .inl ⟨r.gok.fresh hp, upd_same⟩, hv.ext e⟩
theorem DRel.newLst {K : PySem.W.Frag} {σ : St} {H : Hp} {ρ : DSt} {G : GH} {p : Addr} {ds : List D} {vs : List V} (r : DRel K σ H ρ G) (hp : H p = none) (hv : RepL K G H ds vs) :
    Ext G H (updG G p (.lst ds)) (upd H p (.lst vs)) ∧ DRel K σ (upd H p (.lst vs)) ρ (updG G p (.lst ds)) ∧ RepV K (updG G p (.lst ds)) (upd H p (.lst vs)) (.ref p) (.ref p) := by
  have e : Ext G H (updG G p (.lst ds)) (upd H p (.lst vs)) := Ext.newG hp
  refine ⟨e, r.ext e (r.gok.put e ⟨vs, upd_same, hv.ext e⟩), by unfold RepV; rfl⟩
theorem de_tup {es : List Expr} {t : DTA} {x1} {pos : Pos} (h : DA X es t) : DE X (.Tuple es x1 pos) (dTup t) := by
  refine (pe_tup h).imp fun σ H Q ⟨ρ, G, q, r, h, k⟩ => ?_
  refine ⟨ρ, G, _, r, h, fun vs ds H1 G1 e1 r1 v1 ⟨z, h1⟩ => ⟨by rw [v1.length]; exact z, fun p hp => ?_⟩⟩
  obtain ⟨e2, r2, v2⟩ := r1.newTup hp v1
  exact k _ _ _ _ (e1.trans e2) r2 v2 h1
theorem de_lst {es : List Expr} {t : DTA} {pos : Pos} (h : DA X es t) : DE X (.List es pos) (dLst t) := by
  refine (pe_lst h).imp fun σ H Q ⟨ρ, G, q, r, h, k⟩ => ?_
  refine ⟨ρ, G, _, r, h, fun vs ds H1 G1 e1 r1 v1 ⟨z, h1⟩ => ⟨by rw [v1.length]; exact z, fun p hp => ?_⟩⟩
  obtain ⟨e2, r2, v2⟩ := r1.newLst hp v1
  exact k _ _ _ _ (e1.trans e2) r2 v2 (h1 p (r1.gok.fresh hp))
@[simp] def dFrz (t : DTE) : DTE := fun ρ G Q => t ρ G fun d G1 => match d with
  | .ref p => (match G1 p with
    | some (.lst ds) => Q (.lst ds) (dropG G1 p)
    | _ => Q (.ref p) G1)
  | d => Q d G1
theorem de_frz {e : Expr} {t : DTE} (h : DE X e t) : DE X e (dFrz t) := by
  refine PE.imp h fun σ H Q ⟨ρ, G, q, r, h, k⟩ => ?_
  refine ⟨ρ, G, _, r, h, fun v d H1 G1 e1 r1 v1 h1 => ?_⟩
  cases d with
  | ref p =>
    dsimp only at h1
    cases q : G1 p with
    | none => rw [q] at h1; exact k _ _ _ _ e1 r1 v1 h1
    | some o =>
      rw [q] at h1
      cases o with
      | lst ds =>
        dsimp only at h1
        obtain ⟨xs, hx, rx⟩ := r1.gok p _ q
        have e2 : Ext G1 H1 (dropG G1 p) H1 := Ext.drop
        refine k v (.lst ds) H1 (dropG G1 p) (e1.trans e2) (r1.ext e2 r1.gok.drop) ?_ h1
        unfold RepV at v1 ⊢
        exact ⟨p, xs, v1, ⟨dropG_same, hx⟩, rx.ext e2⟩
      | dct kvs => exact k _ _ _ _ e1 r1 v1 h1
      | raw o => exact k _ _ _ _ e1 r1 v1 h1
      | ins _ _ => exact k _ _ _ _ e1 r1 v1 h1
      | dtp _ => exact k _ _ _ _ e1 r1 v1 h1
      | tab _ => exact k _ _ _ _ e1 r1 v1 h1
      | slt _ _ => exact k _ _ _ _ e1 r1 v1 h1
      | dny _ _ _ => exact k _ _ _ _ e1 r1 v1 h1
  | _ => exact k _ _ _ _ e1 r1 v1 h1
abbrev DR2 := D → D → GH → DK → Prop
def upR (K : PySem.W.Frag) (r : DR2) : R2 := fun x y H Qv => ∃ (G : GH) (dx dy : D) (Q : DK), GOk K G H ∧ RepV K G H dx x ∧ RepV K G H dy y ∧ r dx dy G Q ∧ ∀ v d H' G', Ext G H G' H' → GOk K G' H' → RepV K G' H' d v → Q d G' → Qv v H'
abbrev DOp (X : Cx) (f : Value → Value → Sem Value) (r : DR2) : Prop := OpR X f (upR X.K r)
@[simp] def dOp (r : DR2) (ta tb : DTE) : DTE := fun ρ G Q => ta ρ G fun x G1 => tb ρ G1 fun y G2 => r x y G2 Q
theorem up_op {K : PySem.W.Frag} {r : DR2} {ta tb : DTE} {σ : St} {H : Hp} {Q : VK} (h : up K (dOp r ta tb) σ H Q) : tOp (upR K r) (up K ta) (up K tb) σ H Q := by
  obtain ⟨ρ, G, q, r0, h, k⟩ := h
  refine ⟨ρ, G, _, r0, h, fun x dx H1 G1 e1 r1 v1 h1 => ?_⟩
  refine ⟨ρ, G1, _, r1, h1, fun y dy H2 G2 e2 r2 v2 h2 => ?_⟩
  exact ⟨G2, dx, dy, q, r2.gok, v1.ext e2, v2, h2, fun v d H' G' e3 g3 v3 h3 => k v d H' G' ((e1.trans e2).trans e3) (r2.ext e3 g3) v3 h3⟩
theorem de_op {op : Operator} {r : DR2} {a b : Expr} {ta tb : DTE} {pos : Pos} (ho : DOp X (binaryOp op) r) (ha : DE X a ta) (hb : DE X b tb) : DE X (.BinOp a op b pos) (dOp r ta tb) :=
  (pe_op ho ha hb).imp fun _ _ _ h => up_op h
theorem de_cmp {op : CmpOp} {r : DR2} {a b : Expr} {ta tb : DTE} {pos : Pos} (ho : DOp X (compareOp op) r) (ha : DE X a ta) (hb : DE X b tb) (hm : behindInMarks op b = false) : DE X (.Compare a [op] [b] pos) (dOp r ta tb) :=
  (pe_cmpR ho ha hb hm).imp fun _ _ _ h => up_op h
@[simp] def dTst (t : DTE) : DTT := fun ρ G Q => t ρ G fun d G1 => match d with
  | .bl b => Q b G1
  | _ => False
theorem up_tst {K : PySem.W.Frag} {t : DTE} {σ : St} {H : Hp} {Q : Bool → Hp → Prop} (h : upT K (dTst t) σ H Q) : up K t σ H fun x H1 => ∃ k, x = .bl k ∧ Q k H1 := by
  obtain ⟨ρ, G, q, r0, h, k⟩ := h
  refine ⟨ρ, G, _, r0, h, fun x dx H1 G1 e1 r1 v1 h1 => ?_⟩
  cases dx with
  | bl b => unfold RepV at v1; exact ⟨b, v1, k b H1 G1 e1 r1 h1⟩
  | _ => exact h1.elim
theorem dt_cmp {op : CmpOp} {r : DR2} {a b : Expr} {ta tb : DTE} {pos : Pos} (ho : DOp X (compareOp op) r) (ha : DE X a ta) (hb : DE X b tb) (hm : behindInMarks op b = false) : DT X (.Compare a [op] [b] pos) (dTst (dOp r ta tb)) := by
  refine (pt_cmpR ho ha hb hm).imp fun σ H Q h => ?_
  exact up_op (up_tst h)
end
end Dl
namespace Dl
open PySem L2
section
variable {X : Cx}
@[simp] def dAnd (t u : DTT) : DTT := fun ρ G Q => t ρ G fun c G1 => if c = true then u ρ G1 Q else Q false G1
@[simp] def dOr (t u : DTT) : DTT := fun ρ G Q => t ρ G fun c G1 => if c = true then Q true G1 else u ρ G1 Q
@[simp] def dNot (t : DTT) : DTT := fun ρ G Q => t ρ G fun c G1 => Q (!c) G1
theorem up_and {K : PySem.W.Frag} {t u : DTT} {σ : St} {H : Hp} {Q : Bool → Hp → Prop} (h : upT K (dAnd t u) σ H Q) : tAnd (upT K t) (upT K u) σ H Q := by
  obtain ⟨ρ, G, q, r, h, k⟩ := h
  refine ⟨ρ, G, _, r, h, fun b H1 G1 e1 r1 h1 => ?_⟩
  cases b with
  | true => exact ⟨ρ, G1, q, r1, h1, fun b H' G' e r h => k b H' G' (e1.trans e) r h⟩
  | false => exact k false H1 G1 e1 r1 h1
theorem up_or {K : PySem.W.Frag} {t u : DTT} {σ : St} {H : Hp} {Q : Bool → Hp → Prop} (h : upT K (dOr t u) σ H Q) : tOr (upT K t) (upT K u) σ H Q := by
  obtain ⟨ρ, G, q, r, h, k⟩ := h
  refine ⟨ρ, G, _, r, h, fun b H1 G1 e1 r1 h1 => ?_⟩
  cases b with
  | false => exact ⟨ρ, G1, q, r1, h1, fun b H' G' e r h => k b H' G' (e1.trans e) r h⟩
  | true => exact k true H1 G1 e1 r1 h1
abbrev DW (X : Cx) (e : Expr) (t : DTT) : Prop := PW X e (upT X.K t)
theorem dw_and1 {a : Expr} {t : DTT} {pos : Pos} (h : DT X a t) : DW X (.BoolOp .And [a] pos) t := pw_and1 h
theorem dw_or1 {a : Expr} {t : DTT} {pos : Pos} (h : DT X a t) : DW X (.BoolOp .Or [a] pos) t := pw_or1 h
theorem dw_and {a b : Expr} {rest : List Expr} {t u : DTT} {pos : Pos} (h : DT X a t) (hb : DW X (.BoolOp .And (b :: rest) pos) u) : DW X (.BoolOp .And (a :: b :: rest) pos) (dAnd t u) := (pw_and h hb).imp fun _ _ _ h => up_and h
theorem dw_or {a b : Expr} {rest : List Expr} {t u : DTT} {pos : Pos} (h : DT X a t) (hb : DW X (.BoolOp .Or (b :: rest) pos) u) : DW X (.BoolOp .Or (a :: b :: rest) pos) (dOr t u) := (pw_or h hb).imp fun _ _ _ h => up_or h
theorem dt_w {e : Expr} {t : DTT} (h : DW X e t) : DT X e t := h.pt
theorem dt_not {a : Expr} {t : DTT} {pos : Pos} (h : DT X a t) : DT X (.UnaryOp .Not a pos) (dNot t) := by
  refine PT.imp (pt_not h) fun σ H Q ⟨ρ, G, q, r, h, k⟩ => ?_
  exact ⟨ρ, G, _, r, h, fun b H1 G1 e1 r1 h1 => k (!b) H1 G1 e1 r1 h1⟩
@[simp] def dAndV (ta tb : DTE) : DTE := fun ρ G Q => ta ρ G fun x G1 => match x with
  | .bl true => tb ρ G1 Q
  | .bl false => Q (.bl false) G1
  | _ => False
theorem de_one {op : BoolOp} {a : Expr} {t : DTE} {pos : Pos} (h : DE X a t) : DE X (.BoolOp op [a] pos) t := pe_one h
theorem de_and {a b : Expr} {rest : List Expr} {ta tb : DTE} {pos : Pos} (h : DE X a ta) (hb : DE X (.BoolOp .And (b :: rest) pos) tb) : DE X (.BoolOp .And (a :: b :: rest) pos) (dAndV ta tb) := by
  refine (pe_and h hb).imp fun σ H Q ⟨ρ, G, q, r, h, k⟩ => ?_
  refine ⟨ρ, G, _, r, h, fun v d H1 G1 e1 r1 v1 h1 => ?_⟩
  cases d with
  | bl c =>
    unfold RepV at v1
    refine ⟨c, v1, ?_⟩
    cases c with
    | true => exact ⟨ρ, G1, q, r1, h1, fun v d H' G' e r v' h => k v d H' G' (e1.trans e) r v' h⟩
    | false => exact k _ (.bl false) H1 G1 e1 r1 (by unfold RepV; rfl) h1
  | _ => exact h1.elim
@[simp] def dNotV (ta : DTE) : DTE := fun ρ G Q => ta ρ G fun x G1 => match x with
  | .bl c => Q (.bl (!c)) G1
  | _ => False
theorem de_not {a : Expr} {ta : DTE} {pos : Pos} (h : DE X a ta) : DE X (.UnaryOp .Not a pos) (dNotV ta) := by
  refine PE.imp (pe_not h) fun σ H Q ⟨ρ, G, q, r, h, k⟩ => ?_
  refine ⟨ρ, G, _, r, h, fun v d H1 G1 e1 r1 v1 h1 => ?_⟩
  cases d with
  | bl c =>
    unfold RepV at v1
    exact ⟨c, v1, k _ (.bl (!c)) H1 G1 e1 r1 (by unfold RepV; rfl) h1⟩
  | _ => exact h1.elim
@[simp] def dIf (c : DTT) (ta tb : DTE) : DTE := fun ρ G Q => c ρ G fun b G1 => if b = true then ta ρ G1 Q else tb ρ G1 Q
theorem de_if {c a b : Expr} {tc : DTT} {ta tb : DTE} {pos : Pos} (hc : DT X c tc) (ha : DE X a ta) (hb : DE X b tb) : DE X (.IfExp c a b pos) (dIf tc ta tb) := by
  refine (pe_ifExp hc ha hb).imp fun σ H Q ⟨ρ, G, q, r, h, k⟩ => ?_
  refine ⟨ρ, G, _, r, h, fun b H1 G1 e1 r1 h1 => ?_⟩
  cases b with
  | true => exact ⟨ρ, G1, q, r1, h1, fun v d H' G' e r v' h => k v d H' G' (e1.trans e) r v' h⟩
  | false => exact ⟨ρ, G1, q, r1, h1, fun v d H' G' e r v' h => k v d H' G' (e1.trans e) r v' h⟩
@[simp] def dNext : DTS := fun E ρ G => E.nx ρ G
@[simp] def dSeq (t u : DTS) : DTS := fun E ρ G => t { E with nx := u E } ρ G
theorem ds_nil : DSs X [] dNext := (pss_nil (X := X)).imp fun D σ H ⟨ρ, G, E, r, h, k1, _⟩ => k1 σ ρ H G (Ext.refl G H) r h
theorem ds_one {st : Stmt} {t : DTS} (h : DS X st t) : DSs X [st] t := pss_one h
theorem ds_cons {st : Stmt} {rest : List Stmt} {t u : DTS} (h : DS X st t) (h2 : DSs X rest u) : DSs X (st :: rest) (dSeq t u) := by
  refine (pss_cons h h2).imp fun D σ H ⟨ρ, G, E, r, h, k1, k2, k3, k4⟩ => ?_
  refine ⟨ρ, G, { E with nx := u E }, r, h, fun σ' ρ' H' G' e r' h' => ?_, k2, k3, k4⟩
  exact ⟨ρ', G', E, r', h', fun a b c d e' => k1 a b c d (e.trans e'), fun a b c d e' => k2 a b c d (e.trans e'), fun a b c d e' => k3 a b c d (e.trans e'), fun a b c d e' => k4 a b c d (e.trans e')⟩
@[simp] def dDrop (te : DTE) : DTS := fun E ρ G => te ρ G fun _ G1 => E.nx ρ G1
theorem ds_expr {e : Expr} {te : DTE} {pos : Pos} (he : DE X e te) (hs : swapsWith e none pos.line X.env = pure false := by rfl) : DS X (.Expr e pos) (dDrop te) := by
  refine (ps_expr he hs).imp fun D σ H ⟨ρ, G, E, r, h, k1, _⟩ => ?_
  exact ⟨ρ, G, _, r, h, fun v d H' G' e r' v' h' => k1 σ ρ H' G' e r' h'⟩
@[simp] def dRet (te : DTE) : DTS := fun E ρ G => te ρ G E.rt
theorem ds_ret {e : Expr} {te : DTE} {pos : Pos} (he : DE X e te) : DS X (.Return (some e) pos) (dRet te) := by
  refine (ps_ret he).imp fun D σ H ⟨ρ, G, E, r, h, _, k2, _⟩ => ?_
  exact ⟨ρ, G, _, r, h, fun v d H' G' e r' v' h' => k2 v d H' G' e r'.gok v' h'⟩
@[simp] def dIfS (c : DTT) (t u : DTS) : DTS := fun E ρ G => c ρ G fun b G1 => if b = true then t E ρ G1 else u E ρ G1
theorem upS_ext {K : PySem.W.Frag} {t : DTS} {Dv : Ends} {σ : St} {H H1 : Hp} {ρ : DSt} {G G1 : GH} {E : DEnds} (e : Ext G H G1 H1) (r1 : DRel K σ H1 ρ G1) (h : t E ρ G1)
    (k1 : ∀ σ' ρ' H' G', Ext G H G' H' → DRel K σ' H' ρ' G' → E.nx ρ' G' → Dv.nx σ' H')
    (k2 : ∀ v d H' G', Ext G H G' H' → GOk K G' H' → RepV K G' H' d v → E.rt d G' → Dv.rt v H')
    (k3 : ∀ σ' ρ' H' G', Ext G H G' H' → DRel K σ' H' ρ' G' → E.bk ρ' G' → Dv.bk σ' H')
    (k4 : ∀ σ' ρ' H' G', Ext G H G' H' → DRel K σ' H' ρ' G' → E.ct ρ' G' → Dv.ct σ' H') : upS K t Dv σ H1 :=
  ⟨ρ, G1, E, r1, h, fun a b c d e' => k1 a b c d (e.trans e'), fun a b c d e' => k2 a b c d (e.trans e'), fun a b c d e' => k3 a b c d (e.trans e'), fun a b c d e' => k4 a b c d (e.trans e')⟩
theorem ds_if {c : Expr} {a b : List Stmt} {tc : DTT} {t u : DTS} {pos : Pos} (hc : DT X c tc) (ha : DSs X a t) (hb : DSs X b u) : DS X (.If c a b pos) (dIfS tc t u) := by
  refine (ps_if hc ha hb).imp fun D σ H ⟨ρ, G, E, r, h, k1, k2, k3, k4⟩ => ?_
  refine ⟨ρ, G, _, r, h, fun b H1 G1 e1 r1 h1 => ?_⟩
  cases b with
  | true => exact upS_ext e1 r1 h1 k1 k2 k3 k4
  | false => exact upS_ext e1 r1 h1 k1 k2 k3 k4
@[simp] def gNm (i : Nat) : DTG := fun d ρ G Q => Q (ρ.set i (some d)) G
theorem dg_name {i : Nat} {x : Str} {pos : Pos} (hN : X.N.Nodup) (hi : X.N[i]? = some x) (hx : Loc X.env.scope x) (hf : X.fn x = true ∨ X.env.scope.names.lookup x = some .local := by first | exact .inl rfl | exact .inr rfl | assumption) : DG X (.Name x pos) (gNm i) :=
  (pg_name hN hi hx hf).imp fun v σ H Q ⟨ρ, G, d, q, r, rv, h, k⟩ => k _ _ H G (Ext.refl G H) (r.set i rv) h
@[simp] def gsNil : DTGs := fun ds ρ G Q => match ds with
  | [] => Q ρ G
  | _ => False
@[simp] def gsCons (t : DTG) (u : DTGs) : DTGs := fun ds ρ G Q => match ds with
  | d :: r => t d ρ G fun ρ' G' => u r ρ' G' Q
  | [] => False
theorem dgs_nil : DGs X [] gsNil := (pgs_nil (X := X)).imp fun v σ H Q ⟨ρ, G, ds, q, r, rv, h, k⟩ => by
  cases ds with
  | nil => unfold RepL at rv; exact ⟨rv, k σ ρ H G (Ext.refl G H) r h⟩
  | cons d ds => exact h.elim
theorem dgs_cons {e : Expr} {es : List Expr} {t : DTG} {u : DTGs} (h1 : DG X e t) (h2 : DGs X es u)
    (hs : (assignEach (e :: es) X.env).map (·.2) = assign e X.env :: (assignEach es X.env).map (·.2) := by rfl) : DGs X (e :: es) (gsCons t u) :=
  (pgs_cons h1 h2 hs).imp fun v σ H Q ⟨ρ, G, ds, q, r, rv, h, k⟩ => by
    cases ds with
    | nil => exact h.elim
    | cons d ds =>
      unfold RepL at rv
      obtain ⟨x, xs, rfl, hx, hxs⟩ := rv
      refine ⟨x, xs, rfl, ρ, G, d, _, r, hx, h, fun σ' ρ' H' G' e r' h' => ?_⟩
      exact ⟨ρ', G', ds, q, r', hxs.ext e, h', fun a b c d e' => k a b c d (e.trans e')⟩
@[simp] def gTp (n : Nat) (t : DTGs) : DTG := fun d ρ G Q => match d with
  | .tup xs => xs.length = n ∧ t xs ρ G Q
  | _ => False
theorem dg_tup {es : List Expr} {k : Nat} {t : DTGs} {n : Nat} {pos : Pos} (hc : X.calm = true) (h : DGs X es t)
    (hn : (assignEach es X.env).length = n := by rfl) (hst : (assignEach es X.env).findIdx? (·.1) = none := by rfl) : DG X (.Tuple es k pos) (gTp n t) :=
  (pg_tup hc h hn hst).imp fun v σ H Q ⟨ρ, G, d, q, r, rv, h, k⟩ => by
    cases d with
    | tup ds =>
      unfold RepV at rv
      obtain ⟨a, xs, rfl, ta, rl⟩ := rv
      exact ⟨a, xs, rfl, ta.sq, by rw [rl.length]; exact h.1, ρ, G, ds, q, r, rl, h.2, k⟩
    | _ => exact h.elim
abbrev DSet := D → D → D → GH → (GH → Prop) → Prop
def upSet (K : PySem.W.Frag) (t : DSet) : TSet := fun o i v H Qv => ∃ (G : GH) (dO di d : D) (Q : GH → Prop), GOk K G H ∧ RepV K G H dO o ∧ RepV K G H di i ∧ RepV K G H d v ∧ t dO di d G Q ∧ ∀ H' G', Ext G H G' H' → GOk K G' H' → Q G' → Qv H'
@[simp] def gSb (to ti : DTE) (t : DSet) : DTG := fun d ρ G Q => to ρ G fun o G1 => ti ρ G1 fun i G2 => t o i d G2 fun G3 => Q ρ G3
theorem dg_sub {o i : Expr} {to ti : DTE} {t : DSet} {pos : Pos} (ho : DE X o to) (hi : DE X i ti) (hs : PSet X (upSet X.K t))
    (ha : ∀ v, assign (.Subscript o i pos) X.env v = (do
      let ov ← holding [v] (eval o X.env)
      let iv ← holding [v, ov] (eval i X.env)
      standAt pos
      holding [v, ov, iv] (setItem ov iv v)
      release [v, ov, iv] []) := by intro _; rfl) : DG X (.Subscript o i pos) (gSb to ti t) :=
  (pg_sub ho hi hs ha).imp fun v σ H Q ⟨ρ, G, d, q, r, rv, h, k⟩ => by
    refine ⟨ρ, G, _, r, h, fun ov od H1 G1 e1 r1 v1 h1 => ?_⟩
    refine ⟨ρ, G1, _, r1, h1, fun iv idd H2 G2 e2 r2 v2 h2 => ?_⟩
    refine ⟨G2, od, idd, d, _, r2.gok, v1.ext e2, v2, rv.ext (e1.trans e2), h2, fun H' G' e3 g3 h3 => ?_⟩
    exact k σ ρ H' G' ((e1.trans e2).trans e3) (r2.ext e3 g3) h3
@[simp] def dAsg (te : DTE) (g : DTG) : DTS := fun E ρ G => te ρ G fun x G1 => g x ρ G1 E.nx
theorem up_asg {K : PySem.W.Frag} {te : DTE} {g : DTG} {D : Ends} {σ : St} {H : Hp} (h : upS K (dAsg te g) D σ H) : tAsg (up K te) (upG K g) D σ H := by
  obtain ⟨ρ, G, E, r, h, k1, k2, k3, k4⟩ := h
  refine ⟨ρ, G, _, r, h, fun v d H1 G1 e1 r1 v1 h1 => ?_⟩
  exact ⟨ρ, G1, d, _, r1, v1, h1, fun a b c d e' => k1 a b c d (e1.trans e')⟩
theorem ds_asg {tg e : Expr} {te : DTE} {g : DTG} {pos : Pos} (he : DE X e te) (hg : DG X tg g) (hs : swapsWithSole [tg] e pos.line X.env = pure false := by rfl) (hw : swappedStores [tg] e X.env = pure none := by rfl)
    (h1 : (assignEach [tg] X.env).map (·.2) = [assign tg X.env] := by rfl) : DS X (.Assign [tg] e pos) (dAsg te g) := (ps_asg he hg hs hw h1).imp fun _ _ _ h => up_asg h
theorem ds_set {i : Nat} {x : Str} {e : Expr} {te : DTE} {pos pos' : Pos} (hN : X.N.Nodup) (hi : X.N[i]? = some x) (hx : Loc X.env.scope x) (he : DE X e te) (hs : swapsWith e (some (.Name x pos')) pos.line X.env = pure false := by rfl) (hf : X.fn x = true ∨ X.env.scope.names.lookup x = some .local := by first | exact .inl rfl | exact .inr rfl | assumption) :
    DS X (.Assign [.Name x pos'] e pos) (dAsg te (gNm i)) := by
  refine (ps_set hN hi hx he hs hf).imp fun D σ H ⟨ρ, G, E, r, h, k1, k2, k3, k4⟩ => ?_
  refine ⟨ρ, G, _, r, h, fun v d H1 G1 e1 r1 v1 h1 => ?_⟩
  exact k1 _ _ H1 G1 e1 (r1.set i v1) h1
@[simp] def dPar (i j : Nat) (ta : DTA) : DTS := fun E ρ G => ta ρ G fun ds G1 => match ds with
  | [v, w] => E.nx ((ρ.set i (some v)).set j (some w)) G1
  | _ => False
theorem ds_par {i j : Nat} {x y : Str} {a b : Expr} {ta : DTA} {px py pt pos : Pos} {kt k2 pt2} (hc : X.calm = true) (hN : X.N.Nodup) (hi : X.N[i]? = some x) (hj : X.N[j]? = some y) (hij : i ≠ j)
    (hx : X.env.scope.names.lookup x = some .local) (hy : X.env.scope.names.lookup y = some .local) (ha : DA X [a, b] ta)
    (hw : swappedStores [.Tuple [.Name x px, .Name y py] kt pt] (.Tuple [a, b] k2 pt2) X.env = pure (some [x, y]))
    (hs : swapsWithSole [.Tuple [.Name x px, .Name y py] kt pt] (.Tuple [a, b] k2 pt2) pos.line X.env = pure false := by rfl) :
    DS X (.Assign [.Tuple [.Name x px, .Name y py] kt pt] (.Tuple [a, b] k2 pt2) pos) (dPar i j ta) := by
  refine (ps_par hc hN hi hj hij hx hy ha hw hs).imp fun D σ H ⟨ρ, G, E, r, h, k1, k2, k3, k4⟩ => ?_
  refine ⟨ρ, G, _, r, h, fun vs ds H1 G1 e1 r1 v1 h1 => ?_⟩
  match ds, h1 with
  | [v, w], h1 =>
    unfold RepL at v1
    obtain ⟨x1, t1, rfl, y1, v1⟩ := v1
    unfold RepL at v1
    obtain ⟨x2, t2, rfl, y2, v1⟩ := v1
    unfold RepL at v1
    subst v1
    exact ⟨x1, x2, rfl, k1 _ _ H1 G1 e1 ((r1.set i y1).set j y2) h1⟩
  | [], h1 => exact h1.elim
  | [_], h1 => exact h1.elim
  | _ :: _ :: _ :: _, h1 => exact h1.elim
def dWhileGo (c : DTT) (tb : DTS) : Nat → DTS
  | 0, _, _, _ => False
  | n + 1, E, ρ, G => c ρ G fun b G1 => if b = true then tb { E with nx := dWhileGo c tb n E, ct := dWhileGo c tb n E, bk := E.nx } ρ G1 else E.nx ρ G1
def dWhile (c : DTT) (tb : DTS) : DTS := fun E ρ G => ∃ n, dWhileGo c tb n E ρ G
theorem ds_while {c : Expr} {body : List Stmt} {tc : DTT} {tb : DTS} {pos : Pos} (hp : PassesOwn (model X.prog X.w) X.A X.env X.xe) (hc : DT X c tc) (hb : DSs X body tb) : DS X (.While c body [] pos) (dWhile tc tb) := by
  refine (ps_while hp hc hb).imp fun D σ H ⟨ρ, G, E, r, ⟨n, h⟩, k1, k2, k3, k4⟩ => ?_
  refine ⟨fun m σ1 H1 => ∃ ρ1 G1, Ext G H G1 H1 ∧ DRel X.K σ1 H1 ρ1 G1 ∧ dWhileGo tc tb m E ρ1 G1, ⟨n, ρ, G, Ext.refl G H, r, h⟩, ?_⟩
  rintro m σ1 H1 ⟨ρ1, G1, e1, r1, h1⟩
  cases m with
  | zero => exact h1.elim
  | succ m =>
    unfold dWhileGo at h1
    refine ⟨ρ1, G1, _, r1, h1, fun b H2 G2 e2 r2 h2 => ?_⟩
    cases b with
    | false => exact k1 σ1 ρ1 H2 G2 (e1.trans e2) r2 h2
    | true =>
      refine ⟨fun σ3 H3 => ∃ ρ3 G3, Ext G H G3 H3 ∧ DRel X.K σ3 H3 ρ3 G3 ∧ dWhileGo tc tb m E ρ3 G3, fun σ3 H3 q => ⟨m, Nat.lt_succ_self m, q⟩, ?_⟩
      refine ⟨ρ1, G2, _, r2, h2, ?_, ?_, ?_, ?_⟩
      · exact fun σ' ρ' H' G' e' r' h' => ⟨ρ', G', (e1.trans e2).trans e', r', h'⟩
      · exact fun v d H' G' e' => k2 v d H' G' ((e1.trans e2).trans e')
      · exact fun σ' ρ' H' G' e' r' h' => k1 σ' ρ' H' G' ((e1.trans e2).trans e') r' h'
      · exact fun σ' ρ' H' G' e' r' h' => ⟨ρ', G', (e1.trans e2).trans e', r', h'⟩
def DIt (K : PySem.W.Frag) (J : It) (items : List D) (ok : GH → Prop) (G0 : GH) (H0 : Hp) : Prop :=
  ∀ G H, Ext G0 H0 G H → GOk K G H → ok G → ∀ i, (∀ d, items[i]? = some d → J.go i H ∧ ∀ x H1, J.yld i H x H1 → Ext G H G H1 ∧ GOk K G H1 ∧ RepV K G H1 d x) ∧ (i = items.length → J.stop i H)
abbrev DTI := DSt → GH → (List D → (GH → Prop) → GH → Prop) → Prop
def upI (K : PySem.W.Frag) (t : DTI) : TI := fun σ H R => ∃ ρ G Q, DRel K σ H ρ G ∧ t ρ G Q ∧ ∀ J items ok H' G', Ext G H G' H' → DRel K σ H' ρ G' → DIt K J items ok G' H' → Q items ok G' → R J H'
abbrev DI (X : Cx) (tg iter : Expr) (t : DTI) : Prop := PI X tg iter (upI X.K t)
theorem _root_.L2.PI.imp {tg iter : Expr} {t t' : TI} (h : PI X tg iter t) (i : ∀ σ H R, t' σ H R → t σ H R) : PI X tg iter t' := ⟨fun pins s σ H R I q => h.run pins s σ H R I (i σ H R q)⟩
def okAll : GH → Prop := fun _ => True
def rngD (lo : Int) (n : Nat) : List D := (List.range n).map fun i => D.int (lo + (i : Nat))
theorem dit_range {K : PySem.W.Frag} {lo : Int} {n : Nat} {G0 : GH} {H0 : Hp} : DIt K (Itr lo n) (rngD lo n) okAll G0 H0 := fun G H e g _ i => by
  refine ⟨fun d hd => ?_, fun hi => ?_⟩
  · unfold rngD at hd
    rw [List.getElem?_map] at hd
    by_cases hi : i < n
    · rw [List.getElem?_range hi] at hd
      simp at hd
      subst hd
      refine ⟨hi, fun x H1 hx => ?_⟩
      obtain ⟨rfl, rfl⟩ := hx
      exact ⟨Ext.refl _ _, g, by unfold RepV; rfl⟩
    · rw [List.getElem?_eq_none (by simpa using hi)] at hd
      simp at hd
  · unfold rngD at hi
    show n ≤ i
    simp at hi
    omega
@[simp] def iRg1 (t : DTA) : DTI := fun ρ G Q => t ρ G fun ds G1 => match ds with
  | [.int j] => -(2 ^ 62) ≤ j ∧ j < 2 ^ 62 ∧ Q (rngD 0 j.toNat) okAll G1
  | _ => False
@[simp] def iRg2 (t : DTA) : DTI := fun ρ G Q => t ρ G fun ds G1 => match ds with
  | [.int i, .int j] => (-(2 ^ 62) ≤ i ∧ i < 2 ^ 62 ∧ -(2 ^ 62) ≤ j ∧ j < 2 ^ 62) ∧ Q (rngD i (j - i).toNat) okAll G1
  | _ => False
theorem di_range1 {tg a : Expr} {t : DTA} {p pos : Pos} (hg : Gl X "range") (hm : X.mg "range" = none) (ha : DA X [a] t) (hs : starEach [a] X.env = [(false, eval a X.env)] := by rfl) : DI X tg (.Call (.Name "range" p) [a] [] pos) (iRg1 t) := by
  refine (pi_range1 hg hm ha hs).imp fun σ H R ⟨ρ, G, q, r, h, k⟩ => ?_
  refine ⟨ρ, G, _, r, h, fun vs ds H1 G1 e1 r1 v1 h1 => ?_⟩
  match ds, h1 with
  | [.int j], h1 =>
    unfold RepL at v1
    obtain ⟨x1, t1, rfl, y1, v1⟩ := v1
    unfold RepL at v1
    subst v1
    unfold RepV at y1
    subst y1
    exact ⟨j, rfl, h1.1, h1.2.1, k _ _ _ H1 G1 e1 r1 dit_range h1.2.2⟩
def dForGo (ok : GH → Prop) (g : DTG) (tb : DTS) : List D → DTS
  | [], E, ρ, G => ok G ∧ E.nx ρ G
  | x :: xs, E, ρ, G => ok G ∧ g x ρ G fun ρ2 G2 => tb { E with nx := dForGo ok g tb xs E, ct := dForGo ok g tb xs E, bk := E.nx } ρ2 G2
def dFor (wi : DTI) (g : DTG) (tb : DTS) : DTS := fun E ρ G => wi ρ G fun items ok G1 => dForGo ok g tb items E ρ G1
theorem ds_for {tg iter : Expr} {body : List Stmt} {wi : DTI} {g : DTG} {tb : DTS} {pos : Pos} (hp : PassesOwn (model X.prog X.w) X.A X.env X.xe) (hc : X.calm = true) (hi : DI X tg iter wi) (hg : DG X tg g) (hb : DSs X body tb)
    (hs : ∀ x, foldedSetIterable iter X.env x = pure x := by intro _; rfl) : DS X (.For tg iter body [] pos) (dFor wi g tb) := by
  refine (ps_for hp hc hi hg hb hs).imp fun D σ H ⟨ρ, G, E, r, h, k1, k2, k3, k4⟩ => ?_
  refine ⟨ρ, G, _, r, h, fun J items ok H1 G1 e1 r1 it h1 => ?_⟩
  refine ⟨fun i m σ2 H2 => m = items.length - i ∧ i ≤ items.length ∧ ∃ ρ2 G2, Ext G1 H1 G2 H2 ∧ DRel X.K σ2 H2 ρ2 G2 ∧ dForGo ok g tb (items.drop i) E ρ2 G2, ⟨items.length, rfl, Nat.zero_le _, ρ, G1, Ext.refl _ _, r1, h1⟩, ?_⟩
  rintro i m σ2 H2 ⟨rfl, hi, ρ2, G2, e2, r2, h2⟩
  by_cases hlt : i < items.length
  · rw [List.drop_eq_getElem_cons hlt] at h2
    unfold dForGo at h2
    obtain ⟨ho, h2⟩ := h2
    obtain ⟨a, b⟩ := it G2 H2 e2 r2.gok ho i
    obtain ⟨go, yl⟩ := a items[i] (List.getElem?_eq_getElem hlt)
    refine .inr ⟨go, fun σ3 H3 => ∃ ρ3 G3, Ext G1 H1 G3 H3 ∧ DRel X.K σ3 H3 ρ3 G3 ∧ dForGo ok g tb (items.drop (i + 1)) E ρ3 G3, fun σ3 H3 ⟨ρ3, G3, q⟩ => ⟨items.length - (i + 1), by omega, rfl, hlt, ρ3, G3, q⟩, fun x H3 hy => ?_⟩
    obtain ⟨e3, g3, rx⟩ := yl x H3 hy
    refine ⟨ρ2, G2, items[i], _, r2.ext e3 g3, rx, h2, fun σ4 ρ4 H4 G4 e4 r4 h4 => ?_⟩
    have e5 := (e2.trans e3).trans e4
    refine ⟨ρ4, G4, _, r4, h4, ?_, ?_, ?_, ?_⟩
    · exact fun σ' ρ' H' G' e' r' h' => ⟨ρ', G', e5.trans e', r', h'⟩
    · exact fun v d H' G' e' => k2 v d H' G' ((e1.trans e5).trans e')
    · exact fun σ' ρ' H' G' e' r' h' => k1 σ' ρ' H' G' ((e1.trans e5).trans e') r' h'
    · exact fun σ' ρ' H' G' e' r' h' => ⟨ρ', G', e5.trans e', r', h'⟩
  · have e : i = items.length := by omega
    subst e
    rw [List.drop_length] at h2
    unfold dForGo at h2
    exact .inl ⟨(it G2 H2 e2 r2.gok h2.1 _).2 rfl, k1 σ2 ρ2 H2 G2 (e1.trans e2) r2 h2.2⟩
def wipeD (ρ : DSt) : List Nat → DSt
  | [] => ρ
  | v :: vs => (wipeD ρ vs).set v none
theorem DRel.wipe {K : PySem.W.Frag} {σ : St} {H : Hp} {ρ : DSt} {G : GH} (r : DRel K σ H ρ G) : ∀ vs : List Nat, DRel K (wipe σ vs) H (wipeD ρ vs) G
  | [] => r
  | v :: vs => by
    have ih := DRel.wipe r vs
    unfold L2.wipe wipeD
    refine ⟨by simp [ih.len], fun i d h => ?_, ih.gok⟩
    by_cases q : v = i
    · subst q
      by_cases hl : v < (wipeD ρ vs).length
      · rw [List.getElem?_set_self hl] at h; cases h
      · rw [List.getElem?_eq_none (by simpa using hl)] at h; cases h
    · rw [List.getElem?_set_ne q] at h
      obtain ⟨w, h1, h2⟩ := ih.at_ i d h
      exact ⟨w, by rw [List.getElem?_set_ne q]; exact h1, h2⟩
abbrev DTs (X : Cx) (ifs : List Expr) (t : DTT) : Prop := PTs X ifs (upT X.K t)
@[simp] def dYes : DTT := fun _ G Q => Q true G
theorem dts_nil : DTs X [] dYes := ⟨fun pins s σ H Q I ⟨ρ, G, q, r, h, k⟩ => (pts_nil (X := X)).run pins s σ H Q I (k true H G (Ext.refl G H) r h)⟩
theorem dts_one {c : Expr} {t : DTT} (h : DT X c t) : DTs X [c] t := pts_one h
end
end Dl
namespace Dl
open PySem L2
inductive CT where
  | one (i : Nat)
  | tup (is : List Nat)
def CT.slots : CT → List Nat
  | .one i => [i]
  | .tup is => is
def setAll : DSt → List Nat → List D → Option DSt
  | ρ, [], [] => some ρ
  | ρ, i :: is, d :: ds => setAll (ρ.set i (some d)) is ds
  | _, _, _ => none
def bindC : CT → D → DSt → Option DSt
  | .one i, d, ρ => some (ρ.set i (some d))
  | .tup is, .tup ds, ρ => setAll ρ is ds
  | .tup _, _, _ => none
def gNames : List Nat → TGs
  | [] => gNil
  | i :: is => gCons (gName i) (gNames is)
def CT.gV (K : PySem.W.Frag) : CT → TG
  | .one i => gName i
  | .tup is => gTup K is.length (gNames is)
theorem wipe_set {σ : St} {i : Nat} {x : Option V} : ∀ {vs : List Nat}, i ∈ vs → wipe (σ.set i x) vs = wipe σ vs
  | v :: vs, h => by
    unfold wipe
    by_cases q : i ∈ vs
    · rw [wipe_set q]
    · have e : v = i := by
        rcases List.mem_cons.mp h with e | e
        · exact e.symm
        · exact absurd e q
      subst e
      have go : ∀ ws : List Nat, v ∉ ws → wipe (σ.set v x) ws = (wipe σ ws).set v x := by
        intro ws
        induction ws with
        | nil => intro _; rfl
        | cons w ws ih =>
          intro hw
          simp only [List.mem_cons, not_or] at hw
          unfold wipe
          rw [ih hw.2, List.set_comm _ _ hw.1]
      rw [go vs q, List.set_set]
theorem wipe_wipe (σ : St) (vs : List Nat) : wipe (wipe σ vs) vs = wipe σ vs := by
  have go : ∀ ws : List Nat, (∀ i ∈ ws, i ∈ vs) → wipe (wipe σ ws) vs = wipe σ vs := by
    intro ws
    induction ws with
    | nil => intro _; rfl
    | cons w ws ih =>
      intro h
      show wipe ((wipe σ ws).set w none) vs = wipe σ vs
      rw [wipe_set (h w List.mem_cons_self)]
      exact ih fun i hi => h i (List.mem_cons_of_mem _ hi)
  exact go vs fun _ h => h
theorem setAll_ok {K : PySem.W.Frag} {H : Hp} {G : GH} {vs : List Nat} : ∀ {is : List Nat} {ds : List D} {xs : List V} {ρ ρ' : DSt} {σ : St} {Q : St → Hp → Prop}, (∀ i ∈ is, i ∈ vs) → DRel K σ H ρ G → RepL K G H ds xs → setAll ρ is ds = some ρ' →
    (∀ σ', DRel K σ' H ρ' G → wipe σ' vs = wipe σ vs → Q σ' H) → xs.length = is.length ∧ gNames is xs σ H Q
  | [], [], _, ρ, ρ', σ, Q, hi, r, rl, e, k => by
    unfold RepL at rl
    subst rl
    simp [setAll] at e
    subst e
    exact ⟨rfl, rfl, k σ r rfl⟩
  | i :: is, d :: ds, _, ρ, ρ', σ, Q, hi, r, rl, e, k => by
    unfold RepL at rl
    obtain ⟨x, xs, rfl, hx, hxs⟩ := rl
    have e' : setAll (ρ.set i (some d)) is ds = some ρ' := e
    obtain ⟨l, g⟩ := setAll_ok (vs := vs) (Q := Q) (fun j hj => hi j (List.mem_cons_of_mem _ hj)) (r.set i hx) hxs e' fun σ' r' w => k σ' r' (by rw [w, wipe_set (hi i List.mem_cons_self)])
    exact ⟨by simp [l], x, xs, rfl, g⟩
  | [], _ :: _, _, _, _, _, _, _, _, _, e, _ => by simp [setAll] at e
  | _ :: _, [], _, _, _, _, _, _, _, _, e, _ => by simp [setAll] at e
theorem bindC_ok {K : PySem.W.Frag} {H : Hp} {G : GH} {vs : List Nat} {ct : CT} {d : D} {v : V} {ρ ρ' : DSt} {σ : St} {Q : St → Hp → Prop} (hi : ∀ i ∈ ct.slots, i ∈ vs) (r : DRel K σ H ρ G) (rv : RepV K G H d v) (e : bindC ct d ρ = some ρ')
    (k : ∀ σ', DRel K σ' H ρ' G → wipe σ' vs = wipe σ vs → Q σ' H) : ct.gV K v σ H Q := by
  cases ct with
  | one i =>
    simp only [bindC, Option.some.injEq] at e
    subst e
    exact k _ (r.set i rv) (wipe_set (hi i (by simp [CT.slots])))
  | tup is =>
    cases d with
    | tup ds =>
      unfold RepV at rv
      obtain ⟨a, xs, rfl, ta, rl⟩ := rv
      obtain ⟨l, g⟩ := setAll_ok (Q := Q) hi r rl e k
      exact ⟨a, xs, rfl, ta.sq, l, g⟩
    | _ => simp [bindC] at e
def dLcGo (ok : GH → Prop) (ct : CT) (tt : DTT) (te : DTE) (ρ : DSt) (p : Addr) : List D → GH → DK → Prop
  | [], G, Q => ok G ∧ Q (.ref p) G
  | x :: xs, G, Q => ok G ∧ match bindC ct x ρ with
    | none => False
    | some ρ2 => tt ρ2 G fun b G3 => if b = true then te ρ2 G3 fun y G4 => (match G4 p with
        | some (.lst acc) => acc.length < sizeLine ∧ dLcGo ok ct tt te ρ p xs (updG G4 p (.lst (acc ++ [y]))) Q
        | _ => False) else dLcGo ok ct tt te ρ p xs G3 Q
def dLc (wi : DTI) (ct : CT) (tt : DTT) (te : DTE) (vs : List Nat) : DTE := fun ρ G Q => wi ρ G fun items ok G1 => ∀ p, G1 p = none → dLcGo ok ct tt te (wipeD ρ vs) p items (updG G1 p (.lst [])) Q
theorem up_lc {K : PySem.W.Frag} {wi : DTI} {ct : CT} {tt : DTT} {te : DTE} {vs : List Nat} (hi : ∀ i ∈ ct.slots, i ∈ vs) {σ : St} {H : Hp} {Q : VK} (h : up K (dLc wi ct tt te vs) σ H Q) :
    tLc (upI K wi) (ct.gV K) (upT K tt) (up K te) vs σ H Q := by
  obtain ⟨ρ, G, q, r, h, k⟩ := h
  refine ⟨ρ, G, _, r, h, fun J items ok H1 G1 e1 r1 it h1 => fun p hp => ?_⟩
  obtain ⟨e2, r2, _⟩ := r1.newLst hp (repL_nil (K := K) (G := G1) (H := H1))
  have h2 := h1 p (r1.gok.fresh hp)
  refine ⟨fun i m H2 => m = items.length - i ∧ i ≤ items.length ∧ ∃ G2, Ext (updG G1 p (.lst [])) (upd H1 p (.lst [])) G2 H2 ∧ GOk K G2 H2 ∧ dLcGo ok ct tt te (wipeD ρ vs) p (items.drop i) G2 q, ⟨items.length, rfl, Nat.zero_le _, _, Ext.refl _ _, r2.gok, h2⟩, ?_⟩
  rintro i m H2 ⟨rfl, hi2, G2, e3, g3, h3⟩
  have r3 : DRel K σ H2 ρ G2 := r2.ext e3 g3
  have e13 : Ext G1 H1 G2 H2 := e2.trans e3
  by_cases hlt : i < items.length
  · rw [List.drop_eq_getElem_cons hlt] at h3
    unfold dLcGo at h3
    obtain ⟨ho, h3⟩ := h3
    obtain ⟨a, b⟩ := it G2 H2 e13 g3 ho i
    obtain ⟨go, yl⟩ := a items[i] (List.getElem?_eq_getElem hlt)
    refine .inr ⟨go, fun H3 => ∃ G3, Ext (updG G1 p (.lst [])) (upd H1 p (.lst [])) G3 H3 ∧ GOk K G3 H3 ∧ dLcGo ok ct tt te (wipeD ρ vs) p (items.drop (i + 1)) G3 q, fun H3 ⟨G3, q3⟩ => ⟨items.length - (i + 1), by omega, rfl, hlt, G3, q3⟩, fun x H3 hy => ?_⟩
    obtain ⟨e4, g4, rx⟩ := yl x H3 hy
    have r4 : DRel K (wipe σ vs) H3 (wipeD ρ vs) G2 := (r3.ext e4 g4).wipe vs
    cases eb : bindC ct items[i] (wipeD ρ vs) with
    | none => rw [eb] at h3; exact h3.elim
    | some ρ2 =>
      rw [eb] at h3
      refine bindC_ok hi r4 rx eb fun σ5 r5 w5 => ⟨by rw [w5, wipe_wipe], ρ2, G2, _, r5, h3, fun b H6 G6 e6 r6 h6 => ?_⟩
      have e36 := (e3.trans e4).trans e6
      cases b with
      | false => exact ⟨G6, e36, r6.gok, h6⟩
      | true =>
        refine ⟨ρ2, G6, _, r6, h6, fun y dy H7 G7 e7 r7 v7 h7 => ?_⟩
        cases hg : G7 p with
        | none => rw [hg] at h7; exact h7.elim
        | some o =>
          rw [hg] at h7
          cases o with
          | lst acc =>
            obtain ⟨xs, hx, rx⟩ := r7.gok p _ hg
            have e8 : Ext G7 H7 (updG G7 p (.lst (acc ++ [dy]))) (upd H7 p (.lst (xs ++ [y]))) := Ext.write hg
            refine ⟨xs, hx, by rw [rx.length]; exact h7.1, _, (e36.trans e7).trans e8, r7.gok.put e8 ⟨_, upd_same, (rx.append (repL_one v7)).ext e8⟩, h7.2⟩
          | dct _ => exact h7.elim
          | raw _ => exact h7.elim
          | ins _ _ => exact h7.elim
          | dtp _ => exact h7.elim
          | tab _ => exact h7.elim
          | slt _ _ => exact h7.elim
          | dny _ _ _ => exact h7.elim
  · have e : i = items.length := by omega
    subst e
    rw [List.drop_length] at h3
    unfold dLcGo at h3
    refine .inl ⟨(it G2 H2 e13 g3 h3.1 _).2 rfl, k _ (.ref p) H2 G2 (e1.trans e13) (r3) (by unfold RepV; rfl) h3.2⟩
section
variable {X : Cx}
theorem de_lc {elt tg iter : Expr} {ifs : List Expr} {scope : Scope} {own : List (Str × Nat)} {pos : Pos} {wi : DTI} {ct : CT} {tt : DTT} {te : DTE} (hc : X.calm = true) (hN : X.N.Nodup) (hi : DI X tg iter wi) (ok : BlkOk X.N X.env.scope scope own)
    (hv : ∀ i ∈ ct.slots, i ∈ own.map (·.2))
    (hg : ∀ (s : Shared) (H : Hp) (C : Addr) (cl : List (Str × Addr)) (fp : List Addr), PG (X.blk s H scope (compEnvC scope cl C X.env) fp) tg (ct.gV X.K)) (ht : ∀ (s : Shared) (H : Hp) (C : Addr) (cl : List (Str × Addr)) (fp : List Addr), DTs (X.blk s H scope (compEnvC scope cl C X.env) fp) ifs tt)
    (he : ∀ (s : Shared) (H : Hp) (C : Addr) (cl : List (Str × Addr)) (fp : List Addr), DE (X.blk s H scope (compEnvC scope cl C X.env) fp) elt te) (hs : ∀ x, foldedSetIterable iter X.env x = pure x := by intro _; rfl) :
    DE X (.ListComp elt [⟨tg, iter, ifs, 0⟩] scope pos) (dLc wi ct tt te (own.map (·.2))) :=
  (pe_lc hc hN hi ok hg ht he hs).imp fun _ _ _ h => up_lc hv h
end
structure DX where
  cls : Str
  fs : List (Str × D)
abbrev DXK := DX → GH → Prop
abbrev DSp := List D → GH → DK → DXK → Prop
def ExcRep (K : PySem.W.Frag) (G : GH) (H : Hp) (x : DX) (c : Value) (od : Option Addr) : Prop := c = .ref (He.ga K x.cls) ∧ ∃ d ws, od = some d ∧ G d = none ∧ H d = some (.xd ws) ∧ ws.map (·.1) = x.fs.map (·.1) ∧ RepL K G H (x.fs.map (·.2)) (ws.map (·.2))
def toSp (K : PySem.W.Frag) (sp : DSp) : Sp := fun vs H Qv Ev => ∃ ds G Q E, RepL K G H ds vs ∧ GOk K G H ∧ sp ds G Q E ∧ (∀ v d H' G', Ext G H G' H' → GOk K G' H' → RepV K G' H' d v → Q d G' → Qv v H') ∧
  (∀ x c od H' G', Ext G H G' H' → GOk K G' H' → ExcRep K G' H' x c od → E x G' → Ev c od H')
abbrev noX : DXK := fun _ _ => False
structure GFn (P : Program) (w : World) (K : PySem.W.Frag) (mg : Str → Option Value) (base : Heap) (CX : CXT) (k : Nat) (f : Addr) (fd : FuncData) (ps : List Str) (sp : Sp) : Prop where
  arity : ∀ xs H Q E, sp xs H Q E → xs.length = ps.length
  go : ∀ (A : Around) (out : List Env) (st : Shared) (H : Hp) (ar : Args) (us : List Value) (xs : List V) (Q : VK) (E : XK), Room k A → A.guards = some [] → Env0 P w K mg base A out st H →
    BindsTo st fd ar (ps.zip us) → Vals xs us → sp xs H Q E → codeAny (model P w) A (.call (.ref f) ar) (CR CX out P w H st Q E) st
theorem GFn.up {P : Program} {w : World} {K : PySem.W.Frag} {mg : Str → Option Value} {base : Heap} {CX : CXT} {j k : Nat} {f : Addr} {fd : FuncData} {ps : List Str} {sp : Sp} (F : GFn P w K mg base CX j f fd ps sp) (h : j ≤ k) : GFn P w K mg base CX k f fd ps sp :=
  ⟨F.arity, fun A out st H ar us xs Q E hr => F.go A out st H ar us xs Q E (hr.mono h)⟩
theorem gfn_of {CX : CXT} {P : Program} {w : World} {K : PySem.W.Frag} {mg : Str → Option Value} {base : Heap} {k : Nat} {f : Addr} {fd : FuncData} {x qual : Str} {params : Arguments} {body : List Stmt} {scope : Scope} {dvs : List V} {kws : List (Str × V)}
    {N ps : List Str} {sp : Sp} (F : FunD K x qual params body scope dvs kws f fd) (S : FnScope N ps scope) (len : ∀ xs H Q E, sp xs H Q E → xs.length = ps.length)
    (hbody : ∀ (cdv : Value) (A : Around) (out : List Env) (st : Shared) (H : Hp) (xs : List V) (Q : VK) (E : XK), Room k (A.deeper (PyProof.Rows.envOfC qual scope st.heap.objs.size f cdv)) → (A.deeper (PyProof.Rows.envOfC qual scope st.heap.objs.size f cdv)).guards = some [] →
      sp xs H Q E → ∃ t, PSs (cxOf CX P w K mg base N qual scope f cdv A out st H E) body t ∧ t { nx := fun _ H' => Q .non H', rt := Q } (L2.start N xs) H) : GFn P w K mg base CX (k + 1) f fd ps sp := by
  obtain ⟨oc, od, dV, kV, doc, pm, an, cdv, ct, osl, hfd, lk, hcd, _, _⟩ := F.ex
  subst hfd
  constructor
  · exact len
  intro A out st H ar us xs Q E hr hgd e0 hb rl hsp
  have kin : K.In st.heap := PySem.W.Frag.In.keeps e0.mod.kin (fun b o e => (e0.bs b o e).1)
  have nl : st.heap.NoLimit := Heap.NoLimit.keeps e0.mod.nolimit (fun b o e => (e0.bs b o e).1)
  have kinds : ∀ y ∈ ps.zip us, scope.names.lookup y.1 = some .local ∨ (scope.names.lookup y.1 = some .cell ∧ ((cellsFrom (st.heap.objs.size + 1) scope.names []).lookup y.1).isSome = true) := by
    rintro ⟨n, v⟩ hy
    cases S.par n (List.of_mem_zip hy).1 with
    | inl q => exact .inl q
    | inr q => exact .inr ⟨q, PySem.W.cellsFrom_some _ _ _ (.inl q)⟩
  refine PySem.codeAny_call_function hr.depth (kin _ _ lk) rfl S.co S.gen rfl (PySem.W.codeRec_of kin hcd) ?_
  refine hb _ _ _ _ ?_
  refine wpAny_newFunctionEnv_cells S.kind kinds ?_
  intro env he s1 ic
  subst he
  refine ⟨nl.keeps ic.toInCall.keep, PySem.codeAny_func ?_⟩
  have gd : (A.deeper (PyProof.Rows.envOfC qual scope st.heap.objs.size f cdv)).guards = some [] := hgd
  obtain ⟨t, ht, hq⟩ := hbody cdv A out st H xs Q E (hr.deeper _) gd hsp
  have inv := inv_start (CX := CX) (E := E) S hr.hd e0 (len _ _ _ _ hsp) rl ic
  refine wpAny_mono (ht.run [] s1 _ H _ inv hq) ?_ (fun _ _ z => z)
  intro fl s2 hs
  cases fl with
  | ret u => obtain ⟨v, σ2, H2, J, rv, q⟩ := hs; exact ⟨v, H2, J.os, J.bare, J.base, J.hok, rv, q⟩
  | next => obtain ⟨σ2, H2, J, q⟩ := hs; exact ⟨V.non, H2, J.os, J.bare, J.base, J.hok, rfl, q⟩
  | brk => obtain ⟨_, _, _, q⟩ := hs; exact q.elim
  | cont => obtain ⟨_, _, _, q⟩ := hs; exact q.elim
section
variable {X : Cx} {CX : CXT} {k : Nat} {f : Addr} {fd : FuncData} {ps : List Str} {x : Str} {p pos : Pos} {e : Expr} {es : List Expr} {E : XK}
theorem g_run {sp : Sp} {pins : List (Addr × Obj)} {σ : St} {H : Hp} {s : Shared} {Q : VK} {us : List Value} {xs : List V} (F : GFn X.prog X.w X.K X.mg X.base CX k f fd ps sp) (hr : Room k X.A) (hgd : X.A.guards = some []) (hb : Binds X.K fd ps []) (hx : Passes CX X E)
    (I : Inv X pins σ H s) (r : Vals xs us) (h : sp xs H Q E) : wpAny (model X.prog X.w) X.A (PySem.call (.ref f) us) (EP X pins σ Q) X.xe s := by
  have al : (us ++ []).length = ps.length := by rw [List.append_nil, ← r.length]; exact F.arity _ _ _ _ h
  have bd := hb s us I.kIn al
  rw [List.append_nil] at bd
  refine wpAny_call (codeAny_mono (F.go X.A X.stack s H ⟨us, []⟩ us xs Q E hr hgd I.env0 bd r h) ?_)
  intro res s2 hq
  match res, hq with
  | .error er, hq => exact hx pins σ H s er s2 I hq
  | .ok (.ret u), hq => exact I.after hq
theorem ge_call {sp : Sp} {t : TA} (F : GFn X.prog X.w X.K X.mg X.base CX k f fd ps sp) (hr : Room k X.A) (hgd : X.A.guards = some []) (hg : Gl X x) (hm : X.mg x = some (.ref f)) (hk : PySem.W.keepIn X.K (.ref f) = true) (hb : Binds X.K fd ps []) (hx : Passes CX X E)
    (ha : PA X (e :: es) t) (hdb : (x == ("__debug__" : Str)) = false := by decide) (he : starEach (e :: es) X.env = (false, eval e X.env) :: starEach es X.env := by rfl) (hpl : (backTo pos (starEach es X.env)).any (·.1) = false := by rfl) :
    PE X (.Call (.Name x p) (e :: es) [] pos) (fun σ H Q => t σ H fun vs H1 => sp vs H1 Q E) := by
  constructor
  intro pins s σ H Q I h
  refine wpAny_Call_Name_kw (ld_glob I hg hm ?_ hdb)
  refine PySem.W.callWith_K (h₀ := X.base) I.ok.mod.kin hk ?_ he hpl
  refine thn (ha.run pos pins s σ H _ I h) ?_
  rintro us s1 ⟨xs, H1, I1, r, q⟩
  exact ⟨I1.kIn, g_run F hr hgd hb hx I1 r q⟩
theorem ge_call0 {sp : Sp} (F : GFn X.prog X.w X.K X.mg X.base CX k f fd ps sp) (hr : Room k X.A) (hgd : X.A.guards = some []) (hg : Gl X x) (hm : X.mg x = some (.ref f)) (hk : PySem.W.keepIn X.K (.ref f) = true) (hb : Binds X.K fd ps []) (hx : Passes CX X E)
    (hdb : (x == ("__debug__" : Str)) = false := by decide) : PE X (.Call (.Name x p) [] [] pos) (fun σ H Q => sp [] H Q E) := by
  constructor
  intro pins s σ H Q I h
  refine wpAny_Call_Name_kw (ld_glob I hg hm ?_ hdb)
  exact PySem.W.callWith_K0 I.kIn hk (g_run (us := []) F hr hgd hb hx I .nil h)
end
@[simp] def dCall (sp : DSp) (ta : DTA) : DTE := fun ρ G Q => ta ρ G fun ds G1 => sp ds G1 Q noX
abbrev DFn (P : Program) (w : World) (K : PySem.W.Frag) (mg : Str → Option Value) (base : Heap) (k : Nat) (f : Addr) (fd : FuncData) (ps : List Str) (sp : DSp) : Prop := GFn P w K mg base CX0 k f fd ps (toSp K sp)
section
variable {X : Cx} {k : Nat} {f : Addr} {fd : FuncData} {ps : List Str} {sp : DSp} {x : Str} {p pos : Pos} {e : Expr} {es : List Expr} {ta : DTA}
theorem sp_at {K : PySem.W.Frag} {σ : St} {H : Hp} {ρ : DSt} {G : GH} {Q : VK} {q : DK} {vs : List V} {ds : List D} (r : DRel K σ H ρ G) (v : RepL K G H ds vs) (h : sp ds G q noX) (k : ∀ v d H' G', Ext G H G' H' → DRel K σ H' ρ G' → RepV K G' H' d v → q d G' → Q v H') : toSp K sp vs H Q E0 :=
  ⟨ds, G, q, noX, v, r.gok, h, fun v d H' G' e2 g2 v2 h2 => k v d H' G' e2 (r.ext e2 g2) v2 h2, fun _ _ _ _ _ _ _ _ z => z.elim⟩
theorem de_call (F : DFn X.prog X.w X.K X.mg X.base k f fd ps sp) (hr : Room k X.A) (hgd : X.A.guards = some []) (hg : Gl X x) (hm : X.mg x = some (.ref f)) (hk : PySem.W.keepIn X.K (.ref f) = true) (hb : Binds X.K fd ps [])
    (ha : DA X (e :: es) ta) (hdb : (x == ("__debug__" : Str)) = false := by decide) (he : starEach (e :: es) X.env = (false, eval e X.env) :: starEach es X.env := by rfl) (hpl : (backTo pos (starEach es X.env)).any (·.1) = false := by rfl) :
    DE X (.Call (.Name x p) (e :: es) [] pos) (dCall sp ta) := (ge_call F hr hgd hg hm hk hb pass0 ha hdb he hpl).imp fun σ H Q ⟨ρ, G, q, r, h, k⟩ => by
  refine ⟨ρ, G, _, r, h, fun vs ds H1 G1 e1 r1 v1 h1 => ?_⟩
  exact sp_at r1 v1 h1 fun v d H' G' e2 r2 v2 h2 => k v d H' G' (e1.trans e2) r2 v2 h2
theorem de_call0 (F : DFn X.prog X.w X.K X.mg X.base k f fd ps sp) (hr : Room k X.A) (hgd : X.A.guards = some []) (hg : Gl X x) (hm : X.mg x = some (.ref f)) (hk : PySem.W.keepIn X.K (.ref f) = true) (hb : Binds X.K fd ps [])
    (hdb : (x == ("__debug__" : Str)) = false := by decide) : DE X (.Call (.Name x p) [] [] pos) (dCall sp dNil) := (ge_call0 F hr hgd hg hm hk hb pass0 hdb).imp fun σ H Q ⟨ρ, G, q, r, h, k⟩ => sp_at r repL_nil h k
end
def startD (n : Nat) (ds : List D) : DSt := ds.map some ++ List.replicate (n - ds.length) none
theorem start_rel {K : PySem.W.Frag} {H : Hp} {G : GH} {N : List Str} {ds : List D} {vs : List V} (rl : RepL K G H ds vs) (g : GOk K G H) : DRel K (L2.start N vs) H (startD N.length ds) G := by
  have hl := rl.length
  refine ⟨by simp [L2.start, startD, hl], fun i d h => ?_, g⟩
  unfold startD at h
  by_cases hi : i < ds.length
  · rw [List.getElem?_append_left (by simpa using hi), List.getElem?_map] at h
    cases q : ds[i]? with
    | none => rw [q] at h; simp at h
    | some d' =>
      rw [q] at h
      simp at h
      subst h
      obtain ⟨v, e1, e2⟩ := rl.get q
      refine ⟨v, ?_, e2⟩
      unfold L2.start
      rw [List.getElem?_append_left (by simp [hl]; exact hi), List.getElem?_map, e1]
      rfl
  · rw [List.getElem?_append_right (by simpa using hi), List.getElem?_replicate] at h
    split at h <;> cases h
theorem dfn_of {P : Program} {w : World} {K : PySem.W.Frag} {mg : Str → Option Value} {base : Heap} {x qual : Str} {params : Arguments} {body : List Stmt} {scope : Scope} {dvs : List V} {kws : List (Str × V)} {f : Addr} {fd : FuncData}
    {N ps : List Str} {k : Nat} {sp : DSp} {t : DTS} (F : FunD K x qual params body scope dvs kws f fd) (S : FnScope N ps scope) (len : ∀ ds G Q E, sp ds G Q E → ds.length = ps.length)
    (hbody : ∀ (cdv : Value) (A : Around) (out : List Env) (st : Shared) (H : Hp) (E : XK), Room k (A.deeper (PyProof.Rows.envOfC qual scope st.heap.objs.size f cdv)) → (A.deeper (PyProof.Rows.envOfC qual scope st.heap.objs.size f cdv)).guards = some [] →
      DSs (cxOf CX0 P w K mg base N qual scope f cdv A out st H E).nox body t)
    (ok : ∀ ds G Q E, sp ds G Q E → t { nx := fun _ G' => Q .non G', rt := Q } (startD N.length ds) G) : DFn P w K mg base (k + 1) f fd ps sp := by
  refine gfn_of F S (fun vs H Q E h => ?_) fun cdv A outer s H vs Q E hr hg h => ⟨_, PSs.nox (hbody cdv A outer s H E hr hg), ?_⟩
  · obtain ⟨ds, G, q, e, rl, _, h, _⟩ := h
    rw [rl.length]
    exact len _ _ _ _ h
  · obtain ⟨ds, G, q, e, rl, g, h, kq, ke⟩ := h
    refine ⟨startD N.length ds, G, _, start_rel rl g, ok ds G q e h, ?_, ?_, ?_, ?_⟩
    · exact fun σ' ρ' H' G' e' r' h' => kq .non .non H' G' e' r'.gok (by unfold RepV; rfl) h'
    · exact fun v d H' G' e' g' v' h' => kq v d H' G' e' g' v' h'
    · exact fun _ _ _ _ _ _ z => z.elim
    · exact fun _ _ _ _ _ _ z => z.elim
end Dl
namespace Dl
open PySem L2
@[simp] def lsOf (G : GH) : D → Option (List D)
  | .lst ds => some ds
  | .ref a => (match G a with
    | some (.lst ds) => some ds
    | _ => none)
  | _ => none
@[simp] def sqOf (G : GH) : D → Option (List D)
  | .tup ds => some ds
  | .lst ds => some ds
  | .ref a => (match G a with
    | some (.lst ds) => some ds
    | _ => none)
  | _ => none
section
variable {K : PySem.W.Frag} {G : GH} {H : Hp} {d : D} {v : V} {ds : List D}
theorem ls_at (g : GOk K G H) (r : RepV K G H d v) (h : lsOf G d = some ds) : ∃ a xs, v = .ref a ∧ H a = some (.lst xs) ∧ RepL K G H ds xs := by
  cases d with
  | lst es =>
    simp only [lsOf, Option.some.injEq] at h
    subst h
    unfold RepV at r
    obtain ⟨a, xs, rfl, ta, rl⟩ := r
    exact ⟨a, xs, rfl, ta.2, rl⟩
  | ref a =>
    simp only [lsOf] at h
    unfold RepV at r
    subst r
    cases q : G a with
    | none => rw [q] at h; cases h
    | some o =>
      rw [q] at h
      cases o with
      | lst es =>
        simp only [Option.some.injEq] at h
        subst h
        obtain ⟨xs, h1, h2⟩ := g a _ q
        exact ⟨a, xs, rfl, h1, h2⟩
      | dct _ => cases h
      | raw _ => cases h
      | ins _ _ => cases h
      | dtp _ => cases h
      | tab _ => cases h
      | slt _ _ => cases h
      | dny _ _ _ => cases h
  | _ => simp [lsOf] at h
theorem tp_at (r : RepV K G H (.tup ds) v) : ∃ a xs, v = .ref a ∧ SqT K H a xs ∧ RepL K G H ds xs := by
  unfold RepV at r
  obtain ⟨a, xs, rfl, ta, rl⟩ := r
  exact ⟨a, xs, rfl, ta.sq, rl⟩
theorem sq_at (g : GOk K G H) (r : RepV K G H d v) (h : sqOf G d = some ds) : ∃ a xs, v = .ref a ∧ (SqL K H a xs ∨ SqT K H a xs) ∧ RepL K G H ds xs := by
  cases d with
  | tup es =>
    simp only [sqOf, Option.some.injEq] at h
    subst h
    obtain ⟨a, xs, e, t, rl⟩ := tp_at r
    exact ⟨a, xs, e, .inr t, rl⟩
  | lst es =>
    obtain ⟨a, xs, e, t, rl⟩ := ls_at g r (ds := ds) h
    exact ⟨a, xs, e, .inl (SqL.of t), rl⟩
  | ref a =>
    obtain ⟨a, xs, e, t, rl⟩ := ls_at g r (ds := ds) h
    exact ⟨a, xs, e, .inl (SqL.of t), rl⟩
  | _ => simp [sqOf] at h
theorem rv_int {i : Int} (r : RepV K G H (.int i) v) : v = .int i := by unfold RepV at r; exact r
theorem rv_bl {i : Bool} (r : RepV K G H (.bl i) v) : v = .bl i := by unfold RepV at r; exact r
theorem rv_str {i : Str} (r : RepV K G H (.str i) v) : v = .str i := by unfold RepV at r; exact r
theorem rv_non (r : RepV K G H .non v) : v = .non := by unfold RepV at r; exact r
theorem rv_ref {a : Addr} (r : RepV K G H (.ref a) v) : v = .ref a := by unfold RepV at r; exact r
theorem int_rv {i : Int} : RepV K G H (.int i) (.int i) := by unfold RepV; rfl
theorem bl_rv {i : Bool} : RepV K G H (.bl i) (.bl i) := by unfold RepV; rfl
theorem str_rv {i : Str} : RepV K G H (.str i) (.str i) := by unfold RepV; rfl
theorem non_rv : RepV K G H .non .non := by unfold RepV; rfl
theorem ref_rv {a : Addr} : RepV K G H (.ref a) (.ref a) := by unfold RepV; rfl
theorem new_tup {p : Addr} {vs : List V} (g : GOk K G H) (hp : H p = none) (hv : RepL K G H ds vs) : Ext G H G (upd H p (.tup vs)) ∧ GOk K G (upd H p (.tup vs)) ∧ RepV K G (upd H p (.tup vs)) (.tup ds) (.ref p) := by
  have e : Ext G H G (upd H p (.tup vs)) := Ext.new hp
  refine ⟨e, g.new hp, ?_⟩
  unfold RepV
  exact ⟨p, vs, rfl, .inl ⟨g.fresh hp, upd_same⟩, hv.ext e⟩
theorem new_lst {p : Addr} {vs : List V} (g : GOk K G H) (hp : H p = none) (hv : RepL K G H ds vs) : Ext G H (updG G p (.lst ds)) (upd H p (.lst vs)) ∧ GOk K (updG G p (.lst ds)) (upd H p (.lst vs)) ∧ RepV K (updG G p (.lst ds)) (upd H p (.lst vs)) (.ref p) (.ref p) := by
  have e : Ext G H (updG G p (.lst ds)) (upd H p (.lst vs)) := Ext.newG hp
  exact ⟨e, g.put e ⟨vs, upd_same, hv.ext e⟩, ref_rv⟩
theorem put_lst {p : Addr} {vs : List V} {o : DO} (g : GOk K G H) (hp : G p = some o) (hv : RepL K G H ds vs) : Ext G H (updG G p (.lst ds)) (upd H p (.lst vs)) ∧ GOk K (updG G p (.lst ds)) (upd H p (.lst vs)) := by
  have e : Ext G H (updG G p (.lst ds)) (upd H p (.lst vs)) := Ext.write hp
  exact ⟨e, g.put e ⟨vs, upd_same, hv.ext e⟩⟩
end
@[simp] def rCatL (G : GH) (Q : DK) (a b : List D) : Prop := a.length + b.length ≤ sizeLine ∧ ∀ p, G p = none → Q (.ref p) (updG G p (.lst (a ++ b)))
@[simp] def rAdd : DR2 := fun x y G Q => match x with
  | .int i => (match y with
    | .int j => Q (.int (i + j)) G
    | _ => False)
  | .str a => (match y with
    | .str b => a.length + b.length ≤ sizeLine ∧ Q (.str (a ++ b)) G
    | _ => False)
  | .tup a => (match y with
    | .tup b => a.length + b.length ≤ sizeLine ∧ Q (.tup (a ++ b)) G
    | _ => False)
  | .lst a => (match lsOf G y with
    | some b => rCatL G Q a b
    | none => False)
  | .ref p => (match lsOf G (.ref p) with
    | some a => (match lsOf G y with
      | some b => rCatL G Q a b
      | none => False)
    | none => False)
  | _ => False
section
variable {X : Cx}
theorem cat_lists {pins : List (Addr × Obj)} {s : Shared} {σ : St} {H : Hp} {x y : V} {v u : Value} {Qv : VK} {G : GH} {dx dy : D} {q : DK} {a b : List D} (I : Inv X pins σ H s) (rx : RelV x v) (ry : RelV y u) (g : GOk X.K G H) (r1 : RepV X.K G H dx x) (r2 : RepV X.K G H dy y)
    (ha : lsOf G dx = some a) (hb : lsOf G dy = some b) (h : rCatL G q a b) (k : ∀ v d H' G', Ext G H G' H' → GOk X.K G' H' → RepV X.K G' H' d v → q d G' → Qv v H') : wpAny (model X.prog X.w) X.A (binaryOp .Add v u) (EP X pins σ Qv) X.xe s := by
  obtain ⟨l, xs, rfl, h1, l1⟩ := ls_at g r1 ha
  obtain ⟨m, ys, rfl, h2, l2⟩ := ls_at g r2 hb
  refine op_cat pins s σ H _ _ v u Qv I rx ry ⟨l, m, xs, ys, rfl, rfl, h1, h2, by rw [l1.length, l2.length]; exact h.1, fun p hp => ?_⟩
  obtain ⟨e, g', rv⟩ := new_lst g hp (l1.append l2)
  exact k _ _ _ _ e g' rv (h.2 p (g.fresh hp))
theorem o_add : DOp X (binaryOp .Add) rAdd := by
  intro pins s σ H x y v u Q I rx ry ⟨G, dx, dy, q, g, r1, r2, h, k⟩
  cases dx with
  | int i =>
    cases dy with
    | int j =>
      cases rv_int r1; cases rv_int r2
      exact op_add pins s σ H _ _ v u Q I rx ry ⟨i, j, rfl, rfl, k _ _ H G (Ext.refl G H) g int_rv h⟩
    | _ => exact h.elim
  | str a =>
    cases dy with
    | str b =>
      cases rv_str r1; cases rv_str r2
      exact op_add_str pins s σ H _ _ v u Q I rx ry ⟨a, b, rfl, rfl, h.1, k _ _ H G (Ext.refl G H) g str_rv h.2⟩
    | _ => exact h.elim
  | tup a =>
    cases dy with
    | tup b =>
      obtain ⟨l, xs, rfl, h1, l1⟩ := tp_at r1
      obtain ⟨m, ys, rfl, h2, l2⟩ := tp_at r2
      refine op_catA pins s σ H _ _ v u Q I rx ry ⟨l, m, xs, ys, rfl, rfl, h1, h2, by rw [l1.length, l2.length]; exact h.1, fun e => ?_, fun _ e => ?_, fun _ _ p hp => ?_⟩
      · have ea : a = [] := List.eq_nil_of_length_eq_zero (by rw [← l1.length, e]; rfl)
        subst ea
        exact k _ _ H G (Ext.refl G H) g r2 h.2
      · have ea : b = [] := List.eq_nil_of_length_eq_zero (by rw [← l2.length, e]; rfl)
        subst ea
        have h2 := h.2
        rw [List.append_nil] at h2
        exact k _ _ H G (Ext.refl G H) g r1 h2
      · obtain ⟨e, g', rv⟩ := new_tup g hp (l1.append l2)
        exact k _ _ _ _ e g' rv h.2
    | _ => exact h.elim
  | lst a =>
    dsimp only [rAdd] at h
    cases q2 : lsOf G dy with
    | none => rw [q2] at h; exact h.elim
    | some b => rw [q2] at h; exact cat_lists I rx ry g r1 r2 rfl q2 h k
  | ref p =>
    dsimp only [rAdd] at h
    cases q1 : lsOf G (.ref p) with
    | none => rw [q1] at h; exact h.elim
    | some a =>
      rw [q1] at h
      cases q2 : lsOf G dy with
      | none => rw [q2] at h; exact h.elim
      | some b => rw [q2] at h; exact cat_lists I rx ry g r1 r2 q1 q2 h k
  | _ => exact h.elim
@[simp] def rInt (C : Int → Int → Prop) (f : Int → Int → D) : DR2 := fun x y G Q => match x with
  | .int i => (match y with
    | .int j => C i j ∧ Q (f i j) G
    | _ => False)
  | _ => False
theorem o_int {f : Value → Value → Sem Value} {C : Int → Int → Prop} {g : Int → Int → Int} (ho : OpR X f (rI C fun i j => .int (g i j))) : DOp X f (rInt C fun i j => .int (g i j)) := by
  intro pins s σ H x y v u Q I rx ry ⟨G, dx, dy, q, g, r1, r2, h, k⟩
  cases dx with
  | int i =>
    cases dy with
    | int j =>
      cases rv_int r1; cases rv_int r2
      exact ho pins s σ H _ _ v u Q I rx ry ⟨i, j, rfl, rfl, h.1, k _ _ H G (Ext.refl G H) g int_rv h.2⟩
    | _ => exact h.elim
  | _ => exact h.elim
@[simp] def rInt0 (f : Int → Int → D) : DR2 := fun x y G Q => match x with
  | .int i => (match y with
    | .int j => Q (f i j) G
    | _ => False)
  | _ => False
theorem o_sub : DOp X (binaryOp .Sub) (rInt0 fun i j => .int (i - j)) := by
  intro pins s σ H x y v u Q I rx ry ⟨G, dx, dy, q, g, r1, r2, h, k⟩
  cases dx with
  | int i =>
    cases dy with
    | int j =>
      cases rv_int r1; cases rv_int r2
      exact op_sub pins s σ H _ _ v u Q I rx ry ⟨i, j, rfl, rfl, k _ _ H G (Ext.refl G H) g int_rv h⟩
    | _ => exact h.elim
  | _ => exact h.elim
theorem o_cmpI {f : Value → Value → Sem Value} {p : Int → Int → Bool} (ho : OpR X f (rI0 fun i j => .bl (p i j))) : DOp X f (rInt0 fun i j => .bl (p i j)) := by
  intro pins s σ H x y v u Q I rx ry ⟨G, dx, dy, q, g, r1, r2, h, k⟩
  cases dx with
  | int i =>
    cases dy with
    | int j =>
      cases rv_int r1; cases rv_int r2
      exact ho pins s σ H _ _ v u Q I rx ry ⟨i, j, rfl, rfl, k _ _ H G (Ext.refl G H) g bl_rv h⟩
    | _ => exact h.elim
  | _ => exact h.elim
abbrev rLt : DR2 := rInt0 fun i j => .bl (decide (i < j))
abbrev rLe : DR2 := rInt0 fun i j => .bl (decide (i ≤ j))
abbrev rGt : DR2 := rInt0 fun i j => .bl (decide (j < i))
abbrev rGe : DR2 := rInt0 fun i j => .bl (decide (j ≤ i))
theorem o_lt : DOp X (compareOp .Lt) rLt := o_cmpI op_lt
theorem o_le : DOp X (compareOp .LtE) rLe := o_cmpI op_le
theorem o_gt : DOp X (compareOp .Gt) rGt := o_cmpI op_gt
theorem o_ge : DOp X (compareOp .GtE) rGe := o_cmpI op_ge
abbrev rMod : DR2 := rInt (fun _ j => 0 < j) fun i j => .int (i % j)
abbrev rFdiv : DR2 := rInt CDiv fun i j => .int (i / j)
abbrev rPow : DR2 := rInt CPow fun i j => .int (i ^ j.toNat)
abbrev rSub : DR2 := rInt0 fun i j => .int (i - j)
theorem o_mod : DOp X (binaryOp .Mod) rMod := o_int op_mod
theorem o_fdiv : DOp X (binaryOp .FloorDiv) rFdiv := o_int op_fdiv
theorem o_pow : DOp X (binaryOp .Pow) rPow := o_int op_pow
end
section
open PySem.Spec PyProof.Rows
theorem tuple_mul0 (l : Addr) (items : Array Value) (n : Nat) (dd : Option Addr) (sl : Array (Option Value)) (x : Int) (u : Tok) (c0 : (decide (x < -(2 ^ 63)) || decide (x ≥ 2 ^ 63)) = false) (c1 : (items.isEmpty || x == 1) = false) (c2 : (decide (x ≤ 0) || items.isEmpty) = true) :
    Meets (Builtin.«tuple.__mul__» ⟨[.ref l, .int x u], []⟩) (fun _ R s => s.heap.get? l = some { cls := .type "tuple", dict := dd, data := .seq items n, slots := sl } ∧
      R (.ok (.ret (Value.ref s.heap.objs.size))) { s with heap := s.heap.push { cls := Value.type "tuple", data := Data.seq #[] }, toks := s.toks }) :=
  .of_wp fun prog w A R s h => by
    obtain ⟨hp, g, d, tk, os⟩ := s
    obtain ⟨hl, h⟩ := h
    have f1 := AutoSeq1.idx_int
    wp_walk using wpAny_loadPart' hl
    repeat (first
      | (refine wpAny_ite_false (decide_eq_false (by rw [c0]; exact Bool.false_ne_true)) ?_; wp_walk using wpAny_loadPart' hl)
      | (refine wpAny_ite_false (decide_eq_false (by rw [c1]; exact Bool.false_ne_true)) ?_; wp_walk using wpAny_loadPart' hl)
      | (refine wpAny_ite_true (decide_eq_true c2) ?_; wp_walk using wpAny_loadPart' hl))
    exact ⟨_, rfl, h⟩
theorem tuple_mul1 (l : Addr) (items : Array Value) (n : Nat) (dd : Option Addr) (sl : Array (Option Value)) (x : Int) (u : Tok) (c0 : (decide (x < -(2 ^ 63)) || decide (x ≥ 2 ^ 63)) = false) (c1 : (items.isEmpty || x == 1) = true) :
    Meets (Builtin.«tuple.__mul__» ⟨[.ref l, .int x u], []⟩) (fun _ R s => s.heap.get? l = some { cls := .type "tuple", dict := dd, data := .seq items n, slots := sl } ∧
      R (.ok (.ret (Value.ref l))) s) :=
  .of_wp fun prog w A R s h => by
    obtain ⟨hp, g, d, tk, os⟩ := s
    obtain ⟨hl, h⟩ := h
    have f1 := AutoSeq1.idx_int
    wp_walk using wpAny_loadPart' hl
    repeat (first
      | (refine wpAny_ite_false (decide_eq_false (by rw [c0]; exact Bool.false_ne_true)) ?_; wp_walk using wpAny_loadPart' hl)
      | (refine wpAny_ite_true (decide_eq_true c1) ?_; wp_walk using wpAny_loadPart' hl))
    exact ⟨_, rfl, h⟩
end
end Dl
namespace Dl
open PySem L2
section
open PySem.Spec PyProof.Rows
variable {X : Cx}
theorem tup_rep {pins : List (Addr × Obj)} {s : Shared} {σ : L2.St} {H : Hp} {l : Addr} {xs : List V} {k : Int} {t : Tok} {Q : VK} (I : Inv X pins σ H s) (hT : SqT X.K H l xs) (hk : -(2 ^ 63) ≤ k ∧ k < 2 ^ 63)
    (h : (xs = [] ∨ k = 1 → Q (.ref l) H) ∧ (xs ≠ [] → k ≤ 0 → ∀ p, H p = none → Q (.ref p) (upd H p (.tup [])))) (hc : xs = [] ∨ k ≤ 1) : wpAny (model X.prog X.w) X.A (binaryOp .Mult (.ref l) (.int k t)) (EP X pins σ Q) X.xe s := by
  obtain ⟨its, r, ⟨⟨cls, dd, data, sl⟩, ho, hcl, n, hd⟩, hs⟩ := I.tuple hT
  simp only at hcl hd
  subst hcl hd
  have hle : its.length = xs.length := r.length.symm
  have c0 : (decide (k < -(2 ^ 63)) || decide (k ≥ 2 ^ 63)) = false := by
    rw [decide_eq_false (by omega), decide_eq_false (by omega)] <;> rfl
  by_cases c1 : (its.toArray.isEmpty || k == 1) = true
  · refine wpAny_binaryOp_repeat_ref (T := "tuple") (U := "int") (by decide) ⟨_, ho, rfl⟩ (fun s' => typeIs_int s' k t) noFill_tuple_mul F.fills_int_mul F.slot_int_rmul repeat_tuple F.slot_int_index.lookup
      (call_meets F.slot_int_rmul (typeIs_int s k t) F.entry_int_rmul (F.args_int_rmul_2 _ _) (int_rmul_tuple k t l its.toArray n dd sl)
        ⟨ho, rfl, ⟨_, ho, rfl⟩, call_meets F.slot_tuple_mul ⟨_, ho, rfl⟩ F.entry_tuple_mul (F.args_tuple_mul_2 _ _) (tuple_mul1 l its.toArray n dd sl k t c0 c1) ⟨ho, ?_⟩⟩)
    refine ⟨.ref l, H, I, rfl, h.1 ?_⟩
    rw [Bool.or_eq_true] at c1
    rcases c1 with c1 | c1
    · refine .inl (List.eq_nil_of_length_eq_zero ?_)
      rw [← hle]
      simpa using c1
    · exact .inr (eq_of_beq c1)
  · have c1' : (its.toArray.isEmpty || k == 1) = false := by simpa using c1
    have hne : xs ≠ [] := fun e => by
      apply c1
      rw [e] at hle
      have : its = [] := List.eq_nil_of_length_eq_zero hle
      subst this
      rfl
    have hk1 : k ≠ 1 := fun e => by
      apply c1
      subst e
      simp
    have hk0 : k ≤ 0 := by
      rcases hc with e | e
      · exact absurd e hne
      · omega
    have c2 : (decide (k ≤ 0) || its.toArray.isEmpty) = true := by rw [decide_eq_true hk0] <;> rfl
    refine wpAny_binaryOp_repeat_ref (T := "tuple") (U := "int") (by decide) ⟨_, ho, rfl⟩ (fun s' => typeIs_int s' k t) noFill_tuple_mul F.fills_int_mul F.slot_int_rmul repeat_tuple F.slot_int_index.lookup
      (call_meets F.slot_int_rmul (typeIs_int s k t) F.entry_int_rmul (F.args_int_rmul_2 _ _) (int_rmul_tuple k t l its.toArray n dd sl)
        ⟨ho, rfl, ⟨_, ho, rfl⟩, call_meets F.slot_tuple_mul ⟨_, ho, rfl⟩ F.entry_tuple_mul (F.args_tuple_mul_2 _ _) (tuple_mul0 l its.toArray n dd sl k t c0 c1' c2) ⟨ho, ?_⟩⟩)
    have hf : H s.heap.objs.size = none := I.hok.fresh (Nat.le_refl _)
    refine ⟨.ref s.heap.objs.size, upd H s.heap.objs.size (.tup []), I.laid (t' := s.toks) (fun b u e => Heap.get?_push_of_some _ e) (Nat.le_refl _) ?_, rfl, h.2 hne hk0 _ hf⟩
    exact ⟨Nat.zero_le _, [], .nil, ⟨_, Heap.get?_push_size _ rfl, rfl, _, rfl⟩⟩
end
@[simp] def rRepL (G : GH) (Q : DK) (a : List D) (y : D) : Prop := match y with
  | .int k => -(2 ^ 63) ≤ k ∧ k < 2 ^ 63 ∧ a.length * k.toNat ≤ sizeLine ∧ ∀ p, G p = none → Q (.ref p) (updG G p (.lst (List.replicate k.toNat a).flatten))
  | _ => False
@[simp] def rMul : DR2 := fun x y G Q => match x with
  | .int i => (match y with
    | .int j => CMul i j ∧ Q (.int (i * j)) G
    | _ => False)
  | .tup a => (match y with
    | .int k => -(2 ^ 63) ≤ k ∧ k ≤ 1000 ∧ (a.length ≤ 1000 ∨ k ≤ 1) ∧ Q (.tup (List.replicate k.toNat a).flatten) G
    | _ => False)
  | .lst a => rRepL G Q a y
  | .ref p => (match lsOf G (.ref p) with
    | some a => rRepL G Q a y
    | none => False)
  | _ => False
section
variable {X : Cx}
theorem rep_list {pins : List (Addr × Obj)} {s : Shared} {σ : St} {H : Hp} {x y : V} {v u : Value} {Qv : VK} {G : GH} {dx dy : D} {q : DK} {a : List D} (I : Inv X pins σ H s) (rx : RelV x v) (ry : RelV y u) (g : GOk X.K G H) (r1 : RepV X.K G H dx x) (r2 : RepV X.K G H dy y)
    (ha : lsOf G dx = some a) (h : rRepL G q a dy) (k : ∀ v d H' G', Ext G H G' H' → GOk X.K G' H' → RepV X.K G' H' d v → q d G' → Qv v H') : wpAny (model X.prog X.w) X.A (binaryOp .Mult v u) (EP X pins σ Qv) X.xe s := by
  obtain ⟨l, xs, rfl, h1, l1⟩ := ls_at g r1 ha
  cases dy with
  | int j =>
    cases rv_int r2
    obtain ⟨h2, h3, h4, h5⟩ := h
    refine op_rep pins s σ H _ _ v u Qv I rx ry ⟨l, j, xs, rfl, rfl, h1, h2, h3, by rw [l1.length]; exact h4, fun p hp => ?_⟩
    obtain ⟨e, g', rv⟩ := new_lst g hp (l1.rep j.toNat)
    exact k _ _ _ _ e g' rv (h5 p (g.fresh hp))
  | _ => exact h.elim
theorem o_mul : DOp X (binaryOp .Mult) rMul := by
  intro pins s σ H x y v u Q I rx ry ⟨G, dx, dy, q, g, r1, r2, h, k⟩
  cases dx with
  | int i =>
    cases dy with
    | int j =>
      cases rv_int r1; cases rv_int r2
      exact op_mul pins s σ H _ _ v u Q I rx ry ⟨i, j, rfl, rfl, h.1, k _ _ H G (Ext.refl G H) g int_rv h.2⟩
    | _ => exact h.elim
  | tup a =>
    cases dy with
    | int j =>
      obtain ⟨l, xs, rfl, h1, l1⟩ := tp_at r1
      cases rv_int r2
      obtain ⟨h2, h3, h4, h5⟩ := h
      by_cases hc : xs = [] ∨ j ≤ 1
      · cases rx
        obtain ⟨t, rfl⟩ := ry
        refine tup_rep I h1 ⟨h2, by omega⟩ ⟨fun z => ?_, fun hne h0 p hp => ?_⟩ hc
        · refine k _ _ H G (Ext.refl G H) g ?_ h5
          have e : (List.replicate j.toNat a).flatten = a := by
            rcases z with z | z
            · have ea : a = [] := List.eq_nil_of_length_eq_zero (by rw [← l1.length, z]; rfl)
              subst ea
              simp
            · subst z
              simp
          rw [e]
          exact r1
        · have e : (List.replicate j.toNat a).flatten = [] := by
            have : j.toNat = 0 := by omega
            rw [this]; rfl
          rw [e] at h5
          obtain ⟨e1, g1, v1⟩ := new_tup (ds := []) (vs := []) g hp repL_nil
          exact k _ _ _ _ e1 g1 v1 h5
      · simp only [not_or] at hc
        refine op_repT pins s σ H _ _ v u Q I rx ry ⟨l, j, xs, rfl, rfl, h1, hc.1, by omega, h3, by rw [l1.length]; exact h4.resolve_right hc.2, fun p hp => ?_⟩
        obtain ⟨e1, g1, v1⟩ := new_tup g hp (l1.rep j.toNat)
        exact k _ _ _ _ e1 g1 v1 h5
    | _ => exact h.elim
  | lst a => exact rep_list I rx ry g r1 r2 rfl h k
  | ref p =>
    dsimp only [rMul] at h
    cases q1 : lsOf G (.ref p) with
    | none => rw [q1] at h; exact h.elim
    | some a => rw [q1] at h; exact rep_list I rx ry g r1 r2 q1 h k
  | _ => exact h.elim
end
mutual
def pyD : D → PyData
  | .non => .none
  | .bl b => .bool b
  | .int i => .int i
  | .str x => .str x
  | .tup ds => .tuple (pyDs ds)
  | .lst ds => .list (pyDs ds)
  | .byt _ => .none
  | .ref _ => .none
  | .scr _ => .none
  | .fn _ _ _ _ => .none
  | .exh _ _ _ _ _ => .none
def pyDs : List D → List PyData
  | [] => []
  | d :: ds => pyD d :: pyDs ds
end
mutual
def pureD : D → Bool
  | .non => true
  | .bl _ => true
  | .int _ => true
  | .str x => PyData.strOk x
  | .tup ds => pureDs ds
  | .lst ds => pureDs ds
  | _ => false
def pureDs : List D → Bool
  | [] => true
  | d :: ds => pureD d && pureDs ds
end
mutual
def depD : D → Nat
  | .tup ds => depDs ds + 1
  | .lst ds => depDs ds + 1
  | _ => 0
def depDs : List D → Nat
  | [] => 0
  | d :: ds => max (depD d) (depDs ds)
end
mutual
def eqvD : D → D → Bool
  | .non, .non => true
  | .bl a, .bl b => a == b
  | .bl a, .int j => (if a then 1 else 0) == j
  | .int i, .bl b => i == (if b then 1 else 0)
  | .int i, .int j => i == j
  | .str x, .str y => x == y
  | .tup a, .tup b => eqvDs a b
  | .lst a, .lst b => eqvDs a b
  | _, _ => false
def eqvDs : List D → List D → Bool
  | [], [] => true
  | x :: xs, y :: ys => eqvD x y && eqvDs xs ys
  | _, _ => false
end
mutual
theorem depth_py : ∀ d : D, (pyD d).depth = depD d
  | .non => by simp [pyD, depD, PyData.depth]
  | .bl _ => by simp [pyD, depD, PyData.depth]
  | .int _ => by simp [pyD, depD, PyData.depth]
  | .str _ => by simp [pyD, depD, PyData.depth]
  | .tup ds => by simp [pyD, depD, PyData.depth, depths_py ds]
  | .lst ds => by simp [pyD, depD, PyData.depth, depths_py ds]
  | .byt _ => by simp [pyD, depD, PyData.depth]
  | .ref _ => by simp [pyD, depD, PyData.depth]
  | .scr _ => by simp [pyD, depD, PyData.depth]
  | .fn _ _ _ _ => by simp [pyD, depD, PyData.depth]
  | .exh _ _ _ _ _ => by simp [pyD, depD, PyData.depth]
theorem depths_py : ∀ ds : List D, PyData.depthAll (pyDs ds) = depDs ds
  | [] => by simp [pyDs, depDs, PyData.depthAll]
  | d :: ds => by simp [pyDs, depDs, PyData.depthAll, depth_py d, depths_py ds]
end
mutual
theorem lay_py : ∀ d : D, pureD d = true → (pyD d).canLay0 = true
  | .non, _ => by simp [pyD, PyData.canLay0]
  | .bl _, _ => by simp [pyD, PyData.canLay0]
  | .int _, _ => by simp [pyD, PyData.canLay0]
  | .str x, h => by simpa [pyD, PyData.canLay0, pureD] using h
  | .tup ds, h => by simpa [pyD, PyData.canLay0] using lays_py ds (by simpa [pureD] using h)
  | .lst ds, h => by simpa [pyD, PyData.canLay0] using lays_py ds (by simpa [pureD] using h)
  | .byt _, h => by simp [pureD] at h
  | .ref _, h => by simp [pureD] at h
  | .scr _, h => by simp [pureD] at h
  | .fn _ _ _ _, h => by simp [pureD] at h
  | .exh _ _ _ _ _, h => by simp [pureD] at h
theorem lays_py : ∀ ds : List D, pureDs ds = true → PyData.canLayAll0 (pyDs ds) = true
  | [], _ => by simp [pyDs, PyData.canLayAll0]
  | d :: ds, h => by
    simp only [pureDs, Bool.and_eq_true] at h
    simp [pyDs, PyData.canLayAll0, lay_py d h.1, lays_py ds h.2]
end
mutual
theorem eqv_py : ∀ a b : D, pureD a = true → pureD b = true → PyData.eqv (pyD a) (pyD b) = eqvD a b
  | .tup xs, b, h, k => by
    cases b with
    | tup ys => simpa [pyD, PyData.eqv, eqvD] using eqvs_py xs ys (by simpa [pureD] using h) (by simpa [pureD] using k)
    | byt _ => simp [pureD] at k
    | ref _ => simp [pureD] at k
    | scr _ => simp [pureD] at k
    | fn _ _ _ _ => simp [pureD] at k
    | exh _ _ _ _ _ => simp [pureD] at k
    | _ => simp [pyD, PyData.eqv, eqvD]
  | .lst xs, b, h, k => by
    cases b with
    | lst ys => simpa [pyD, PyData.eqv, eqvD] using eqvs_py xs ys (by simpa [pureD] using h) (by simpa [pureD] using k)
    | byt _ => simp [pureD] at k
    | ref _ => simp [pureD] at k
    | scr _ => simp [pureD] at k
    | fn _ _ _ _ => simp [pureD] at k
    | exh _ _ _ _ _ => simp [pureD] at k
    | _ => simp [pyD, PyData.eqv, eqvD]
  | .non, b, h, k => by cases b <;> first | (simp [pureD] at k; done) | simp [pyD, PyData.eqv, eqvD]
  | .bl _, b, h, k => by cases b <;> first | (simp [pureD] at k; done) | simp [pyD, PyData.eqv, eqvD]
  | .int _, b, h, k => by cases b <;> first | (simp [pureD] at k; done) | simp [pyD, PyData.eqv, eqvD]
  | .str _, b, h, k => by
    cases b with
    | str _ => simp [pyD, PyData.eqv, eqvD]
    | byt _ => simp [pureD] at k
    | ref _ => simp [pureD] at k
    | scr _ => simp [pureD] at k
    | fn _ _ _ _ => simp [pureD] at k
    | exh _ _ _ _ _ => simp [pureD] at k
    | _ => simp [pyD, PyData.eqv, eqvD]
  | .byt _, _, h, _ => by simp [pureD] at h
  | .ref _, _, h, _ => by simp [pureD] at h
  | .scr _, _, h, _ => by simp [pureD] at h
  | .fn _ _ _ _, _, h, _ => by simp [pureD] at h
  | .exh _ _ _ _ _, _, h, _ => by simp [pureD] at h
theorem eqvs_py : ∀ a b : List D, pureDs a = true → pureDs b = true → PyData.eqvAll (pyDs a) (pyDs b) = eqvDs a b
  | [], [], _, _ => by simp [pyDs, PyData.eqvAll, eqvDs]
  | [], _ :: _, _, _ => by simp [pyDs, PyData.eqvAll, eqvDs]
  | _ :: _, [], _, _ => by simp [pyDs, PyData.eqvAll, eqvDs]
  | x :: xs, y :: ys, h, k => by
    simp only [pureDs, Bool.and_eq_true] at h k
    simp [pyDs, PyData.eqvAll, eqvDs, eqv_py x y h.1 k.1, eqvs_py xs ys h.2 k.2]
end
mutual
theorem dp_of {K : PySem.W.Frag} {G : GH} {H : Hp} : ∀ {d : D} {v : V}, RepV K G H d v → pureD d = true → Dp K H v (pyD d)
  | .non, v, h, _ => by cases rv_non h; simp only [pyD]; exact .non
  | .bl b, v, h, _ => by cases rv_bl h; simp only [pyD]; exact .bl b
  | .int i, v, h, _ => by cases rv_int h; simp only [pyD]; exact .int i
  | .str x, v, h, _ => by cases rv_str h; simp only [pyD]; exact .str x
  | .tup ds, v, h, k => by
    obtain ⟨a, xs, rfl, t, rl⟩ := tp_at h
    simp only [pyD]
    exact .tup t (dps_of rl (by simpa [pureD] using k))
  | .lst ds, v, h, k => by
    unfold RepV at h
    obtain ⟨a, xs, rfl, t, rl⟩ := h
    simp only [pyD]
    exact .lst t.sq (dps_of rl (by simpa [pureD] using k))
  | .byt _, _, _, k => by simp [pureD] at k
  | .ref _, _, _, k => by simp [pureD] at k
  | .scr _, _, _, k => by simp [pureD] at k
  | .fn _ _ _ _, _, _, k => by simp [pureD] at k
  | .exh _ _ _ _ _, _, _, k => by simp [pureD] at k
theorem dps_of {K : PySem.W.Frag} {G : GH} {H : Hp} : ∀ {ds : List D} {vs : List V}, RepL K G H ds vs → pureDs ds = true → DpAll K H vs (pyDs ds)
  | [], vs, h, _ => by unfold RepL at h; subst h; simp only [pyDs]; exact .nil
  | d :: ds, vs, h, k => by
    unfold RepL at h
    obtain ⟨x, r, rfl, h1, h2⟩ := h
    simp only [pureDs, Bool.and_eq_true] at k
    simp only [pyDs]
    exact .cons (dp_of h1 k.1) (dps_of h2 k.2)
end
@[simp] def vw (G : GH) : D → D
  | .ref a => (match G a with
    | some (.lst ds) => .lst ds
    | _ => .ref a)
  | d => d
theorem vw_dp {K : PySem.W.Frag} {G : GH} {H : Hp} {d : D} {v : V} (g : GOk K G H) (r : RepV K G H d v) (h : pureD (vw G d) = true) : Dp K H v (pyD (vw G d)) := by
  cases d with
  | ref a =>
    cases rv_ref r
    dsimp only [vw] at h ⊢
    cases q : G a with
    | none => rw [q] at h; simp [pureD] at h
    | some o =>
      rw [q] at h
      cases o with
      | lst ds =>
        obtain ⟨xs, h1, rl⟩ := g a _ q
        simp only [pyD]
        exact .lst (SqL.of h1) (dps_of rl (by simpa [pureD] using h))
      | dct _ => simp [pureD] at h
      | raw _ => simp [pureD] at h
      | ins _ _ => simp [pureD] at h
      | dtp _ => simp [pureD] at h
      | tab _ => simp [pureD] at h
      | slt _ _ => simp [pureD] at h
      | dny _ _ _ => simp [pureD] at h
  | _ => exact dp_of r h
def okD (d : D) : Prop := pureD d = true ∧ depD d ≤ 64
theorem okD.shaped {d : D} (h : okD d) : SeqAt.shaped (pyD d) = true := by
  unfold SeqAt.shaped
  rw [Bool.and_eq_true]
  exact ⟨lay_py d h.1, decide_eq_true (by rw [depth_py]; exact h.2)⟩
@[simp] def rCmpG (f : Bool → Bool) (a b : D) (G : GH) (Q : DK) : Prop := okD a ∧ okD b ∧ Q (.bl (f (eqvD a b))) G
@[simp] def rCmp (f : Bool → Bool) : DR2 := fun x y G Q => match vw G x with
  | .str a => (match vw G y with
    | .str b => Q (.bl (f (decide (a = b)))) G
    | b => rCmpG f (.str a) b G Q)
  | .int a => (match vw G y with
    | .int b => Q (.bl (f (decide (a = b)))) G
    | b => rCmpG f (.int a) b G Q)
  | a => rCmpG f a (vw G y) G Q
abbrev rEqv : DR2 := rCmp id
abbrev rNev : DR2 := rCmp not
section
variable {X : Cx}
theorem rCmp_gen {f : Bool → Bool} {x y : D} {G : GH} {Q : DK} (h : rCmp f x y G Q) : (∃ a b, x = .str a ∧ y = .str b ∧ Q (.bl (f (decide (a = b)))) G) ∨ (∃ a b, x = .int a ∧ y = .int b ∧ Q (.bl (f (decide (a = b)))) G) ∨ rCmpG f (vw G x) (vw G y) G Q := by
  have hv : ∀ (d : D) (s : Str), vw G d = .str s → d = .str s := fun d s e => by
    cases d with
    | ref a => dsimp only [vw] at e; split at e <;> cases e
    | _ => exact e
  have hi : ∀ (d : D) (s : Int), vw G d = .int s → d = .int s := fun d s e => by
    cases d with
    | ref a => dsimp only [vw] at e; split at e <;> cases e
    | _ => exact e
  dsimp only [rCmp] at h
  cases e1 : vw G x with
  | str a =>
    rw [e1] at h
    cases e2 : vw G y with
    | str b => rw [e2] at h; exact .inl ⟨a, b, hv _ _ e1, hv _ _ e2, h⟩
    | _ => rw [e2] at h; exact .inr (.inr h)
  | int a =>
    rw [e1] at h
    cases e2 : vw G y with
    | int b => rw [e2] at h; exact .inr (.inl ⟨a, b, hi _ _ e1, hi _ _ e2, h⟩)
    | _ => rw [e2] at h; exact .inr (.inr h)
  | _ => rw [e1] at h; exact .inr (.inr h)
theorem o_eq (hu : X.A.units + 64 < cLine) : DOp X (compareOp .Eq) rEqv := by
  intro pins s σ H x y v u Q I rx ry ⟨G, dx, dy, q, g, r1, r2, h, k⟩
  rcases rCmp_gen h with ⟨a, b, rfl, rfl, h⟩ | ⟨a, b, rfl, rfl, h⟩ | ⟨h1, h2, h3⟩
  · cases rv_str r1; cases rv_str r2
    refine op_eq pins s σ H _ _ v u Q I rx ry ⟨rfl, k _ _ H G (Ext.refl G H) g ?_ h⟩
    rw [show decide (V.str a = V.str b) = decide (a = b) by simp]
    exact bl_rv
  · cases rv_int r1; cases rv_int r2
    refine op_eq pins s σ H _ _ v u Q I rx ry ⟨rfl, k _ _ H G (Ext.refl G H) g ?_ h⟩
    rw [show decide (V.int a = V.int b) = decide (a = b) by simp]
    exact bl_rv
  · refine op_eqD hu pins s σ H _ _ v u Q I rx ry ⟨_, _, vw_dp g r1 h1.1, vw_dp g r2 h2.1, h1.shaped, h2.shaped, k _ _ H G (Ext.refl G H) g ?_ h3⟩
    rw [eqv_py _ _ h1.1 h2.1]
    exact bl_rv
theorem o_ne (hu : X.A.units + 64 < cLine) : DOp X (compareOp .NotEq) rNev := by
  intro pins s σ H x y v u Q I rx ry ⟨G, dx, dy, q, g, r1, r2, h, k⟩
  rcases rCmp_gen h with ⟨a, b, rfl, rfl, h⟩ | ⟨a, b, rfl, rfl, h⟩ | ⟨h1, h2, h3⟩
  · cases rv_str r1; cases rv_str r2
    refine op_ne pins s σ H _ _ v u Q I rx ry ⟨rfl, k _ _ H G (Ext.refl G H) g ?_ h⟩
    rw [show decide (V.str a = V.str b) = decide (a = b) by simp]
    exact bl_rv
  · cases rv_int r1; cases rv_int r2
    refine op_ne pins s σ H _ _ v u Q I rx ry ⟨rfl, k _ _ H G (Ext.refl G H) g ?_ h⟩
    rw [show decide (V.int a = V.int b) = decide (a = b) by simp]
    exact bl_rv
  · refine op_neD hu pins s σ H _ _ v u Q I rx ry ⟨_, _, vw_dp g r1 h1.1, vw_dp g r2 h2.1, h1.shaped, h2.shaped, k _ _ H G (Ext.refl G H) g ?_ h3⟩
    rw [eqv_py _ _ h1.1 h2.1]
    exact bl_rv
end
end Dl
namespace Dl
open PySem L2
def flatD : D → Bool
  | .non => true
  | .bl _ => true
  | .int _ => true
  | .str _ => true
  | _ => false
theorem flat_rep {K : PySem.W.Frag} {G : GH} {H : Hp} {d : D} {v : V} (h : flatD d = true) (r : RepV K G H d v) : flatV v = true ∧ ∀ (e : D) (w : V), flatD e = true → RepV K G H e w → eqV w v = eqvD e d := by
  have key : ∀ (e : D) (w : V), flatD e = true → RepV K G H e w → (e = .non ∧ w = .non) ∨ (∃ b, e = .bl b ∧ w = .bl b) ∨ (∃ i, e = .int i ∧ w = .int i) ∨ ∃ x, e = .str x ∧ w = .str x := by
    intro e w he re
    cases e with
    | non => exact .inl ⟨rfl, rv_non re⟩
    | bl b => exact .inr (.inl ⟨b, rfl, rv_bl re⟩)
    | int b => exact .inr (.inr (.inl ⟨b, rfl, rv_int re⟩))
    | str b => exact .inr (.inr (.inr ⟨b, rfl, rv_str re⟩))
    | _ => simp [flatD] at he
  rcases key d v h r with ⟨rfl, rfl⟩ | ⟨b, rfl, rfl⟩ | ⟨b, rfl, rfl⟩ | ⟨b, rfl, rfl⟩ <;> refine ⟨rfl, fun e w he re => ?_⟩ <;>
    rcases key e w he re with ⟨rfl, rfl⟩ | ⟨c, rfl, rfl⟩ | ⟨c, rfl, rfl⟩ | ⟨c, rfl, rfl⟩ <;> simp [eqV, eqvD]
def inD (x : D) (ds : List D) : Bool := ds.any fun y => eqvD y x
@[simp] def rInn (f : Bool → Bool) : DR2 := fun x y G Q => match sqOf G y with
  | some ds => flatD x = true ∧ ds.all flatD = true ∧ Q (.bl (f (inD x ds))) G
  | none => False
theorem flats_rep {K : PySem.W.Frag} {G : GH} {H : Hp} {d : D} {v : V} (h : flatD d = true) (r : RepV K G H d v) : ∀ {ds : List D} {xs : List V}, RepL K G H ds xs → ds.all flatD = true → xs.all flatV = true ∧ inV v xs = inD d ds
  | [], xs, rl, _ => by unfold RepL at rl; subst rl; exact ⟨rfl, rfl⟩
  | e :: ds, xs, rl, ha => by
    unfold RepL at rl
    obtain ⟨x, t, rfl, h1, h2⟩ := rl
    simp only [List.all_cons, Bool.and_eq_true] at ha
    obtain ⟨i1, i2⟩ := flats_rep h r h2 ha.2
    obtain ⟨f1, _⟩ := flat_rep ha.1 h1
    have f2 := (flat_rep h r).2 e x ha.1 h1
    refine ⟨by simp [f1, i1], ?_⟩
    unfold inV inD at i2 ⊢
    simp only [List.any_cons]
    rw [f2, i2]
section
variable {X : Cx}
theorem o_in : DOp X (compareOp .In) (rInn id) := by
  intro pins s σ H x y v u Q I rx ry ⟨G, dx, dy, q, g, r1, r2, h, k⟩
  dsimp only [rInn] at h
  cases e : sqOf G dy with
  | none => rw [e] at h; exact h.elim
  | some ds =>
    rw [e] at h
    obtain ⟨a, xs, rfl, hs, rl⟩ := sq_at g r2 e
    obtain ⟨h1, h2, h3⟩ := h
    obtain ⟨f1, f2⟩ := flats_rep h1 r1 rl h2
    refine op_in_seq pins s σ H _ _ v u Q I rx ry ⟨a, xs, rfl, hs, (flat_rep h1 r1).1, f1, k _ _ H G (Ext.refl G H) g ?_ h3⟩
    rw [f2]
    exact bl_rv
theorem o_notin : DOp X (compareOp .NotIn) (rInn not) := by
  intro pins s σ H x y v u Q I rx ry ⟨G, dx, dy, q, g, r1, r2, h, k⟩
  dsimp only [rInn] at h
  cases e : sqOf G dy with
  | none => rw [e] at h; exact h.elim
  | some ds =>
    rw [e] at h
    obtain ⟨a, xs, rfl, hs, rl⟩ := sq_at g r2 e
    obtain ⟨h1, h2, h3⟩ := h
    obtain ⟨f1, f2⟩ := flats_rep h1 r1 rl h2
    refine op_notIn_seq pins s σ H _ _ v u Q I rx ry ⟨a, xs, rfl, hs, (flat_rep h1 r1).1, f1, k _ _ H G (Ext.refl G H) g ?_ h3⟩
    rw [f2]
    exact bl_rv
end
@[simp] def isNonD : D → Bool
  | .non => true
  | _ => false
@[simp] def rIsN (f : Bool → Bool) : DR2 := fun x y G Q => match y with
  | .non => Q (.bl (f (isNonD x))) G
  | _ => False
theorem non_dec {K : PySem.W.Frag} {G : GH} {H : Hp} {d : D} {v : V} (r : RepV K G H d v) : decide (v = .non) = isNonD d := by
  cases d <;> unfold RepV at r
  · subst r; rfl
  · subst r; rfl
  · subst r; rfl
  · subst r; rfl
  · subst r; rfl
  · obtain ⟨a, xs, rfl, _⟩ := r; rfl
  · obtain ⟨a, xs, rfl, _⟩ := r; rfl
  · subst r; rfl
  · obtain ⟨a, rfl, _⟩ := r; rfl
  · obtain ⟨a, c, rfl, _⟩ := r; rfl
  · obtain ⟨a, rfl, _⟩ := r; rfl
section
variable {X : Cx}
theorem o_isN : DOp X (compareOp .Is) (rIsN id) := by
  intro pins s σ H x y v u Q I rx ry ⟨G, dx, dy, q, g, r1, r2, h, k⟩
  cases dy with
  | non =>
    cases rv_non r2
    refine op_isN pins s σ H _ _ v u Q I rx ry ⟨rfl, k _ _ H G (Ext.refl G H) g ?_ h⟩
    rw [non_dec r1]
    exact bl_rv
  | _ => exact h.elim
theorem o_notN : DOp X (compareOp .IsNot) (rIsN not) := by
  intro pins s σ H x y v u Q I rx ry ⟨G, dx, dy, q, g, r1, r2, h, k⟩
  cases dy with
  | non =>
    cases rv_non r2
    refine op_notN pins s σ H _ _ v u Q I rx ry ⟨rfl, k _ _ H G (Ext.refl G H) g ?_ h⟩
    rw [non_dec r1]
    exact bl_rv
  | _ => exact h.elim
end
theorem atI_rep {K : PySem.W.Frag} {G : GH} {H : Hp} {ds : List D} {xs : List V} {i : Int} {d : D} (rl : RepL K G H ds xs) (h : atI ds i = some d) : ∃ v, atI xs i = some v ∧ RepV K G H d v := by
  unfold atI at h ⊢
  rw [rl.length]
  cases e : ixN ds.length i with
  | none => rw [e] at h; cases h
  | some j =>
    rw [e] at h
    exact rl.get h
@[simp] def rIx : DR2 := fun x y G Q => match y with
  | .int i => (match sqOf G x with
    | some ds => (match atI ds i with
      | some d => Q d G
      | none => False)
    | none => False)
  | _ => False
section
variable {X : Cx}
theorem x_ix : IxR X (upR X.K rIx) := by
  intro ve sx pins s σ H x y v u Q I rx ry ⟨G, dx, dy, q, g, r1, r2, h, k⟩ hsub
  cases dy with
  | int i =>
    cases rv_int r2
    dsimp only [rIx] at h
    cases e : sqOf G dx with
    | none => rw [e] at h; exact h.elim
    | some ds =>
      rw [e] at h
      dsimp only at h
      obtain ⟨a, xs, rfl, hs, rl⟩ := sq_at g r1 e
      cases e2 : atI ds i with
      | none => rw [e2] at h; exact h.elim
      | some d =>
        rw [e2] at h
        obtain ⟨w, hw, rw'⟩ := atI_rep rl e2
        refine (ix_list.or ix_tup) ve sx pins s σ H _ _ v u Q I rx ry ?_ hsub
        rcases hs with hs | hs
        · exact .inl ⟨a, xs, i, w, rfl, rfl, hs, hw, k _ _ H G (Ext.refl G H) g rw' h⟩
        · exact .inr ⟨a, xs, i, w, rfl, rfl, hs, hw, k _ _ H G (Ext.refl G H) g rw' h⟩
  | _ => exact h.elim
theorem de_ix {a b : Expr} {ta tb : DTE} {pos : Pos} (ha : DE X a ta) (hb : DE X b tb) (hs : PlainIx b := by exact fun _ _ => rfl) : DE X (.Subscript a b pos) (dOp rIx ta tb) := (pe_ix x_ix ha hb hs).imp fun _ _ _ h => up_op h
end
@[simp] def keyD : D → Option Key
  | .int i => some (.inl i)
  | .str x => some (.inr x)
  | _ => none
def getK : List (Key × D) → Key → Option D
  | [], _ => none
  | p :: r, k => if p.1 = k then some p.2 else getK r k
def putD (kvs : List (Key × D)) (k : Key) (d : D) : List (Key × D) :=
  if (kvs.any fun kv => decide (kv.1 = k)) = true then kvs.map (fun kv => if kv.1 = k then (kv.1, d) else kv) else kvs ++ [(k, d)]
theorem key_rep {K : PySem.W.Frag} {G : GH} {H : Hp} {d : D} {v : V} {k : Key} (r : RepV K G H d v) (h : keyD d = some k) : v = kV k := by
  cases d with
  | int i => simp only [keyD, Option.some.injEq] at h; subst h; exact rv_int r
  | str i => simp only [keyD, Option.some.injEq] at h; subst h; exact rv_str r
  | _ => simp [keyD] at h
theorem getK_rep {K : PySem.W.Frag} {G : GH} {H : Hp} {k : Key} : ∀ {kvs : List (Key × D)} {ws : List (Key × V)}, ws.map (·.1) = kvs.map (·.1) → RepL K G H (kvs.map (·.2)) (ws.map (·.2)) → match getK kvs k with
    | some d => ∃ v, valV ws k = some v ∧ RepV K G H d v
    | none => valV ws k = none
  | [], [], _, _ => rfl
  | [], _ :: _, e, _ => by simp at e
  | _ :: _, [], e, _ => by simp at e
  | p :: kvs, q :: ws, e, rl => by
    simp only [List.map_cons, List.cons.injEq] at e
    simp only [List.map_cons] at rl
    unfold RepL at rl
    obtain ⟨x, r, e2, h1, h2⟩ := rl
    simp only [List.cons.injEq] at e2
    obtain ⟨e3, e4⟩ := e2
    subst e3
    rw [← e4] at h2
    have ih := getK_rep (k := k) e.2 h2
    unfold getK
    by_cases hk : p.1 = k
    · rw [if_pos hk]
      exact ⟨q.2, valV_pos (e.1.trans hk), h1⟩
    · rw [if_neg hk]
      cases q2 : getK kvs k with
      | none => rw [q2] at ih; exact (valV_neg (fun z => hk (e.1.symm.trans z))).trans ih
      | some d =>
        rw [q2] at ih
        obtain ⟨v, i1, i2⟩ := ih
        exact ⟨v, (valV_neg (fun z => hk (e.1.symm.trans z))).trans i1, i2⟩
theorem putD_rep {K : PySem.W.Frag} {G : GH} {H : Hp} {k : Key} {d : D} {v : V} (rv : RepV K G H d v) {kvs : List (Key × D)} {ws : List (Key × V)} (e : ws.map (·.1) = kvs.map (·.1)) (rl : RepL K G H (kvs.map (·.2)) (ws.map (·.2))) :
    (putK ws k v).map (·.1) = (putD kvs k d).map (·.1) ∧ RepL K G H ((putD kvs k d).map (·.2)) ((putK ws k v).map (·.2)) := by
  have hany : (ws.any fun kv => decide (kv.1 = k)) = kvs.any fun kv => decide (kv.1 = k) := by
    have : ∀ (l : List (Key × V)), (l.any fun kv => decide (kv.1 = k)) = (l.map (·.1)).any fun z => decide (z = k) := fun l => by simp [List.any_map, Function.comp_def]
    have h2 : ∀ (l : List (Key × D)), (l.any fun kv => decide (kv.1 = k)) = (l.map (·.1)).any fun z => decide (z = k) := fun l => by simp [List.any_map, Function.comp_def]
    rw [this, h2, e]
  unfold putK putD
  rw [hany]
  by_cases ha : (kvs.any fun kv => decide (kv.1 = k)) = true
  · rw [if_pos ha, if_pos ha]
    clear hany ha
    induction kvs generalizing ws with
    | nil =>
      cases ws with
      | nil => exact ⟨rfl, repL_nil⟩
      | cons q ws => simp at e
    | cons p kvs ih =>
      cases ws with
      | nil => simp at e
      | cons q ws =>
        simp only [List.map_cons, List.cons.injEq] at e
        simp only [List.map_cons] at rl
        unfold RepL at rl
        obtain ⟨x, r, e2, h1, h2⟩ := rl
        simp only [List.cons.injEq] at e2
        obtain ⟨e3, e4⟩ := e2
        subst e3
        rw [← e4] at h2
        obtain ⟨i1, i2⟩ := ih e.2 h2
        simp only [List.map_cons]
        by_cases hk : p.1 = k
        · rw [if_pos hk, if_pos (e.1.trans hk)]
          exact ⟨by rw [i1, e.1], repL_cons rv i2⟩
        · rw [if_neg hk, if_neg (fun z => hk (e.1.symm.trans z))]
          exact ⟨by rw [i1, e.1], repL_cons h1 i2⟩
  · rw [if_neg ha, if_neg ha]
    simp only [List.map_append, List.map_cons, List.map_nil]
    exact ⟨by rw [e], rl.append (repL_one rv)⟩
@[simp] def dctP (G : GH) (x : D) (P : Addr → List (Key × D) → Prop) : Prop := match x with
  | .ref a => (match G a with
    | some (.dct kvs) => P a kvs
    | _ => False)
  | _ => False
@[simp] def keyP (y : D) (P : Key → Prop) : Prop := match keyD y with
  | some k => P k
  | none => False
@[simp] def dDGet (td ty : DTE) : DTE := fun ρ G Q => td ρ G fun x G1 => ty ρ G1 fun y G2 => dctP G2 x fun _ kvs => keyP y fun k => match getK kvs k with
  | some d => Q d G2
  | none => False
@[simp] def sDct : DSet := fun o i d G Q => dctP G o fun a kvs => keyP i fun k => kvs.length < sizeLine ∧ Q (updG G a (.dct (putD kvs k d)))
theorem keyP_of {y : D} {P : Key → Prop} (h : keyP y P) : ∃ k, keyD y = some k ∧ P k := by
  unfold keyP at h
  split at h
  · exact ⟨_, by assumption, h⟩
  · exact h.elim
theorem dct_of {K : PySem.W.Frag} {G : GH} {H : Hp} {x : D} {v : V} {P : Addr → List (Key × D) → Prop} (g : GOk K G H) (r : RepV K G H x v) (h : dctP G x P) :
    ∃ a kvs ws, x = .ref a ∧ v = .ref a ∧ G a = some (.dct kvs) ∧ P a kvs ∧ H a = some (.dK ws) ∧ ws.map (·.1) = kvs.map (·.1) ∧ RepL K G H (kvs.map (·.2)) (ws.map (·.2)) := by
  cases x with
  | ref a =>
    dsimp only [dctP] at h
    cases q : G a with
    | none => rw [q] at h; exact h.elim
    | some o =>
      rw [q] at h
      cases o with
      | dct kvs =>
        obtain ⟨ws, h1, h2, h3⟩ := g a _ q
        exact ⟨a, kvs, ws, rfl, rv_ref r, q, h, h1, h2, h3⟩
      | _ => exact h.elim
  | _ => exact h.elim
section
variable {X : Cx}
theorem de_dget {o i : Expr} {td ty : DTE} {pos : Pos} (hu : X.A.units + 1 < cLine) (ho : DE X o td) (hi : DE X i ty) (hs : NoSl i := by exact fun _ _ => rfl) : DE X (.Subscript o i pos) (dDGet td ty) := by
  refine (pe_dget hu ho hi hs).imp fun σ H Q ⟨ρ, G, q, r, h, k⟩ => ?_
  refine ⟨ρ, G, _, r, h, fun x dx H1 G1 e1 r1 v1 h1 => ?_⟩
  refine ⟨ρ, G1, _, r1, h1, fun y dy H2 G2 e2 r2 v2 h2 => ?_⟩
  obtain ⟨a, kvs, ws, rfl, rfl, hg, h2, w1, w2, w3⟩ := dct_of r2.gok (v1.ext e2) h2
  obtain ⟨kk, hk, h2⟩ := keyP_of h2
  cases key_rep v2 hk
  have gr := getK_rep (k := kk) w2 w3
  cases hd : getK kvs kk with
  | none => rw [hd] at h2; exact h2.elim
  | some d =>
    rw [hd] at h2 gr
    obtain ⟨w, e3, rw'⟩ := gr
    refine ⟨a, w, rfl, ?_, k w d H2 G2 (e1.trans e2) r2 rw' h2⟩
    rw [← e3]
    exact DGet.k w1
theorem set_dct (hu : X.A.units + 1 < cLine) : PSet X (upSet X.K sDct) := by
  intro pins s σ H o i v ov iv u Q I ro ri rv ⟨G, dO, di, d, q, g, r1, r2, r3, h, k⟩
  obtain ⟨a, kvs, ws, rfl, rfl, hg, h2, w1, w2, w3⟩ := dct_of g r1 h
  obtain ⟨kk, hk, h2⟩ := keyP_of h2
  cases key_rep r2 hk
  obtain rfl : ov = Value.ref a := ro
  have hl : ws.length = kvs.length := by simpa using congrArg List.length w2
  have e : Ext G H (updG G a (.dct (putD kvs kk d))) (upd H a (.dK (putK ws kk v))) := Ext.write hg
  obtain ⟨p1, p2⟩ := putD_rep (k := kk) r3 w2 w3
  refine d_setItem hu I (DPut.k (k := kk) w1 (by rw [hl]; exact h2.1)) ri rv fun s4 I4 => ⟨_, I4, ?_⟩
  exact k _ _ e (g.put e ⟨_, upd_same, p1, p2.ext e⟩) h2.2
end
@[simp] def lstP (G : GH) (x : D) (P : Addr → List D → Prop) : Prop := match x with
  | .ref a => (match G a with
    | some (.lst ds) => P a ds
    | _ => False)
  | _ => False
@[simp] def sLst : DSet := fun o i d G Q => lstP G o fun a ds => match i with
  | .int k => (match ixN ds.length k with
    | some j => Q (updG G a (.lst (ds.set j d)))
    | none => False)
  | _ => False
theorem lst_of {K : PySem.W.Frag} {G : GH} {H : Hp} {x : D} {v : V} {P : Addr → List D → Prop} (g : GOk K G H) (r : RepV K G H x v) (h : lstP G x P) : ∃ a ds xs, x = .ref a ∧ v = .ref a ∧ G a = some (.lst ds) ∧ P a ds ∧ H a = some (.lst xs) ∧ RepL K G H ds xs := by
  cases x with
  | ref a =>
    dsimp only [lstP] at h
    cases q : G a with
    | none => rw [q] at h; exact h.elim
    | some o =>
      rw [q] at h
      cases o with
      | lst ds =>
        obtain ⟨ws, h1, h2⟩ := g a _ q
        exact ⟨a, ds, ws, rfl, rv_ref r, q, h, h1, h2⟩
      | _ => exact h.elim
  | _ => exact h.elim
section
variable {X : Cx}
theorem set_lst : PSet X (upSet X.K sLst) := by
  intro pins s σ H o i v ov iv u Q I ro ri rv ⟨G, dO, di, d, q, g, r1, r2, r3, h, k⟩
  obtain ⟨a, ds, xs, rfl, rfl, hg, h2, w1, w2⟩ := lst_of g r1 h
  cases di with
  | int j =>
    cases rv_int r2
    dsimp only at h2
    cases e : ixN ds.length j with
    | none => rw [e] at h2; exact h2.elim
    | some n =>
      rw [e] at h2
      refine set_list pins s σ H _ _ _ ov iv u Q I ro ri rv ⟨a, xs, j, n, rfl, rfl, w1, by rw [w2.length]; exact e, ?_⟩
      obtain ⟨e1, g1⟩ := put_lst g hg (w2.set r3 n)
      exact k _ _ e1 g1 h2
  | _ => exact h2.elim
end
abbrev DTO := DSt → GH → (Option Int → GH → Prop) → Prop
def upO (K : PySem.W.Frag) (t : DTO) : TO := fun σ H Qv => ∃ ρ G Q, DRel K σ H ρ G ∧ t ρ G Q ∧ ∀ o H' G', Ext G H G' H' → DRel K σ H' ρ G' → Q o G' → Qv o H'
abbrev DO' (X : Cx) (e : Option Expr) (t : DTO) : Prop := PO X e (upO X.K t)
@[simp] def dNoP : DTO := fun _ G Q => Q none G
@[simp] def dP (t : DTE) : DTO := fun ρ G Q => t ρ G fun d G1 => match d with
  | .int i => Q (some i) G1
  | _ => False
def cutD (xs : List D) (lo hi : Option Int) : List D := (xs.drop (HT.sIx xs.length 0 lo)).take (HT.sIx xs.length xs.length hi - HT.sIx xs.length 0 lo)
theorem cut_rep {K : PySem.W.Frag} {G : GH} {H : Hp} {ds : List D} {xs : List V} (rl : RepL K G H ds xs) (lo hi : Option Int) : RepL K G H (cutD ds lo hi) (cutV xs lo hi) := by
  unfold cutD cutV
  rw [rl.length]
  exact (rl.drop _).take _
@[simp] def rSl : D → Option Int → Option Int → GH → DK → Prop := fun x lo hi G Q => match x with
  | .tup ds => Q (.tup (cutD ds lo hi)) G
  | .scr ns => ∀ p, G p = none → Q (.ref p) (updG G p (.lst (cutD (ns.map D.int) lo hi)))
  | .lst ds => ∀ p, G p = none → Q (.ref p) (updG G p (.lst (cutD ds lo hi)))
  | .ref a => (match G a with
    | some (.lst ds) => ∀ p, G p = none → Q (.ref p) (updG G p (.lst (cutD ds lo hi)))
    | _ => False)
  | _ => False
def upSl (K : PySem.W.Frag) (r : D → Option Int → Option Int → GH → DK → Prop) : V → Option Int → Option Int → Hp → VK → Prop := fun x lo hi H Qv => ∃ (G : GH) (d : D) (Q : DK), GOk K G H ∧ RepV K G H d x ∧ r d lo hi G Q ∧ ∀ v d H' G', Ext G H G' H' → GOk K G' H' → RepV K G' H' d v → Q d G' → Qv v H'
@[simp] def dSl (te : DTE) (tl th : DTO) : DTE := fun ρ G Q => te ρ G fun x G1 => tl ρ G1 fun l G2 => th ρ G2 fun u G3 => rSl x l u G3 Q
section
variable {X : Cx}
theorem PO.imp {e : Option Expr} {t t' : TO} (h : PO X e t) (i : ∀ σ H Q, t' σ H Q → t σ H Q) : PO X e t' := ⟨fun pins s σ H Q I q => h.run pins s σ H Q I (i σ H Q q)⟩
theorem do_none : DO' X none dNoP := PO.imp po_none fun σ H Q ⟨ρ, G, q, r, h, k⟩ => k none H G (Ext.refl G H) r h
theorem do_some {e : Expr} {te : DTE} (h : DE X e te) : DO' X (some e) (dP te) := PO.imp (po_some h) fun σ H Q ⟨ρ, G, q, r, h, k⟩ => by
  refine ⟨ρ, G, _, r, h, fun x dx H1 G1 e1 r1 v1 h1 => ?_⟩
  cases dx with
  | int i => cases rv_int v1; exact ⟨i, rfl, k (some i) H1 G1 e1 r1 h1⟩
  | _ => exact h1.elim
theorem sl_all : SlR X (upSl X.K rSl) := by
  intro pins s σ H x v vl vu lo hi sl Q I rx hs pl pu ⟨G, d, q, g, r, h, k⟩
  have lcase : ∀ (a : Addr) (xs : List V) (ds : List D), x = .ref a → SqL X.K H a xs → RepL X.K G H ds xs → (∀ p, G p = none → q (.ref p) (updG G p (.lst (cutD ds lo hi)))) →
      ∃ T id, typeLookup (.type T) "__getitem__" = pure (some (.builtin id)) ∧ s.TypeIs v T ∧ wpAny (model X.prog X.w) X.A (getItem v (.ref sl)) (EP X pins σ Q) X.xe s := by
    intro a xs ds e hq rl hk
    refine sl_list pins s σ H x v vl vu lo hi sl Q I rx hs pl pu ⟨a, xs, e, hq, fun p hp => ?_⟩
    obtain ⟨e1, g1, v1⟩ := new_lst g hp (cut_rep rl lo hi)
    exact k _ _ _ _ e1 g1 v1 (hk p (g.fresh hp))
  cases d with
  | tup ds =>
    obtain ⟨a, xs, e, t, rl⟩ := tp_at r
    refine sl_tupA pins s σ H x v vl vu lo hi sl Q I rx hs pl pu ⟨a, xs, e, t, fun z => ?_, fun z p hp => ?_⟩
    · have e2 : cutD ds lo hi = ds := by
        unfold cutD
        rw [← rl.length, z.1, z.2]
        simp [rl.length]
      subst e
      refine k _ _ H G (Ext.refl G H) g ?_ h
      rw [e2]
      exact r
    · obtain ⟨e1, g1, v1⟩ := new_tup g hp (cut_rep rl lo hi)
      exact k _ _ _ _ e1 g1 v1 h
  | scr ns =>
    unfold RepV at r
    obtain ⟨a, e, t⟩ := r
    exact lcase a _ _ e t.sq repL_of_ints h
  | lst ds =>
    unfold RepV at r
    obtain ⟨a, xs, e, t, rl⟩ := r
    exact lcase a xs ds e t.sq rl h
  | ref a =>
    cases rv_ref r
    dsimp only [rSl] at h
    cases hg : G a with
    | none => rw [hg] at h; exact h.elim
    | some o =>
      rw [hg] at h
      cases o with
      | lst ds =>
        obtain ⟨xs, h1, h2⟩ := g a _ hg
        exact lcase a xs ds rfl (SqL.of h1) h2 h
      | _ => exact h.elim
  | _ => exact h.elim
theorem de_slice {e : Expr} {lo hi : Option Expr} {te : DTE} {tl th : DTO} {p2 pos : Pos} (he : DE X e te) (hl : DO' X lo tl) (hh : DO' X hi th) : DE X (.Subscript e (.Slice lo hi none p2) pos) (dSl te tl th) := by
  refine (pe_slice sl_all he hl hh).imp fun σ H Q ⟨ρ, G, q, r, h, k⟩ => ?_
  refine ⟨ρ, G, _, r, h, fun x dx H1 G1 e1 r1 v1 h1 => ?_⟩
  refine ⟨ρ, G1, _, r1, h1, fun l H2 G2 e2 r2 h2 => ?_⟩
  refine ⟨ρ, G2, _, r2, h2, fun u H3 G3 e3 r3 h3 => ?_⟩
  exact ⟨G3, dx, q, r3.gok, v1.ext (e2.trans e3), h3, fun v d H' G' e4 g4 v4 h4 => k v d H' G' (((e1.trans e2).trans e3).trans e4) (r3.ext e4 g4) v4 h4⟩
end
end Dl
namespace Dl
open PySem L2
abbrev DRC := List D → GH → DK → Prop
def upC (K : PySem.W.Frag) (r : DRC) : List V → Hp → VK → Prop := fun xs H Qv => ∃ (G : GH) (ds : List D) (Q : DK), GOk K G H ∧ RepL K G H ds xs ∧ r ds G Q ∧ ∀ v d H' G', Ext G H G' H' → GOk K G' H' → RepV K G' H' d v → Q d G' → Qv v H'
abbrev DCall (X : Cx) (f : Value) (r : DRC) : Prop := CallR X f (upC X.K r)
@[simp] def dCB (r : DRC) (t : DTA) : DTE := fun ρ G Q => t ρ G fun ds G1 => r ds G1 Q
theorem up_cb {K : PySem.W.Frag} {r : DRC} {t : DTA} {σ : St} {H : Hp} {Q : VK} (h : up K (dCB r t) σ H Q) : tCB (upC K r) (upA K t) σ H Q := by
  obtain ⟨ρ, G, q, r0, h, k⟩ := h
  refine ⟨ρ, G, _, r0, h, fun vs ds H1 G1 e1 r1 v1 h1 => ?_⟩
  exact ⟨G1, ds, q, r1.gok, v1, h1, fun v d H' G' e2 g2 v2 h2 => k v d H' G' (e1.trans e2) (r1.ext e2 g2) v2 h2⟩
section
variable {X : Cx} {x : Str} {p pos : Pos} {e : Expr} {es : List Expr} {t : DTA} {id T : String} {r : DRC}
theorem de_callB (hc : DCall X (.builtin id) r) (hg : Gl X x) (hm : X.mg x = none) (hv : bootBuiltins x = some (.builtin id)) (ha : DA X (e :: es) t) (hn : x ≠ "__name__" := by decide) (hdb : (x == ("__debug__" : Str)) = false := by decide)
    (he : starEach (e :: es) X.env = (false, eval e X.env) :: starEach es X.env := by rfl) (hpl : (backTo pos (starEach es X.env)).any (·.1) = false := by rfl) : DE X (.Call (.Name x p) (e :: es) [] pos) (dCB r t) := (pe_callB hc hg hm hv ha hn hdb he hpl).imp fun _ _ _ h => up_cb h
theorem de_callTy (hc : DCall X (.type T) r) (hg : Gl X x) (hm : X.mg x = none) (hv : bootBuiltins x = some (.type T)) (ha : DA X (e :: es) t) (hn : x ≠ "__name__" := by decide) (hdb : (x == ("__debug__" : Str)) = false := by decide)
    (he : starEach (e :: es) X.env = (false, eval e X.env) :: starEach es X.env := by rfl) (hpl : (backTo pos (starEach es X.env)).any (·.1) = false := by rfl) : DE X (.Call (.Name x p) (e :: es) [] pos) (dCB r t) := (pe_callTy hc hg hm hv ha hn hdb he hpl).imp fun _ _ _ h => up_cb h
end
theorem repL_1 {K : PySem.W.Frag} {G : GH} {H : Hp} {d : D} {xs : List V} (h : RepL K G H [d] xs) : ∃ x, xs = [x] ∧ RepV K G H d x := by
  unfold RepL at h
  obtain ⟨x, r, rfl, h1, h2⟩ := h
  unfold RepL at h2
  subst h2
  exact ⟨x, rfl, h1⟩
@[simp] def arg1 (ds : List D) (P : D → Prop) : Prop := match ds with
  | [d] => P d
  | _ => False
@[simp] def arg2 (ds : List D) (P : D → D → Prop) : Prop := match ds with
  | [d, e] => P d e
  | _ => False
theorem arg1_of {ds : List D} {P : D → Prop} (h : arg1 ds P) : ∃ d, ds = [d] ∧ P d := by
  match ds, h with
  | [d], h => exact ⟨d, rfl, h⟩
@[simp] def rLen : DRC := fun ds G Q => arg1 ds fun x => match x with
  | .str z => z.length ≤ sizeLine ∧ Q (.int z.length) G
  | .tup l => Q (.int l.length) G
  | .lst l => Q (.int l.length) G
  | .ref a => (match G a with
    | some (.lst l) => Q (.int l.length) G
    | some (.dct l) => Q (.int l.length) G
    | _ => False)
  | _ => False
@[simp] def rIntC : DRC := fun ds G Q => arg1 ds fun x => match x with
  | .int i => Q (.int i) G
  | .bl b => Q (.int (if b then 1 else 0)) G
  | _ => False
@[simp] def rMax2 : DRC := fun ds G Q => arg2 ds fun x y => match x with
  | .int i => (match y with
    | .int j => Q (.int (if j > i then j else i)) G
    | _ => False)
  | _ => False
@[simp] def rMin2 : DRC := fun ds G Q => arg2 ds fun x y => match x with
  | .int i => (match y with
    | .int j => Q (.int (if j < i then j else i)) G
    | _ => False)
  | _ => False
def intsD : List D → Option (List Int)
  | [] => some []
  | .int i :: r => (intsD r).map (i :: ·)
  | _ :: _ => none
@[simp] def intsP (G : GH) (x : D) (P : List Int → Prop) : Prop := match lsOf G x with
  | some ds => (match intsD ds with
    | some ns => P ns
    | none => False)
  | none => False
@[simp] def rTupC : DRC := fun ds G Q => arg1 ds fun x => match sqOf G x with
  | some l => Q (.tup l) G
  | none => False
@[simp] def rLstC : DRC := fun ds G Q => arg1 ds fun x => match sqOf G x with
  | some l => ∀ p, G p = none → Q (.ref p) (updG G p (.lst l))
  | none => False
section
variable {X : Cx}
theorem c_len : DCall X (.builtin "len") rLen := by
  intro pins s σ H xs us Q I r ⟨G, ds, q, g, rl, h0, k⟩
  obtain ⟨d, rfl, h⟩ := arg1_of h0
  obtain ⟨x, rfl, rx⟩ := repL_1 rl
  cases d with
  | str z => cases rv_str rx; exact call_len pins s σ H _ us Q I r ⟨_, z.length, rfl, ⟨h.1, rfl⟩, k _ _ H G (Ext.refl G H) g int_rv h.2⟩
  | tup l =>
    obtain ⟨a, ys, rfl, t, rl⟩ := tp_at rx
    exact call_len_seq pins s σ H _ us Q I r ⟨a, ys, rfl, .inr t, by rw [rl.length]; exact k _ _ H G (Ext.refl G H) g int_rv h⟩
  | lst l =>
    obtain ⟨a, ys, rfl, t, rl⟩ := ls_at g rx (ds := l) rfl
    exact call_len_seq pins s σ H _ us Q I r ⟨a, ys, rfl, .inl (SqL.of t), by rw [rl.length]; exact k _ _ H G (Ext.refl G H) g int_rv h⟩
  | ref a =>
    cases rv_ref rx
    dsimp only at h
    cases hg : G a with
    | none => rw [hg] at h; exact h.elim
    | some o =>
      rw [hg] at h
      cases o with
      | lst l =>
        obtain ⟨ys, h1, rl⟩ := g a _ hg
        exact call_len_seq pins s σ H _ us Q I r ⟨a, ys, rfl, .inl (SqL.of h1), by rw [rl.length]; exact k _ _ H G (Ext.refl G H) g int_rv h⟩
      | dct l =>
        obtain ⟨ws, h1, e1, rl⟩ := g a _ hg
        have hl : ws.length = l.length := by simpa using congrArg List.length e1
        refine call_lenD pins s σ H _ us Q I r ⟨a, ws, rfl, h1, ?_⟩
        rw [hl]
        exact k _ _ H G (Ext.refl G H) g int_rv h
      | raw _ => exact h.elim
      | ins _ _ => exact h.elim
      | dtp _ => exact h.elim
      | tab _ => exact h.elim
      | slt _ _ => exact h.elim
      | dny _ _ _ => exact h.elim
  | _ => exact h.elim
theorem c_int : DCall X (.type "int") rIntC := by
  intro pins s σ H xs us Q I r ⟨G, ds, q, g, rl, h0, k⟩
  obtain ⟨d, rfl, h⟩ := arg1_of h0
  obtain ⟨x, rfl, rx⟩ := repL_1 rl
  cases d with
  | int i => cases rv_int rx; exact call_int1 pins s σ H _ us Q I r (.inl ⟨i, rfl, k _ _ H G (Ext.refl G H) g int_rv h⟩)
  | bl b => cases rv_bl rx; exact call_int1 pins s σ H _ us Q I r (.inr ⟨b, rfl, k _ _ H G (Ext.refl G H) g int_rv h⟩)
  | _ => exact h.elim
theorem c_tuple : DCall X (.type "tuple") rTupC := by
  intro pins s σ H xs us Q I r ⟨G, ds, q, g, rl, h0, k⟩
  obtain ⟨d, rfl, h⟩ := arg1_of h0
  obtain ⟨x, rfl, rx⟩ := repL_1 rl
  cases e : sqOf G d with
  | none => rw [e] at h; exact h.elim
  | some l =>
    rw [e] at h
    obtain ⟨a, ys, rfl, hs, rl⟩ := sq_at g rx e
    refine call_tuple_of pins s σ H _ us Q I r ⟨a, ys, rfl, ?_⟩
    rcases hs with hs | hs
    · refine .inl ⟨hs, fun p hp => ?_⟩
      obtain ⟨e1, g1, v1⟩ := new_tup g hp rl
      exact k _ _ _ _ e1 g1 v1 h
    · refine .inr ⟨hs, ?_⟩
      cases d with
      | tup l2 =>
        simp only [sqOf, Option.some.injEq] at e
        subst e
        exact k _ _ H G (Ext.refl G H) g rx h
      | lst l2 =>
        obtain ⟨a2, xs2, e2, h2, _⟩ := ls_at g rx (ds := l) e
        cases e2
        have z1 := (I.list (SqL.of h2))
        obtain ⟨its, _, ⟨o, n, ho, hc, _⟩, _⟩ := z1
        obtain ⟨its2, _, ⟨o2, ho2, hc2, _⟩, _⟩ := I.tuple hs
        rw [ho] at ho2
        cases ho2
        rw [hc] at hc2
        simp at hc2
      | ref a2 =>
        obtain ⟨a2, xs2, e2, h2, _⟩ := ls_at g rx (ds := l) e
        cases e2
        have z1 := (I.list (SqL.of h2))
        obtain ⟨its, _, ⟨o, n, ho, hc, _⟩, _⟩ := z1
        obtain ⟨its2, _, ⟨o2, ho2, hc2, _⟩, _⟩ := I.tuple hs
        rw [ho] at ho2
        cases ho2
        rw [hc] at hc2
        simp at hc2
      | _ => simp [sqOf] at e
theorem c_list : DCall X (.type "list") rLstC := by
  intro pins s σ H xs us Q I r ⟨G, ds, q, g, rl, h0, k⟩
  obtain ⟨d, rfl, h⟩ := arg1_of h0
  obtain ⟨x, rfl, rx⟩ := repL_1 rl
  cases e : sqOf G d with
  | none => rw [e] at h; exact h.elim
  | some l =>
    rw [e] at h
    obtain ⟨a, ys, rfl, hs, rl⟩ := sq_at g rx e
    refine call_list_of pins s σ H _ us Q I r ⟨a, ys, rfl, hs, fun p hp => ?_⟩
    obtain ⟨e1, g1, v1⟩ := new_lst g hp rl
    exact k _ _ _ _ e1 g1 v1 (h p (g.fresh hp))
end
section
open AutoSeq1
theorem ext_by_tuple (l : Addr) (items : Array Value) (n : Nat) (b : Addr) (more : Array Value) (n2 : Nat) (dd : Option Addr) (sl : Array (Option Value)) (hs0 : ¬(!items.isEmpty && Builtin.List.listTooLong (items.size + more.size)) = true) (hs1 : items.size ≤ sizeLine)
    (hs2 : items.size + more.size ≤ sizeLine + 1) :
    Meets (Builtin.«list.extend» ⟨[.ref l, .ref b], []⟩) (fun _ R s => s.heap.get? l = some { cls := .type "list", data := .seq items n } ∧ s.heap.get? b = some { cls := .type "tuple", dict := dd, data := .seq more n2, slots := sl } ∧
      R (.ok (.ret Value.none)) { s with heap := s.heap.update l (Obj.mapSeq fun x => x ++ more) }) :=
  .of_wp fun prog w A R st hh => by
    obtain ⟨hp, gg, dr, tk, os⟩ := st
    obtain ⟨hl, hb, hR⟩ := hh
    have f1 := idx_int
    have f2 := sub_tuple_tuple
    have f3 := sub_list_list
    have f4 := sub_tuple_list
    have f5 := sub_list_tuple
    have hz : (items ++ more).size ≤ sizeLine + 1 := by rw [Array.size_append]; exact hs2
    wp_walk using (wpAny_updateSeq hl rfl (hz := hs1) (_hz' := hz)), wpAny_loadPart' hl, wpAny_loadPart' hb
    exact ⟨_, rfl, hR⟩
end
abbrev DRM := D → List D → GH → DK → Prop
def upM (K : PySem.W.Frag) (r : DRM) : V → List V → Hp → VK → Prop := fun x xs H Qv => ∃ (G : GH) (d : D) (ds : List D) (Q : DK), GOk K G H ∧ RepV K G H d x ∧ RepL K G H ds xs ∧ r d ds G Q ∧ ∀ v d H' G', Ext G H G' H' → GOk K G' H' → RepV K G' H' d v → Q d G' → Qv v H'
@[simp] def dMt (r : DRM) (to : DTE) (t : DTA) : DTE := fun ρ G Q => to ρ G fun x G1 => lstP G1 x fun _ _ => t ρ G1 fun ds G2 => r x ds G2 Q
@[simp] def mAppend : DRM := fun x ds G Q => lstP G x fun a l => arg1 ds fun d => l.length < sizeLine ∧ Q .non (updG G a (.lst (l ++ [d])))
@[simp] def mExtend : DRM := fun x ds G Q => lstP G x fun a l => arg1 ds fun d => match sqOf G d with
  | some m => l.length + m.length ≤ sizeLine ∧ Q .non (updG G a (.lst (l ++ m)))
  | none => False
section
variable {X : Cx}
theorem m_append : MtR X "list.append" (upM X.K mAppend) := by
  intro pins s σ H x xs v us Q I rx rv ⟨G, d, ds, q, g, r1, r2, h, k⟩
  obtain ⟨a, l, ys, rfl, rfl, hg, h1, h2, rl⟩ := lst_of g r1 h
  obtain ⟨e, rfl, h3⟩ := arg1_of h1
  obtain ⟨y, rfl, ry⟩ := repL_1 r2
  refine mt_append pins s σ H _ _ v us Q I rx rv ⟨a, ys, y, rfl, rfl, h2, by rw [rl.length]; exact h3.1, ?_⟩
  obtain ⟨e1, g1⟩ := put_lst g hg (rl.append (repL_one ry))
  exact k _ _ _ _ e1 g1 non_rv h3.2
theorem m_extend : MtR X "list.extend" (upM X.K mExtend) := by
  intro pins s σ H x xs v us Q I rx rv ⟨G, d, ds, q, g, r1, r2, h, k⟩
  obtain ⟨a, l, ys, rfl, rfl, hg, h1, h2, rl⟩ := lst_of g r1 h
  obtain ⟨e, rfl, h3⟩ := arg1_of h1
  obtain ⟨y, rfl, ry⟩ := repL_1 r2
  cases e2 : sqOf G e with
  | none => rw [e2] at h3; exact h3.elim
  | some m =>
    rw [e2] at h3
    obtain ⟨b, zs, rfl, hs, rm⟩ := sq_at g ry e2
    obtain ⟨e1, g1⟩ := put_lst g hg (rl.append rm)
    have fin : Q .non (upd H a (.lst (ys ++ zs))) := k _ _ _ _ e1 g1 non_rv h3.2
    have hz : ys.length + zs.length ≤ sizeLine := by rw [rl.length, rm.length]; exact h3.1
    have hcase : (H b = some (.lst zs)) ∨ SqT X.K H b zs := by
      rcases hs with hs | hs
      · cases e with
        | tup l2 =>
          obtain ⟨a2, xs2, e3, h4, _⟩ := tp_at ry
          cases e3
          obtain ⟨its, _, ⟨o, n, ho, hc, _⟩, _⟩ := I.list hs
          obtain ⟨its2, _, ⟨o2, ho2, hc2, _⟩, _⟩ := I.tuple h4
          rw [ho] at ho2
          cases ho2
          rw [hc] at hc2
          simp at hc2
        | lst l2 =>
          obtain ⟨a2, xs2, e3, h4, _⟩ := ls_at g ry (ds := m) e2
          cases e3
          rw [I.list_inj hs (SqL.of h4)]
          exact .inl h4
        | ref l2 =>
          obtain ⟨a2, xs2, e3, h4, _⟩ := ls_at g ry (ds := m) e2
          cases e3
          rw [I.list_inj hs (SqL.of h4)]
          exact .inl h4
        | _ => simp [sqOf] at e2
      · exact .inr hs
    rcases hcase with hb | hb
    · exact mt_extend pins s σ H _ _ v us Q I rx rv ⟨a, b, ys, zs, rfl, rfl, h2, hb, hz, fin⟩
    · cases rx
      obtain ⟨u, rfl, ru⟩ := rv.one
      cases ru
      obtain ⟨z, its, n, r, hl, e⟩ := I.lstM h2
      obtain ⟨its2, r2', ⟨⟨cls, dd, data, sl⟩, ho, hcl, n2, hd⟩, hz2⟩ := I.tuple hb
      simp only at hcl hd
      subst hcl hd
      have hl2 := r2'.length
      have hsz : its.toArray.size + its2.toArray.size ≤ sizeLine := by rw [List.size_toArray, List.size_toArray]; omega
      have hlong : ¬ (!its.toArray.isEmpty && Builtin.List.listTooLong (its.toArray.size + its2.toArray.size)) = true := by
        rw [notLongL hsz, Bool.and_false]
        exact Bool.false_ne_true
      refine call_meets F.slot_list_extend ⟨_, e, rfl⟩ F.entry_list_extend (F.args_list_extend_2 _ _)
        (ext_by_tuple a its.toArray n b its2.toArray n2 dd sl hlong (by rw [List.size_toArray]; omega) (by omega)) ⟨e, ho, ?_⟩
      refine ⟨.non, _, I.lset (its' := its ++ its2) h2 e (by simp) (r.append r2') ?_, rfl, fin⟩
      rw [List.length_append]
      omega
variable {o e : Expr} {es : List Expr} {to : DTE} {t : DTA} {name : Str} {apos cpos : Pos} {id : String} {r : DRM}
theorem up_mt {K : PySem.W.Frag} {σ : St} {H : Hp} {Q : VK} (h : up K (dMt r to t) σ H Q) : tBM K "list" (upM K r) (up K to) (upA K t) σ H Q := by
  obtain ⟨ρ, G, q, r0, h, k⟩ := h
  refine ⟨ρ, G, _, r0, h, fun x dx H1 G1 e1 r1 v1 h1 => ?_⟩
  obtain ⟨a, l, ys, rfl, rfl, hg, h2, h3, rl⟩ := lst_of r1.gok v1 h1
  refine ⟨.inl ⟨rfl, ys, SqL.of h3⟩, ρ, G1, _, r1, h2, fun vs ds H2 G2 e2 r2 v2 h4 => ?_⟩
  exact ⟨G2, .ref a, ds, q, r2.gok, ref_rv, v2, h4, fun v d H' G' e3 g3 v3 h3 => k v d H' G' ((e1.trans e2).trans e3) (r2.ext e3 g3) v3 h3⟩
theorem de_mt (slot : Slot "list" name id) (hty : typeOf (.builtin id) = pure (.type "method_descriptor")) (hm : MtR X id (upM X.K r)) (ho : DE X o to) (ha : DA X (e :: es) t)
    (hbase : attributeBase o name X.env (eval o X.env) = eval o X.env := by rfl)
    (hfew : ((backTo cpos (starEach (e :: es) X.env)).all (fun x => !x.1) && (backToKw cpos (keywordEach [] X.env)).all (fun x => x.1.isSome)
      && decide ((e :: es).length + ([] : List Keyword).length + (if ([] : List Keyword).isEmpty then 0 else 1) < 30)) = true := by rfl)
    (hline : (apos.endLine == cpos.line) = true := by rfl) (hs : starEach (e :: es) X.env = (false, eval e X.env) :: starEach es X.env := by rfl) (hplain : (backTo cpos (starEach es X.env)).any (·.1) = false := by rfl) :
    DE X (.Call (.Attribute o name apos) (e :: es) [] cpos) (dMt r to t) := (pe_bm F.plainAttrs_list slot hty hm ho ha hbase hfew hline hs hplain).imp fun _ _ _ h => up_mt h
theorem de_append {x : Expr} {tx : DTE} (ho : DE X o to) (ha : DE X x tx)
    (hbase : attributeBase o "append" X.env (eval o X.env) = eval o X.env := by rfl)
    (hfew : ((backTo cpos (starEach [x] X.env)).all (fun x => !x.1) && (backToKw cpos (keywordEach [] X.env)).all (fun x => x.1.isSome)
      && decide ([x].length + ([] : List Keyword).length + (if ([] : List Keyword).isEmpty then 0 else 1) < 30)) = true := by rfl)
    (hline : (apos.endLine == cpos.line) = true := by rfl) (hs : starEach [x] X.env = (false, eval x X.env) :: starEach [] X.env := by rfl) (hplain : (backTo cpos (starEach [] X.env)).any (·.1) = false := by rfl) :
    DE X (.Call (.Attribute o "append" apos) [x] [] cpos) (dMt mAppend to (dCons tx dNil)) := de_mt F.slot_list_append F.type_list_append m_append ho (da_cons ha da_nil hs) hbase hfew hline hs hplain
theorem de_extend {x : Expr} {tx : DTE} (ho : DE X o to) (ha : DE X x tx)
    (hbase : attributeBase o "extend" X.env (eval o X.env) = eval o X.env := by rfl)
    (hfew : ((backTo cpos (starEach [x] X.env)).all (fun x => !x.1) && (backToKw cpos (keywordEach [] X.env)).all (fun x => x.1.isSome)
      && decide ([x].length + ([] : List Keyword).length + (if ([] : List Keyword).isEmpty then 0 else 1) < 30)) = true := by rfl)
    (hline : (apos.endLine == cpos.line) = true := by rfl) (hs : starEach [x] X.env = (false, eval x X.env) :: starEach [] X.env := by rfl) (hplain : (backTo cpos (starEach [] X.env)).any (·.1) = false := by rfl) :
    DE X (.Call (.Attribute o "extend" apos) [x] [] cpos) (dMt mExtend to (dCons tx dNil)) := de_mt F.slot_list_extend F.type_list_extend m_extend ho (da_cons ha da_nil hs) hbase hfew hline hs hplain
end
end Dl
namespace Dl
open PySem L2
@[simp] def dStar (te : DTE) (tr : DTA) : DTA := fun ρ G Q => te ρ G fun x G1 => match sqOf G1 x with
  | some ds => tr ρ G1 fun xs G2 => Q (ds ++ xs) G2
  | none => False
section
variable {X : Cx}
theorem da_star {e : Expr} {es : List Expr} {te : DTE} {t : DTA} {p : Pos} (he : DE X e te) (hr : DA X es t) (hs : starEach (.Starred e p :: es) X.env = (true, eval e X.env) :: starEach es X.env := by rfl) : DA X (.Starred e p :: es) (dStar te t) := by
  refine (StX.pa_star he hr hs).imp fun σ H Q ⟨ρ, G, q, r, h, k⟩ => ?_
  refine ⟨ρ, G, _, r, h, fun v d H1 G1 e1 r1 v1 h1 => ?_⟩
  cases e2 : sqOf G1 d with
  | none => rw [e2] at h1; exact h1.elim
  | some ds =>
    rw [e2] at h1
    obtain ⟨a, xs, rfl, hs, rl⟩ := sq_at r1.gok v1 e2
    refine ⟨a, xs, rfl, hs.symm, ρ, G1, _, r1, h1, fun vs es H2 G2 e3 r2 v2 h2 => ?_⟩
    exact k _ _ H2 G2 (e1.trans e3) r2 ((rl.ext e3).append v2) h2
end
@[simp] def truP (G : GH) (d : D) (P : Bool → Prop) : Prop := match d with
  | .non => P false
  | .bl b => P b
  | .int i => P (i != 0)
  | .str x => x.length ≤ sizeLine ∧ P ((x.length : Int) != 0)
  | .tup l => P (!l.isEmpty)
  | .lst l => P (!l.isEmpty)
  | .ref a => (match G a with
    | some (.lst l) => P (!l.isEmpty)
    | some (.dct l) => P (!l.isEmpty)
    | _ => False)
  | _ => False
@[simp] def dTru (te : DTE) : DTT := fun ρ G Q => te ρ G fun d G1 => truP G1 d fun b => Q b G1
theorem isEmpty_len {α β : Type} {xs : List α} {ys : List β} (h : xs.length = ys.length) : xs.isEmpty = ys.isEmpty := by
  cases xs <;> cases ys <;> simp_all
theorem tru_of {K : PySem.W.Frag} {G : GH} {H : Hp} {d : D} {v : V} {P : Bool → Prop} (g : GOk K G H) (r : RepV K G H d v) (h : truP G d P) : ∃ b, TruV K v H b ∧ P b := by
  cases d with
  | non => cases rv_non r; exact ⟨false, rfl, h⟩
  | bl b => cases rv_bl r; exact ⟨b, rfl, h⟩
  | int i => cases rv_int r; exact ⟨_, rfl, h⟩
  | str x => cases rv_str r; exact ⟨_, ⟨h.1, rfl⟩, h.2⟩
  | tup l =>
    obtain ⟨a, xs, rfl, t, rl⟩ := tp_at r
    exact ⟨_, .inr (.inl ⟨xs, t, rfl⟩), by rw [isEmpty_len rl.length]; exact h⟩
  | lst l =>
    obtain ⟨a, xs, rfl, t, rl⟩ := ls_at g r (ds := l) rfl
    exact ⟨_, .inl ⟨xs, SqL.of t, rfl⟩, by rw [isEmpty_len rl.length]; exact h⟩
  | ref a =>
    cases rv_ref r
    dsimp only [truP] at h
    cases hg : G a with
    | none => rw [hg] at h; exact h.elim
    | some o =>
      rw [hg] at h
      cases o with
      | lst l =>
        obtain ⟨xs, h1, rl⟩ := g a _ hg
        exact ⟨_, .inl ⟨xs, SqL.of h1, rfl⟩, by rw [isEmpty_len rl.length]; exact h⟩
      | dct l =>
        obtain ⟨ws, h1, e1, rl⟩ := g a _ hg
        have hl : ws.length = l.length := by simpa using congrArg List.length e1
        exact ⟨_, .inr (.inr ⟨ws, h1, rfl⟩), by rw [isEmpty_len hl]; exact h⟩
      | raw _ => exact h.elim
      | ins _ _ => exact h.elim
      | dtp _ => exact h.elim
      | tab _ => exact h.elim
      | slt _ _ => exact h.elim
      | dny _ _ _ => exact h.elim
  | _ => exact h.elim
section
variable {X : Cx}
theorem dt_tru {e : Expr} {te : DTE} (h : DE X e te) (he : ∀ whole, isTrue e X.env whole = (do let v ← whole; standAt e.pos; holding [v] (truthy v)) := by intro _; rfl) : DT X e (dTru te) := by
  refine (pt_truth h he).imp fun σ H Q ⟨ρ, G, q, r, h, k⟩ => ?_
  refine ⟨ρ, G, _, r, h, fun v d H1 G1 e1 r1 v1 h1 => ?_⟩
  obtain ⟨b, hb, h2⟩ := tru_of r1.gok v1 h1
  exact ⟨b, hb, k b H1 G1 e1 r1 h2⟩
end
@[simp] def tyD (G : GH) : D → Option String
  | .non => some "NoneType"
  | .bl _ => some "bool"
  | .int _ => some "int"
  | .str _ => some "str"
  | .byt _ => some "bytes"
  | .tup _ => some "tuple"
  | .lst _ => some "list"
  | .ref a => (match G a with
    | some (.lst _) => some "list"
    | some (.dct _) => some "dict"
    | _ => none)
  | .scr _ => none
  | .fn _ _ _ _ => none
  | .exh _ _ _ _ _ => none
@[simp] def subT (a b : String) : Bool := (a == b) || (a == "bool" && b == "int")
@[simp] def dIsi (T : String) (te : DTE) : DTE := fun ρ G Q => te ρ G fun d G1 => match tyD G1 d with
  | some t => Q (.bl (subT t T)) G1
  | none => False
def isiTypes : List String := ["NoneType", "bool", "int", "str", "bytes", "tuple", "list", "dict"]
theorem isi_tab : ∀ a ∈ isiTypes, ∀ b ∈ ["int", "bool", "str", "tuple", "list"], kitB a b = some (subT a b) := by decide +kernel
theorem ty_of {K : PySem.W.Frag} {G : GH} {H : Hp} {d : D} {v : V} {t : String} (g : GOk K G H) (r : RepV K G H d v) (h : tyD G d = some t) : TyX K H v (.type t) ∧ t ∈ isiTypes := by
  cases d with
  | non => cases rv_non r; simp only [tyD, Option.some.injEq] at h; subst h; exact ⟨.base .non, by decide⟩
  | bl b => cases rv_bl r; simp only [tyD, Option.some.injEq] at h; subst h; exact ⟨.base (.bl b), by decide⟩
  | int b => cases rv_int r; simp only [tyD, Option.some.injEq] at h; subst h; exact ⟨.base (.int b), by decide⟩
  | str b => cases rv_str r; simp only [tyD, Option.some.injEq] at h; subst h; exact ⟨.base (.str b), by decide⟩
  | byt b => unfold RepV at r; subst r; simp only [tyD, Option.some.injEq] at h; subst h; exact ⟨.byt b, by decide⟩
  | tup l =>
    unfold RepV at r
    obtain ⟨a, xs, rfl, t, rl⟩ := r
    simp only [tyD, Option.some.injEq] at h
    subst h
    refine ⟨?_, by decide⟩
    rcases t with ⟨_, t⟩ | ⟨_, o, its, n, hk, hc, _⟩
    · exact .base (.tup t)
    · exact .kTuple hk hc
  | lst l =>
    unfold RepV at r
    obtain ⟨a, xs, rfl, t, rl⟩ := r
    simp only [tyD, Option.some.injEq] at h
    subst h
    exact ⟨.base (.lst t.2), by decide⟩
  | ref a =>
    cases rv_ref r
    dsimp only [tyD] at h
    cases hg : G a with
    | none => rw [hg] at h; cases h
    | some o =>
      rw [hg] at h
      cases o with
      | lst l =>
        obtain ⟨xs, h1, rl⟩ := g a _ hg
        simp only [Option.some.injEq] at h
        subst h
        exact ⟨.base (.lst h1), by decide⟩
      | dct l =>
        obtain ⟨ws, h1, _⟩ := g a _ hg
        simp only [Option.some.injEq] at h
        subst h
        exact ⟨.base (.dK h1), by decide⟩
      | raw _ => cases h
      | ins _ _ => cases h
      | dtp _ => cases h
      | tab _ => cases h
      | slt _ _ => cases h
      | dny _ _ _ => cases h
  | scr _ => simp [tyD] at h
  | fn _ _ _ _ => simp [tyD] at h
  | exh _ _ _ _ _ => simp [tyD] at h
section
variable {X : Cx}
theorem de_isi {e : Expr} {te : DTE} {T : String} {Tn : Str} {p pT pos : Pos} (hT : T ∈ ["int", "bool", "str", "tuple", "list"]) (hg : Gl X "isinstance") (hm : X.mg "isinstance" = none) (hgT : Gl X Tn) (hmT : X.mg Tn = none) (hbT : bootBuiltins Tn = some (.type T)) (he : DE X e te)
    (hs : starEach [e, .Name Tn pT] X.env = (false, eval e X.env) :: starEach [.Name Tn pT] X.env := by rfl) (hs2 : starEach [.Name Tn pT] X.env = (false, eval (.Name Tn pT) X.env) :: starEach [] X.env := by rfl) (hpl : (backTo pos (starEach [.Name Tn pT] X.env)).any (·.1) = false := by rfl)
    (hn : Tn ≠ "__name__" := by decide) (hd : (Tn == ("__debug__" : Str)) = false := by decide) :
    DE X (.Call (.Name "isinstance" p) [e, .Name Tn pT] [] pos) (dIsi T te) := by
  refine (pe_callB call_isi hg hm PyProof.Rows.boot_isinstance (pa_cons he (pa_cons (pe_bltn (v := .ty T) hgT hmT hbT rfl hn hd) pa_nil hs2) hs) (he := hs) (hpl := hpl)).imp fun σ H Q ⟨ρ, G, q, r, h, k⟩ => ?_
  refine ⟨ρ, G, _, r, h, fun v d H1 G1 e1 r1 v1 h1 => ?_⟩
  cases e2 : tyD G1 d with
  | none => rw [e2] at h1; exact h1.elim
  | some t =>
    rw [e2] at h1
    obtain ⟨ty, tm⟩ := ty_of r1.gok v1 e2
    exact ⟨v, .ty T, .type t, .type T, subT t T, rfl, .ty T, ty, kit_ty (isi_tab t tm T hT), k _ _ H1 G1 e1 r1 bl_rv h1⟩
end
mutual
def fewD : D → Bool
  | .int i => decide (i.natAbs.log2 < 1920)
  | .tup ds => fewDs ds
  | .lst ds => fewDs ds
  | _ => true
def fewDs : List D → Bool
  | [] => true
  | d :: ds => fewD d && fewDs ds
end
mutual
theorem show_py : ∀ d : D, fewD d = true → (pyD d).showable = true
  | .non, _ => by simp [pyD, PyData.showable]
  | .bl _, _ => by simp [pyD, PyData.showable]
  | .int i, h => by simpa [pyD, PyData.showable, fewD] using h
  | .str x, _ => by simp [pyD, PyData.showable]
  | .tup ds, h => by simpa [pyD, PyData.showable] using shows_py ds (by simpa [fewD] using h)
  | .lst ds, h => by simpa [pyD, PyData.showable] using shows_py ds (by simpa [fewD] using h)
  | .byt _, h => by simp [pyD, PyData.showable]
  | .ref _, h => by simp [pyD, PyData.showable]
  | .scr _, h => by simp [pyD, PyData.showable]
  | .fn _ _ _ _, h => by simp [pyD, PyData.showable]
  | .exh _ _ _ _ _, h => by simp [pyD, PyData.showable]
theorem shows_py : ∀ ds : List D, fewDs ds = true → PyData.showableAll (pyDs ds) = true
  | [], _ => by simp [pyDs, PyData.showableAll]
  | d :: ds, h => by
    simp only [fewDs, Bool.and_eq_true] at h
    simp [pyDs, PyData.showableAll, show_py d h.1, shows_py ds h.2]
end
def shD (d : D) : Str := (pyD d).shown
def isSeqD : D → Bool
  | .tup _ => true
  | .lst _ => true
  | _ => false
structure Shw (d : D) : Prop where
  sq : isSeqD d = true
  ok : okD d
  few : fewD d = true
  len : (shD d).length ≤ sizeLine
@[simp] def rRepr : DRC := fun ds G Q => arg1 ds fun x => Shw (vw G x) ∧ Q (.str (shD (vw G x))) G
section
variable {X : Cx}
theorem c_repr (hgd : X.A.guards = some []) (hu : X.A.units + 70 < cLine) : DCall X (.builtin "repr") rRepr := by
  intro pins s σ H xs us Q I r ⟨G, ds, q, g, rl, h0, k⟩
  obtain ⟨d, rfl, hS, h⟩ := arg1_of h0
  obtain ⟨x, rfl, rx⟩ := repL_1 rl
  obtain ⟨u, rfl, ru⟩ := vals1 r
  have dp := vw_dp g rx hS.ok.1
  obtain ⟨as, rd⟩ := Dp.reads I _ x u dp ru
  obtain ⟨a, rfl⟩ : ∃ a, u = Value.ref a := by
    have hs := hS.sq
    cases e : vw G d with
    | tup l =>
      rw [e] at rd
      simp only [pyD] at rd
      cases rd
      exact ⟨_, rfl⟩
    | lst l =>
      rw [e] at rd
      simp only [pyD] at rd
      cases rd
      exact ⟨_, rfl⟩
    | _ => rw [e] at hs; simp [isSeqD] at hs
  have hnd := PyData.hasDict_of_canLay _ (lay_py _ hS.ok.1)
  have hdep : (pyD (vw G d)).depth ≤ 64 := by rw [depth_py]; exact hS.ok.2
  refine repr_of_reads' rd (show_py _ hS.few) (PyData.noDict_hsm hnd) hgd (by omega) (fun _ _ e => e) (fun h' u' tk hk => ?_) hS.len
  exact ⟨.str _, H, I.kept hk, ⟨_, rfl⟩, k _ _ H G (Ext.refl G H) g str_rv h⟩
end
@[simp] def dPairs : List (DTE × DTE) → DSt → GH → (List (D × D) → GH → Prop) → Prop
  | [], _, G, Q => Q [] G
  | (tk, tv) :: r, ρ, G, Q => tk ρ G fun x G1 => tv ρ G1 fun y G2 => dPairs r ρ G2 fun ps G3 => Q ((x, y) :: ps) G3
def keysD : List (D × D) → Option (List (Key × D))
  | [] => some []
  | p :: r => (match keyD p.1 with
    | some k => (keysD r).map ((k, p.2) :: ·)
    | none => none)
def mergeD (kvs : List (Key × D)) : List (Key × D) → List (Key × D)
  | [] => kvs
  | p :: r => mergeD (putD kvs p.1 p.2) r
@[simp] def dDisp (trs : List (DTE × DTE)) : DTE := fun ρ G Q => ∀ p, G p = none → dPairs trs ρ (updG G p (.dct [])) fun ps G2 => G2 p = some (.dct []) ∧ match keysD ps with
  | some kvs => kvs.length ≤ 15 ∧ Q (.ref p) (updG G2 p (.dct (mergeD [] kvs)))
  | none => False
def upTrs (K : PySem.W.Frag) (trs : List (DTE × DTE)) : List (TE × TE) := trs.map fun p => (up K p.1, up K p.2)
inductive RepP (K : PySem.W.Frag) (G : GH) (H : Hp) : List (D × D) → List (V × V) → Prop
  | nil : RepP K G H [] []
  | cons {d e : D} {x y : V} {ps : List (D × D)} {qs : List (V × V)} : RepV K G H d x → RepV K G H e y → RepP K G H ps qs → RepP K G H ((d, e) :: ps) ((x, y) :: qs)
theorem pairs_up {K : PySem.W.Frag} : ∀ {trs : List (DTE × DTE)} {σ : St} {H : Hp} {ρ : DSt} {G : GH} {Q : List (D × D) → GH → Prop} {Qv : List (V × V) → Hp → Prop}, DRel K σ H ρ G → dPairs trs ρ G Q →
    (∀ qs ps H' G', Ext G H G' H' → DRel K σ H' ρ G' → RepP K G' H' ps qs → Q ps G' → Qv qs H') → tPairs (upTrs K trs) σ H Qv
  | [], σ, H, ρ, G, Q, Qv, r, h, k => k [] [] H G (Ext.refl G H) r .nil h
  | (tk, tv) :: trs, σ, H, ρ, G, Q, Qv, r, h, k => by
    refine ⟨ρ, G, _, r, h, fun x dx H1 G1 e1 r1 v1 h1 => ?_⟩
    refine ⟨ρ, G1, _, r1, h1, fun y dy H2 G2 e2 r2 v2 h2 => ?_⟩
    refine pairs_up r2 h2 fun qs ps H3 G3 e3 r3 v3 h3 => ?_
    exact k _ _ H3 G3 ((e1.trans e2).trans e3) r3 (.cons (v1.ext (e2.trans e3)) (v2.ext e3) v3) h3
theorem keys_rep {K : PySem.W.Frag} {G : GH} {H : Hp} : ∀ {ps : List (D × D)} {qs : List (V × V)} {kvs : List (Key × D)}, RepP K G H ps qs → keysD ps = some kvs → ∃ ws : List (Key × V), qs = ws.map (fun kv => (kV kv.1, kv.2)) ∧ ws.map (·.1) = kvs.map (·.1) ∧ RepL K G H (kvs.map (·.2)) (ws.map (·.2))
  | _, _, kvs, .nil, h => by
    simp only [keysD, Option.some.injEq] at h
    subst h
    exact ⟨[], rfl, rfl, repL_nil⟩
  | _, _, kvs, .cons (d := d) (e := e) (x := x) (y := y) a b c, h => by
    unfold keysD at h
    cases hk : keyD d with
    | none => simp only [hk] at h; cases h
    | some k =>
      simp only [hk, Option.map_eq_some_iff] at h
      obtain ⟨ks, h1, rfl⟩ := h
      obtain ⟨ws, e1, e2, e3⟩ := keys_rep c h1
      refine ⟨(k, y) :: ws, ?_, ?_, ?_⟩
      · rw [key_rep a hk, e1]; rfl
      · simp [e2]
      · exact repL_cons b e3
theorem merge_rep {K : PySem.W.Frag} {G : GH} {H : Hp} : ∀ {kvs : List (Key × D)} {ws : List (Key × V)} {acc : List (Key × D)} {bcc : List (Key × V)}, ws.map (·.1) = kvs.map (·.1) → RepL K G H (kvs.map (·.2)) (ws.map (·.2)) → bcc.map (·.1) = acc.map (·.1) → RepL K G H (acc.map (·.2)) (bcc.map (·.2)) →
    (mergeK bcc ws).map (·.1) = (mergeD acc kvs).map (·.1) ∧ RepL K G H ((mergeD acc kvs).map (·.2)) ((mergeK bcc ws).map (·.2))
  | [], [], _, _, _, _, e, r => ⟨e, r⟩
  | [], _ :: _, _, _, e, _, _, _ => by simp at e
  | _ :: _, [], _, _, e, _, _, _ => by simp at e
  | p :: kvs, q :: ws, acc, bcc, e, r, e2, r2 => by
    simp only [List.map_cons, List.cons.injEq] at e
    simp only [List.map_cons] at r
    unfold RepL at r
    obtain ⟨x, t, e3, h1, h2⟩ := r
    simp only [List.cons.injEq] at e3
    obtain ⟨e4, e5⟩ := e3
    subst e4
    rw [← e5] at h2
    obtain ⟨i1, i2⟩ := putD_rep (k := p.1) h1 e2 r2
    have := merge_rep (acc := putD acc p.1 p.2) (bcc := putK bcc p.1 q.2) e.2 h2 i1 i2
    unfold mergeD
    show (mergeK (putK bcc q.1 q.2) ws).map _ = _ ∧ RepL K G H _ ((mergeK (putK bcc q.1 q.2) ws).map _)
    rw [e.1]
    exact this
section
variable {X : Cx}
abbrev DPs (X : Cx) (pos : Pos) (keys : List (Option Expr)) (values : List Expr) (trs : List (DTE × DTE)) : Prop := PPs X pos keys values (upTrs X.K trs)
theorem dps_nil {pos : Pos} : DPs X pos [] [] [] := pps_nil
theorem dps_cons {pos : Pos} {k v : Expr} {ks : List (Option Expr)} {vs : List Expr} {tk tv : DTE} {trs : List (DTE × DTE)} (hk : DE X k tk) (hv : DE X v tv) (hr : DPs X pos ks vs trs) : DPs X pos (some k :: ks) (v :: vs) ((tk, tv) :: trs) := pps_cons hk hv hr
theorem de_disp {pos : Pos} {keys : List (Option Expr)} {values : List Expr} {trs : List (DTE × DTE)} (h : DPs X pos keys values trs) (hall : keys.all (·.isSome) = true := by rfl) (hl : keys.length = values.length := by rfl) (h0 : keys ≠ [] := by exact List.cons_ne_nil _ _)
    (h15 : keys.length ≤ 15 := by decide) : DE X (.Dict keys values pos) (dDisp trs) := by
  refine (pe_disp h hall hl h0 h15).imp fun σ H Q ⟨ρ, G, q, r, h, k⟩ => fun p hp => ?_
  have e1 : Ext G H (updG G p (.dct [])) (upd H p (.dK [])) := Ext.newG hp
  have g1 : GOk X.K (updG G p (.dct [])) (upd H p (.dK [])) := r.gok.put e1 ⟨[], upd_same, rfl, repL_nil⟩
  refine pairs_up (r.ext e1 g1) (h p (r.gok.fresh hp)) fun qs ps H2 G2 e2 r2 v2 h2 => ?_
  obtain ⟨h3, h4⟩ := h2
  obtain ⟨ws, w1, w2, _⟩ := r2.gok p _ h3
  have ews : ws = [] := by simpa using w2
  subst ews
  refine ⟨w1, ?_⟩
  cases hk : keysD ps with
  | none => rw [hk] at h4; exact h4.elim
  | some kvs =>
    rw [hk] at h4
    obtain ⟨zs, z1, z2, z3⟩ := keys_rep v2 hk
    have hlen : zs.length = kvs.length := by simpa using congrArg List.length z2
    obtain ⟨m1, m2⟩ := merge_rep (acc := []) (bcc := []) z2 z3 rfl repL_nil
    have e3 : Ext G2 H2 (updG G2 p (.dct (mergeD [] kvs))) (upd H2 p (.dK (mergeK [] zs))) := Ext.write h3
    refine ⟨zs, z1, by rw [hlen]; exact h4.1, k _ _ _ _ ((e1.trans e2).trans e3) (r2.ext e3 (r2.gok.put e3 ⟨_, upd_same, m1, m2.ext e3⟩)) ref_rv h4.2⟩
end
section
variable {X : Cx} {k : Nat} {f : Addr} {fd : FuncData} {ps ks : List Str} {sp : DSp} {x : Str} {p pos : Pos} {kws : List Keyword} {tk : DTA} {nm : Option Str} {kpos : Pos} {e : Expr} {te : DTE}
theorem _root_.L2.PK.imp {t t' : TA} (h : PK X kws t) (i : ∀ σ H Q, t' σ H Q → t σ H Q) : PK X kws t' := ⟨fun pos pins s σ H Q I q => h.run pos pins s σ H Q I (i σ H Q q)⟩
abbrev DKw (X : Cx) (kws : List Keyword) (t : DTA) : Prop := PK X kws (upA X.K t)
theorem dk_nil : DKw X [] dNil := (pk_nil (X := X)).imp fun σ H Q ⟨ρ, G, q, r, h, k⟩ => k [] [] H G (Ext.refl G H) r repL_nil h
theorem dk_cons (he : DE X e te) (hr : DKw X kws tk) : DKw X (⟨nm, e, kpos⟩ :: kws) (dCons te tk) := by
  refine (pk_cons he hr).imp fun σ H Q ⟨ρ, G, q, r, h, k⟩ => ?_
  refine ⟨ρ, G, _, r, h, fun v d H1 G1 e1 r1 v1 h1 => ?_⟩
  refine ⟨ρ, G1, _, r1, h1, fun vs ds H2 G2 e2 r2 v2 h2 => ?_⟩
  exact k (v :: vs) (d :: ds) H2 G2 (e1.trans e2) r2 (repL_cons (v1.ext e2) v2) h2
@[simp] def dCallK (sp : DSp) (g : List D → List D) (tk : DTA) : DTE := fun ρ G Q => tk ρ G fun ds G1 => sp (g ds) G1 Q noX
structure KwB (K : PySem.W.Frag) (fd : FuncData) (ps ks : List Str) (g : {α : Type} → List α → List α) : Prop where
  to : ∀ (s : Shared) (ws : List Value), (g ws).length = ps.length → BindsTo s fd ⟨[], ks.zip ws⟩ (ps.zip (g ws))
  vals : ∀ {xs : List V} {us : List Value}, Vals xs us → Vals (g xs) (g us)
  reps : ∀ {G : GH} {H : Hp} {ds : List D} {xs : List V}, RepL K G H ds xs → RepL K G H (g ds) (g xs)
theorem de_callK {g : {α : Type} → List α → List α} (F : DFn X.prog X.w X.K X.mg X.base k f fd ps sp) (hr : Room k X.A) (hgd : X.A.guards = some []) (hg : Gl X x) (hm : X.mg x = some (.ref f)) (hk : PySem.W.keepIn X.K (.ref f) = true) (hb : KwB X.K fd ps ks g)
    (hkw : DKw X kws tk) (hall : (backToKw pos (keywordEach kws X.env)).all (·.1.isSome) = true := by rfl) (hks : (backToKw pos (keywordEach kws X.env)).filterMap (·.1) = ks := by rfl)
    (hdb : (x == ("__debug__" : Str)) = false := by decide) (hpl : ((backTo pos (starEach [] X.env)).any (·.1) || (backToKw pos (keywordEach kws X.env)).any (·.1.isNone)) = false := by rfl) : DE X (.Call (.Name x p) [] kws pos) (dCallK sp g tk) := by
  constructor
  intro pins s σ H Q I h
  obtain ⟨ρ, G, q, r, h, kk⟩ := h
  refine wpAny_Call_Name_kw (ld_glob I hg hm ?_ hdb)
  refine PySem.W.callWith_KW0 (h₀ := X.base) I.ok.mod.kin hk hall ?_ hpl
  refine thn (hkw.run pos pins s σ H (fun zs H1 => toSp X.K sp (g zs) H1 Q E0) I ⟨ρ, G, _, r, h, fun vs ds H1 G1 e1 r1 v1 h1 => ?_⟩) ?_
  · exact sp_at r1 (hb.reps v1) h1 fun v d H' G' e2 r2 v2 h2 => kk v d H' G' (e1.trans e2) r2 v2 h2
  · rintro us s1 ⟨zs, H1, I1, rz, q1⟩
    refine ⟨I1.kIn, ?_⟩
    rw [hks]
    have al : (g us).length = ps.length := (hb.vals rz).length.symm.trans (F.arity _ _ _ _ q1)
    refine wpAny_call (codeAny_mono (F.go X.A X.stack s1 H1 ⟨[], ks.zip us⟩ _ _ Q E0 hr hgd I1.env0 (hb.to s1 us al) (hb.vals rz) q1) ?_)
    intro res s2 hq
    match res, hq with
    | .error er, hq => exact hq.elim
    | .ok (.ret u), hq => exact I1.after hq
end
section
variable {X : Cx}
@[simp] def dCases : List (Option Str × DTS) → D → DTS
  | [], _ => dNext
  | (none, t) :: _, _ => t
  | (some c, t) :: r, d => fun E ρ G => match d with
    | .str z => if z = c then t E ρ G else dCases r d E ρ G
    | _ => False
@[simp] def dMatch (te : DTE) (cs : List (Option Str × DTS)) : DTS := fun E ρ G => te ρ G fun d G1 => dCases cs d E ρ G1
end
end Dl
namespace Dl
open PySem L2
section
open AutoSeq1 (wpAny_loadPart')
end
section
variable {X : Cx}
end
def enumD (ds : List D) : List D := (List.range ds.length).map fun i => D.tup [.int (i : Nat), ds.getD i .non]
theorem enumD_get {ds : List D} {i : Nat} {d : D} (h : (enumD ds)[i]? = some d) : ∃ x, ds[i]? = some x ∧ d = .tup [.int (i : Nat), x] := by
  unfold enumD at h
  rw [List.getElem?_map] at h
  by_cases hi : i < ds.length
  · rw [List.getElem?_range hi] at h
    simp only [Option.map_some, Option.some.injEq] at h
    exact ⟨ds[i], List.getElem?_eq_getElem hi, by rw [← h]; simp [hi]⟩
  · rw [List.getElem?_eq_none (by simpa using hi)] at h
    simp at h
theorem enumD_len (ds : List D) : (enumD ds).length = ds.length := by simp [enumD]
@[simp] def iEnT (te : DTE) : DTI := fun ρ G Q => te ρ G fun d G1 => match d with
  | .tup ds => Q (enumD ds) okAll G1
  | _ => False
section
variable {X : Cx}
end
end Dl
namespace Dl
open PySem PySem.Spec PyProof.Rows L2
end Dl
namespace Dl
open PySem L2
@[simp] def dNeg (te : DTE) : DTE := fun ρ G Q => te ρ G fun d G1 => match d with
  | .int i => Q (.int (-i)) G1
  | _ => False
section
variable {X : Cx}
theorem pi_seq {tg l : Expr} {tl : TE} (hl : PE X l tl) : PI X tg l (fun σ H R => tl σ H fun x H1 => (∃ a, x = .ref a ∧ (∃ xs, SqL X.K H1 a xs) ∧ R (Itl X.K a) H1) ∨ ∃ a, x = .ref a ∧ (∃ xs, SqT X.K H1 a xs) ∧ R (Itt X.K a) H1) := by
  constructor
  intro pins s σ H R I h
  refine thn (hl.run pins s σ H _ I h) ?_
  rintro v s1 ⟨x, H1, I1, r1, q1⟩
  have fp : ∀ b ∈ [s1.heap.objs.size], FpOk X pins H1 b := by
    intro b hb
    obtain rfl : b = s1.heap.objs.size := by simpa using hb
    exact I1.fpOk (Nat.le_refl _) (I1.hok.fresh (Nat.le_refl _))
  rcases q1 with ⟨a, rfl, ⟨xs, hq⟩, q⟩ | ⟨a, rfl, ⟨xs, hq⟩, q⟩
  · cases r1
    obtain ⟨its, rv, p, hz⟩ := I1.list hq
    exact wpAny_pyIter_list p.isList ⟨_, [s1.heap.objs.size], _, _, H1, rfl, I1.kept (t' := s1.toks) (fun b o e => Heap.get?_push_of_some _ e), turn_list a _, ⟨_, Heap.get?_push_size _ rfl, rfl, rfl⟩, fp, q⟩
  · cases r1
    obtain ⟨its, rv, p, hz⟩ := I1.tuple hq
    exact wpAny_pyIter_tuple (show s1.heap.IsTuple a its.toArray from p) ⟨_, [s1.heap.objs.size], _, _, H1, rfl, I1.kept (t' := s1.toks) (fun b o e => Heap.get?_push_of_some _ e), turn_tuple a _, ⟨_, Heap.get?_push_size _ rfl, rfl, rfl⟩, fp, q⟩
@[simp] def iSq (te : DTE) : DTI := fun ρ G Q => te ρ G fun d G1 => match d with
  | .tup ds => Q ds okAll G1
  | .lst ds => Q ds okAll G1
  | .ref a => (match G1 a with
    | some (.lst ds) => Q ds (fun G => G a = some (.lst ds)) G1
    | _ => False)
  | _ => False
theorem di_seq {tg e : Expr} {te : DTE} (he : DE X e te) : DI X tg e (iSq te) := by
  refine (pi_seq he).imp fun σ H R ⟨ρ, G, q, r, h, k⟩ => ?_
  refine ⟨ρ, G, _, r, h, fun v d H1 G1 e1 r1 v1 h1 => ?_⟩
  cases d with
  | tup ds =>
    unfold RepV at v1
    obtain ⟨a, xs, rfl, ta, rl⟩ := v1
    refine .inr ⟨a, rfl, ⟨xs, ta.sq⟩, k _ ds okAll H1 G1 e1 r1 (fun G2 H2 e2 g2 _ i => ⟨fun d hd => ?_, fun hi => ⟨xs, (ta.ext e2).sq, by rw [rl.length]; exact Nat.le_of_eq hi.symm⟩⟩) h1⟩
    obtain ⟨x, hx, rx⟩ := (rl.ext e2).get hd
    refine ⟨⟨xs, x, (ta.ext e2).sq, hx⟩, fun y H3 hy => ?_⟩
    obtain ⟨rfl, hy⟩ := hy
    have e := hy xs (ta.ext e2).sq
    rw [hx] at e
    cases e
    exact ⟨Ext.refl _ _, g2, rx⟩
  | lst ds =>
    unfold RepV at v1
    obtain ⟨a, xs, rfl, ta, rl⟩ := v1
    refine .inl ⟨a, rfl, ⟨xs, ta.sq⟩, k _ ds okAll H1 G1 e1 r1 (fun G2 H2 e2 g2 _ i => ⟨fun d hd => ?_, fun hi => ⟨xs, (ta.ext e2).sq, by rw [rl.length]; exact Nat.le_of_eq hi.symm⟩⟩) h1⟩
    obtain ⟨x, hx, rx⟩ := (rl.ext e2).get hd
    refine ⟨⟨xs, x, (ta.ext e2).sq, hx⟩, fun y H3 hy => ?_⟩
    obtain ⟨rfl, hy⟩ := hy
    have e := hy xs (ta.ext e2).sq
    rw [hx] at e
    cases e
    exact ⟨Ext.refl _ _, g2, rx⟩
  | ref a =>
    cases rv_ref v1
    dsimp only at h1
    cases hg : G1 a with
    | none => rw [hg] at h1; exact h1.elim
    | some o =>
      rw [hg] at h1
      cases o with
      | lst ds =>
        obtain ⟨xs, hx, rx⟩ := r1.gok a _ hg
        refine .inl ⟨a, rfl, ⟨xs, SqL.of hx⟩, k _ ds (fun G => G a = some (.lst ds)) H1 G1 e1 r1 (fun G2 H2 e2 g2 ho i => ?_) h1⟩
        obtain ⟨ys, hy, ry⟩ := g2 a _ ho
        refine ⟨fun d hd => ?_, fun hi => ⟨ys, SqL.of hy, by rw [ry.length]; exact Nat.le_of_eq hi.symm⟩⟩
        obtain ⟨x, hx, rx⟩ := ry.get hd
        refine ⟨⟨ys, x, SqL.of hy, hx⟩, fun z H3 hz => ?_⟩
        obtain ⟨rfl, hz⟩ := hz
        have e := hz ys (SqL.of hy)
        rw [hx] at e
        cases e
        exact ⟨Ext.refl _ _, g2, rx⟩
      | dct _ => exact h1.elim
      | raw _ => exact h1.elim
      | ins _ _ => exact h1.elim
      | dtp _ => exact h1.elim
      | tab _ => exact h1.elim
      | slt _ _ => exact h1.elim
      | dny _ _ _ => exact h1.elim
  | _ => exact h1.elim
end
structure Callee (P : Program) (w : World) (K : PySem.W.Frag) (mg : Str → Option Value) (base : Heap) (k : Nat) (x : Str) (ps : List Str) (sp : DSp) : Prop where
  ex : ∃ f fd, DFn P w K mg base k f fd ps sp ∧ mg x = some (.ref f) ∧ PySem.W.keepIn K (.ref f) = true ∧ Binds K fd ps [] ∧ KwB K fd ps ps (fun l => l)
theorem Callee.up {P : Program} {w : World} {K : PySem.W.Frag} {mg : Str → Option Value} {base : Heap} {j k : Nat} {x : Str} {ps : List Str} {sp : DSp} (C : Callee P w K mg base j x ps sp) (h : j ≤ k) : Callee P w K mg base k x ps sp := by
  obtain ⟨f, fd, F, a⟩ := C.ex
  exact ⟨f, fd, F.up h, a⟩
section
variable {X : Cx} {k : Nat} {x : Str} {ps : List Str} {sp : DSp} {p pos : Pos} {e : Expr} {es : List Expr} {ta : DTA} {kws : List Keyword}
theorem dc (C : Callee X.prog X.w X.K X.mg X.base k x ps sp) (hr : Room k X.A) (hgd : X.A.guards = some []) (hg : Gl X x) (ha : DA X (e :: es) ta) (hdb : (x == ("__debug__" : Str)) = false := by decide)
    (he : starEach (e :: es) X.env = (false, eval e X.env) :: starEach es X.env := by rfl) (hpl : (backTo pos (starEach es X.env)).any (·.1) = false := by rfl) : DE X (.Call (.Name x p) (e :: es) [] pos) (dCall sp ta) := by
  obtain ⟨f, fd, F, hm, hk, hb, _⟩ := C.ex
  exact de_call F hr hgd hg hm hk hb ha hdb he hpl
theorem dc0 (C : Callee X.prog X.w X.K X.mg X.base k x ps sp) (hr : Room k X.A) (hgd : X.A.guards = some []) (hg : Gl X x) (hdb : (x == ("__debug__" : Str)) = false := by decide) : DE X (.Call (.Name x p) [] [] pos) (dCall sp dNil) := by
  obtain ⟨f, fd, F, hm, hk, hb, _⟩ := C.ex
  exact de_call0 F hr hgd hg hm hk hb hdb
theorem dck (C : Callee X.prog X.w X.K X.mg X.base k x ps sp) (hr : Room k X.A) (hgd : X.A.guards = some []) (hg : Gl X x) (hkw : DKw X kws ta) (hall : (backToKw pos (keywordEach kws X.env)).all (·.1.isSome) = true := by rfl)
    (hks : (backToKw pos (keywordEach kws X.env)).filterMap (·.1) = ps := by rfl) (hdb : (x == ("__debug__" : Str)) = false := by decide)
    (hpl : ((backTo pos (starEach [] X.env)).any (·.1) || (backToKw pos (keywordEach kws X.env)).any (·.1.isNone)) = false := by rfl) : DE X (.Call (.Name x p) [] kws pos) (dCall sp ta) := by
  obtain ⟨f, fd, F, hm, hk, _, hb⟩ := C.ex
  exact de_callK (g := fun l => l) F hr hgd hg hm hk hb hkw hall hks hdb hpl
theorem callee_of {P : Program} {w : World} {K : PySem.W.Frag} {mg : Str → Option Value} {base : Heap} {qual : Str} {params : Arguments} {body : List Stmt} {scope : Scope} {f : Addr} {fd : FuncData}
    (F : FunD K x qual params body scope [] [] f fd) (hm : mg x = some (.ref f)) (D : DFn P w K mg base k f fd ps sp)
    (b1 : ∀ (kV doc pm : Value) (an : Option Addr) (cdv ct : Value) (us : List Value), us.length = ps.length → bindArgs (PySem.W.fnOf x qual params body scope .none kV doc pm an cdv ct) ⟨us, []⟩ = pure (ps.zip us))
    (b2 : ∀ (kV doc pm : Value) (an : Option Addr) (cdv ct : Value) (us : List Value), us.length = ps.length → bindArgs (PySem.W.fnOf x qual params body scope .none kV doc pm an cdv ct) ⟨[], ps.zip us⟩ = pure (ps.zip us)) : Callee P w K mg base k x ps sp := by
  refine ⟨f, fd, D, hm, F.kp, F.bindsN b1, ⟨?_, fun r => r, fun r => r⟩⟩
  intro s ws hl
  obtain ⟨oc, od, dV, kV, doc, pm, an, cdv, ct, osl, rfl, lk, hcd, hD, hK⟩ := F.ex
  rcases hD with ⟨_, rfl⟩ | ⟨e, _⟩
  · exact .of_eq (b2 kV doc pm an cdv ct ws hl)
  · exact absurd rfl e
end
mutual
theorem repB_ok {K : PySem.W.Frag} : ∀ {d : D} {u : Value}, repB K d u = true → ∃ v, RelV v u ∧ ∀ G H, RepV K G H d v
  | .non, u, h => by
    unfold repB at h
    cases u with
    | none => exact ⟨.non, rfl, fun _ _ => non_rv⟩
    | _ => cases h
  | .bl b, u, h => by
    unfold repB at h
    cases u with
    | bool c => exact ⟨.bl c, rfl, fun _ _ => by rw [eq_of_beq h]; exact bl_rv⟩
    | _ => cases h
  | .int i, u, h => by
    unfold repB at h
    cases u with
    | int j t => exact ⟨.int i, ⟨t, by rw [of_decide_eq_true h]⟩, fun _ _ => int_rv⟩
    | _ => cases h
  | .str i, u, h => by
    unfold repB at h
    cases u with
    | str j t => exact ⟨.str i, ⟨t, by rw [of_decide_eq_true h]⟩, fun _ _ => str_rv⟩
    | _ => cases h
  | .tup ds, u, h => by
    unfold repB at h
    cases u with
    | ref a =>
      dsimp only at h
      cases q : K.lookup a with
      | none => rw [q] at h; cases h
      | some o =>
        obtain ⟨oc, od, dt, osl⟩ := o
        rw [q] at h
        cases oc with
        | type c =>
          cases dt with
          | seq its n =>
            dsimp only at h
            rw [Bool.and_eq_true, Bool.and_eq_true, Bool.and_eq_true] at h
            obtain ⟨h1, h2, h0, h3⟩ := h
            obtain ⟨xs, rl, rp⟩ := repBs_ok h3
            refine ⟨.ref a, rfl, fun G H => ?_⟩
            have hx : xs = [] → kempB K = true := fun hx => by
              cases ds with
              | nil => simpa using h0
              | cons d ds =>
                have z := rp G H
                unfold RepL at z
                obtain ⟨_, _, e, _⟩ := z
                rw [hx] at e; cases e
            unfold RepV
            exact ⟨a, xs, rfl, .inr ⟨hx, _, its, n, q, by rw [of_decide_eq_true h1], rfl, of_decide_eq_true h2, rl⟩, rp G H⟩
          | _ => cases h
        | _ => cases dt <;> cases h
    | _ => cases h
  | .byt _, u, h => by unfold repB at h; cases h
  | .lst _, u, h => by unfold repB at h; cases h
  | .ref _, u, h => by unfold repB at h; cases h
  | .scr _, u, h => by unfold repB at h; cases h
theorem repBs_ok {K : PySem.W.Frag} : ∀ {ds : List D} {us : List Value}, repBs K ds us = true → ∃ xs, Vals xs us ∧ ∀ G H, RepL K G H ds xs
  | [], [], _ => ⟨[], .nil, fun _ _ => repL_nil⟩
  | [], _ :: _, h => by unfold repBs at h; cases h
  | _ :: _, [], h => by unfold repBs at h; cases h
  | d :: ds, u :: us, h => by
    unfold repBs at h
    rw [Bool.and_eq_true] at h
    obtain ⟨v, r1, p1⟩ := repB_ok h.1
    obtain ⟨xs, r2, p2⟩ := repBs_ok h.2
    exact ⟨v :: xs, .cons r1 r2, fun G H => repL_cons (p1 G H) (p2 G H)⟩
end
theorem dat_ok {K : PySem.W.Frag} {h : Heap} {mg : Str → Option Value} (X : K.In h) (G : h.Ns mainGlobals mg) {x : Str} {d : D} (c : (Fx.dat x d).ok K = true) : ∃ u, mg x = some u ∧ ∃ v, RelV v u ∧ ∀ G H, RepV K G H d v := by
  have c2 : (match PySem.W.nsIn K mainGlobals x with
    | some (some u) => repB K d u
    | _ => false) = true := c
  cases e : PySem.W.nsIn K mainGlobals x with
  | none => rw [e] at c2; cases c2
  | some o =>
    rw [e] at c2
    cases o with
    | none => cases c2
    | some u => exact ⟨u, PySem.W.mg_of X G e, repB_ok c2⟩
section
variable {fx : List Fx} {fn : List He.DefD} {K : PySem.W.Frag}
theorem SaysX.fact (c : SaysX fx fn K) (i : Nat) {f : Fx} (h : fx[i]? = some f := by rfl) : f.ok K = true := by
  have c1 := (He.ba (show ((fx.all fun f => f.ok K) && fn.all fun d => d.ok K) = true from congrArg (fun z : He.AlD => z.1) c)).1
  exact List.all_eq_true.mp c1 f (List.mem_of_getElem? h)
theorem SaysX.def_ (c : SaysX fx fn K) (i : Nat) {d : He.DefD} (h : fn[i]? = some d := by rfl) : ∃ fd, FunD K d.name d.qual d.params d.body d.scope (d.dvs K) (d.kws K) (He.fAd K d.at_) fd := by
  have c2 := (He.ba (show ((fx.all fun f => f.ok K) && fn.all fun d => d.ok K) = true from congrArg (fun z : He.AlD => z.1) c)).2
  have e : fn.map (fun d => He.fnW K d.at_) = fn.map He.DefD.val := congrArg (fun z : He.AlD => z.2) c
  have e2 : (fn.map fun d => He.fnW K d.at_)[i]? = (fn.map He.DefD.val)[i]? := by rw [e]
  rw [List.getElem?_map, List.getElem?_map, h] at e2
  exact He.DefD.funD (Option.some.inj e2) (List.all_eq_true.mp c2 d (List.mem_of_getElem? h))
end
end Dl
namespace Dl
open PySem L2
abbrev DZ := DX → DSt → GH → Prop
abbrev XTE := DZ → DTE
abbrev XTA := DZ → DTA
abbrev XTT := DZ → DTT
abbrev XTS := DZ → DTS
def ZOk (K : PySem.W.Frag) (W : WX) (G : GH) (H : Hp) (Z : DZ) : Prop := ∀ x c od σ' H' ρ' G', Ext G H G' H' → DRel K σ' H' ρ' G' → ExcRep K G' H' x c od → Z x ρ' G' → W c od σ' H'
theorem ZOk.ext {K : PySem.W.Frag} {W : WX} {G G1 : GH} {H H1 : Hp} {Z : DZ} (z : ZOk K W G H Z) (e : Ext G H G1 H1) : ZOk K W G1 H1 Z := fun x c od σ' H' ρ' G' e2 => z x c od σ' H' ρ' G' (e.trans e2)
def upX (K : PySem.W.Frag) (W : WX) (t : XTE) : TE := fun σ H Qv => ∃ ρ G Q Z, DRel K σ H ρ G ∧ t Z ρ G Q ∧ (∀ v d H' G', Ext G H G' H' → DRel K σ H' ρ G' → RepV K G' H' d v → Q d G' → Qv v H') ∧ ZOk K W G H Z
def upXT (K : PySem.W.Frag) (W : WX) (t : XTT) : TT := fun σ H Qv => ∃ ρ G Q Z, DRel K σ H ρ G ∧ t Z ρ G Q ∧ (∀ b H' G', Ext G H G' H' → DRel K σ H' ρ G' → Q b G' → Qv b H') ∧ ZOk K W G H Z
def upXA (K : PySem.W.Frag) (W : WX) (t : XTA) : TA := fun σ H Qv => ∃ ρ G Q Z, DRel K σ H ρ G ∧ t Z ρ G Q ∧ (∀ vs ds H' G', Ext G H G' H' → DRel K σ H' ρ G' → RepL K G' H' ds vs → Q ds G' → Qv vs H') ∧ ZOk K W G H Z
def upXS (K : PySem.W.Frag) (W : WX) (t : XTS) : TS := fun Dv σ H => ∃ (ρ : DSt) (G : GH) (E : DEnds) (Z : DZ), DRel K σ H ρ G ∧ t Z E ρ G ∧
  (∀ σ' ρ' H' G', Ext G H G' H' → DRel K σ' H' ρ' G' → E.nx ρ' G' → Dv.nx σ' H') ∧
  (∀ v d H' G', Ext G H G' H' → GOk K G' H' → RepV K G' H' d v → E.rt d G' → Dv.rt v H') ∧
  (∀ σ' ρ' H' G', Ext G H G' H' → DRel K σ' H' ρ' G' → E.bk ρ' G' → Dv.bk σ' H') ∧
  (∀ σ' ρ' H' G', Ext G H G' H' → DRel K σ' H' ρ' G' → E.ct ρ' G' → Dv.ct σ' H') ∧ ZOk K W G H Z
abbrev XE1 (X : Cx) (W : WX) (e : Expr) (t : XTE) : Prop := PE X e (upX X.K W t)
abbrev XT1 (X : Cx) (W : WX) (e : Expr) (t : XTT) : Prop := PT X e (upXT X.K W t)
abbrev XA1 (X : Cx) (W : WX) (es : List Expr) (t : XTA) : Prop := PA X es (upXA X.K W t)
abbrev XS1 (X : Cx) (W : WX) (st : Stmt) (t : XTS) : Prop := PS X st (upXS X.K W t)
abbrev XSs (X : Cx) (W : WX) (sts : List Stmt) (t : XTS) : Prop := PSs X sts (upXS X.K W t)
section
variable {X : Cx} {W : WX}
@[simp] def xPe (t : DTE) : XTE := fun _ => t
@[simp] def xPa (t : DTA) : XTA := fun _ => t
@[simp] def xPt (t : DTT) : XTT := fun _ => t
@[simp] def xPs (t : DTS) : XTS := fun _ => t
theorem xe_p {e : Expr} {t : DTE} (h : DE X e t) : XE1 X W e (xPe t) := PE.imp h fun σ H Q ⟨ρ, G, q, Z, r, h, k, _⟩ => ⟨ρ, G, q, r, h, k⟩
theorem xa_p {es : List Expr} {t : DTA} (h : DA X es t) : XA1 X W es (xPa t) := PA.imp h fun σ H Q ⟨ρ, G, q, Z, r, h, k, _⟩ => ⟨ρ, G, q, r, h, k⟩
theorem xt_p {e : Expr} {t : DTT} (h : DT X e t) : XT1 X W e (xPt t) := PT.imp h fun σ H Q ⟨ρ, G, q, Z, r, h, k, _⟩ => ⟨ρ, G, q, r, h, k⟩
theorem xs_p {st : Stmt} {t : DTS} (h : DS X st t) : XS1 X W st (xPs t) := PS.imp h fun D σ H ⟨ρ, G, E, Z, r, h, k1, k2, k3, k4, _⟩ => ⟨ρ, G, E, r, h, k1, k2, k3, k4⟩
theorem xss_p {st : List Stmt} {t : DTS} (h : DSs X st t) : XSs X W st (xPs t) := PSs.imp h fun D σ H ⟨ρ, G, E, Z, r, h, k1, k2, k3, k4, _⟩ => ⟨ρ, G, E, r, h, k1, k2, k3, k4⟩
@[simp] def xCons (ta : XTE) (tr : XTA) : XTA := fun Z ρ G Q => ta Z ρ G fun x G1 => tr Z ρ G1 fun xs G2 => Q (x :: xs) G2
theorem xa_cons {e : Expr} {es : List Expr} {te : XTE} {t : XTA} (ha : XE1 X W e te) (hr : XA1 X W es t) (hs : starEach (e :: es) X.env = (false, eval e X.env) :: starEach es X.env := by rfl) : XA1 X W (e :: es) (xCons te t) := by
  refine (pa_cons ha hr hs).imp fun σ H Q ⟨ρ, G, q, Z, r, h, k, z⟩ => ?_
  refine ⟨ρ, G, _, Z, r, h, fun v d H1 G1 e1 r1 v1 h1 => ?_, z⟩
  refine ⟨ρ, G1, _, Z, r1, h1, fun vs ds H2 G2 e2 r2 v2 h2 => ?_, z.ext e1⟩
  exact k (v :: vs) (d :: ds) H2 G2 (e1.trans e2) r2 (repL_cons (v1.ext e2) v2) h2
@[simp] def xOp (r : DR2) (ta tb : XTE) : XTE := fun Z ρ G Q => ta Z ρ G fun x G1 => tb Z ρ G1 fun y G2 => r x y G2 Q
@[simp] def xTup (t : XTA) : XTE := fun Z ρ G Q => t Z ρ G fun xs G1 => xs.length ≤ sizeLine ∧ Q (.tup xs) G1
theorem xe_tup {es : List Expr} {t : XTA} {x1} {pos : Pos} (h : XA1 X W es t) : XE1 X W (.Tuple es x1 pos) (xTup t) := by
  refine (pe_tup h).imp fun σ H Q ⟨ρ, G, q, Z, r, h, k, z⟩ => ?_
  refine ⟨ρ, G, _, Z, r, h, fun vs ds H1 G1 e1 r1 v1 ⟨zl, h1⟩ => ⟨by rw [v1.length]; exact zl, fun p hp => ?_⟩, z⟩
  obtain ⟨e2, r2, v2⟩ := r1.newTup hp v1
  exact k _ _ _ _ (e1.trans e2) r2 v2 h1
@[simp] def xSeq (t u : XTS) : XTS := fun Z E ρ G => t Z { E with nx := u Z E } ρ G
theorem xs_one {st : Stmt} {t : XTS} (h : XS1 X W st t) : XSs X W [st] t := pss_one h
theorem xs_cons {st : Stmt} {rest : List Stmt} {t u : XTS} (h : XS1 X W st t) (h2 : XSs X W rest u) : XSs X W (st :: rest) (xSeq t u) := by
  refine (pss_cons h h2).imp fun D σ H ⟨ρ, G, E, Z, r, h, k1, k2, k3, k4, z⟩ => ?_
  refine ⟨ρ, G, { E with nx := u Z E }, Z, r, h, fun σ' ρ' H' G' e r' h' => ?_, k2, k3, k4, z⟩
  exact ⟨ρ', G', E, Z, r', h', fun a b c d e' => k1 a b c d (e.trans e'), fun a b c d e' => k2 a b c d (e.trans e'), fun a b c d e' => k3 a b c d (e.trans e'), fun a b c d e' => k4 a b c d (e.trans e'), z.ext e⟩
@[simp] def xDrop (te : XTE) : XTS := fun Z E ρ G => te Z ρ G fun _ G1 => E.nx ρ G1
theorem xs_expr {e : Expr} {te : XTE} {pos : Pos} (he : XE1 X W e te) (hs : swapsWith e none pos.line X.env = pure false := by rfl) : XS1 X W (.Expr e pos) (xDrop te) := by
  refine (ps_expr he hs).imp fun D σ H ⟨ρ, G, E, Z, r, h, k1, k2, k3, k4, z⟩ => ?_
  exact ⟨ρ, G, _, Z, r, h, fun v d H' G' e r' v' h' => k1 σ ρ H' G' e r' h', z⟩
@[simp] def xRet (te : XTE) : XTS := fun Z E ρ G => te Z ρ G E.rt
theorem xs_ret {e : Expr} {te : XTE} {pos : Pos} (he : XE1 X W e te) : XS1 X W (.Return (some e) pos) (xRet te) := by
  refine (ps_ret he).imp fun D σ H ⟨ρ, G, E, Z, r, h, _, k2, _, _, z⟩ => ?_
  exact ⟨ρ, G, _, Z, r, h, fun v d H' G' e r' v' h' => k2 v d H' G' e r'.gok v' h', z⟩
@[simp] def xIfS (c : XTT) (t u : XTS) : XTS := fun Z E ρ G => c Z ρ G fun b G1 => if b = true then t Z E ρ G1 else u Z E ρ G1
theorem xs_if {c : Expr} {a b : List Stmt} {tc : XTT} {t u : XTS} {pos : Pos} (hc : XT1 X W c tc) (ha : XSs X W a t) (hb : XSs X W b u) : XS1 X W (.If c a b pos) (xIfS tc t u) := by
  refine (ps_if hc ha hb).imp fun D σ H ⟨ρ, G, E, Z, r, h, k1, k2, k3, k4, z⟩ => ?_
  refine ⟨ρ, G, _, Z, r, h, fun b H1 G1 e1 r1 h1 => ?_, z⟩
  cases b with
  | true => exact ⟨ρ, G1, E, Z, r1, h1, fun a b c d e' => k1 a b c d (e1.trans e'), fun a b c d e' => k2 a b c d (e1.trans e'), fun a b c d e' => k3 a b c d (e1.trans e'), fun a b c d e' => k4 a b c d (e1.trans e'), z.ext e1⟩
  | false => exact ⟨ρ, G1, E, Z, r1, h1, fun a b c d e' => k1 a b c d (e1.trans e'), fun a b c d e' => k2 a b c d (e1.trans e'), fun a b c d e' => k3 a b c d (e1.trans e'), fun a b c d e' => k4 a b c d (e1.trans e'), z.ext e1⟩
@[simp] def xAsg (te : XTE) (g : DTG) : XTS := fun Z E ρ G => te Z ρ G fun x G1 => g x ρ G1 E.nx
theorem xs_set {i : Nat} {x : Str} {e : Expr} {te : XTE} {pos pos' : Pos} (hN : X.N.Nodup) (hi : X.N[i]? = some x) (hx : Loc X.env.scope x) (he : XE1 X W e te) (hs : swapsWith e (some (.Name x pos')) pos.line X.env = pure false := by rfl) (hf : X.fn x = true ∨ X.env.scope.names.lookup x = some .local := by first | exact .inl rfl | exact .inr rfl | assumption) :
    XS1 X W (.Assign [.Name x pos'] e pos) (xAsg te (gNm i)) := by
  refine (ps_set hN hi hx he hs hf).imp fun D σ H ⟨ρ, G, E, Z, r, h, k1, k2, k3, k4, z⟩ => ?_
  refine ⟨ρ, G, _, Z, r, h, fun v d H1 G1 e1 r1 v1 h1 => ?_, z⟩
  exact k1 _ _ H1 G1 e1 (r1.set i v1) h1
end
abbrev XFn (P : Program) (w : World) (K : PySem.W.Frag) (mg : Str → Option Value) (base : Heap) (k : Nat) (f : Addr) (fd : FuncData) (ps : List Str) (sp : DSp) : Prop := GFn P w K mg base (L2.CX P w) k f fd ps (toSp K sp)
section
variable {X : Cx} {W : WX} {CX : CXT} {k : Nat} {f : Addr} {fd : FuncData} {ps : List Str} {x : Str} {p pos : Pos} {e : Expr} {es : List Expr} {E : St → XK}
theorem g_runS {sp : Sp} {pins : List (Addr × Obj)} {σ : St} {H : Hp} {s : Shared} {Q : VK} {us : List Value} {xs : List V} (F : GFn X.prog X.w X.K X.mg X.base CX k f fd ps sp) (hr : Room k X.A) (hgd : X.A.guards = some []) (hb : Binds X.K fd ps []) (hx : PassesAt CX X σ (E σ))
    (I : Inv X pins σ H s) (r : Vals xs us) (h : sp xs H Q (E σ)) : wpAny (model X.prog X.w) X.A (PySem.call (.ref f) us) (EP X pins σ Q) X.xe s := by
  have al : (us ++ []).length = ps.length := by rw [List.append_nil, ← r.length]; exact F.arity _ _ _ _ h
  have bd := hb s us I.kIn al
  rw [List.append_nil] at bd
  refine wpAny_call (codeAny_mono (F.go X.A X.stack s H ⟨us, []⟩ us xs Q (E σ) hr hgd I.env0 bd r h) ?_)
  intro res s2 hq
  match res, hq with
  | .error er, hq => exact hx pins H s er s2 I hq
  | .ok (.ret u), hq => exact I.after hq
theorem gx_call {sp : Sp} {t : TA} (F : GFn X.prog X.w X.K X.mg X.base CX k f fd ps sp) (hr : Room k X.A) (hgd : X.A.guards = some []) (hg : Gl X x) (hm : X.mg x = some (.ref f)) (hk : PySem.W.keepIn X.K (.ref f) = true) (hb : Binds X.K fd ps []) (hx : ∀ σ, PassesAt CX X σ (E σ))
    (ha : PA X (e :: es) t) (hdb : (x == ("__debug__" : Str)) = false := by decide) (he : starEach (e :: es) X.env = (false, eval e X.env) :: starEach es X.env := by rfl) (hpl : (backTo pos (starEach es X.env)).any (·.1) = false := by rfl) :
    PE X (.Call (.Name x p) (e :: es) [] pos) (fun σ H Q => t σ H fun vs H1 => sp vs H1 Q (E σ)) := by
  constructor
  intro pins s σ H Q I h
  refine wpAny_Call_Name_kw (ld_glob I hg hm ?_ hdb)
  refine PySem.W.callWith_K (h₀ := X.base) I.ok.mod.kin hk ?_ he hpl
  refine thn (ha.run pos pins s σ H _ I h) ?_
  rintro us s1 ⟨xs, H1, I1, r, q⟩
  exact ⟨I1.kIn, g_runS F hr hgd hb (hx σ) I1 r q⟩
end
@[simp] def xCall (sp : DSp) (ta : XTA) : XTE := fun Z ρ G Q => ta Z ρ G fun ds G1 => sp ds G1 Q fun x G2 => Z x ρ G2
theorem spx_at {K : PySem.W.Frag} {W : WX} {sp : DSp} {σ : St} {H : Hp} {ρ : DSt} {G : GH} {Q : VK} {q : DK} {Z : DZ} {vs : List V} {ds : List D} (r : DRel K σ H ρ G) (v : RepL K G H ds vs) (h : sp ds G q fun x G2 => Z x ρ G2)
    (k : ∀ v d H' G', Ext G H G' H' → DRel K σ H' ρ G' → RepV K G' H' d v → q d G' → Q v H') (z : ZOk K W G H Z) : toSp K sp vs H Q (WE W σ) :=
  ⟨ds, G, q, _, v, r.gok, h, fun v d H' G' e2 g2 v2 h2 => k v d H' G' e2 (r.ext e2 g2) v2 h2, fun x c od H' G' e2 g2 rx hz => z x c od σ H' ρ G' e2 (r.ext e2 g2) rx hz⟩
structure XCallee (P : Program) (w : World) (K : PySem.W.Frag) (mg : Str → Option Value) (base : Heap) (k : Nat) (x : Str) (ps : List Str) (sp : DSp) : Prop where
  ex : ∃ f fd, XFn P w K mg base k f fd ps sp ∧ mg x = some (.ref f) ∧ PySem.W.keepIn K (.ref f) = true ∧ Binds K fd ps [] ∧ KwB K fd ps ps (fun l => l)
theorem XCallee.up {P : Program} {w : World} {K : PySem.W.Frag} {mg : Str → Option Value} {base : Heap} {j k : Nat} {x : Str} {ps : List Str} {sp : DSp} (C : XCallee P w K mg base j x ps sp) (h : j ≤ k) : XCallee P w K mg base k x ps sp := by
  obtain ⟨f, fd, F, a⟩ := C.ex
  exact ⟨f, fd, F.up h, a⟩
section
variable {X : Cx} {W : WX} {k : Nat} {f : Addr} {fd : FuncData} {ps : List Str} {sp : DSp} {x : Str} {p pos : Pos} {e : Expr} {es : List Expr} {ta : XTA}
theorem xc (C : XCallee X.prog X.w X.K X.mg X.base k x ps sp) (tk : Takes X W) (hr : Room k X.A) (hgd : X.A.guards = some []) (hg : Gl X x) (ha : XA1 X W (e :: es) ta) (hdb : (x == ("__debug__" : Str)) = false := by decide)
    (he : starEach (e :: es) X.env = (false, eval e X.env) :: starEach es X.env := by rfl) (hpl : (backTo pos (starEach es X.env)).any (·.1) = false := by rfl) : XE1 X W (.Call (.Name x p) (e :: es) [] pos) (xCall sp ta) := by
  obtain ⟨f, fd, F, hm, hk, hb, _⟩ := C.ex
  refine (gx_call F hr hgd hg hm hk hb (passAt tk) ha hdb he hpl).imp fun σ H Q ⟨ρ, G, q, Z, r, h, k, z⟩ => ?_
  refine ⟨ρ, G, _, Z, r, h, fun vs ds H1 G1 e1 r1 v1 h1 => ?_, z⟩
  exact spx_at r1 v1 h1 (fun v d H' G' e2 r2 v2 h2 => k v d H' G' (e1.trans e2) r2 v2 h2) (z.ext e1)
end
theorem xfn_of {P : Program} {w : World} {K : PySem.W.Frag} {mg : Str → Option Value} {base : Heap} {x qual : Str} {params : Arguments} {body : List Stmt} {scope : Scope} {dvs : List V} {kws : List (Str × V)} {f : Addr} {fd : FuncData}
    {N ps : List Str} {k : Nat} {sp : DSp} {t : XTS} (F : FunD K x qual params body scope dvs kws f fd) (S : FnScope N ps scope) (len : ∀ ds G Q E, sp ds G Q E → ds.length = ps.length)
    (hbody : ∀ (cdv : Value) (A : Around) (out : List Env) (st : Shared) (H : Hp) (E : XK), Room k (A.deeper (PyProof.Rows.envOfC qual scope st.heap.objs.size f cdv)) → (A.deeper (PyProof.Rows.envOfC qual scope st.heap.objs.size f cdv)).guards = some [] →
      Takes (cxOf (L2.CX P w) P w K mg base N qual scope f cdv A out st H E) (fun c d _ H' => E c d H') → PassesOwn (model P w) (A.deeper (PyProof.Rows.envOfC qual scope st.heap.objs.size f cdv)) (PyProof.Rows.envOfC qual scope st.heap.objs.size f cdv) (cxOf (L2.CX P w) P w K mg base N qual scope f cdv A out st H E).xe →
      XSs (cxOf (L2.CX P w) P w K mg base N qual scope f cdv A out st H E) (fun c d _ H' => E c d H') body t)
    (ok : ∀ ds G Q E, sp ds G Q E → t (fun x _ G' => E x G') { nx := fun _ G' => Q .non G', rt := Q } (startD N.length ds) G) : XFn P w K mg base (k + 1) f fd ps sp := by
  refine gfn_of F S (fun vs H Q E h => ?_) fun cdv A outer s H vs Q E hr hg h => ⟨_, hbody cdv A outer s H E hr hg (takes_of rfl rfl rfl rfl) (passes_of rfl), ?_⟩
  · obtain ⟨ds, G, q, e, rl, _, h, _⟩ := h
    rw [rl.length]
    exact len _ _ _ _ h
  · obtain ⟨ds, G, q, e, rl, g, h, kq, ke⟩ := h
    refine ⟨startD N.length ds, G, _, _, start_rel rl g, ok ds G q e h, ?_, ?_, ?_, ?_, ?_⟩
    · exact fun σ' ρ' H' G' e' r' h' => kq .non .non H' G' e' r'.gok (by unfold RepV; rfl) h'
    · exact fun v d H' G' e' g' v' h' => kq v d H' G' e' g' v' h'
    · exact fun _ _ _ _ _ _ z => z.elim
    · exact fun _ _ _ _ _ _ z => z.elim
    · exact fun x c od σ' H' ρ' G' e' r' rx hz => ke x c od H' G' e' r'.gok rx hz
end Dl
namespace Dl
open PySem L2 PyProof.Rows
structure ExcS (K : PySem.W.Frag) (file : Str) (C f c cc D : Addr) : Prop where
  ox : OexC K C
  ini : PySem.W.findIn K (.ref C) "__init__" = some (some (.ref f))
  fnT : PySem.W.typeIn K (.ref f) = some (.type "function")
  kD : ∃ cd, PySem.W.clsIn K D = some cd
  cell : ∃ a b sl, K.lookup cc = some ⟨a, b, .cell (some (.ref D)), sl⟩
  code : ∃ a b vs sl t fl, K.lookup c = some ⟨a, b, .fields vs, sl⟩ ∧ vs[2]? = some (.str fl t) ∧ ((file : Str) == fl) = true
  sub : PySem.W.mroIn K C (.ref D) = some true
  next : PySem.W.ks_superIn K C D "__init__" = some (some (.builtin veInit))
  isV : PySem.W.subIn K (.ref C) (.type "ValueError") = some true
  noSuper : PySem.W.nsIn K mainGlobals "super" = some none
  noOpq : PySem.W.nsIn K cStatics "thirdparty.any" = some none
section
variable {prog : Program} {w : World} {A : Around} {E : Value → Shared → Prop}
theorem bw_call {nm q : Str} {C N : Addr} {bs bm : List Value} {hd : Bool} {sn : List Str} {sub : List Value} {ab : Bool} {col : Option Bool} {dd : Option Addr} {k0 k1 k2 k3 k5 : Option Value} {s : Shared} {u x t0 : Addr} {us : List Value} {Q : Value → Shared → Prop}
    (hC : s.heap.get? C = some (excClassObj nm q C N bs bm hd sn sub ab col dd k0 k1 k2 k3 k5 "ValueError.__new__")) (hx : s.heap.get? x = some (PySem.HandSPX.excO C t0)) (hu : s.heap.get? u = some (PySem.W.kxs_mw veInit x)) (hl : us.length ≤ sizeLine)
    (h : ∀ h' t1, (∀ b o, b ≠ x → s.heap.get? b = some o → h'.get? b = some o) → h'.get? x = some (PySem.HandSPX.excO C t1) → Q .none { s with heap := h' }) :
    wpAny (model prog w) A (PySem.call (.ref u) us) Q E s := by
  obtain ⟨hp, g, d, tk, os⟩ := s
  refine wpAny_call (codeAny_of_tree (?_ : wpAny _ A.in1 (callAny (.ref u) ⟨us, []⟩) _ _ _))
  unfold callAny
  refine wpAny_bind (wpAny_load hu ?_)
  dsimp only [PySem.W.kxs_mw]
  refine PySem.W.KFB.if_so (by decide) (wpAny_bind (PySem.W.check_bound_init PySem.F.excBase_ValueError.toExcCallFacts hC hx rfl ?_))
  refine wpAny_bind (wpAny_pure (wpAny_pure ⟨plainId_quiet PySem.F.excBase_ValueError.init.plain _, codeAny_builtin PySem.F.excBase_ValueError.initEntry ?_⟩))
  exact PySem.W.exc_init_tree (t0 := t0) (dv := none) (c2 := .none) (c3 := .none) (b4 := .bool false) hx hl fun h' k e _ => h h' _ k e
end
section
variable {X : Cx} {pins : List (Addr × Obj)} {σ : L2.St} {H : Hp} {s : Shared} {C f c cc D a : Addr} {A : Around} {body : List Stmt} {E : Value → Shared → Prop}
theorem super_ok {fd : FuncData} {oc : Value} {od : Option Addr} {osl : Array (Option Value)} {ar : Arg} {e : Expr} {es : List Expr} {ta : TA} {p0 p1 p2 p3 p4 : Pos} {Q : Flow → Shared → Prop}
    (S : ExcS X.K X.prog.main.file C f c cc D) (hA : A = X.A) (hfu : X.env.func = some f) (lf : X.K.lookup f = some ⟨oc, od, .func fd, osl⟩) (hp : (fd.params.posonlyargs ++ fd.params.args).head? = some ar) (hco : X.env.code = .ref c)
    (hks : X.env.kindOf "super" = some .globalImplicit) (hkc : X.env.kindOf "__class__" = some .free) (hka : X.env.kindOf ar.arg = some .local) (hcl : X.env.cells.lookup ("__class__" : Str) = some cc)
    (htop : (X.prog.main.scope.names.lookup ("super" : Str)).isSome = false) (hN : X.N[0]? = some ar.arg) (h0 : σ[0]? = some (some (.ref a))) (I : Inv X pins σ H s) (ea : H a = some (exo a C none))
    (ha : ∀ pins s, Inv X pins σ H s → wpAny (model X.prog X.w) X.A (spliced (backTo p3 (starEach (e :: es) X.env))) (fun us s' => us.length ≤ sizeLine ∧ Inv X pins σ H s') E s)
    (h : ∀ s', Inv X pins σ H s' → Q .next s')
    (hst : starEach (e :: es) X.env = (false, eval e X.env) :: starEach es X.env := by rfl) (hpl : (backTo p3 (starEach es X.env)).any (·.1) = false := by rfl)
    {pl : Sem Bool} (hev : eval (.Call (.Attribute (.Call (.Name "super" p0) [] [] p1) "__init__" p2) (e :: es) [] p3) X.env = (do
      let ov ← attributeBase (.Call (.Name "super" p0) [] [] p1) "__init__" X.env (eval (.Call (.Name "super" p0) [] [] p1) X.env)
      standAt p2.atName
      let (g, first) ← holding [ov] (getMethod ov "__init__" pl)
      callWith p3 g first (backTo p3 (starEach (e :: es) X.env)) []) := by rfl)
    (hi : interactive X.env = false := by rfl) (hs : swapsWith (.Call (.Attribute (.Call (.Name "super" p0) [] [] p1) "__init__" p2) (e :: es) [] p3) none p4.line X.env = pure false := by rfl) :
    _root_.PySem.wpAt (model X.prog X.w) A (.func body X.env) (exec (.Expr (.Call (.Attribute (.Call (.Name "super" p0) [] [] p1) "__init__" p2) (e :: es) [] p3) p4) X.env) Q E s := by
  subst hA
  obtain ⟨nm, q, N, bs, bm, sn, sub, ab, col, dd, k0, k1, k2, k3, k5, lC, hbm⟩ := S.ox.cls
  have kin := I.kIn
  obtain ⟨t1, hx⟩ := exo_at I.hok ea
  obtain ⟨cdD, hcd⟩ := S.kD
  obtain ⟨oD, hD1, hD2⟩ : ∃ oD, X.K.lookup D = some oD ∧ oD.data = .cls cdD := by
    unfold PySem.W.clsIn at hcd
    split at hcd
    · rename_i z
      cases hcd
      exact ⟨_, z, rfl⟩
    · cases hcd
  obtain ⟨ca, cb, csl, lcell⟩ := S.cell
  obtain ⟨da, db, vs, dsl, tf, fl, lcode, hvs, hfile⟩ := S.code
  have nCa : a ≠ C := fun z => by
    subst z
    have y := kin _ _ lC
    rw [hx] at y
    cases y
  refine PySem.ks_wpAt_Expr_any (PySem.ks_wpAt_MethodCall (pl := pl) ?_ hev) hi hs
  refine PySem.ks_wpAt_super_base hks hkc (by decide) hfu (kin _ _ lf) rfl hp hco (kin _ _ lcode) rfl hvs hfile htop ?_
  obtain ⟨mb, b1, b2⟩ := I.mod.blt
  refine PySem.W.ks_loadName_global I.ok.kind hks (Calls.loadGlobal_builtin (by rw [I.ok.glob]; exact I.mod.glob.keeps I.bk) (PySem.W.mg_none_of I.ok.mod.kin I.mod.glob S.noSuper) (by rw [I.ok.blt]; exact b1.keeps I.bk) ((b2 "super" (by decide)).trans (by first | rfl | kernel_rfl | decide +kernel)) ⟨rfl, ?_⟩)
  refine wpAny_loadName_free I.ok.kind hkc hcl ⟨_, kin _ _ lcell, rfl⟩ ?_
  obtain ⟨m, hm, hl⟩ := id I.loc
  obtain ⟨u0, ru, lk⟩ := hl 0 _ _ hN h0 (.inl hka)
  obtain rfl : u0 = Value.ref a := ru
  have hself : m ar.arg = some (.ref a) := by
    rcases lk with ⟨_, z⟩ | ⟨z, _⟩
    · exact z
    · rw [hka] at z
      rcases z with z | z <;> cases z
  refine wpAny_loadName_local I.ok.kind hka hm hself ?_
  obtain ⟨hh, g, d, t, os⟩ := s
  refine PySem.ks_wpAny_isType_cls (kin _ _ hD1) hD2 ⟨rfl, ?_⟩
  refine PySem.ks_wpAny_call_super (kin _ _ hD1) hD2 hx rfl (fun _ z => by cases z) (PySem.W.looks_mroIn kin S.sub) fun h1 e1 kp1 => ?_
  have I1 : Inv X pins σ H ⟨h1, g, d, t, os⟩ := I.kept (t' := t) kp1
  have kin1 := I1.kIn
  have nx := S.next
  unfold PySem.W.ks_superIn at nx
  cases hcC : PySem.W.clsIn X.K C with
  | none => rw [hcC] at nx; cases nx
  | some cd =>
  rw [hcC] at nx
  have LT : PySem.W.Looks (model X.prog X.w) h1 (typeOf (.ref a)) (.ref C) := fun A Q E s k q => wpAny_typeOf_ref (k _ _ (kp1 _ _ hx)) q
  refine PySem.W.kxs_getMethod PySem.W.kxs_ValueError e1 (PySem.W.looks_opaque kin1 S.noOpq) (l₀ := cd.mro) (fun A Q E s k q => wpAny_bind ((PySem.W.looks_clsIn kin1 hcC) A _ E s k (wpAny_pure q))) rfl kin1 nx (LT.andThen (PySem.W.looks_subIn kin1 S.isV)) nCa (by decide) ?_
  have I2 : Inv X pins σ H ⟨h1.push (PySem.W.kxs_mw veInit a), g, d, t + 1, os⟩ := I1.kept (t' := t + 1) fun b o z => Heap.get?_push_of_some _ z
  have hu : (h1.push (PySem.W.kxs_mw veInit a)).get? h1.objs.size = some (PySem.W.kxs_mw veInit a) := Heap.get?_push_size _ rfl
  have nu : H h1.objs.size = none := I1.hok.fresh (Nat.le_refl _)
  have I3 : Inv X (pins ++ [(h1.objs.size, PySem.W.kxs_mw veInit a)]) σ H ⟨h1.push (PySem.W.kxs_mw veInit a), g, d, t + 1, os⟩ := I2.pins_of fun p hp => by
    rcases List.mem_append.mp hp with z | z
    · exact I2.pin p (List.mem_append_right _ z)
    · obtain rfl : p = _ := by simpa using z
      exact ⟨hu, nu, fun y => absurd I1.lt (by rw [← y]; exact Nat.lt_irrefl _), I1.nofs (Nat.le_refl _), fun _ y => by cases y⟩
  dsimp only
  rw [hst] at ha ⊢
  refine PySem.W.kxs_callWith (i := veInit) (x := a) (by show (false || (backTo p3 (starEach es X.env)).any (·.1)) = false; rw [hpl]; rfl) ?_
  refine Calls.evalArgs_plain ?_
  refine wpAny_mono (ha _ _ I3) (fun us s4 ⟨hz, I4⟩ => ?_) fun _ _ y => y
  have hu4 : s4.heap.get? h1.objs.size = some (PySem.W.kxs_mw veInit a) := (I4.pin (h1.objs.size, PySem.W.kxs_mw veInit a) (List.mem_append_right _ (List.mem_append_right _ (List.mem_singleton.mpr rfl)))).1
  obtain ⟨t4, hx4⟩ := exo_at I4.hok ea
  refine ⟨hu4, bw_call (I4.kIn _ _ lC) hx4 hu4 hz fun h5 t5 k5 e5 => h _ ?_⟩
  have J := (I4.unpinned).write (t' := s4.toks) (x := a) (e := a) (o := exo a C none) (by rw [ea]; exact True.intro) (.inl rfl) k5 ⟨_, e5⟩ (exo_ok e5)
  have eu : upd H a (exo a C none) = H := by
    funext b
    by_cases hb : b = a
    · rw [hb, upd_same, ea]
    · rw [upd_ne hb]
  rw [eu] at J
  exact J
end
def nI (xs : List Str) : List Str := ("self" : Str) :: (xs ++ [("__class__" : Str)])
abbrev nfI (qual : Str) (params : Arguments) (body : List Stmt) (scope : Scope) (cc c : Addr) : NdefX.NF := ⟨"__init__", qual, params, body, scope, [(("__class__" : Str), cc)], c⟩
def spI (C : Addr) (fl : List Str) : Sp := fun vs H Q _ => ∃ (a : Addr) (ws : List V), vs = .ref a :: ws ∧ ws.length = fl.length ∧ H a = some (exo a C none) ∧
  ∀ (dx : Addr) (H' : Hp), H dx = none → dx ≠ a → H' a = some (exo a C (some dx)) → H' dx = some (exd dx (fl.zip ws).reverse) → (∀ b, b ≠ a → b ≠ dx → H' b = H b) → Q .non H'
section
open LamX NdefX
variable {P : Program} {w : World} {K : PySem.W.Frag} {mg : Str → Option Value} {base : Heap} {C f c cc D : Addr} {qual : Str} {params : Arguments} {scope : Scope} {xs fl : List Str} {rest : List Stmt} {dV kV doc pm ct oc : Value} {an od : Option Addr} {osl : Array (Option Value)}
theorem xinit_of {k : Nat} {ar : Arg} {e : Expr} {es : List Expr} {p0 p1 p2 p3 p4 : Pos} {ta : TA} {t : TS} (S : ExcS K P.main.file C f c cc D) {st0 : Stmt} (hst0 : st0 = .Expr (.Call (.Attribute (.Call (.Name "super" p0) [] [] p1) "__init__" p2) (e :: es) [] p3) p4)
    (lf : K.lookup f = some ⟨oc, od, .func (PySem.W.fnX "__init__" qual params (st0 :: rest) scope [(("__class__" : Str), cc)] dV kV doc pm an (.ref c) ct), osl⟩) (hcd : PySem.W.codeIn K (.ref c) qual = true)
    (NS : NScope (nI xs) (("self" : Str) :: xs) ["__class__"] scope) (hp : (params.posonlyargs ++ params.args).head? = some ar) (har : ar.arg = ("self" : Str)) (hks : scope.names.lookup ("super" : Str) = some .globalImplicit)
    (htop : (P.main.scope.names.lookup ("super" : Str)).isSome = false) (hfl : fl.length = xs.length) (hfs : xs.length ≤ 1000)
    (hargs : ∀ (A : Around) (outer : List Env) (s : Shared) (H : Hp) (E : XK), PA (ncx CX0 P w K mg base (nI xs) (nfI qual params (st0 :: rest) scope cc c) f A outer s H E) (e :: es) ta)
    (hta : ∀ (a : Addr) (ws : List V) (H : Hp) (Qa : List V → Hp → Prop), ws.length = xs.length → (∀ us, us.length = xs.length → Qa us H) → ta (startF (nI xs) (.ref a :: ws) [none]) H Qa)
    (hrest : ∀ (A : Around) (outer : List Env) (s : Shared) (H : Hp) (E : XK), PSs (ncx CX0 P w K mg base (nI xs) (nfI qual params (st0 :: rest) scope cc c) f A outer s H E) rest t)
    (ht : ∀ (a : Addr) (ws : List V) (H : Hp) (Q : VK), ws.length = xs.length → H a = some (exo a C none) →
      (∀ (dx : Addr) (H' : Hp), H dx = none → dx ≠ a → H' a = some (exo a C (some dx)) → H' dx = some (exd dx (fl.zip ws).reverse) → (∀ b, b ≠ a → b ≠ dx → H' b = H b) → Q .non H') → t { nx := fun _ H' => Q .non H', rt := Q } (startF (nI xs) (.ref a :: ws) [none]) H)
    (hst : ∀ env, starEach (e :: es) env = (false, eval e env) :: starEach es env := by intro _; rfl) (hpl : ∀ env, (backTo p3 (starEach es env)).any (·.1) = false := by intro _; rfl) {pl : Env → Sem Bool}
    (hev : ∀ env, eval (.Call (.Attribute (.Call (.Name "super" p0) [] [] p1) "__init__" p2) (e :: es) [] p3) env = (do
      let ov ← attributeBase (.Call (.Name "super" p0) [] [] p1) "__init__" env (eval (.Call (.Name "super" p0) [] [] p1) env)
      standAt p2.atName
      let (g, first) ← holding [ov] (getMethod ov "__init__" (pl env))
      callWith p3 g first (backTo p3 (starEach (e :: es) env)) []) := by intro _; rfl)
    (hs : ∀ env, swapsWith (.Call (.Attribute (.Call (.Name "super" p0) [] [] p1) "__init__" p2) (e :: es) [] p3) none p4.line env = pure false := by intro _; rfl) :
    FnOk P w K mg base CX0 (k + 1) f (PySem.W.fnX "__init__" qual params (st0 :: rest) scope [(("__class__" : Str), cc)] dV kV doc pm an (.ref c) ct) (("self" : Str) :: xs) (spI C fl) := by
  subst hst0
  refine ⟨fun vs H Q E h => ?_, fun A outer s H args us vs Q E hr e0 hb r hsp => ?_⟩
  · obtain ⟨a, ws, rfl, hl, _⟩ := h
    simp [hl, hfl]
  obtain ⟨a, ws, rfl, hl, ea, hq⟩ := hsp
  have hl' : ws.length = xs.length := hl.trans hfl
  have kin : K.In s.heap := e0.mod.kin.keeps fun b o z => (e0.bs b o z).1
  have lim : s.heap.NoLimit := e0.mod.nolimit.keeps fun b o z => (e0.bs b o z).1
  refine codeAny_call_function hr.depth (kin _ _ lf) rfl NS.co NS.gen rfl (PySem.W.codeRec_of kin hcd) (hb _ _ _ _ ?_)
  refine wpAny_newFunctionEnv NS.nocell (fun ⟨n, _⟩ hy => NS.par n (List.of_mem_zip hy).1) (fun h₁ hns hsb => ⟨lim.fresh _ hsb, PySem.ks_codeAny_funcAt ?_⟩) NS.kind
  have kp : ∀ b o, s.heap.get? b = some o → h₁.get? b = some o := fun b o z => hsb.extBut b o (Nat.ne_of_lt (Heap.lt_size z)) (Heap.get?_push_of_some _ z)
  obtain ⟨ca, cb, csl, lcell⟩ := S.cell
  have nH : ∀ {b : Addr} {o : Obj}, K.lookup b = some o → H b = none := fun {b o} z => (e0.bs b o (e0.mod.kin b o z)).2
  have CA : CellsAt [(("__class__" : Str), cc)] ["__class__"] [none] s.heap H := by
    refine ⟨rfl, fun y d z => ?_, fun x y d z1 z2 => ?_, fun i y z => ?_⟩
    · have q : (("__class__" : Str), d) = (("__class__" : Str), cc) ∧ y = "__class__" := by
        have m := PySem.mem_of_lookup z
        rw [List.mem_singleton] at m
        cases m
        exact ⟨rfl, rfl⟩
      cases q.1
      exact ⟨nH lcell, _, ⟨_, kin _ _ lcell, rfl⟩⟩
    · have m1 := PySem.mem_of_lookup z1
      have m2 := PySem.mem_of_lookup z2
      rw [List.mem_singleton] at m1 m2
      cases m1
      cases m2
      rfl
    · match i, z with
      | 0, z =>
        cases z
        exact ⟨cc, by simp [List.lookup], fun v y => by cases y⟩
  have I0 : Inv (ncx CX0 P w K mg base (nI xs) (nfI qual params (Stmt.Expr (.Call (.Attribute (.Call (.Name "super" p0) [] [] p1) "__init__" p2) (e :: es) [] p3) p4 :: rest) scope cc c) f A outer s H E) [] (startF (nI xs) (.ref a :: ws) [none]) H { s with heap := h₁, toks := s.toks + ((("self" : Str) :: xs).zip us).length } :=
    inv_startN NS hr.hd e0 (by simp [hl']) r CA hns kp
  refine PySem.ks_wpAt_execs_cons ?_
  have kc : ∀ {x : Str} {nk : NameKind}, scope.names.lookup x = some nk → (envF (nfI qual params (Stmt.Expr (.Call (.Attribute (.Call (.Name "super" p0) [] [] p1) "__init__" p2) (e :: es) [] p3) p4 :: rest) scope cc c) f s.heap.objs.size).kindOf x = some nk := fun z => z
  refine super_ok (X := ncx CX0 P w K mg base (nI xs) (nfI qual params (Stmt.Expr (.Call (.Attribute (.Call (.Name "super" p0) [] [] p1) "__init__" p2) (e :: es) [] p3) p4 :: rest) scope cc c) f A outer s H E) (ar := ar) (ta := ta) (pl := pl _)
    S rfl rfl lf hp rfl (kc hks) (kc (NS.frk _ (by simp))) (by rw [har]; exact kc (NS.par _ (by simp))) (by rfl) htop (by rw [har]; rfl) (a := a) (by rfl) I0 ea ?_ ?_ (hst _) (hpl _) (hev _) I0.quiet (hs _)
  · intro pins s3 I3
    refine wpAny_mono ((hargs A outer s H E).run p3 pins s3 _ H (fun us H1 => us.length = xs.length ∧ H1 = H) I3 (hta a ws H _ hl' fun us hu => ⟨hu, rfl⟩)) (fun us s4 hh => ?_) fun _ _ z => z
    obtain ⟨vs4, H4, I4, r4, h4, e4⟩ := hh
    subst e4
    refine ⟨?_, I4⟩
    rw [← r4.length, h4, sizeLine_eq]
    omega
  · intro s5 I5
    refine wpAt_of_wpAny (wpAny_mono ((hrest A outer s H E).run [] s5 _ H _ I5 (ht a ws H Q hl' ea hq)) (fun fl s6 hs6 => ?_) fun _ _ z => z)
    have fin : ∀ {σ' : L2.St} {H' : Hp} {v : V} {u : Value}, Inv (ncx CX0 P w K mg base (nI xs) (nfI qual params (Stmt.Expr (.Call (.Attribute (.Call (.Name "super" p0) [] [] p1) "__init__" p2) (e :: es) [] p3) p4 :: rest) scope cc c) f A outer s H E) [] σ' H' s6 →
        L2.RelV v u → Q v H' → CE outer P w H s Q u s6 := fun J rv q => ⟨_, _, J.os, J.bare, J.base, J.hok, rv, q⟩
    cases fl with
    | ret u =>
      obtain ⟨v, σ', H', J, rv, q⟩ := hs6
      exact fin J rv q
    | next =>
      obtain ⟨σ', H', J, q⟩ := hs6
      exact fin (v := V.non) (u := Value.none) J rfl q
    | brk =>
      obtain ⟨_, _, _, q⟩ := hs6
      exact q.elim
    | cont =>
      obtain ⟨_, _, _, q⟩ := hs6
      exact q.elim
end
end Dl
namespace Dl
open PySem L2 PyProof.Rows LamX NdefX
section
variable {P : Program} {w : World} {K : PySem.W.Frag} {mg : Str → Option Value} {base : Heap} {C f c cc D : Addr} {qual x1 x2 f1 f2 : Str} {params : Arguments} {scope : Scope} {dV kV doc pm ct oc : Value} {an od : Option Addr} {osl : Array (Option Value)}
  {p0 p1 p2 p3 p4 q1 q2 r1 r2 r3 r4 r5 r6 r7 r8 : Pos} {ar : Arg}
abbrev stSup (p0 p1 p2 p3 p4 : Pos) (es : List Expr) : Stmt := .Expr (.Call (.Attribute (.Call (.Name "super" p0) [] [] p1) "__init__" p2) es [] p3) p4
abbrev stKeep (x f : Str) (r1 r2 r3 r4 : Pos) : Stmt := .Assign [.Attribute (.Name "self" r1) f r2] (.Name x r3) r4
theorem xinit2 (S : ExcS K P.main.file C f c cc D)
    (lf : K.lookup f = some ⟨oc, od, .func (PySem.W.fnX "__init__" qual params [stSup p0 p1 p2 p3 p4 [.Name x1 q1, .Name x2 q2], stKeep x1 f1 r1 r2 r3 r4, stKeep x2 f2 r5 r6 r7 r8] scope [(("__class__" : Str), cc)] dV kV doc pm an (.ref c) ct), osl⟩)
    (hcd : PySem.W.codeIn K (.ref c) qual = true) (NS : NScope (nI [x1, x2]) [("self" : Str), x1, x2] ["__class__"] scope) (hp : (params.posonlyargs ++ params.args).head? = some ar) (har : ar.arg = ("self" : Str)) (hks : scope.names.lookup ("super" : Str) = some .globalImplicit)
    (htop : (P.main.scope.names.lookup ("super" : Str)).isSome = false) (n1 : PySem.W.findIn K (.ref C) f1 = some none) (n2 : PySem.W.findIn K (.ref C) f2 = some none)
    (d1 : (x1 == ("__debug__" : Str)) = false) (d2 : (x2 == ("__debug__" : Str)) = false) (e1 : (x1 == ("__classdict__" : Str)) = false) (e2 : (x2 == ("__classdict__" : Str)) = false)
    {pl : Env → Sem Bool} (hev : ∀ env, eval (.Call (.Attribute (.Call (.Name "super" p0) [] [] p1) "__init__" p2) [.Name x1 q1, .Name x2 q2] [] p3) env = (do
      let ov ← attributeBase (.Call (.Name "super" p0) [] [] p1) "__init__" env (eval (.Call (.Name "super" p0) [] [] p1) env)
      standAt p2.atName
      let (g, first) ← holding [ov] (getMethod ov "__init__" (pl env))
      callWith p3 g first (backTo p3 (starEach [.Name x1 q1, .Name x2 q2] env)) []))
    (hsw : ∀ env, swapsWith (.Call (.Attribute (.Call (.Name "super" p0) [] [] p1) "__init__" p2) [.Name x1 q1, .Name x2 q2] [] p3) none p4.line env = pure false) :
    FnOk P w K mg base CX0 1 f (PySem.W.fnX "__init__" qual params [stSup p0 p1 p2 p3 p4 [.Name x1 q1, .Name x2 q2], stKeep x1 f1 r1 r2 r3 r4, stKeep x2 f2 r5 r6 r7 r8] scope [(("__class__" : Str), cc)] dV kV doc pm an (.ref c) ct) [("self" : Str), x1, x2] (spI C [f1, f2]) := by
  have vs : Vis scope ("self" : Str) := .inl (NS.par _ (by simp))
  have v1 : Vis scope x1 := .inl (NS.par _ (by simp))
  have v2 : Vis scope x2 := .inl (NS.par _ (by simp))
  refine xinit_of (k := 0) (xs := [x1, x2]) (fl := [f1, f2]) (ta := tCons (tVar 1) (tCons (tVar 2) tNil)) (t := tSeq (tOst K f1 (tVar 0) (tVar 1)) (tOst K f2 (tVar 0) (tVar 2))) S rfl lf hcd NS hp har hks htop rfl (by simp) ?_ ?_ ?_ ?_ (hev := hev) (hs := hsw)
  · intro A outer s H E
    exact pa_cons (pe_var (i := 1) rfl v1 d1 e1) (pa_cons (pe_var (i := 2) rfl v2 d2 e2) pa_nil)
  · rintro a ws H Qa hw h
    match ws, hw with
    | [u, v], _ => exact ⟨u, rfl, v, rfl, h _ rfl⟩
  · intro A outer s H E
    exact pss_cons (ps_ost (pe_var (i := 0) rfl vs) (pe_var (i := 1) rfl v1 d1 e1)) (pss_one (ps_ost (pe_var (i := 0) rfl vs) (pe_var (i := 2) rfl v2 d2 e2)))
  · rintro a ws H Q hw ea hq
    match ws, hw with
    | [u, v], _ =>
      refine ⟨u, rfl, .ref a, rfl, a, C, rfl, S.ox, n1, .inl ⟨ea, fun dx hd ne => ?_⟩⟩
      refine ⟨v, rfl, .ref a, rfl, a, C, rfl, S.ox, n2, .inr ⟨dx, _, upd_same, by rw [upd_ne ne, upd_same], by show 1 ≤ 900; decide, ?_⟩⟩
      refine hq dx _ hd ne (by rw [upd_ne (Ne.symm ne), upd_same]) upd_same fun b h1 h2 => ?_
      rw [upd_ne h2, upd_ne h1, upd_ne h2]
end
structure XClass (P : Program) (w : World) (K : PySem.W.Frag) (mg : Str → Option Value) (x : Str) (fl : List Str) : Prop where
  ox : OexC K (He.ga K x)
  few : fl.length ≤ 100
  at_ : mg x = some (.ref (He.ga K x))
  made : ∀ base : Heap, ∃ f fd ps, PySem.W.findIn K (.ref (He.ga K x)) "__init__" = some (some (.ref f)) ∧ PySem.W.typeIn K (.ref f) = some (.type "function") ∧ FnOk P w K mg base CX0 1 f fd ps (spI (He.ga K x) fl) ∧ Binds K fd ps []
@[simp] def xRaise (x : Str) (fl : List Str) (ta : XTA) : XTS := fun Z _ ρ G => ta Z ρ G fun ds G1 => ds.length = fl.length ∧ Z ⟨x, (fl.zip ds).reverse⟩ ρ G1
theorem zip_rep {K : PySem.W.Frag} {G : GH} {H : Hp} : ∀ {fl : List Str} {ds : List D} {vs : List V}, RepL K G H ds vs → (fl.zip vs).map (·.1) = (fl.zip ds).map (·.1) ∧ RepL K G H ((fl.zip ds).map (·.2)) ((fl.zip vs).map (·.2))
  | [], ds, vs, _ => by simp [repL_nil]
  | _ :: _, [], vs, h => by unfold RepL at h; subst h; simp [repL_nil]
  | y :: fl, d :: ds, vs, h => by
    unfold RepL at h
    obtain ⟨v, r, rfl, h1, h2⟩ := h
    obtain ⟨e1, e2⟩ := zip_rep (fl := fl) h2
    simp only [List.zip_cons_cons, List.map_cons]
    exact ⟨by rw [e1], repL_cons h1 e2⟩
section
variable {X : Cx} {W : WX} {x : Str} {fl : List Str} {e : Expr} {es : List Expr} {ta : XTA} {p pos pos' : Pos}
theorem xs_raise (C : XClass X.prog X.w X.K X.mg x fl) (hc : X.calm = true) (tk : Takes X W) (hr : Room 2 X.A) (hg : Gl X x) (ha : XA1 X W (e :: es) ta) (hdb : (x == ("__debug__" : Str)) = false := by decide)
    (he : starEach (e :: es) X.env = (false, eval e X.env) :: starEach es X.env := by rfl) (hpl : (backTo pos (starEach es X.env)).any (·.1) = false := by rfl) :
    XS1 X W (.Raise (some (.Call (.Name x p) (e :: es) [] pos)) none pos') (xRaise x fl ta) := by
  obtain ⟨f, fd, ps, h1, h2, F, hb⟩ := C.made X.base
  refine PS.imp (ps_raise hc tk (pmk_oex C.ox h1 h2 F hr hb .nil pass0 hg C.at_ ha hdb he hpl)) fun D σ H ⟨ρ, G, E, Z, r, h, _, _, _, _, z⟩ => ?_
  refine ⟨ρ, G, _, Z, r, h, fun vs ds H1 G1 e1 r1 v1 hh => ?_, z⟩
  obtain ⟨hl, hz⟩ := hh
  have lv := v1.length
  have few := C.few
  refine ⟨by omega, fun a na => ?_⟩
  refine ⟨a, vs, by rw [List.append_nil], by omega, upd_same, fun dx H' hd ne i1 i2 i3 => ?_⟩
  have hd1 : H1 dx = none := by rw [upd_ne ne] at hd; exact hd
  refine ⟨rfl, dx, _, i1, i2, hd1, ?_⟩
  have eH : upd (del H' a) dx (.xd (fl.zip vs).reverse) = upd H1 dx (.xd (fl.zip vs).reverse) := by
    funext b
    by_cases q : b = dx
    · rw [q, upd_same, upd_same]
    · rw [upd_ne q, upd_ne q]
      by_cases q2 : b = a
      · rw [q2, del_same, na]
      · rw [del_ne q2, i3 b q2 q, upd_ne q2]
  rw [eH]
  have ex : Ext G1 H1 G1 (upd H1 dx (.xd (fl.zip vs).reverse)) := Ext.new hd1
  obtain ⟨n1, n2⟩ := zip_rep (fl := fl) (v1.ext ex)
  refine z.ext e1 ⟨x, (fl.zip ds).reverse⟩ _ _ σ _ ρ G1 ex (r1.ext ex (r1.gok.new hd1)) ⟨rfl, dx, _, rfl, r1.gok.fresh hd1, upd_same, ?_, ?_⟩ hz
  · rw [List.map_reverse, List.map_reverse, n1]
  · rw [List.map_reverse, List.map_reverse]
    exact n2.reverse
end
end Dl
namespace Dl
open PySem L2 PyProof.Rows LamX
def lamP (q : Str) (params : Arguments) (body : Expr) (scope : Scope) (cl : List (Str × Addr)) : Addr → Addr → Heap → Prop := fun a c h =>
  ∃ (pm ctv : Value), h.get? a = some (PySem.W.kla_obj "<lambda>" q params body scope cl pm c ctv)
theorem DOk.same {K : PySem.W.Frag} {G : GH} {H H1 : Hp} {a : Addr} {u : DO} (x : DOk K G H a u) (ex : Ext G H G H1) (e : H1 a = H a) : DOk K G H1 a u := by
  cases u with
  | lst ds => obtain ⟨xs, e1, r⟩ := x; exact ⟨xs, e.trans e1, r.ext ex⟩
  | dct kvs => obtain ⟨xs, e1, e2, r⟩ := x; exact ⟨xs, e.trans e1, e2, r.ext ex⟩
  | dtp kvs => obtain ⟨xs, e1, e2, r⟩ := x; exact ⟨xs, e.trans e1, e2, r.ext ex⟩
  | raw w => exact e.trans x
  | ins c fs => obtain ⟨dx, xs, e1, e2, r⟩ := x; exact ⟨dx, xs, e.trans e1, e2, r.ext ex⟩
  | tab q => exact TabD.ext ex x e
  | slt c vs => exact SltD.ext ex x e
  | dny w lk kvs => exact NyD.ext ex x e
section
variable {X : Cx} {pins : List (Addr × Obj)} {σ : L2.St} {H : Hp} {s : Shared}
theorem lam_new {c P : Addr} {ps : Array Value} {params : Arguments} {body : Expr} {scope : Scope} {pos : Pos} {E Q : Value → Shared → Prop} (I : Inv X pins σ H s) (TB : TabB X.base X.mg c P) (hcode : X.env.code = .ref c)
    (hP : H P = some (.tbl ps)) (ht : TriplesOk ps.toList) (hall : ∀ (pos : Pos) (cv : Value), codeAmong pos ps.toList = some cv → ∃ c2, cv = .ref c2 ∧ H c2 = some (CodeO c2 (X.env.qual ++ "<lambda>")))
    (hdef : defaultsOf params X.env = ([], [])) (hfree : ∀ y ∈ scope.names, y.2 = .free → ∃ c, X.env.cells.lookup y.1 = some c)
    (h : ∀ (f c' : Addr) (H1 : Hp) (s' : Shared) (ps' : Array Value), Inv X pins σ H1 s' → H f = none → (∀ b o, H b = some o → b ≠ P → H1 b = some o) → H1 P = some (.tbl ps') → TriplesOk ps'.toList →
      (∀ (pos : Pos) (cv : Value), codeAmong pos ps'.toList = some cv → (cv = .ref c' ∧ H c' = none) ∨ codeAmong pos ps.toList = some cv) → H1 f = some (.ext (lamP (X.env.qual ++ "<lambda>") params body scope (cloFrom X.env.cells scope.names []) f c')) →
      H1 c' = some (CodeO c' (X.env.qual ++ "<lambda>")) → (H c' = none ∨ ∃ pos, codeAmong pos ps.toList = some (.ref c')) → Q (.ref f) s') :
    wpAny (model X.prog X.w) X.A (eval (.Lambda params body scope pos) X.env) Q E s := by
  refine PySem.W.kla_eval hdef ?_
  have bP : s.heap.BuiltinsAt X.mg P := TB.bm.keeps I.bk
  have hP' : s.heap.get? P = some { cls := .none, data := .fields ps } := I.hok P _ hP
  have lay : ∀ {H2 : Hp} {h' : Heap} {t' : Nat} {c' : Addr} {pm ctv : Value}, Inv X pins σ H2 { s with heap := h', toks := t' } →
      Inv X pins σ (upd H2 h'.objs.size (.ext (lamP (X.env.qual ++ "<lambda>") params body scope (cloFrom X.env.cells scope.names []) h'.objs.size c')))
        { s with heap := h'.push (PySem.W.kla_obj "<lambda>" (X.env.qual ++ "<lambda>") params body scope (cloFrom X.env.cells scope.names []) pm c' ctv), toks := t' } := by
    intro H2 h' t' c' pm ctv J
    have hn : (h'.push (PySem.W.kla_obj "<lambda>" (X.env.qual ++ "<lambda>") params body scope (cloFrom X.env.cells scope.names []) pm c' ctv)).get? h'.objs.size = some (PySem.W.kla_obj "<lambda>" (X.env.qual ++ "<lambda>") params body scope (cloFrom X.env.cells scope.names []) pm c' ctv) := Heap.get?_push_size _ rfl
    exact J.laid (t' := t') (fun b o e => Heap.get?_push_of_some _ e) (Nat.le_refl _) ⟨⟨pm, ctv, hn⟩, ⟨_, hn⟩, fun h1 h2 ⟨p1, p2, e1⟩ st => ⟨p1, p2, st _ e1⟩⟩
  cases hc : codeAmong pos ps.toList with
  | none =>
    refine PySem.W.kla_makeFunction (mg := X.mg) (c := c) (P := P) (ps := ps) (closure_ok hfree) I.ok.glob (I.mod.glob.keeps I.bk) hcode (TB.code.keeps I.bk) hP' ht hc TB.gP bP fun c' ctv h' tk hx hge hlt hrec htb => ?_
    obtain ⟨c2, oc, vs, t, e2, hoc, hd, hv⟩ := hrec
    cases e2
    have nC : H c' = none := I.hok.fresh hge
    have I1 := inv_table (t' := tk) (more := #[rawInt pos.line, rawInt pos.col, .ref c']) I hP (fun b o hb e => hx b o hb e) htb hge ⟨oc, vs, t, hoc, hd, hv⟩
    have I2 := lay (pm := (X.mg "__name__").getD .none) (ctv := ctv) (c' := c') I1
    have nF2 := I1.hok.fresh (Nat.le_refl h'.objs.size)
    have nF : H h'.objs.size = none := I.hok.fresh (Nat.le_trans hge (Nat.le_of_lt hlt))
    have nPc : P ≠ c' := ne_of_none hP nC
    have nfP : P ≠ h'.objs.size := ne_of_none hP nF
    have nfc : c' ≠ h'.objs.size := Nat.ne_of_lt hlt
    have eL : (ps ++ #[rawInt pos.line, rawInt pos.col, .ref c']).toList = ps.toList ++ [rawInt pos.line, rawInt pos.col, .ref c'] := by simp
    refine h _ c' _ _ (ps ++ #[rawInt pos.line, rawInt pos.col, .ref c']) I2 nF (fun b o e n => ?_) ?_ ?_ (fun p2 cv hcv => ?_) upd_same ?_ (.inl nC)
    · rw [upd_ne (ne_of_none e nF), upd_ne (ne_of_none e nC), upd_ne n]; exact e
    · rw [upd_ne nfP, upd_ne nPc, upd_same]
    · rw [eL]; exact PySem.TriplesOk_snoc _ _ _ _ ht
    · rw [eL] at hcv
      rcases among_app _ ht hcv with z | z
      · exact .inr z
      · exact .inl ⟨z, nC⟩
    · rw [upd_ne nfc, upd_same]
  | some cv =>
    obtain ⟨c', e, hco⟩ := hall pos cv hc
    subst e
    refine PySem.W.kla_makeFunctionHit (mg := X.mg) (c := c) (P := P) (ps := ps) (closure_ok hfree) I.ok.glob (I.mod.glob.keeps I.bk) hcode (TB.code.keeps I.bk) hP' ht hc bP fun ctv h' tk hx hsz => ?_
    have I1 : Inv X pins σ H { s with heap := h', toks := tk } := I.kept (t' := tk) hx
    have I2 := lay (pm := (X.mg "__name__").getD .none) (ctv := ctv) (c' := c') I1
    have nF : H h'.objs.size = none := I.hok.fresh hsz
    refine h _ c' _ _ ps I2 nF (fun b o e _ => ?_) ?_ ht (fun p2 cv hcv => .inr hcv) upd_same ?_ (.inr ⟨pos, hc⟩)
    · rw [upd_ne (ne_of_none e nF)]; exact e
    · rw [upd_ne (ne_of_none hP nF)]; exact hP
    · rw [upd_ne (ne_of_none hco nF)]; exact hco
end
def dLam (P : Addr) (q : Str) (φ : Addr → Addr → Heap → Prop) : DTE := fun _ G Q => G P = some (.tab q) ∧ Q (.fn q φ (fun _ => False) (fun _ => none)) G
section
variable {X : Cx}
theorem de_lam {c P : Addr} {params : Arguments} {body : Expr} {scope : Scope} {pos : Pos} (TB : TabB X.base X.mg c P) (hcode : X.env.code = .ref c) (hdef : defaultsOf params X.env = ([], []))
    (hfree : ∀ y ∈ scope.names, y.2 = .free → X.env.scope.names.lookup y.1 = some .cell ∨ X.env.scope.names.lookup y.1 = some .free) :
    DE X (.Lambda params body scope pos) (dLam P (X.env.qual ++ "<lambda>") (lamP (X.env.qual ++ "<lambda>") params body scope (cloFrom X.env.cells scope.names []))) := by
  refine ⟨fun pins s σ H Q I ⟨ρ, G, q, r, ⟨gP, h⟩, k⟩ => ?_⟩
  obtain ⟨ps, hP, ht, hall⟩ := r.gok P _ gP
  have has : ∀ y ∈ scope.names, y.2 = .free → ∃ c, X.env.cells.lookup y.1 = some c := fun y hy e => by
    rcases hfree y hy e with z | z
    · exact I.ok.has _ (.inl z)
    · exact I.ok.has _ (.inr z)
  refine lam_new I TB hcode hP ht (fun p cv z => ?_) hdef has fun f c' H1 s' ps' J nF k1 k2 k3 k4 k5 k6 k7 => ?_
  · obtain ⟨c2, e1, _, e2⟩ := hall p cv z
    exact ⟨c2, e1, e2⟩
  have ex : Ext G H G H1 := fun b o e => by
    by_cases n : b = P
    · subst n
      exact ⟨⟨_, k2⟩, fun g => by rw [gP] at g; cases g⟩
    · exact ⟨⟨o, k1 b o e n⟩, fun g => ⟨g, k1 b o e n⟩⟩
  have fr : ∀ {b : Addr}, H b = none → G b = none := fun z => r.gok.fresh z
  have gc : G c' = none := by
    rcases k7 with z | ⟨p, z⟩
    · exact fr z
    · obtain ⟨c2, e1, g, _⟩ := hall p _ z
      cases e1
      exact g
  have gk : GOk X.K G H1 := fun a u e => by
    by_cases n : a = P
    · subst n
      rw [gP] at e
      cases e
      refine ⟨ps', k2, k3, fun p cv z => ?_⟩
      rcases k4 p cv z with ⟨rfl, y⟩ | y
      · exact ⟨c', rfl, fr y, k6⟩
      · obtain ⟨c2, e1, g, e2⟩ := hall p cv y
        refine ⟨c2, e1, g, k1 _ _ e2 fun z => ?_⟩
        subst z
        rw [gP] at g
        cases g
    · obtain ⟨w, ew⟩ := (r.gok a u e).there
      exact (r.gok a u e).same ex ((k1 a w ew n).trans ew.symm)
  refine ⟨.ref f, H1, J, rfl, k _ _ _ _ ex (r.ext ex gk) ?_ h⟩
  unfold RepV
  exact ⟨f, c', rfl, fr nF, k5, gc, k6, fun b o z => by cases z⟩
end
end Dl
namespace Dl
open PySem L2 PyProof.Rows LamX
structure Act where
  q : Str
  φ : Addr → Addr → Heap → Prop
  n0 : Addr → Prop
  H0 : Hp
  tl : DXK → GH → DK → Prop
abbrev Act.d (α : Act) : D := .fn α.q α.φ α.n0 α.H0
@[simp] def xAct (i : Nat) (α : Act) : XTE := fun Z ρ G Q => sl ρ i = some α.d ∧ α.tl (fun x G' => Z x ρ G') G Q
section
variable {X : Cx} {pins : List (Addr × Obj)} {σ : L2.St} {H : Hp} {s : Shared} {ρX : DSt} {GX : GH}
theorem act_of {Ng : List Str} {qg : Str} {sg : Scope} {g : Addr} {cdg : Value} {params : Arguments} {body : Expr} {scope : Scope} {k i : Nat} {a : Str} {pn : List (Addr × Obj)} {xe : Value → Shared → Prop} {W : WX} {t : XTE} {p1 p2 : Pos} {Eg : XK}
    (I : Inv X pins σ H s) (rX : DRel X.K σ H ρX GX) (L : LamS X.env.scope scope) (hbind : ∀ (cl : List (Str × Addr)) (pm cv ctv : Value), bindArgs (PySem.W.kla_fn "<lambda>" (X.env.qual ++ "<lambda>") params body scope cl pm cv ctv) ⟨[], []⟩ = pure [])
    (hr : Room (k + 1) (X.A.deeper (envOfC qg sg s.heap.objs.size g cdg))) (hgd : X.A.guards = some [])
    (tk : Takes ((cxOf CX0 X.prog X.w X.K X.mg X.base Ng qg sg g cdg X.A X.stack s H Eg).tr pn xe) W)
    (hbody : ∀ (A : Around) (outer : List Env) (s : Shared) (H : Hp) (E : XK) (f c' : Addr), Room k (A.deeper (lamEnv X scope s.heap.objs.size f c')) → (A.deeper (lamEnv X scope s.heap.objs.size f c')).guards = some [] →
      Takes (lamCx X A outer s H E scope f c') (fun c d _ H' => E c d H') → XE1 (lamCx X A outer s H E scope f c') (fun c d _ H' => E c d H') body t)
    (hN : Ng[i]? = some a) (hv : Vis sg a) (hd : (a == ("__debug__" : Str)) = false := by decide) (hcd : (a == ("__classdict__" : Str)) = false := by decide) :
    XE1 ((cxOf CX0 X.prog X.w X.K X.mg X.base Ng qg sg g cdg X.A X.stack s H Eg).tr pn xe) W (.Call (.Name a p1) [] [] p2)
      (xAct i ⟨X.env.qual ++ "<lambda>", lamP (X.env.qual ++ "<lambda>") params body scope (cloFrom X.env.cells scope.names []), fun b => GX b = none, H, fun E' G Q => t (fun x _ G' => E' x G') ρX G Q⟩) := by
  refine ⟨fun pinsZ sZ σZ HZ QZ IZ hh => ?_⟩
  obtain ⟨ρ, G, Q, Z, r, ⟨hs, ht⟩, kq, kz⟩ := hh
  obtain ⟨v, hsv, rv⟩ := r.sl hs
  unfold RepV at rv
  obtain ⟨f, c', rfl, gf, hf, gc, hc, keep⟩ := rv
  refine wpAny_Call_Name_kw (thn ((pe_var (pos := p1) (i := i) hN hv hd hcd).run pinsZ sZ σZ HZ (fun v H1 => v = .ref f ∧ H1 = HZ) IZ ⟨.ref f, hsv, rfl, rfl⟩) fun u s1 ⟨w, H1, I1, r1, e1, e2⟩ => ?_)
  subst e1
  rw [e2] at I1
  obtain rfl : u = Value.ref f := r1
  obtain ⟨⟨pm, ctv, of1⟩, _, _⟩ := I1.hok f _ hf
  have ofc : s1.heap.CodeRec (.ref c') (X.env.qual ++ "<lambda>") := by
    obtain ⟨⟨oc, vs, tt, z1, z2, z3⟩, _, _⟩ := I1.hok c' _ hc
    exact ⟨c', oc, vs, tt, rfl, z1, z2, z3⟩
  have ex : Ext GX H G HZ := fun b o z => keep b o z
  have rX' : DRel X.K σ HZ ρX G := rX.ext ex r.gok
  have un : Un (frs X.stack) [] H HZ s.heap s1.heap := I1.base
  refine PySem.W.callWith_F0 ⟨_, _, _, _, of1⟩ ?_
  have rc : codeAny (model X.prog X.w) (X.A.deeper (envOfC qg sg s.heap.objs.size g cdg)) (.call (.ref f) ⟨[], []⟩) (CR (L2.CX X.prog X.w) (envOfC qg sg s.heap.objs.size g cdg :: X.stack) X.prog X.w HZ s1 QZ (fun c d H' => W c d σZ H')) s1 := by
    refine PySem.W.kla_callFunE hr.depth of1 rfl L.co L.gen rfl ofc ?_
    rw [hbind]
    refine wpAny_pure (wpAny_newFunctionEnv (fun y hy => (L.own y hy).2) (fun y hy => absurd hy (by simp)) (fun h₁ hns hsb => ⟨I1.nolimit.fresh _ hsb, ?_⟩) L.kind)
    show codeAny _ _ (.expr body (lamEnv X scope s1.heap.objs.size f c')) _ _
    have kp : ∀ b o, s1.heap.get? b = some o → h₁.get? b = some o := fun b o z => hsb.extBut b o (Nat.ne_of_lt (Heap.lt_size z)) (Heap.get?_push_of_some _ z)
    have J : Inv (lamCx X (X.A.deeper (envOfC qg sg s.heap.objs.size g cdg)) (envOfC qg sg s.heap.objs.size g cdg :: X.stack) s1 HZ (fun c d H' => W c d σZ H') scope f c') [] σ HZ { s1 with heap := h₁, toks := s1.toks + ([] : List (Str × Value)).length } :=
      lam_start2 I L I1.env0 hr.hd un hns kp
    have gdd : ((X.A.deeper (envOfC qg sg s.heap.objs.size g cdg)).deeper (lamEnv X scope s1.heap.objs.size f c')).guards = some [] := hgd
    have hb := hbody _ (envOfC qg sg s.heap.objs.size g cdg :: X.stack) s1 HZ (fun c d H' => W c d σZ H') f c' (hr.deeper _) gdd (takes_of rfl rfl rfl rfl)
    refine PySem.W.kla_codeExpr (wpAny_mono (hb.run [] _ _ HZ QZ J ⟨ρX, G, Q, _, rX', ht, fun v d H' G' e2 r2 v2 h2 => ?_, fun x c od σ' H' ρ' G' e2 r2 rx hz => ?_⟩) (fun v s' hq => ?_) fun e s' hq => hq)
    · exact kq v d H' G' e2 (r.ext e2 r2.gok) v2 h2
    · exact kz x c od σZ H' ρ G' e2 (r.ext e2 r2.gok) rx hz
    · obtain ⟨w', H', J', rv, q⟩ := hq
      exact ⟨w', H', J'.os, J'.bare, J'.base, J'.hok, rv, q⟩
  refine wpAny_call (codeAny_mono rc fun r2 s' hq => ?_)
  cases r2 with
  | error e => exact passAt tk σZ pinsZ HZ s1 e s' I1 hq
  | ok fl =>
    cases fl with
    | ret u => exact I1.after hq
    | next => exact False.elim hq
    | brk => exact False.elim hq
    | cont => exact False.elim hq
end
structure Hearer (P : Program) (w : World) (K : PySem.W.Frag) (mg : Str → Option Value) (base : Heap) (k : Nat) (x : Str) (rH : Act → DTS) (n : Nat) : Prop where
  ex : ∃ (g : Addr) (pg : Arguments) (bg : List Stmt) (sg : Scope) (Ng : List Str) (a : Str) (dV kV doc pm cdv ct oc : Value) (an od : Option Addr) (osl : Array (Option Value)),
    mg x = some (.ref g) ∧ PySem.W.keepIn K (.ref g) = true ∧ K.lookup g = some ⟨oc, od, .func (PySem.W.fnOf x x pg bg sg dV kV doc pm an cdv ct), osl⟩ ∧ PySem.W.codeIn K cdv x = true ∧ L2.Binds K (PySem.W.fnOf x x pg bg sg dV kV doc pm an cdv ct) [a] [] ∧
    FnScope Ng [a] sg ∧ Ng.length = n ∧ Ng[0]? = some a ∧ Vis sg a ∧ (a == ("__debug__" : Str)) = false ∧ (a == ("__classdict__" : Str)) = false ∧
    ∀ (A : Around) (out : List Env) (st : Shared) (H : Hp) (α : Act), Room (k + 1) (A.deeper (envOfC x sg st.heap.objs.size g cdv)) → (A.deeper (envOfC x sg st.heap.objs.size g cdv)).guards = some [] →
      (∀ (W : WX) (pn : List (Addr × Obj)) (xe : Value → Shared → Prop) (p1 p2 : Pos), Takes ((cxOf CX0 P w K mg base Ng x sg g cdv A out st H E0).tr pn xe) W →
        XE1 ((cxOf CX0 P w K mg base Ng x sg g cdv A out st H E0).tr pn xe) W (.Call (.Name a p1) [] [] p2) (xAct 0 α)) →
      DSs (cxOf CX0 P w K mg base Ng x sg g cdv A out st H E0).nox bg (rH α)
structure LamI where
  q : Str
  φ : Addr → Addr → Heap → Prop
  t : XTE
def dHear (rH : Act → DTS) (n : Nat) (Ls : List LamI) (te : DTE) : DTE := fun ρ G Q => te ρ G fun d G1 => ∃ l ∈ Ls, ∃ n0 H0, d = .fn l.q l.φ n0 H0 ∧
  ∀ n1 H1, rH ⟨l.q, l.φ, n1, H1, fun E' G' Q' => l.t (fun x _ G2 => E' x G2) ρ G' Q'⟩ { nx := fun _ G' => Q .non G', rt := Q } (some (.fn l.q l.φ n1 H1) :: List.replicate (n - 1) none) G1
def LamOf (X : Cx) (k : Nat) (l : LamI) : Prop := ∃ (params : Arguments) (body : Expr) (scope : Scope),
  l.q = X.env.qual ++ "<lambda>" ∧ l.φ = lamP (X.env.qual ++ "<lambda>") params body scope (cloFrom X.env.cells scope.names []) ∧ LamS X.env.scope scope ∧
  (∀ (cl : List (Str × Addr)) (pm cv ctv : Value), bindArgs (PySem.W.kla_fn "<lambda>" (X.env.qual ++ "<lambda>") params body scope cl pm cv ctv) ⟨[], []⟩ = pure []) ∧
  ∀ (A : Around) (outer : List Env) (s : Shared) (H : Hp) (E : XK) (f c' : Addr), Room k (A.deeper (lamEnv X scope s.heap.objs.size f c')) → (A.deeper (lamEnv X scope s.heap.objs.size f c')).guards = some [] →
    Takes (lamCx X A outer s H E scope f c') (fun c d _ H' => E c d H') → XE1 (lamCx X A outer s H E scope f c') (fun c d _ H' => E c d H') body l.t
section
variable {X : Cx} {k n : Nat} {x : Str} {rH : Act → DTS} {Ls : List LamI} {e : Expr} {te : DTE} {p pos : Pos}
theorem de_hear (C : Hearer X.prog X.w X.K X.mg X.base k x rH n) (hL : ∀ l ∈ Ls, LamOf X k l) (hr : Room (k + 2) X.A) (hgd : X.A.guards = some []) (hg : Gl X x) (he : DE X e te) (hdb : (x == ("__debug__" : Str)) = false := by decide)
    (hst : starEach [e] X.env = (false, eval e X.env) :: starEach [] X.env := by rfl) (hpl : (backTo pos (starEach [] X.env)).any (·.1) = false := by rfl) : DE X (.Call (.Name x p) [e] [] pos) (dHear rH n Ls te) := by
  obtain ⟨g, pg, bg, sg, Ng, a, dV, kV, doc, pm, cdv, ct, oc, an, od, osl, hm, hk, lk, hcg, hb, Sg, hn, hNg, hva, hd1, hd2, hG⟩ := C.ex
  refine ⟨fun pins s σ H Qv I hh => ?_⟩
  obtain ⟨ρ, G, Q, r, h, kq⟩ := hh
  refine wpAny_Call_Name_kw (ld_glob I hg hm ?_ hdb)
  have ha : DA X [e] (dCons te dNil) := da_cons he da_nil hst
  refine PySem.W.callWith_K (h₀ := X.base) I.ok.mod.kin hk ?_ hst hpl
  let PP : D → GH → Prop := fun d G1 => ∃ l ∈ Ls, ∃ n0 H0, d = .fn l.q l.φ n0 H0 ∧
    ∀ n1 H1, rH ⟨l.q, l.φ, n1, H1, fun E' G' Q' => l.t (fun x _ G2 => E' x G2) ρ G' Q'⟩ { nx := fun _ G' => Q .non G', rt := Q } (some (.fn l.q l.φ n1 H1) :: List.replicate (n - 1) none) G1
  refine thn (ha.run pos pins s σ H (fun vs H1 => ∃ ds G1, Ext G H G1 H1 ∧ DRel X.K σ H1 ρ G1 ∧ RepL X.K G1 H1 ds vs ∧ match ds with | [d] => PP d G1 | _ => False) I
    ⟨ρ, G, fun ds G1 => match ds with | [d] => PP d G1 | _ => False, r, h, fun vs ds H1 G1 e1 r1 v1 h1 => ⟨ds, G1, e1, r1, v1, h1⟩⟩) ?_
  rintro us s1 ⟨xs, H1, I1, rv, ds, G1, e1, r1, v1, h1⟩
  match ds, h1 with
  | [d], h1 =>
    obtain ⟨l, hl, n0, H0, rfl, hrun⟩ := h1
    obtain ⟨params, body, scope, lq, lφ, LS, hbind, hbody⟩ := hL l hl
    unfold RepL at v1
    obtain ⟨v, ys, rfl, v1, v2⟩ := v1
    unfold RepL at v2
    subst v2
    unfold RepV at v1
    obtain ⟨f, c', rfl, gf, hf, gc, hc, _⟩ := v1
    cases rv with
    | @cons _ u _ ur ru rr =>
    cases rr
    obtain rfl : u = Value.ref f := ru
    refine ⟨I1.kIn, ?_⟩
    have rep : RepV X.K G1 H1 (.fn l.q l.φ (fun b => G1 b = none) H1) (.ref f) := by
      unfold RepV
      exact ⟨f, c', rfl, gf, hf, gc, hc, fun b o z => ⟨⟨o, z⟩, fun y => ⟨y, z⟩⟩⟩
    have hne : 0 < Ng.length := by
      rcases Nat.eq_zero_or_pos Ng.length with z | z
      · rw [List.length_eq_zero_iff.mp z] at hNg; cases hNg
      · exact z
    have est : startD Ng.length [(.fn l.q l.φ (fun b => G1 b = none) H1 : D)] = some (.fn l.q l.φ (fun b => G1 b = none) H1) :: List.replicate (n - 1) none := by
      unfold startD
      rw [hn]
      rfl
    have rc : codeAny (model X.prog X.w) X.A (.call (.ref g) ⟨[.ref f], []⟩) (CR CX0 X.stack X.prog X.w H1 s1 Qv E0) s1 := by
      refine run_ofS (N := Ng) (ps := [a]) (us := [.ref f]) (vs := [.ref f]) lk hcg Sg (k := k + 1) hr I1.env0 (hb s1 [.ref f] I1.kIn rfl) (.cons rfl .nil) rfl fun hr' => ?_
      have gdd : (X.A.deeper (envOfC x sg s1.heap.objs.size g cdv)).guards = some [] := hgd
      have B := hG X.A X.stack s1 H1 ⟨l.q, l.φ, fun b => G1 b = none, H1, fun E' G' Q' => l.t (fun x _ G2 => E' x G2) ρ G' Q'⟩ hr' gdd (fun W pn xe p1 p2 tk => by
        rw [lq, lφ]
        exact act_of I1 r1 LS hbind hr' hgd tk hbody hNg hva hd1 hd2)
      refine ⟨_, B.nox, startD Ng.length [.fn l.q l.φ (fun b => G1 b = none) H1], G1, { nx := fun _ G' => Q .non G', rt := Q }, start_rel (repL_one rep) r1.gok, ?_, ?_, ?_, ?_, ?_⟩
      · rw [est]
        exact hrun _ _
      · exact fun σ' ρ' H' G' e' r' h' => kq .non .non H' G' (e1.trans e') (r1.ext e' r'.gok) (by unfold RepV; rfl) h'
      · exact fun v d H' G' e' g' v' h' => kq v d H' G' (e1.trans e') (r1.ext e' g') v' h'
      · exact fun _ _ _ _ _ _ z => z.elim
      · exact fun _ _ _ _ _ _ z => z.elim
    refine wpAny_call (codeAny_mono rc fun r2 s' hq => ?_)
    cases r2 with
    | error e => exact (show False from hq).elim
    | ok fl =>
      cases fl with
      | ret u => exact I1.after hq
      | next => exact False.elim hq
      | brk => exact False.elim hq
      | cont => exact False.elim hq
end
end Dl
namespace Dl
open PySem L2 PyProof.Rows
structure ExT1 (K : PySem.W.Frag) (T : CTab) (c : Str) (as fs : List Str) : Prop where
  cl : (PySem.W.clsIn K (He.ga K c)).isSome = true
  xf : XfC K (He.ga K c)
  ha : PySem.W.findIn K (.ref (He.ga K c)) "__class__" = some (some (.builtin "object.__class__"))
  hn : PySem.W.specialIn K (.builtin "object.__class__") "__get__" = some (some (.builtin "getset_descriptor.__get__"))
  ht : PySem.W.takesIn K (.builtin "object.__class__") = some true
  hm : PySem.W.mroIn K (He.ga K c) (.type "object") = some true
  ve : PySem.W.kitOne K (.ref (He.ga K c)) (.type "ValueError") = some true
  no : ∀ f ∈ fs, PySem.W.findIn K (.ref (He.ga K c)) f = some none
  sub : ∀ t ∈ T.names, PySem.W.kitOne K (.ref (He.ga K c)) (.ref (He.ga K t)) = some (as.contains t) ∧ PySem.W.exmOne K (.ref (He.ga K c)) (.ref (He.ga K t)) = some (as.contains t)
def ExT (K : PySem.W.Frag) (T : CTab) : Prop := ∀ c as fs, (c, as, fs) ∈ T → ExT1 K T c as fs
theorem exTB_ok {K : PySem.W.Frag} {T : CTab} (h : exTB K T = true) : ExT K T := by
  intro c as fs hm
  have h1 := List.all_eq_true.mp h _ hm
  unfold exT1B at h1
  simp only [Bool.and_eq_true, decide_eq_true_eq, List.all_eq_true] at h1
  obtain ⟨a1, a2, a3, a4, a5, a6, a7, a8, a9⟩ := h1
  exact ⟨a1, xfB_ok a2, a3, a4, a5, a6, a7, a8, a9⟩
def dIsX (CT : CTab) (a : Addr) (c : Str) (d : Addr) (te : DTE) (T : Str) : DTE := fun ρ G Q => te ρ G fun v G1 => (∃ ns vs, v = .exh a c d ns vs) ∧ ∃ as fs, (c, as, fs) ∈ CT ∧ T ∈ CT.names ∧ Q (.bl (as.contains T)) G1
def dExf (CT : CTab) (a : Addr) (c : Str) (d : Addr) (te : DTE) (f : Str) : DTE := fun ρ G Q => te ρ G fun v G1 => ∃ ns vs y, v = .exh a c d ns vs ∧ (∃ as fs, (c, as, fs) ∈ CT ∧ f ∈ fs) ∧ (ns.zip vs).lookup f = some y ∧ Q y G1
theorem zip_look {K : PySem.W.Frag} {G : GH} {H : Hp} {f : Str} : ∀ {ns : List Str} {vs : List D} {ws : List (Str × V)} {y : D}, ws.map (·.1) = ns → RepL K G H vs (ws.map (·.2)) → (ns.zip vs).lookup f = some y → ∃ v, ws.lookup f = some v ∧ RepV K G H y v
  | [], _, _, _, _, _, h => by simp at h
  | _ :: _, [], _, _, _, _, h => by simp at h
  | n :: ns, d :: vs, ws, y, e, r, h => by
    match ws, e, r with
    | [], e, _ => simp at e
    | (m, v) :: ws, e, r =>
      simp only [List.map_cons, List.cons.injEq] at e r
      unfold RepL at r
      obtain ⟨x, t, e1, r1, r2⟩ := r
      simp only [List.cons.injEq] at e1
      obtain ⟨rfl, rfl⟩ := e1
      obtain ⟨rfl, e9⟩ := e
      simp only [List.zip_cons_cons, List.lookup_cons] at h ⊢
      cases q : (f == m) with
      | true =>
        rw [q] at h
        cases h
        exact ⟨v, rfl, r1⟩
      | false =>
        rw [q] at h
        exact zip_look e9 r2 h
section
variable {X : Cx} {CT : CTab} {a d : Addr} {c T f : Str} {oe : Obj} {pn : List (Addr × Obj)} {e : Expr} {te : DTE} {p pt pos : Pos}
theorem inst_exh (hz : Zc (.ref (He.ga X.K c)) (some d) oe) (hf : ∃ vs, oe.data = .fields vs) {pins : List (Addr × Obj)} {σ : L2.St} {H : Hp} {s : Shared} {ws : List (Str × V)} (I : Inv (X.suite a ((a, oe) :: pn)) pins σ H s) (hx : H d = some (.xd ws)) :
    ∃ od, PySem.W.InstAt s.heap a oe (He.ga X.K c) (some od) := by
  obtain ⟨hget, _⟩ := I.pin (a, oe) (List.mem_append.mpr (.inl List.mem_cons_self))
  obtain ⟨vs, hv⟩ := hf
  have ox : ObjOk X.prog X.w H s.heap d (.xd ws) := I.hok d _ hx
  obtain ⟨mA, ⟨od, es, ep, ho, hr⟩, _⟩ := ox
  refine ⟨od, ?_⟩
  obtain ⟨oc, odd, oda, osl⟩ := oe
  obtain ⟨z1, z2⟩ := hz
  dsimp only at z1 z2 hv
  subst z1 z2 hv
  exact ⟨hget, rfl, rfl, ho⟩
theorem call_isX (ET : ExT X.K CT) (hz : Zc (.ref (He.ga X.K c)) (some d) oe) (hf : ∃ vs, oe.data = .fields vs) : CallR (X.suite a ((a, oe) :: pn)) (.builtin "isinstance") (fun xs H Q => ∃ (as fs : List Str) (ws : List (Str × V)) (v : V) (b : Bool), xs = [V.ref a, v] ∧ (c, as, fs) ∈ CT ∧ H d = some (.xd ws) ∧
    ((∃ cv, (∀ u, RelV v u → u = cv) ∧ PySem.W.kitOne X.K (.ref (He.ga X.K c)) cv = some b) ∨ ∃ (t : Addr) (cs : List Addr), v = V.ref t ∧ H t = some (.tup (cs.map V.ref)) ∧ PySem.W.kitAny X.K (.ref (He.ga X.K c)) (cs.map Value.ref) = some b) ∧ Q (.bl b) H) := by
  intro pins s σ H xs us Q I r h
  obtain ⟨as, fs, ws, v, b, rfl, m1, hx, hc, q⟩ := h
  have E1 := ET c as fs m1
  obtain ⟨od, J⟩ := inst_exh hz hf I hx
  cases r with
  | @cons _ u1 _ ur1 rx rr =>
  cases rr with
  | @cons _ u2 _ ur2 rt rr =>
  cases rr
  obtain rfl : u1 = Value.ref a := rx
  have KX := PySem.W.kitx_exc (x := a) (ox := oe) (od := some od) E1.cl E1.xf.ga E1.xf.gg E1.xf.exC E1.ha E1.hn E1.ht E1.hm
  rcases hc with ⟨cv, h1, h2⟩ | ⟨t, cs, rfl, ht, h2⟩
  · rw [h1 _ rt]
    exact PySem.W.kia_one KX I.kIn J h2 (fun z => nomatch z) fun tk => ⟨.bl b, H, I.kept (t' := tk) fun _ _ z => z, rfl, q⟩
  · obtain rfl : u2 = Value.ref t := rt
    obtain ⟨hsz, its, rv, ⟨ot, p1, p2, n, p3⟩⟩ := I.hok t _ ht
    have e : its = cs.map Value.ref := by
      clear h2 ht p1 p2 p3 hsz
      induction cs generalizing its with
      | nil => cases rv; rfl
      | cons y ys ih =>
        simp only [List.map_cons] at rv
        cases rv with
        | cons r1 r2 =>
          rw [ih _ r2]
          cases r1
          rfl
    subst e
    obtain ⟨tc, tdd, tda, tsl⟩ := ot
    dsimp only at p2 p3
    subst p2 p3
    exact PySem.W.kia_tup KX I.kIn J p1 h2 (fun z => nomatch z) fun tk => ⟨.bl b, H, I.kept (t' := tk) fun _ _ z => z, rfl, q⟩
theorem de_isX (ET : ExT X.K CT) (hz : Zc (.ref (He.ga X.K c)) (some d) oe) (hf : ∃ vs, oe.data = .fields vs) (hI : Gl X "isinstance") (mI : X.mg "isinstance" = none) (hT : Gl X T) (mT : X.mg T = some (.ref (He.ga X.K T))) (he : DE (X.suite a ((a, oe) :: pn)) e te)
    (hdb : (T == ("__debug__" : Str)) = false := by decide) (h1 : starEach [e, .Name T pt] X.env = (false, eval e X.env) :: starEach [.Name T pt] X.env := by rfl) (hpl : (backTo pos (starEach [.Name T pt] X.env)).any (·.1) = false := by rfl)
    (h2 : starEach [.Name T pt] X.env = (false, eval (.Name T pt) X.env) :: starEach [] X.env := by rfl) :
    DE (X.suite a ((a, oe) :: pn)) (.Call (.Name "isinstance" p) [e, .Name T pt] [] pos) (dIsX CT a c d te T) := by
  have hp : PE (X.suite a ((a, oe) :: pn)) (.Name T pt) (tC (.ref (He.ga X.K T))) := pe_glob hT mT rfl hdb
  refine (pe_callB (X := X.suite a ((a, oe) :: pn)) (call_isX ET hz hf) hI mI (by first | rfl | kernel_rfl) (pa_cons he (pa_cons hp pa_nil h2) h1) (he := h1) (hpl := hpl)).imp fun σ H Q ⟨ρ, G, q, r, h, k⟩ => ?_
  refine ⟨ρ, G, _, r, h, fun v dv H1 G1 e1 r1 v1 hh => ?_⟩
  obtain ⟨⟨ns, vs, rfl⟩, as, fs, m1, m2, hq⟩ := hh
  unfold RepV at v1
  obtain ⟨ws, rfl, gd, hd, _, _⟩ := v1
  exact ⟨as, fs, ws, _, _, rfl, m1, hd, .inl ⟨_, fun u z => z, ((ET c as fs m1).sub T m2).1⟩, k _ _ H1 G1 e1 r1 (by unfold RepV; rfl) hq⟩
theorem de_exf (ET : ExT X.K CT) (hz : Zc (.ref (He.ga X.K c)) (some d) oe) (hf : ∃ vs, oe.data = .fields vs) (hm : ∃ as fs, (c, as, fs) ∈ CT ∧ f ∈ fs) (he : DE (X.suite a ((a, oe) :: pn)) e te) (hb : attributeBase e f X.env (eval e X.env) = eval e X.env := by rfl) :
    DE (X.suite a ((a, oe) :: pn)) (.Attribute e f pos) (dExf CT a c d te f) := by
  obtain ⟨as, fs, m1, m2⟩ := hm
  have E1 := ET c as fs m1
  refine (pe_xf E1.xf (E1.no f m2) hz hf he hb).imp fun σ H Q ⟨ρ, G, q, r, h, k⟩ => ?_
  refine ⟨ρ, G, _, r, h, fun v dv H1 G1 e1 r1 v1 hh => ?_⟩
  obtain ⟨ns, vs, y, rfl, _, hl, hq⟩ := hh
  unfold RepV at v1
  obtain ⟨ws, rfl, gd, hd, n1, rl⟩ := v1
  obtain ⟨u, hu, ru⟩ := zip_look n1 rl hl
  exact ⟨rfl, rfl, d, ws, u, rfl, hd, hu, k _ _ H1 G1 e1 r1 ru hq⟩
theorem de_exfA (ET : ExT X.K CT) (hz : Zc (.ref (He.ga X.K c)) (some d) oe) (hf : ∃ vs, oe.data = .fields vs) (he : DE (X.suite a ((a, oe) :: pn)) e te) (hb : attributeBase e f X.env (eval e X.env) = eval e X.env := by rfl) :
    DE (X.suite a ((a, oe) :: pn)) (.Attribute e f pos) (dExf CT a c d te f) := by
  by_cases hm : ∃ as fs, (c, as, fs) ∈ CT ∧ f ∈ fs
  · exact de_exf ET hz hf hm he hb
  · refine ⟨fun pins s σ H Q I hh => ?_⟩
    obtain ⟨ρ, G, q, r, h, k⟩ := hh
    refine attr_of hb (thn (he.run pins s σ H (fun _ _ => False) I ⟨ρ, G, _, r, h, fun v dv H1 G1 e1 r1 v1 hh => ?_⟩) fun u s1 z => ?_)
    · obtain ⟨ns, vs, y, rfl, m, _⟩ := hh
      exact hm m
    · obtain ⟨_, _, _, _, q⟩ := z
      exact q.elim
end
theorem DRel.unset {K : PySem.W.Frag} {σ : L2.St} {H : Hp} {ρ : DSt} {G : GH} (r : DRel K σ H ρ G) (i : Nat) : DRel K (σ.set i none) H (ρ.set i none) G := by
  have z := r.wipe [i]
  exact z
def dTry (CT : CTab) (T : Str) (i : Nat) (tb : XTS) (ts : Addr → Str → Addr → DTS) : DTS := fun E ρ G => tb (fun x ρ' G' => (∃ as fs, (x.cls, as, fs) ∈ CT ∧ as.contains T = true) ∧
  ∀ a d, ts a x.cls d { nx := fun ρ2 G2 => E.nx (ρ2.set i none) G2, rt := E.rt, bk := fun ρ2 G2 => E.bk (ρ2.set i none) G2, ct := fun ρ2 G2 => E.ct (ρ2.set i none) G2 } (ρ'.set i (some (.exh a x.cls d (x.fs.map (·.1)) (x.fs.map (·.2))))) G') E ρ G
section
variable {X : Cx} {CT : CTab} {T n : Str} {i : Nat} {body suite : List Stmt} {b₀ : Stmt} {np pos pos' : Pos} {tb : XTS} {ts : Addr → Str → Addr → DTS}
theorem ds_try (ET : ExT X.K CT) (hs : X.stack = X.env :: X.outer) (hf : X.env.frame = some X.env.locals) (hN : X.N.Nodup) (hi : X.N[i]? = some n) (hln : X.env.kindOf n = some .local) (hT : Gl X T) (mT : X.mg T = some (.ref (He.ga X.K T))) (hTn : T ∈ CT.names)
    (hb : ∀ (W : WX) (pn : List (Addr × Obj)) (xe : Value → Shared → Prop), Takes (X.tr pn xe) W → PassesOwn (model X.prog X.w) X.A X.env xe → XSs (X.tr pn xe) W body tb)
    (hsu : ∀ (a : Addr) (oe : Obj) (c : Str) (d : Addr) (pn : List (Addr × Obj)), Zc (.ref (He.ga X.K c)) (some d) oe → (∃ vs, oe.data = .fields vs) → DSs (X.suite a ((a, oe) :: pn)) (b₀ :: suite) (ts a c d))
    (hdb : (T == ("__debug__" : Str)) = false := by decide) :
    DS X (.Try body [.ExceptHandler (some (.Name T np)) (some n) (b₀ :: suite) pos'] [] [] pos) (dTry CT T i tb ts) := by
  refine PS.imp (ps_try_as (Wout := fun _ _ _ _ => False) (tb := fun W => upXS X.K W tb) (ts := fun a cls od D σ H => ∃ c d, cls = .ref (He.ga X.K c) ∧ od = some d ∧ upS X.K (ts a c d) D σ H) hs hf hN hi hln ⟨hT, hdb, .inl mT⟩ LamX.takes0 hb fun a oe cls od pn hz hv => ⟨fun pins s σ H D I hh => ?_⟩) ?_
  · obtain ⟨c, d, rfl, rfl, hh⟩ := hh
    exact (hsu a oe c d pn hz hv).run pins s σ H D I hh
  · intro D σ H hh
    obtain ⟨ρ, G, E, r, h, k1, k2, k3, k4⟩ := hh
    refine ⟨ρ, G, E, _, r, h, k1, k2, k3, k4, fun x c od σ' H' ρ' G' e r' rx hz => ?_⟩
    obtain ⟨rfl, d, ws, rfl, gd, hd, n1, rl⟩ := rx
    obtain ⟨⟨as, fs, m1, m2⟩, hz⟩ := hz
    refine ⟨true, by rw [← m2]; exact ((ET x.cls as fs m1).sub T hTn).2, fun _ a na => ?_, fun z => by cases z⟩
    refine ⟨x.cls, d, rfl, rfl, ρ'.set i (some (.exh a x.cls d (x.fs.map (·.1)) (x.fs.map (·.2)))), G', _, r'.set i (v := .ref a) (by unfold RepV; exact ⟨ws, rfl, gd, hd, n1, rl⟩), hz a d, ?_, ?_, ?_, ?_⟩
    · exact fun σ2 ρ2 H2 G2 e2 r2 h2 => k1 _ _ _ _ (e.trans e2) (r2.unset i) h2
    · exact fun v dv H2 G2 e2 g2 v2 h2 => k2 v dv H2 G2 (e.trans e2) g2 v2 h2
    · exact fun σ2 ρ2 H2 G2 e2 r2 h2 => k3 _ _ _ _ (e.trans e2) (r2.unset i) h2
    · exact fun σ2 ρ2 H2 G2 e2 r2 h2 => k4 _ _ _ _ (e.trans e2) (r2.unset i) h2
end
end Dl
namespace Dl
open PySem L2
@[simp] theorem ofString_inj {a b : String} : (Str.ofString a = Str.ofString b) ↔ a = b := by
  rw [Str.ofString_eq_toList, Str.ofString_eq_toList]
  constructor
  · intro h
    have h1 : (a.toList.map Char.toNat).toArray = (b.toList.map Char.toNat).toArray := by injection h
    have h2 : a.toList.map Char.toNat = b.toList.map Char.toNat := by injection h1
    have h3 : a.toList = b.toList := by
      refine List.map_inj_right (f := Char.toNat) ?_ |>.mp h2
      intro x y e
      exact Char.ext (UInt32.toNat_inj.mp e)
    exact String.toList_inj.mp h3
  · rintro rfl; rfl
def Grow (G G' : GH) : Prop := ∀ a o, G a = some o → G' a = some o
theorem Grow.refl (G : GH) : Grow G G := fun _ _ h => h
theorem Grow.trans {G G1 G2 : GH} (h : Grow G G1) (k : Grow G1 G2) : Grow G G2 := fun a o e => k a o (h a o e)
theorem Grow.upd {G : GH} {p : Addr} {o : DO} (h : G p = none) : Grow G (updG G p o) := fun a u e => by
  rw [updG_ne]; exact e
  rintro rfl; rw [h] at e; cases e
theorem Grow.upd2 {G G' : GH} {p : Addr} {o : DO} (h : G p = none) (k : Grow G G') : Grow G (updG G' p o) := fun a u e => by
  rw [updG_ne]; exact k a u e
  rintro rfl; rw [h] at e; cases e
theorem Grow.drop {G G' : GH} {p : Addr} (h : G p = none) (k : Grow G G') : Grow G (dropG G' p) := fun a u e => by
  rw [dropG_ne]; exact k a u e
  rintro rfl; rw [h] at e; cases e
def pSp (R : List D → D → Prop) : DSp := fun ds G Q _ => ∃ d, R ds d ∧ ∀ G', Grow G G' → Q d G'
theorem dWhile_of {c : DTT} {tb : DTS} {E : DEnds} {I : Nat → DSt → GH → Prop}
    (h : ∀ n ρ G, I n ρ G → ∀ K : DSt → GH → Prop, (∀ m, m + 1 = n → ∀ ρ' G', I m ρ' G' → K ρ' G') → c ρ G fun b G1 => if b = true then tb { E with nx := K, ct := K, bk := E.nx } ρ G1 else E.nx ρ G1) :
    ∀ n ρ G, I n ρ G → dWhile c tb E ρ G := by
  have key : ∀ n ρ G, I n ρ G → dWhileGo c tb (n + 1) E ρ G := by
    intro n
    induction n with
    | zero => intro ρ G i; unfold dWhileGo; exact h 0 ρ G i _ (fun m e => by omega)
    | succ n ih =>
      intro ρ G i
      unfold dWhileGo
      refine h _ ρ G i _ ?_
      intro m e ρ' G' j
      have e2 : m = n := by omega
      subst e2
      exact ih ρ' G' j
  exact fun n ρ G i => ⟨n + 1, key n ρ G i⟩
theorem dForGo_of {ok : GH → Prop} {g : DTG} {tb : DTS} {E : DEnds} {I : List D → DSt → GH → Prop}
    (h0 : ∀ ρ G, I [] ρ G → ok G ∧ E.nx ρ G)
    (h : ∀ x xs ρ G, I (x :: xs) ρ G → ∀ K : DSt → GH → Prop, (∀ ρ' G', I xs ρ' G' → K ρ' G') → ok G ∧ g x ρ G fun ρ2 G2 => tb { E with nx := K, ct := K, bk := E.nx } ρ2 G2) :
    ∀ items ρ G, I items ρ G → dForGo ok g tb items E ρ G := by
  intro items
  induction items with
  | nil => intro ρ G i; unfold dForGo; exact h0 ρ G i
  | cons x xs ih => intro ρ G i; unfold dForGo; exact h x xs ρ G i _ ih
theorem dLcGo_of {ok : GH → Prop} {ct : CT} {te : DTE} {ρ : DSt} {p : Addr} {Q : DK} {I : List D → List D → GH → Prop}
    (h0 : ∀ acc G, I [] acc G → ok G ∧ Q (.ref p) G)
    (h : ∀ x xs acc G, I (x :: xs) acc G → ok G ∧ ∃ ρ2, bindC ct x ρ = some ρ2 ∧ ∀ K : DK, (∀ y G4, G4 p = some (.lst acc) → acc.length < sizeLine → I xs (acc ++ [y]) (updG G4 p (.lst (acc ++ [y]))) → K y G4) → te ρ2 G K) :
    ∀ items acc G, I items acc G → dLcGo ok ct dYes te ρ p items G Q := by
  intro items
  induction items with
  | nil => intro acc G i; unfold dLcGo; exact h0 acc G i
  | cons x xs ih =>
    intro acc G i
    unfold dLcGo
    obtain ⟨a, ρ2, e, k⟩ := h x xs acc G i
    refine ⟨a, ?_⟩
    rw [e]
    simp only [dYes, if_true]
    refine k _ ?_
    intro y G4 e4 hl j
    rw [e4]
    exact ⟨hl, ih _ _ j⟩
def PureE (te : DTE) (ct : CT) (ρ : DSt) (x y : D) : Prop := ∃ ρ2, bindC ct x ρ = some ρ2 ∧ ∀ (G : GH) (K : DK), (∀ G', Grow G G' → K y G') → te ρ2 G K
mutual
def smD : D → Bool
  | .non => true
  | .bl _ => true
  | .int i => decide (i.natAbs < 10 ^ 12)
  | .str x => PyData.strOk x
  | .tup ds => smDs ds
  | .lst ds => smDs ds
  | _ => false
def smDs : List D → Bool
  | [] => true
  | d :: ds => smD d && smDs ds
end
mutual
def wtD : D → Nat
  | .str x => x.length
  | .int _ => 40
  | .tup ds => wtDs ds
  | .lst ds => wtDs ds
  | _ => 0
def wtDs : List D → Nat
  | [] => 0
  | d :: ds => wtD d + 1 + wtDs ds
end
theorem ixN_at {n j : Nat} (hj : j < n) : ixN n (j : Int) = some j := by
  unfold ixN
  rw [if_pos (Int.natCast_nonneg j), if_pos (by omega)]
  simp
theorem atI_nat {α : Type} {xs : List α} {i : Nat} {x : α} (h : xs[i]? = some x) : atI xs (i : Int) = some x := by
  have hl : i < xs.length := by
    rcases Nat.lt_or_ge i xs.length with q | q
    · exact q
    · rw [List.getElem?_eq_none q] at h; cases h
  unfold atI
  rw [ixN_at hl]
  exact h
@[simp] theorem atI_0 {α : Type} {x : α} {xs : List α} : atI (x :: xs) 0 = some x := atI_nat (i := 0) rfl
@[simp] theorem atI_1 {α : Type} {x y : α} {xs : List α} : atI (x :: y :: xs) 1 = some y := atI_nat (i := 1) rfl
@[simp] theorem atI_2 {α : Type} {x y z : α} {xs : List α} : atI (x :: y :: z :: xs) 2 = some z := atI_nat (i := 2) rfl
@[simp] theorem atI_3 {α : Type} {x y z u : α} {xs : List α} : atI (x :: y :: z :: u :: xs) 3 = some u := atI_nat (i := 3) rfl
@[simp] theorem atI_4 {α : Type} {x y z u v : α} {xs : List α} : atI (x :: y :: z :: u :: v :: xs) 4 = some v := atI_nat (i := 4) rfl
end Dl
namespace Dl
open PySem L2
inductive Wk where
  | tick (n : Int)
  | sme (a b : Int) (t : Bool)
  | lop (a b : Int) (t : Bool) (w : Wk)
  | eit (ws : List Wk)
  | row (ws : List Wk)
  | bes (a b : Wk)
mutual
def toD : Wk → D
  | .tick n => .tup [.str "tick", .int n]
  | .sme a b t => .tup [.str "some", .int a, .int b, .bl t]
  | .lop a b t w => .tup [.str "loop", .int a, .int b, .bl t, toD w]
  | .eit ws => .tup [.str "either", .tup (toDs ws)]
  | .row ws => .tup [.str "row", .tup (toDs ws)]
  | .bes a b => .tup [.str "beside", toD a, toD b]
def toDs : List Wk → List D
  | [] => []
  | w :: ws => toD w :: toDs ws
end
theorem toDs_map : ∀ ws : List Wk, toDs ws = ws.map toD
  | [] => by simp [toDs]
  | w :: ws => by simp [toDs, toDs_map ws]
@[simp] theorem toDs_len (ws : List Wk) : (toDs ws).length = ws.length := by rw [toDs_map]; simp
inductive Sg where
  | tick
  | more
  | fin
  | many (n : Int)
  | way (i : Nat)
  | left (s : Sg)
  | right (s : Sg)
def sgD : Sg → D
  | .tick => .str "tick"
  | .more => .str "more"
  | .fin => .str "end"
  | .many n => .tup [.str "many", .int n]
  | .way i => .tup [.str "way", .int (i : Nat)]
  | .left s => .tup [.str "left", sgD s]
  | .right s => .tup [.str "right", sgD s]
mutual
def okW (B : Int) : Wk → Prop
  | .tick n => 1 ≤ n ∧ n ≤ B
  | .sme a b _ => 0 ≤ a ∧ a ≤ b ∧ b ≤ B
  | .lop a b _ w => 0 ≤ a ∧ a ≤ b ∧ b ≤ B ∧ okW B w
  | .eit ws => ws ≠ [] ∧ okWs B ws
  | .row ws => okWs B ws
  | .bes a b => okW B a ∧ okW B b
def okWs (B : Int) : List Wk → Prop
  | [] => True
  | w :: ws => okW B w ∧ okWs B ws
end
mutual
def zW : Wk → Nat
  | .tick _ => 2
  | .sme _ _ _ => 2
  | .lop _ b _ w => 2 + (b.toNat + 1) * (zW w + 1)
  | .eit ws => 1 + zWs ws
  | .row ws => 1 + zWs ws
  | .bes a b => 1 + zW a + zW b
def zWs : List Wk → Nat
  | [] => 0
  | w :: ws => zW w + zWs ws
end
mutual
def dpW : Wk → Nat
  | .tick _ => 1
  | .sme _ _ _ => 1
  | .lop _ _ _ w => 1 + dpW w
  | .eit ws => 2 + dpWs ws
  | .row ws => 2 + dpWs ws
  | .bes a b => 1 + max (dpW a) (dpW b)
def dpWs : List Wk → Nat
  | [] => 0
  | w :: ws => max (dpW w) (dpWs ws)
end
mutual
def pW : Wk → Nat
  | .tick _ => 3
  | .sme _ _ _ => 3
  | .lop _ _ _ w => 3 + max (dpW w) (pW w)
  | .eit ws => 4 + max (dpWs ws) (pWs ws)
  | .row ws => pWs ws
  | .bes a b => 3 + max (pW a) (pW b)
def pWs : List Wk → Nat
  | [] => 2
  | w :: ws => max (pW w) (pWs ws)
end
structure Bh (B : Int) (w v : Wk) : Prop where
  ok : okW B v
  z : zW v ≤ zW w
  dp : dpW v ≤ dpW w + 2
  p : pW v ≤ pW w
end Dl
namespace Dl
open PySem L2
theorem depDs_le : ∀ {ds : List D} {n : Nat}, (∀ d ∈ ds, depD d ≤ n) → depDs ds ≤ n
  | [], n, _ => by simp [depDs]
  | d :: ds, n, h => by
    have h1 := h d (List.mem_cons_self ..)
    have h2 := depDs_le fun x hx => h x (List.mem_cons_of_mem _ hx)
    rw [depDs]; omega
structure SgOk (s : Sg) (n : Nat) : Prop where
  sm : smD (sgD s) = true
  dp : depD (sgD s) ≤ n + 1
  wt : wtD (sgD s) ≤ 46 + 7 * n
end Dl
namespace Dl
open PySem L2
section
variable {t u : DTS} {E : DEnds} {ρ : DSt} {G : GH} {Q : DK} {c : DTT} {te ta tb : DTE} {tl tr : DTA}
theorem iSeq (h : t { E with nx := u E } ρ G) : dSeq t u E ρ G := h
theorem iNext (h : E.nx ρ G) : dNext E ρ G := h
theorem iIfS (h : c ρ G fun b G1 => if b = true then t E ρ G1 else u E ρ G1) : dIfS c t u E ρ G := h
theorem iRet (h : te ρ G E.rt) : dRet te E ρ G := h
theorem iDrop (h : te ρ G fun _ G1 => E.nx ρ G1) : dDrop te E ρ G := h
theorem iAsg {g : DTG} (h : te ρ G fun x G1 => g x ρ G1 E.nx) : dAsg te g E ρ G := h
theorem iPar {i j : Nat} (h : tl ρ G fun ds G1 => match ds with
  | [v, w] => E.nx ((ρ.set i (some v)).set j (some w)) G1
  | _ => False) : dPar i j tl E ρ G := h
theorem iGNm {i : Nat} {d : D} {Qg : DSt → GH → Prop} (h : Qg (ρ.set i (some d)) G) : gNm i d ρ G Qg := h
theorem iGTp {n : Nat} {t : DTGs} {ds : List D} {Qg : DSt → GH → Prop} (e : ds.length = n) (h : t ds ρ G Qg) : gTp n t (.tup ds) ρ G Qg := ⟨e, h⟩
theorem iGsCons {t : DTG} {u : DTGs} {d : D} {ds : List D} {Qg : DSt → GH → Prop} (h : t d ρ G fun ρ1 G1 => u ds ρ1 G1 Qg) : gsCons t u (d :: ds) ρ G Qg := h
theorem iGsNil {Qg : DSt → GH → Prop} (h : Qg ρ G) : gsNil [] ρ G Qg := h
theorem iGSb {to ti : DTE} {st : DSet} {d : D} {Qg : DSt → GH → Prop} (h : to ρ G fun o G1 => ti ρ G1 fun i G2 => st o i d G2 fun G3 => Qg ρ G3) : gSb to ti st d ρ G Qg := h
theorem iVar {i : Nat} {d : D} (e : sl ρ i = some d) (h : Q d G) : dVar i ρ G Q := by unfold dVar; rw [e]; exact h
theorem iC {d : D} (h : Q d G) : dC d ρ G Q := h
theorem iNil {Ql : List D → GH → Prop} (h : Ql [] G) : dNil ρ G Ql := h
theorem iCons {Ql : List D → GH → Prop} (h : ta ρ G fun x G1 => tr ρ G1 fun xs G2 => Ql (x :: xs) G2) : dCons ta tr ρ G Ql := h
theorem iTup (h : tl ρ G fun xs G1 => xs.length ≤ sizeLine ∧ Q (.tup xs) G1) : dTup tl ρ G Q := h
theorem iLst (h : tl ρ G fun xs G1 => xs.length ≤ sizeLine ∧ ∀ p, G1 p = none → Q (.ref p) (updG G1 p (.lst xs))) : dLst tl ρ G Q := h
theorem lenOk {P : Prop} {n : Nat} (e : n.ble sizeLine = true) (h : P) : n ≤ sizeLine ∧ P := ⟨Nat.le_of_ble_eq_true e, h⟩
def frzK (Q : DK) : DK := fun d G1 => match d with
  | .ref p => (match G1 p with
    | some (.lst ds) => Q (.lst ds) (dropG G1 p)
    | _ => Q (.ref p) G1)
  | d => Q d G1
theorem iFrz (h : te ρ G (frzK Q)) : dFrz te ρ G Q := h
theorem frzEnd {G : GH} {xs : List D} {Q : DK} (h : Q (.lst xs) G) : ∀ p, G p = none → frzK Q (.ref p) (updG G p (.lst xs)) := by
  intro p hp
  unfold frzK
  dsimp only
  rw [updG_same]
  dsimp only
  rw [dropG_updG hp]
  exact h
theorem frzR {xs : List D} {p : Addr} (e : G p = some (.lst xs)) (h : Q (.lst xs) (dropG G p)) : frzK Q (.ref p) G := by
  unfold frzK
  dsimp only
  rw [e]
  exact h
theorem iOp {r : DR2} (h : ta ρ G fun x G1 => tb ρ G1 fun y G2 => r x y G2 Q) : dOp r ta tb ρ G Q := h
theorem iTst {Qb : Bool → GH → Prop} (h : te ρ G fun d G1 => match d with
  | .bl b => Qb b G1
  | _ => False) : dTst te ρ G Qb := h
theorem iTru {Qb : Bool → GH → Prop} (h : te ρ G fun d G1 => truP G1 d fun b => Qb b G1) : dTru te ρ G Qb := h
theorem iAnd {v w : DTT} {Qb : Bool → GH → Prop} (h : v ρ G fun c G1 => if c = true then w ρ G1 Qb else Qb false G1) : dAnd v w ρ G Qb := h
theorem iOr {v w : DTT} {Qb : Bool → GH → Prop} (h : v ρ G fun c G1 => if c = true then Qb true G1 else w ρ G1 Qb) : dOr v w ρ G Qb := h
theorem iNot {v : DTT} {Qb : Bool → GH → Prop} (h : v ρ G fun c G1 => Qb (!c) G1) : dNot v ρ G Qb := h
theorem iNotV (h : ta ρ G fun x G1 => match x with
  | .bl b => Q (.bl (!b)) G1
  | _ => False) : dNotV ta ρ G Q := h
theorem iIf (h : c ρ G fun b G1 => if b = true then ta ρ G1 Q else tb ρ G1 Q) : dIf c ta tb ρ G Q := h
theorem ifT {A B : Prop} (h : A) : if (true : Bool) = true then A else B := by rw [if_pos rfl]; exact h
theorem ifF {A B : Prop} (h : B) : if (false : Bool) = true then A else B := by rw [if_neg (by decide)]; exact h
theorem ifD {A B : Prop} {p : Prop} [Decidable p] (h1 : p → A) (h2 : ¬ p → B) : if (decide p) = true then A else B := by
  by_cases h : p
  · rw [if_pos (decide_eq_true h)]; exact h1 h
  · rw [if_neg (by simpa using h)]; exact h2 h
theorem iCall {sp : DSp} (h : tl ρ G fun ds G1 => sp ds G1 Q noX) : dCall sp tl ρ G Q := h
theorem iCB {r : DRC} (h : tl ρ G fun ds G1 => r ds G1 Q) : dCB r tl ρ G Q := h
theorem iMt {r : DRM} {to : DTE} (h : to ρ G fun x G1 => lstP G1 x fun _ _ => tl ρ G1 fun ds G2 => r x ds G2 Q) : dMt r to tl ρ G Q := h
theorem iSl {lo hi : DTO} (h : te ρ G fun x G1 => lo ρ G1 fun l G2 => hi ρ G2 fun u G3 => rSl x l u G3 Q) : dSl te lo hi ρ G Q := h
theorem iP {Qo : Option Int → GH → Prop} (h : te ρ G fun d G1 => match d with
  | .int i => Qo (some i) G1
  | _ => False) : dP te ρ G Qo := h
theorem iNoP {Qo : Option Int → GH → Prop} (h : Qo none G) : dNoP ρ G Qo := h
theorem iStar {Ql : List D → GH → Prop} (h : te ρ G fun x G1 => match sqOf G1 x with
  | some l => tr ρ G1 fun r G2 => Ql (l ++ r) G2
  | none => False) : dStar te tr ρ G Ql := h
def getKK (Q : DK) (G : GH) (kvs : List (Key × D)) (k : Key) : Prop := match getK kvs k with
  | some d => Q d G
  | none => False
theorem iDGet (h : ta ρ G fun x G1 => tb ρ G1 fun y G2 => dctP G2 x fun _ kvs => keyP y fun k => getKK Q G2 kvs k) : dDGet ta tb ρ G Q := h
theorem getK_i {kvs : List (Key × D)} {k : Key} {d : D} (e : getK kvs k = some d) (h : Q d G) : getKK Q G kvs k := by unfold getKK; rw [e]; exact h
def isiK (T : String) (Q : DK) : DK := fun d G1 => match tyD G1 d with
  | some s => Q (.bl (subT s T)) G1
  | none => False
theorem iIsi {T : String} (h : te ρ G (isiK T Q)) : dIsi T te ρ G Q := h
theorem isi_i {T : String} {d : D} {s : String} {b : Bool} (e : tyD G d = some s) (e2 : subT s T = b) (h : Q (.bl b) G) : isiK T Q d G := by unfold isiK; rw [e]; dsimp only; rw [e2]; exact h
theorem isi_T {T : String} {d : D} {s : String} (e : tyD G d = some s) (e2 : subT s T = true) (h : Q (.bl true) G) : isiK T Q d G := isi_i e e2 h
theorem isi_F {T : String} {d : D} {s : String} (e : tyD G d = some s) (e2 : subT s T = false) (h : Q (.bl false) G) : isiK T Q d G := isi_i e e2 h
theorem iMatch {cs : List (Option Str × DTS)} (h : te ρ G fun d G1 => dCases cs d E ρ G1) : dMatch te cs E ρ G := h
theorem iFor {wi : DTI} {g : DTG} (h : wi ρ G fun items ok G1 => dForGo ok g t items E ρ G1) : dFor wi g t E ρ G := h
theorem iISq {Qi : List D → (GH → Prop) → GH → Prop} (h : te ρ G fun d G1 => match d with
  | .tup ds => Qi ds okAll G1
  | .lst ds => Qi ds okAll G1
  | .ref a => (match G1 a with
    | some (.lst ds) => Qi ds (fun G => G a = some (.lst ds)) G1
    | _ => False)
  | _ => False) : iSq te ρ G Qi := h
theorem iLc {wi : DTI} {ct : CT} {tt : DTT} {vs : List Nat} (h : wi ρ G fun items ok G1 => ∀ p, G1 p = none → dLcGo ok ct tt te (wipeD ρ vs) p items (updG G1 p (.lst [])) Q) : dLc wi ct tt te vs ρ G Q := h
theorem rIx_i {x d : D} {ds : List D} {i : Int} (e : sqOf G x = some ds) (e2 : atI ds i = some d) (h : Q d G) : rIx x (.int i) G Q := by
  unfold rIx; dsimp only; rw [e]; dsimp only; rw [e2]; exact h
theorem eq_ss {a b : Str} (h : Q (.bl (decide (a = b))) G) : rCmp id (.str a) (.str b) G Q := h
theorem ne_ss {a b : Str} (h : Q (.bl (!decide (a = b))) G) : rCmp not (.str a) (.str b) G Q := h
theorem eq_ii {a b : Int} (h : Q (.bl (decide (a = b))) G) : rCmp id (.int a) (.int b) G Q := h
theorem ne_ii {a b : Int} (h : Q (.bl (!decide (a = b))) G) : rCmp not (.int a) (.int b) G Q := h
theorem ne_tt {a b : List D} (h1 : okD (.tup a)) (h2 : okD (.tup b)) (h : Q (.bl (!eqvD (.tup a) (.tup b))) G) : rCmp not (.tup a) (.tup b) G Q := ⟨h1, h2, h⟩
theorem ne_ll {a b : List D} (h1 : okD (.lst a)) (h2 : okD (.lst b)) (h : Q (.bl (!eqvD (.lst a) (.lst b))) G) : rCmp not (.lst a) (.lst b) G Q := ⟨h1, h2, h⟩
theorem eq_strT {a : Str} (h : Q (.bl true) G) : rCmp id (.str a) (.str a) G Q := by
  have : Q (.bl (decide (a = a))) G := by rw [decide_eq_true rfl]; exact h
  exact this
theorem eq_strF {a b : String} (e : (a == b) = false) (h : Q (.bl false) G) : rCmp id (.str (Str.ofString a)) (.str (Str.ofString b)) G Q := by
  have : Q (.bl (decide (Str.ofString a = Str.ofString b))) G := by rw [decide_eq_false (by rw [ofString_inj]; simpa using e)]; exact h
  exact this
theorem ne_strT {a : Str} (h : Q (.bl false) G) : rCmp not (.str a) (.str a) G Q := by
  have : Q (.bl (!decide (a = a))) G := by rw [decide_eq_true rfl]; exact h
  exact this
theorem ne_strF {a b : String} (e : (a == b) = false) (h : Q (.bl true) G) : rCmp not (.str (Str.ofString a)) (.str (Str.ofString b)) G Q := by
  have : Q (.bl (!decide (Str.ofString a = Str.ofString b))) G := by rw [decide_eq_false (by rw [ofString_inj]; simpa using e)]; exact h
  exact this
theorem caT {a : Str} {t : DTS} {cs : List (Option Str × DTS)} (h : t E ρ G) : dCases ((some a, t) :: cs) (.str a) E ρ G := by
  show (if a = a then t E ρ G else _)
  rw [if_pos rfl]; exact h
theorem caF {a b : String} {t : DTS} {cs : List (Option Str × DTS)} (e : (b == a) = false) (h : dCases cs (.str (Str.ofString b)) E ρ G) : dCases ((some (Str.ofString a), t) :: cs) (.str (Str.ofString b)) E ρ G := by
  show (if Str.ofString b = Str.ofString a then t E ρ G else _)
  rw [if_neg (by rw [ofString_inj]; simpa using e)]; exact h
theorem caN {t : DTS} {cs : List (Option Str × DTS)} {d : D} (h : t E ρ G) : dCases ((none, t) :: cs) d E ρ G := h
theorem add_ii {i j : Int} (h : Q (.int (i + j)) G) : rAdd (.int i) (.int j) G Q := h
theorem slT {ds : List D} {lo hi : Option Int} (h : Q (.tup (cutD ds lo hi)) G) : rSl (.tup ds) lo hi G Q := h
theorem slS {ns : List Int} {lo hi : Option Int} (h : ∀ p, G p = none → Q (.ref p) (updG G p (.lst (cutD (ns.map D.int) lo hi)))) : rSl (.scr ns) lo hi G Q := h
theorem add_ll {a b : List D} (e : a.length + b.length ≤ sizeLine) (h : ∀ p, G p = none → Q (.ref p) (updG G p (.lst (a ++ b)))) : rAdd (.lst a) (.lst b) G Q := ⟨e, h⟩
theorem int2 {C : Int → Int → Prop} {f : Int → Int → D} {i j : Int} (e : C i j) (h : Q (f i j) G) : rInt C f (.int i) (.int j) G Q := ⟨e, h⟩
theorem int0 {f : Int → Int → D} {i j : Int} (h : Q (f i j) G) : rInt0 f (.int i) (.int j) G Q := h
theorem mul_ii {i j : Int} (e : CMul i j) (h : Q (.int (i * j)) G) : rMul (.int i) (.int j) G Q := ⟨e, h⟩
theorem len_t {l : List D} (h : Q (.int l.length) G) : rLen [.tup l] G Q := h
theorem len_l {l : List D} (h : Q (.int l.length) G) : rLen [.lst l] G Q := h
theorem len_r {l : List D} {a : Addr} (e : G a = some (.lst l)) (h : Q (.int l.length) G) : rLen [.ref a] G Q := by unfold rLen arg1; dsimp only; rw [e]; exact h
theorem tupC_l {l : List D} (h : Q (.tup l) G) : rTupC [.lst l] G Q := h
theorem tupC_r {l : List D} {a : Addr} (e : G a = some (.lst l)) (h : Q (.tup l) G) : rTupC [.ref a] G Q := by unfold rTupC arg1 sqOf; dsimp only; rw [e]; exact h
theorem lstC_t {l : List D} (h : ∀ p, G p = none → Q (.ref p) (updG G p (.lst l))) : rLstC [.tup l] G Q := h
theorem lstC_l {l : List D} (h : ∀ p, G p = none → Q (.ref p) (updG G p (.lst l))) : rLstC [.lst l] G Q := h
theorem intC_i {i : Int} (h : Q (.int i) G) : rIntC [.int i] G Q := h
theorem intC_b {b : Bool} (h : Q (.int (if b then 1 else 0)) G) : rIntC [.bl b] G Q := h
theorem max2_ii {i j : Int} (h : Q (.int (if j > i then j else i)) G) : rMax2 [.int i, .int j] G Q := h
theorem min2_ii {i j : Int} (h : Q (.int (if j < i then j else i)) G) : rMin2 [.int i, .int j] G Q := h
theorem lstP_i {a : Addr} {l : List D} {P : Addr → List D → Prop} (e : G a = some (.lst l)) (h : P a l) : lstP G (.ref a) P := by unfold lstP; dsimp only; rw [e]; exact h
theorem dctP_i {a : Addr} {l : List (Key × D)} {P : Addr → List (Key × D) → Prop} (e : G a = some (.dct l)) (h : P a l) : dctP G (.ref a) P := by unfold dctP; dsimp only; rw [e]; exact h
theorem keyP_s {x : Str} {P : Key → Prop} (h : P (.inr x)) : keyP (.str x) P := h
theorem app_i {a : Addr} {l : List D} {d : D} (e : G a = some (.lst l)) (z : l.length < sizeLine) (h : Q .non (updG G a (.lst (l ++ [d])))) : mAppend (.ref a) [d] G Q := lstP_i e ⟨z, h⟩
theorem ext_i {a : Addr} {l m : List D} {d : D} (e : G a = some (.lst l)) (e2 : sqOf G d = some m) (z : l.length + m.length ≤ sizeLine) (h : Q .non (updG G a (.lst (l ++ m)))) : mExtend (.ref a) [d] G Q := by
  refine lstP_i e ?_
  unfold arg1
  dsimp only
  rw [e2]
  exact ⟨z, h⟩
theorem truB {b : Bool} {P : Bool → Prop} (h : P b) : truP G (.bl b) P := h
end
end Dl
namespace Dl
open PySem L2
theorem lc_map {α : Type} {ok : GH → Prop} {ct : CT} {te : DTE} {ρ : DSt} {p : Addr} {Q : DK} {g h : α → D} {xs : List α} {G : GH} (hp : G p = none) (hok : ∀ G, ok G) (hl : xs.length ≤ sizeLine) (hf : ∀ x ∈ xs, PureE te ct ρ (g x) (h x))
    (hq : ∀ G', Grow G G' → G' p = some (.lst (xs.map h)) → Q (.ref p) G') : dLcGo ok ct dYes te ρ p (xs.map g) (updG G p (.lst [])) Q := by
  refine dLcGo_of (I := fun rest acc G' => ∃ rs, rest = rs.map g ∧ acc ++ rs.map h = xs.map h ∧ (∀ x ∈ rs, x ∈ xs) ∧ Grow G G' ∧ G' p = some (.lst acc)) ?_ ?_ _ [] _ ⟨xs, rfl, rfl, fun _ h => h, Grow.upd hp, updG_same⟩
  · rintro acc G' ⟨rs, e0, e, -, gg, ep⟩
    cases rs with
    | cons => cases e0
    | nil =>
      refine ⟨hok _, hq _ gg ?_⟩
      rw [← e, List.map_nil, List.append_nil]
      exact ep
  · rintro x rest acc G' ⟨rs, e0, e, m, gg, ep⟩
    cases rs with
    | nil => cases e0
    | cons r rs =>
      injection e0 with e1 e2
      subst e1 e2
      obtain ⟨ρ2, e2, k⟩ := hf r (m r (List.mem_cons_self ..))
      refine ⟨hok _, ρ2, e2, fun K hK => k G' K fun G4 g4 => ?_⟩
      refine hK _ G4 (g4 _ _ ep) ?_ ⟨rs, rfl, ?_, fun y hy => m y (List.mem_cons_of_mem _ hy), Grow.upd2 hp (gg.trans g4), updG_same⟩
      · have := congrArg List.length e
        simp at this
        omega
      · rw [← e]; simp
theorem lcF {α : Type} (xs : List α) (g h : α → D) {wi : DTI} {ct : CT} {te : DTE} {ρ : DSt} {vs : List Nat} {G : GH} {Q : DK} (hw : ∀ P : List D → (GH → Prop) → GH → Prop, (∀ ok G1, (∀ G, ok G) → Grow G G1 → P (xs.map g) ok G1) → wi ρ G P)
    (hl : xs.length ≤ sizeLine) (hf : ∀ x ∈ xs, PureE te ct (wipeD ρ vs) (g x) (h x)) (hq : ∀ G', Grow G G' → Q (.lst (xs.map h)) G') : dLc wi ct dYes te vs ρ G (frzK Q) := by
  unfold dLc
  refine hw _ ?_
  intro ok G1 hok g1 p hp
  refine lc_map hp hok hl hf ?_
  intro G' gg e
  exact frzR e (hq _ (g1.trans (Grow.drop hp gg)))
section
variable {E : DEnds} {ρ : DSt} {G : GH} {Q : DK} {te ta tb : DTE} {tl : DTA} {Qi : List D → (GH → Prop) → GH → Prop}
theorem iIRg1 (h : tl ρ G fun ds G1 => match ds with
  | [.int j] => -(2 ^ 62) ≤ j ∧ j < 2 ^ 62 ∧ Qi (rngD 0 j.toNat) okAll G1
  | _ => False) : iRg1 tl ρ G Qi := h
theorem iIRg2 (h : tl ρ G fun ds G1 => match ds with
  | [.int i, .int j] => (-(2 ^ 62) ≤ i ∧ i < 2 ^ 62 ∧ -(2 ^ 62) ≤ j ∧ j < 2 ^ 62) ∧ Qi (rngD i (j - i).toNat) okAll G1
  | _ => False) : iRg2 tl ρ G Qi := h
theorem iIEnT (h : te ρ G fun d G1 => match d with
  | .tup ds => Qi (enumD ds) okAll G1
  | _ => False) : iEnT te ρ G Qi := h
theorem add_llb {a b : List D} (e : (a.length + b.length).ble sizeLine = true) (h : ∀ p, G p = none → Q (.ref p) (updG G p (.lst (a ++ b)))) : rAdd (.lst a) (.lst b) G Q := ⟨Nat.le_of_ble_eq_true e, h⟩
theorem add_ttb {a b : List D} (e : (a.length + b.length).ble sizeLine = true) (h : Q (.tup (a ++ b)) G) : rAdd (.tup a) (.tup b) G Q := ⟨Nat.le_of_ble_eq_true e, h⟩
end
@[simp] theorem rep_one {α : Type} (k : Nat) (x : α) : (List.replicate k [x]).flatten = List.replicate k x := by
  induction k with
  | zero => rfl
  | succ k ih => rw [List.replicate_succ, List.flatten_cons, ih, List.replicate_succ]; rfl
end Dl
namespace Dl
open PySem L2
section
variable {E : DEnds} {ρ : DSt} {G : GH} {Q : DK} {te ta tb : DTE} {tl : DTA} {Qi : List D → (GH → Prop) → GH → Prop}
theorem inn_T {x y : D} {ds : List D} (e : sqOf G y = some ds) (h1 : flatD x = true) (h2 : ds.all flatD = true) (e3 : inD x ds = true) (h : Q (.bl true) G) : rInn id x y G Q := by
  unfold rInn; rw [e]; exact ⟨h1, h2, by rw [e3]; exact h⟩
theorem inn_F {x y : D} {ds : List D} (e : sqOf G y = some ds) (h1 : flatD x = true) (h2 : ds.all flatD = true) (e3 : inD x ds = false) (h : Q (.bl false) G) : rInn id x y G Q := by
  unfold rInn; rw [e]; exact ⟨h1, h2, by rw [e3]; exact h⟩
theorem inn_i {x y : D} {ds : List D} (e : sqOf G y = some ds) (h1 : flatD x = true) (h2 : ds.all flatD = true) (h : Q (.bl (inD x ds)) G) : rInn id x y G Q := by
  unfold rInn; rw [e]; exact ⟨h1, h2, h⟩
def dispK (Q : DK) (p : Addr) (ps : List (D × D)) (G2 : GH) : Prop := G2 p = some (.dct []) ∧ match keysD ps with
  | some kvs => kvs.length ≤ 15 ∧ Q (.ref p) (updG G2 p (.dct (mergeD [] kvs)))
  | none => False
theorem iDisp {trs : List (DTE × DTE)} (h : ∀ p, G p = none → dPairs trs ρ (updG G p (.dct [])) (dispK Q p)) : dDisp trs ρ G Q := h
theorem iPsN {Qp : List (D × D) → GH → Prop} (h : Qp [] G) : dPairs [] ρ G Qp := h
theorem iPsC {Qp : List (D × D) → GH → Prop} {r : List (DTE × DTE)} (h : ta ρ G fun x G1 => tb ρ G1 fun y G2 => dPairs r ρ G2 fun ps G3 => Qp ((x, y) :: ps) G3) : dPairs ((ta, tb) :: r) ρ G Qp := h
theorem dispEnd {p : Addr} {ps : List (D × D)} {kvs : List (Key × D)} (e : G p = some (.dct [])) (e2 : keysD ps = some kvs) (hl : kvs.length.ble 15 = true) (h : Q (.ref p) (updG G p (.dct (mergeD [] kvs)))) : dispK Q p ps G := by
  refine ⟨e, ?_⟩
  rw [e2]
  exact ⟨Nat.le_of_ble_eq_true hl, h⟩
end
end Dl
namespace Dl
open PySem L2
theorem seqC {t u : DTS} {E : DEnds} {ρ : DSt} {G : GH} (P : DSt → GH → Prop) (h1 : ∀ K : DSt → GH → Prop, (∀ ρ G, P ρ G → K ρ G) → t { E with nx := K } ρ G) (h2 : ∀ ρ G, P ρ G → u E ρ G) : dSeq t u E ρ G := h1 _ h2
theorem ifDT {A B p : Prop} [Decidable p] (h : p) (a : A) : if (decide p) = true then A else B := by rw [if_pos (decide_eq_true h)]; exact a
theorem ifDF {A B p : Prop} [Decidable p] (h : ¬ p) (b : B) : if (decide p) = true then A else B := by rw [if_neg (by simpa using h)]; exact b
theorem sLst_i {a : Addr} {l : List D} {i : Int} {j : Nat} {d : D} {G : GH} {Q : GH → Prop} (e : G a = some (.lst l)) (e2 : ixN l.length i = some j) (h : Q (updG G a (.lst (l.set j d)))) : sLst (.ref a) (.int i) d G Q := by
  refine lstP_i e ?_
  dsimp only
  rw [e2]
  exact h
theorem andT {A B : Prop} {p : Prop} [Decidable p] (h : p) (a : A) : (match D.bl (decide p) with
  | .bl true => A
  | .bl false => B
  | _ => False) := by rw [decide_eq_true h]; exact a
def andVK (tb : DTE) (ρ : DSt) (Q : DK) : DK := fun x G1 => match x with
  | .bl true => tb ρ G1 Q
  | .bl false => Q (.bl false) G1
  | _ => False
theorem iAndVK {ta tb : DTE} {ρ : DSt} {G : GH} {Q : DK} (h : ta ρ G (andVK tb ρ Q)) : dAndV ta tb ρ G Q := h
theorem andVT {tb : DTE} {ρ : DSt} {G : GH} {Q : DK} (h : tb ρ G Q) : andVK tb ρ Q (.bl true) G := h
theorem andVF {tb : DTE} {ρ : DSt} {G : GH} {Q : DK} (h : Q (.bl false) G) : andVK tb ρ Q (.bl false) G := h
theorem andVDT {tb : DTE} {ρ : DSt} {G : GH} {Q : DK} {p : Prop} [Decidable p] (h : p) (a : tb ρ G Q) : andVK tb ρ Q (.bl (decide p)) G := by rw [decide_eq_true h]; exact a
theorem andVDF {tb : DTE} {ρ : DSt} {G : GH} {Q : DK} {p : Prop} [Decidable p] (h : ¬ p) (a : Q (.bl false) G) : andVK tb ρ Q (.bl (decide p)) G := by rw [decide_eq_false h]; exact a
theorem rIx_r {a : Addr} {l : List D} {i : Int} {d : D} {G : GH} {Q : DK} (e : G a = some (.lst l)) (e2 : atI l i = some d) (h : Q d G) : rIx (.ref a) (.int i) G Q := rIx_i (ds := l) (by unfold sqOf; dsimp only; rw [e]) e2 h
theorem ifNT {A B : Prop} (h : B) : if (!true) = true then A else B := by rw [if_neg (by decide)]; exact h
theorem ifNF {A B : Prop} (h : A) : if (!false) = true then A else B := by rw [if_pos (by decide)]; exact h
theorem callee0 {P : Program} {w : World} {K : PySem.W.Frag} {mg : Str → Option Value} {base : Heap} {x qual : Str} {params : Arguments} {body : List Stmt} {scope : Scope} {f : Addr} {fd : FuncData} {ps : List Str} {sp : DSp}
    (F : FunD K x qual params body scope [] [] f fd) (hm : mg x = some (.ref f)) (h : ∀ ds G Q E, ¬ sp ds G Q E)
    (b1 : ∀ (kV doc pm : Value) (an : Option Addr) (cdv ct : Value) (us : List Value), us.length = ps.length → bindArgs (PySem.W.fnOf x qual params body scope .none kV doc pm an cdv ct) ⟨us, []⟩ = pure (ps.zip us))
    (b2 : ∀ (kV doc pm : Value) (an : Option Addr) (cdv ct : Value) (us : List Value), us.length = ps.length → bindArgs (PySem.W.fnOf x qual params body scope .none kV doc pm an cdv ct) ⟨[], ps.zip us⟩ = pure (ps.zip us)) : Callee P w K mg base 0 x ps sp :=
  callee_of F hm ⟨fun _ _ _ _ ⟨_, _, _, _, _, _, q, _⟩ => (h _ _ _ _ q).elim, fun _ _ _ _ _ _ _ _ _ _ _ _ _ _ ⟨_, _, _, _, _, _, q, _⟩ => (h _ _ _ _ q).elim⟩ b1 b2
end Dl
namespace Dl
open PySem L2
def pick1 {α : Type} (us its ws : List α) (q : Nat × Nat) : Option α := if q.1 = 0 then us[q.2]? else if q.1 = 1 then its[q.2]? else ws[q.2]?
def pick {α : Type} (src : List (Nat × Nat)) (us its ws : List α) : List α := match src with
  | [] => []
  | q :: r => (pick1 us its ws q).toList ++ pick r us its ws
theorem at_vals {a : List V} {b : List Value} (h : Vals a b) (j : Nat) : Vals a[j]?.toList b[j]?.toList := by
  cases e : a[j]? with
  | none => rw [h.none_of e]; exact .nil
  | some v => obtain ⟨u, e2, r⟩ := h.get e; rw [e2]; exact .cons r .nil
theorem pick_vals {xs dv zs : List V} {us its ws : List Value} (h1 : Vals xs us) (h2 : Vals dv its) (h3 : Vals zs ws) : ∀ {src : List (Nat × Nat)}, Vals (pick src xs dv zs) (pick src us its ws)
  | [] => .nil
  | q :: r => by
    unfold pick
    refine Vals.append ?_ (pick_vals h1 h2 h3)
    unfold pick1
    split
    · exact at_vals h1 _
    · split
      · exact at_vals h2 _
      · exact at_vals h3 _
theorem at_reps {K : PySem.W.Frag} {G : GH} {H : Hp} {a : List V} {b : List D} (h : RepL K G H b a) (j : Nat) : RepL K G H b[j]?.toList a[j]?.toList := by
  cases e : b[j]? with
  | none =>
    have e2 : a[j]? = none := by
      cases e3 : a[j]? with
      | none => rfl
      | some v => obtain ⟨d, e4, _⟩ := h.get' e3; rw [e] at e4; cases e4
    rw [e2]; exact repL_nil
  | some v => obtain ⟨u, e2, r⟩ := h.get e; rw [e2]; exact repL_cons r repL_nil
theorem pick_reps {K : PySem.W.Frag} {G : GH} {H : Hp} {xs dv zs : List V} {us its ws : List D} (h1 : RepL K G H us xs) (h2 : RepL K G H its dv) (h3 : RepL K G H ws zs) : ∀ {src : List (Nat × Nat)}, RepL K G H (pick src us its ws) (pick src xs dv zs)
  | [] => repL_nil
  | q :: r => by
    unfold pick
    refine RepL.append ?_ (pick_reps h1 h2 h3)
    unfold pick1
    split
    · exact at_reps h1 _
    · split
      · exact at_reps h2 _
      · exact at_reps h3 _
structure CalleeG (P : Program) (w : World) (K : PySem.W.Frag) (mg : Str → Option Value) (base : Heap) (k : Nat) (x : Str) (n : Nat) (ks : List Str) (src : List (Nat × Nat)) (dv : List D) (sp : DSp) : Prop where
  ex : ∃ f fd ps, DFn P w K mg base k f fd ps sp ∧ mg x = some (.ref f) ∧ PySem.W.keepIn K (.ref f) = true ∧ ∃ (its : List Value) (dvs : List V), Vals dvs its ∧ (∀ G H, RepL K G H dv dvs) ∧
    ∀ (s : Shared) (us ws : List Value), K.In s.heap → us.length = n → ws.length = ks.length → BindsTo s fd ⟨us, ks.zip ws⟩ (ps.zip (pick src us its ws))
theorem CalleeG.up {P : Program} {w : World} {K : PySem.W.Frag} {mg : Str → Option Value} {base : Heap} {j k n : Nat} {x : Str} {ks : List Str} {src : List (Nat × Nat)} {dv : List D} {sp : DSp} (C : CalleeG P w K mg base j x n ks src dv sp) (h : j ≤ k) : CalleeG P w K mg base k x n ks src dv sp := by
  obtain ⟨f, fd, ps, F, a⟩ := C.ex
  exact ⟨f, fd, ps, F.up h, a⟩
@[simp] def dCallG (sp : DSp) (n m : Nat) (src : List (Nat × Nat)) (dv : List D) (ta tk : DTA) : DTE := fun ρ G Q => ta ρ G fun ds G1 => tk ρ G1 fun es G2 => ds.length = n ∧ es.length = m ∧ sp (pick src ds dv es) G2 Q noX
section
variable {X : Cx} {k n : Nat} {x : Str} {ks : List Str} {src : List (Nat × Nat)} {dv : List D} {sp : DSp} {p pos : Pos} {e : Expr} {es : List Expr} {ta tk : DTA} {kws : List Keyword}
theorem dcg_run {f : Addr} {fd : FuncData} {ps : List Str} {its : List Value} {dvs : List V} (F : DFn X.prog X.w X.K X.mg X.base k f fd ps sp) (hr : Room k X.A) (hgd : X.A.guards = some []) (hv : Vals dvs its) (hd : ∀ G H, RepL X.K G H dv dvs)
    (hb : ∀ (s : Shared) (us ws : List Value), X.K.In s.heap → us.length = n → ws.length = ks.length → BindsTo s fd ⟨us, ks.zip ws⟩ (ps.zip (pick src us its ws))) {pins : List (Addr × Obj)} {σ : St} {H : Hp} {s : Shared} {Q : VK} {us ws : List Value} {vs zs : List V}
    (I : Inv X pins σ H s) (r : Vals vs us) (rz : Vals zs ws) (l1 : vs.length = n) (l2 : zs.length = ks.length) (h : toSp X.K sp (pick src vs dvs zs) H Q E0) : wpAny (model X.prog X.w) X.A (call (.ref f) us (ks.zip ws)) (EP X pins σ Q) X.xe s := by
  refine wpAny_call (codeAny_mono (F.go X.A X.stack s H ⟨us, ks.zip ws⟩ _ _ Q E0 hr hgd I.env0 (hb s us ws I.kIn (r.length.symm.trans l1) (rz.length.symm.trans l2)) (pick_vals r hv rz) h) ?_)
  intro res s2 hq
  match res, hq with
  | .error er, hq => exact hq.elim
  | .ok (.ret u), hq => exact I.after hq
theorem dcg {m : Nat} (C : CalleeG X.prog X.w X.K X.mg X.base k x n ks src dv sp) (hr : Room k X.A) (hgd : X.A.guards = some []) (hg : Gl X x) (ha : DA X (e :: es) ta) (hkw : DKw X kws tk)
    (hall : (backToKw pos (keywordEach kws X.env)).all (·.1.isSome) = true := by rfl) (hks : (backToKw pos (keywordEach kws X.env)).filterMap (·.1) = ks := by rfl)
    (hdb : (x == ("__debug__" : Str)) = false := by decide) (he : starEach (e :: es) X.env = (false, eval e X.env) :: starEach es X.env := by rfl)
    (hpl : ((backTo pos (starEach (e :: es) X.env)).any (·.1) || (backToKw pos (keywordEach kws X.env)).any (·.1.isNone)) = false := by rfl) (hl : ks.length = m := by rfl) : DE X (.Call (.Name x p) (e :: es) kws pos) (dCallG sp n m src dv ta tk) := by
  subst hl
  obtain ⟨f, fd, ps, F, hm, hk, its, dvs, hv, hd, hb⟩ := C.ex
  refine ⟨fun pins s σ H Q I ⟨ρ, G, q, r, h, kk⟩ => ?_⟩
  refine wpAny_Call_Name_kw (ld_glob I hg hm ?_ hdb)
  refine PySem.W.callWith_KW (h₀ := X.base) I.ok.mod.kin hk hall (thn (ha.run pos pins s σ H (fun vs H1 => upA X.K tk σ H1 fun zs H2 => vs.length = n ∧ zs.length = ks.length ∧ toSp X.K sp (pick src vs dvs zs) H2 Q E0) I ⟨ρ, G, _, r, h, fun vs ds H1 G1 e1 r1 v1 h1 => ?_⟩) fun us s1 ⟨vs, H1, I1, rv, q1⟩ => ?_) hpl he
  · refine ⟨ρ, G1, _, r1, h1, fun zs es H2 G2 e2 r2 v2 ⟨l1, l2, h2⟩ => ⟨by rw [v1.length]; exact l1, by rw [v2.length]; exact l2, ?_⟩⟩
    exact sp_at r2 (pick_reps (v1.ext e2) (hd G2 H2) v2) h2 fun v d H' G' e3 r3 v3 h3 => kk v d H' G' ((e1.trans e2).trans e3) r3 v3 h3
  · refine thn (hkw.run pos pins s1 σ H1 _ I1 q1) fun ws s2 ⟨zs, H2, I2, rz, l1, l2, q2⟩ => ⟨I2.kIn, ?_⟩
    rw [hks, List.nil_append]
    exact dcg_run F hr hgd hv hd hb I2 rv rz l1 l2 q2
theorem dcg0 {m : Nat} (C : CalleeG X.prog X.w X.K X.mg X.base k x n ks src dv sp) (hr : Room k X.A) (hgd : X.A.guards = some []) (hg : Gl X x) (hkw : DKw X kws tk)
    (hall : (backToKw pos (keywordEach kws X.env)).all (·.1.isSome) = true := by rfl) (hks : (backToKw pos (keywordEach kws X.env)).filterMap (·.1) = ks := by rfl)
    (hdb : (x == ("__debug__" : Str)) = false := by decide) (hpl : ((backTo pos (starEach [] X.env)).any (·.1) || (backToKw pos (keywordEach kws X.env)).any (·.1.isNone)) = false := by rfl) (hl : ks.length = m := by rfl) : DE X (.Call (.Name x p) [] kws pos) (dCallG sp n m src dv dNil tk) := by
  subst hl
  obtain ⟨f, fd, ps, F, hm, hk, its, dvs, hv, hd, hb⟩ := C.ex
  refine ⟨fun pins s σ H Q I ⟨ρ, G, q, r, h, kk⟩ => ?_⟩
  refine wpAny_Call_Name_kw (ld_glob I hg hm ?_ hdb)
  refine PySem.W.callWith_KW0 (h₀ := X.base) I.ok.mod.kin hk hall ?_ hpl
  refine thn (hkw.run pos pins s σ H (fun zs H2 => ([] : List V).length = n ∧ zs.length = ks.length ∧ toSp X.K sp (pick src [] dvs zs) H2 Q E0) I ⟨ρ, G, _, r, h, fun zs es H2 G2 e2 r2 v2 ⟨l1, l2, h2⟩ => ⟨l1, by rw [v2.length]; exact l2, ?_⟩⟩) ?_
  · exact sp_at r2 (pick_reps repL_nil (hd G2 H2) v2) h2 fun v d H' G' e3 r3 v3 h3 => kk v d H' G' (e2.trans e3) r3 v3 h3
  · rintro ws s2 ⟨zs, H2, I2, rz, l1, l2, q2⟩
    refine ⟨I2.kIn, ?_⟩
    rw [hks]
    exact dcg_run F hr hgd hv hd hb I2 .nil rz l1 l2 q2
end
section
variable {P : Program} {w : World} {K : PySem.W.Frag} {mg : Str → Option Value} {base : Heap} {k n : Nat} {x qual : Str} {params : Arguments} {body : List Stmt} {scope : Scope} {f : Addr} {fd : FuncData} {ps ks : List Str} {src : List (Nat × Nat)} {sp : DSp}
end
end Dl
namespace Dl
open PySem L2 PyProof.Rows LamX
structure XCalleeG (P : Program) (w : World) (K : PySem.W.Frag) (mg : Str → Option Value) (base : Heap) (k : Nat) (x : Str) (n : Nat) (ks : List Str) (src : List (Nat × Nat)) (dv : List D) (sp : DSp) : Prop where
  ex : ∃ f fd ps, XFn P w K mg base k f fd ps sp ∧ mg x = some (.ref f) ∧ PySem.W.keepIn K (.ref f) = true ∧ ∃ (its : List Value) (dvs : List V), Vals dvs its ∧ (∀ G H, RepL K G H dv dvs) ∧
    ∀ (s : Shared) (us ws : List Value), K.In s.heap → us.length = n → ws.length = ks.length → BindsTo s fd ⟨us, ks.zip ws⟩ (ps.zip (pick src us its ws))
section
variable {X : Cx} {W : WX} {k n : Nat} {x : Str} {ks : List Str} {src : List (Nat × Nat)} {dv : List D} {sp : DSp} {p pos : Pos} {e : Expr} {es : List Expr} {ta tk : DTA} {kws : List Keyword}
theorem xcg_run {f : Addr} {fd : FuncData} {ps : List Str} {its : List Value} {dvs : List V} (F : XFn X.prog X.w X.K X.mg X.base k f fd ps sp) (tk : Takes X W) (hr : Room k X.A) (hgd : X.A.guards = some []) (hv : Vals dvs its) (hd : ∀ G H, RepL X.K G H dv dvs)
    (hb : ∀ (s : Shared) (us ws : List Value), X.K.In s.heap → us.length = n → ws.length = ks.length → BindsTo s fd ⟨us, ks.zip ws⟩ (ps.zip (pick src us its ws))) {pins : List (Addr × Obj)} {σ : L2.St} {H : Hp} {s : Shared} {Q : VK} {us ws : List Value} {vs zs : List V}
    (I : Inv X pins σ H s) (r : Vals vs us) (rz : Vals zs ws) (l1 : vs.length = n) (l2 : zs.length = ks.length) (h : toSp X.K sp (pick src vs dvs zs) H Q (WE W σ)) : wpAny (model X.prog X.w) X.A (call (.ref f) us (ks.zip ws)) (EP X pins σ Q) X.xe s := by
  refine wpAny_call (codeAny_mono (F.go X.A X.stack s H ⟨us, ks.zip ws⟩ _ _ Q (WE W σ) hr hgd I.env0 (hb s us ws I.kIn (r.length.symm.trans l1) (rz.length.symm.trans l2)) (pick_vals r hv rz) h) ?_)
  intro res s2 hq
  match res, hq with
  | .error er, hq => exact passAt tk σ pins H s er s2 I hq
  | .ok (.ret u), hq => exact I.after hq
end
section
variable {P : Program} {w : World} {K : PySem.W.Frag} {mg : Str → Option Value} {base : Heap} {k n : Nat} {x qual : Str} {params : Arguments} {body : List Stmt} {scope : Scope} {f : Addr} {fd : FuncData} {ps ks : List Str} {src : List (Nat × Nat)} {sp sp' : DSp}
theorem xcallee_of (F : FunD K x qual params body scope [] [] f fd) (hm : mg x = some (.ref f)) (D : XFn P w K mg base k f fd ps sp)
    (b1 : ∀ (kV doc pm : Value) (an : Option Addr) (cdv ct : Value) (us : List Value), us.length = ps.length → bindArgs (PySem.W.fnOf x qual params body scope .none kV doc pm an cdv ct) ⟨us, []⟩ = pure (ps.zip us))
    (b2 : ∀ (kV doc pm : Value) (an : Option Addr) (cdv ct : Value) (us : List Value), us.length = ps.length → bindArgs (PySem.W.fnOf x qual params body scope .none kV doc pm an cdv ct) ⟨[], ps.zip us⟩ = pure (ps.zip us)) : XCallee P w K mg base k x ps sp := by
  refine ⟨f, fd, D, hm, F.kp, F.bindsN b1, ⟨?_, fun r => r, fun r => r⟩⟩
  intro s ws hl
  obtain ⟨oc, od, dV, kV, doc, pm, an, cdv, ct, osl, rfl, lk, hcd, hD, hK⟩ := F.ex
  rcases hD with ⟨_, rfl⟩ | ⟨e, _⟩
  · exact .of_eq (b2 kV doc pm an cdv ct ws hl)
  · exact absurd rfl e
theorem XFn.calm (F : XFn P w K mg base k f fd ps sp) (h : ∀ ds G Q E, sp' ds G Q E → sp ds G Q noX) : DFn P w K mg base k f fd ps sp' := by
  refine ⟨fun xs H Q E hs => ?_, fun A out st H ar us xs Q E hr hg he hb hv hs => ?_⟩
  · obtain ⟨ds, G, q, e, rl, g, h1, _⟩ := hs
    exact F.arity xs H (fun _ _ => True) (fun _ _ _ => True) ⟨ds, G, q, noX, rl, g, h _ _ _ _ h1, fun _ _ _ _ _ _ _ _ => trivial, fun _ _ _ _ _ _ _ _ _ => trivial⟩
  · obtain ⟨ds, G, q, e, rl, g, h1, kq, ke⟩ := hs
    refine codeAny_mono (F.go A out st H ar us xs Q (fun _ _ _ => False) hr hg he hb hv ⟨ds, G, q, noX, rl, g, h _ _ _ _ h1, kq, fun _ _ _ _ _ _ _ _ z => z.elim⟩) fun r s' hq => ?_
    cases r with
    | error er =>
      obtain ⟨_, _, _, _, _, _, _, _, _, _, _, _, z⟩ := (show L2.CX P w out H st (fun _ _ _ => False) er s' from hq)
      exact z.elim
    | ok fl => cases fl <;> exact hq
theorem XCalleeG.calm {dv : List Dl.D} (C : XCalleeG P w K mg base k x n ks src dv sp) (h : ∀ ds G Q E, sp' ds G Q E → sp ds G Q noX) : CalleeG P w K mg base k x n ks src dv sp' := by
  obtain ⟨f, fd, ps, F, a⟩ := C.ex
  exact ⟨f, fd, ps, XFn.calm F h, a⟩
end
section
variable {X : Cx} {W : WX} {k : Nat} {x : Str} {ps : List Str} {sp : DSp} {p pos : Pos} {ta : DTA} {kws : List Keyword}
end
section
variable {P : Program} {w : World} {K : PySem.W.Frag} {mg : Str → Option Value} {base : Heap} {x qual : Str} {params : Arguments} {body : List Stmt} {scope : Scope} {dvs : List V} {kws : List (Str × V)} {f c : Addr} {fd : FuncData} {N ps : List Str} {k : Nat} {sp : DSp}
theorem gfn_ofC {CX : CXT} {sp : Sp} (F : FunD K x qual params body scope dvs kws f fd) (S : FnScope N ps scope) (len : ∀ xs H Q E, sp xs H Q E → xs.length = ps.length)
    (hbody : ∀ (cdv : Value) (A : Around) (out : List Env) (st : Shared) (H : Hp) (xs : List V) (Q : VK) (E : XK), fd.code = cdv → Room k (A.deeper (PyProof.Rows.envOfC qual scope st.heap.objs.size f cdv)) → (A.deeper (PyProof.Rows.envOfC qual scope st.heap.objs.size f cdv)).guards = some [] →
      sp xs H Q E → ∃ t, PSs (cxOf CX P w K mg base N qual scope f cdv A out st H E) body t ∧ t { nx := fun _ H' => Q .non H', rt := Q } (L2.start N xs) H) : GFn P w K mg base CX (k + 1) f fd ps sp := by
  obtain ⟨oc, od, dV, kV, doc, pm, an, cdv, ct, osl, hfd, lk, hcd, _, _⟩ := F.ex
  subst hfd
  constructor
  · exact len
  intro A out st H ar us xs Q E hr hgd e0 hb rl hsp
  have kin : K.In st.heap := PySem.W.Frag.In.keeps e0.mod.kin (fun b o e => (e0.bs b o e).1)
  have nl : st.heap.NoLimit := Heap.NoLimit.keeps e0.mod.nolimit (fun b o e => (e0.bs b o e).1)
  have kinds : ∀ y ∈ ps.zip us, scope.names.lookup y.1 = some .local ∨ (scope.names.lookup y.1 = some .cell ∧ ((cellsFrom (st.heap.objs.size + 1) scope.names []).lookup y.1).isSome = true) := by
    rintro ⟨n, v⟩ hy
    cases S.par n (List.of_mem_zip hy).1 with
    | inl q => exact .inl q
    | inr q => exact .inr ⟨q, PySem.W.cellsFrom_some _ _ _ (.inl q)⟩
  refine PySem.codeAny_call_function hr.depth (kin _ _ lk) rfl S.co S.gen rfl (PySem.W.codeRec_of kin hcd) ?_
  refine hb _ _ _ _ ?_
  refine wpAny_newFunctionEnv_cells S.kind kinds ?_
  intro env he s1 ic
  subst he
  refine ⟨nl.keeps ic.toInCall.keep, PySem.codeAny_func ?_⟩
  have gd : (A.deeper (PyProof.Rows.envOfC qual scope st.heap.objs.size f cdv)).guards = some [] := hgd
  obtain ⟨t, ht, hq⟩ := hbody cdv A out st H xs Q E rfl (hr.deeper _) gd hsp
  have inv := inv_start (CX := CX) (E := E) S hr.hd e0 (len _ _ _ _ hsp) rl ic
  refine wpAny_mono (ht.run [] s1 _ H _ inv hq) ?_ (fun _ _ z => z)
  intro fl s2 hs
  cases fl with
  | ret u => obtain ⟨v, σ2, H2, J, rv, q⟩ := hs; exact ⟨v, H2, J.os, J.bare, J.base, J.hok, rv, q⟩
  | next => obtain ⟨σ2, H2, J, q⟩ := hs; exact ⟨V.non, H2, J.os, J.bare, J.base, J.hok, rfl, q⟩
  | brk => obtain ⟨_, _, _, q⟩ := hs; exact q.elim
  | cont => obtain ⟨_, _, _, q⟩ := hs; exact q.elim
theorem dfn_ofL {β : Type} {t : β → DTS} (F : FunD K x qual params body scope dvs kws f fd) (hc : fd.code = .ref c) (S : FnScope N ps scope) (len : ∀ ds G Q E, sp ds G Q E → ds.length = ps.length)
    (hbody : ∀ (A : Around) (out : List Env) (st : Shared) (H : Hp) (E : XK), Room k (A.deeper (PyProof.Rows.envOfC qual scope st.heap.objs.size f (.ref c))) → (A.deeper (PyProof.Rows.envOfC qual scope st.heap.objs.size f (.ref c))).guards = some [] →
      ∃ b : β, DSs (cxOf CX0 P w K mg base N qual scope f (.ref c) A out st H E).nox body (t b))
    (ok : ∀ b ds G Q E, sp ds G Q E → t b { nx := fun _ G' => Q .non G', rt := Q } (startD N.length ds) G) : DFn P w K mg base (k + 1) f fd ps sp := by
  refine gfn_ofC F S (fun vs H Q E h => ?_) fun cdv A outer s H vs Q E hcd hr hg h => ?_
  · obtain ⟨ds, G, q, e, rl, _, h, _⟩ := h
    rw [rl.length]
    exact len _ _ _ _ h
  · rw [hc] at hcd
    subst hcd
    obtain ⟨b, hb⟩ := hbody A outer s H E hr hg
    refine ⟨_, PSs.nox hb, ?_⟩
    obtain ⟨ds, G, q, e, rl, g, h, kq, ke⟩ := h
    refine ⟨startD N.length ds, G, _, start_rel rl g, ok b ds G q e h, ?_, ?_, ?_, ?_⟩
    · exact fun σ' ρ' H' G' e' r' h' => kq .non .non H' G' e' r'.gok (by unfold RepV; rfl) h'
    · exact fun v d H' G' e' g' v' h' => kq v d H' G' e' g' v' h'
    · exact fun _ _ _ _ _ _ z => z.elim
    · exact fun _ _ _ _ _ _ z => z.elim
end
def dHearL (P : Addr) (q : Str) (rH : Act → DTS) (n : Nat) (t : XTE) : DTE := fun ρ G Q => G P = some (.tab q) ∧
  ∀ φ n1 H1, rH ⟨q, φ, n1, H1, fun E' G' Q' => t (fun x _ G2 => E' x G2) ρ G' Q'⟩ { nx := fun _ G' => Q .non G', rt := Q } (some (.fn q φ n1 H1) :: List.replicate (n - 1) none) G
section
variable {X : Cx} {k n : Nat} {x q : Str} {rH : Act → DTS} {p lpos pos : Pos} {c T : Addr} {params : Arguments} {body : Expr} {scope : Scope} {t : XTE}
theorem de_hearL (C : Hearer X.prog X.w X.K X.mg X.base k x rH n) (TB : TabB X.base X.mg c T) (hcode : X.env.code = .ref c) (hq : X.env.qual ++ "<lambda>" = q) (hr : Room (k + 2) X.A) (hgd : X.A.guards = some []) (hg : Gl X x)
    (hdef : defaultsOf params X.env = ([], [])) (LS : LamS X.env.scope scope) (hbind : ∀ (cl : List (Str × Addr)) (pm cv ctv : Value), bindArgs (PySem.W.kla_fn "<lambda>" (X.env.qual ++ "<lambda>") params body scope cl pm cv ctv) ⟨[], []⟩ = pure [])
    (hbody : ∀ (A : Around) (outer : List Env) (s : Shared) (H : Hp) (E : XK) (f c' : Addr), Room k (A.deeper (lamEnv X scope s.heap.objs.size f c')) → (A.deeper (lamEnv X scope s.heap.objs.size f c')).guards = some [] →
      Takes (lamCx X A outer s H E scope f c') (fun c d _ H' => E c d H') → XE1 (lamCx X A outer s H E scope f c') (fun c d _ H' => E c d H') body t)
    (hdb : (x == ("__debug__" : Str)) = false := by decide) (hst : starEach [.Lambda params body scope lpos] X.env = (false, eval (.Lambda params body scope lpos) X.env) :: starEach [] X.env := by rfl) (hpl : (backTo pos (starEach [] X.env)).any (·.1) = false := by rfl) :
    DE X (.Call (.Name x p) [.Lambda params body scope lpos] [] pos) (dHearL T q rH n t) := by
  subst hq
  refine PE.imp (de_hear (Ls := [⟨_, _, t⟩]) C (fun l hl => ?_) hr hgd hg (de_lam TB hcode hdef LS.free) hdb hst hpl) fun σ H Q ⟨ρ, G, q, r, ⟨gP, h⟩, k⟩ => ⟨ρ, G, q, r, ⟨gP, _, List.mem_singleton.mpr rfl, _, _, rfl, h _⟩, k⟩
  rw [List.mem_singleton] at hl
  subst hl
  exact ⟨params, body, scope, rfl, rfl, LS, hbind, hbody⟩
end
section
variable {P : Program} {w : World} {K : PySem.W.Frag} {mg : Str → Option Value} {base : Heap} {k : Nat} {x a : Str} {pg : Arguments} {bg : List Stmt} {sg : Scope} {g : Addr} {fd : FuncData} {Ng : List Str} {rH : Act → DTS}
theorem hearer_of (F : FunD K x x pg bg sg [] [] g fd) (hm : mg x = some (.ref g)) (S : FnScope Ng [a] sg) (hNg : Ng[0]? = some a) (hva : Vis sg a)
    (hbody : ∀ (cdv : Value) (A : Around) (out : List Env) (st : Shared) (H : Hp) (α : Act), Room (k + 1) (A.deeper (envOfC x sg st.heap.objs.size g cdv)) → (A.deeper (envOfC x sg st.heap.objs.size g cdv)).guards = some [] →
      (∀ (W : WX) (pn : List (Addr × Obj)) (xe : Value → Shared → Prop) (p1 p2 : Pos), Takes ((cxOf CX0 P w K mg base Ng x sg g cdv A out st H E0).tr pn xe) W →
        XE1 ((cxOf CX0 P w K mg base Ng x sg g cdv A out st H E0).tr pn xe) W (.Call (.Name a p1) [] [] p2) (xAct 0 α)) →
      DSs (cxOf CX0 P w K mg base Ng x sg g cdv A out st H E0).nox bg (rH α))
    (b1 : ∀ (kV doc pm : Value) (an : Option Addr) (cdv ct : Value) (us : List Value), us.length = [a].length → bindArgs (PySem.W.fnOf x x pg bg sg .none kV doc pm an cdv ct) ⟨us, []⟩ = pure ([a].zip us))
    (hd : (a == ("__debug__" : Str)) = false := by decide) (hcd : (a == ("__classdict__" : Str)) = false := by decide) : Hearer P w K mg base k x rH Ng.length := by
  have hb := F.bindsN b1
  obtain ⟨oc, od, dV, kV, doc, pm, an, cdv, ct, osl, rfl, lk, hcd2, hD, hK⟩ := F.ex
  exact ⟨g, pg, bg, sg, Ng, a, dV, kV, doc, pm, cdv, ct, oc, an, od, osl, hm, F.kp, lk, hcd2, hb, S, rfl, hNg, hva, hd, hcd, fun A out st H α hr hgd act => hbody cdv A out st H α hr hgd act⟩
end
section
variable {X : Cx} {W : WX}
@[simp] def xFrz (t : XTE) : XTE := fun Z => dFrz (t Z)
theorem xe_frz {e : Expr} {t : XTE} (h : XE1 X W e t) : XE1 X W e (xFrz t) := by
  refine PE.imp h fun σ H Q ⟨ρ, G, q, Z, r, h, k, z⟩ => ?_
  refine ⟨ρ, G, _, Z, r, h, fun v d H1 G1 e1 r1 v1 h1 => ?_, z⟩
  cases d with
  | ref p =>
    dsimp only at h1
    cases q : G1 p with
    | none => rw [q] at h1; exact k _ _ _ _ e1 r1 v1 h1
    | some o =>
      rw [q] at h1
      cases o with
      | lst ds =>
        dsimp only at h1
        obtain ⟨xs, hx, rx⟩ := r1.gok p _ q
        have e2 : Ext G1 H1 (dropG G1 p) H1 := Ext.drop
        refine k v (.lst ds) H1 (dropG G1 p) (e1.trans e2) (r1.ext e2 r1.gok.drop) ?_ h1
        unfold RepV at v1 ⊢
        exact ⟨p, xs, v1, ⟨dropG_same, hx⟩, rx.ext e2⟩
      | _ => exact k _ _ _ _ e1 r1 v1 h1
  | _ => exact k _ _ _ _ e1 r1 v1 h1
end
end Dl
namespace Dl
open PySem PySem.Spec PyProof.Rows L2 LamX
theorem clsObjB_ok {K : PySem.W.Frag} {C : Addr} (h : clsObjB K C = true) : ∃ nm q N bs bm sn sub ab col dd k0 k1 k2 k3 k5, K.lookup C = some (excClassObj nm q C N bs bm true sn sub ab col dd k0 k1 k2 k3 k5 "ValueError.__new__") ∧ PySem.HandSPX.refsVE bm = true := by
  unfold clsObjB at h
  split at h
  · rename_i t dd cd sl ho
    obtain ⟨h1, h⟩ := Bool.and_eq_true_iff.mp h
    obtain rfl := of_decide_eq_true h1
    split at h
    · rename_i C' bm k0 k1 k2 k3 n k5 hm hs
      simp only [Bool.and_eq_true, decide_eq_true_eq, Bool.not_eq_true'] at h
      obtain ⟨_, rfl, rfl, h3, h4, h5⟩ := h
      obtain ⟨nm, bs, mro, ns, qn, hd, sn, sub, ab, col, del⟩ := cd
      dsimp only at hm h3 h4
      subst hm h3 h4
      have hsl : sl = #[k0, k1, k2, k3, some (.builtin "ValueError.__new__"), k5] := by
        obtain ⟨l⟩ := sl
        simp only at hs
        rw [hs]
      subst hsl
      exact ⟨nm, qn, ns, bs, bm, sn, sub, ab, col, dd, k0, k1, k2, k3, k5, ho, h5⟩
    · cases h
  · cases h
structure XinOk (K : PySem.W.Frag) (file : Str) (d : XD) (f c cc D : Addr) : Prop where
  s : ExcS K file (He.ga K d.x) f c cc D
  at_ : PySem.W.nsIn K mainGlobals d.x = some (some (.ref (He.ga K d.x)))
  no : ∀ g ∈ d.fl, PySem.W.findIn K (.ref (He.ga K d.x)) g = some none
  fn : ∃ (oc doc pm ct : Value) (an od : Option Addr) (osl : Array (Option Value)), K.lookup f = some ⟨oc, od, .func (PySem.W.fnX "__init__" d.qual d.params d.body d.scope [(("__class__" : Str), cc)] .none .none doc pm an (.ref c) ct), osl⟩
  code : PySem.W.codeIn K (.ref c) d.qual = true
theorem xinB_ok {K : PySem.W.Frag} {file : Str} {d : XD} (h : xinB K file d = true) (e : fnE K d.x = d.val) : ∃ f c cc D, XinOk K file d f c cc D := by
  unfold xinB at h
  simp only [Bool.and_eq_true, decide_eq_true_eq, List.all_eq_true] at h
  obtain ⟨a1, a2, a3, a4, a5, a6, a7, a8, a9, a10, a11, a12, a13⟩ := h
  unfold inimB at a13
  unfold fnE at e
  split at a13
  · rename_i oc od fd osl lf
    rw [lf] at e
    split at a13
    · rename_i nm cc c hcl hco hdf hkw
      split at a13
      · rename_i ca cb D csl da db vs dsl lcc lc
        simp only [Bool.and_eq_true, decide_eq_true_eq] at a13
        obtain ⟨b1, b2, b3, b4, b5⟩ := a13
        split at b5
        · rename_i fl tf hvs
          obtain ⟨n1, n2, n3, n4, n5, n6, n7, n8, n9, n10, n11, n12, n13, n14, n15⟩ := fd
          dsimp only at hcl hco hdf hkw
          subst hcl hco hdf hkw
          unfold XD.val at e
          simp only [Option.some.injEq, Prod.mk.injEq, List.map_cons, List.map_nil, List.cons.injEq, and_true] at e
          obtain ⟨e1, e2, e3, e4, e5, e6, e7, e8⟩ := e
          subst e1 e2 e3 e4 e5 e6 e7 e8
          refine ⟨iniA K d.x, c, cc, D, ⟨⟨clsObjB_ok a1, a2, a3, a4, a5⟩, a6, a7, Option.isSome_iff_exists.mp b2, ⟨_, _, _, lcc⟩, ⟨_, _, _, _, _, _, lc, hvs, b5⟩, b3, b4, a8, a9, a10⟩, a11, a12, ⟨_, _, _, _, _, _, _, lf⟩, b1⟩
        · cases b5
      · cases a13
    · cases a13
  · cases a13
section
open NdefX
variable {P : Program} {w : World} {K : PySem.W.Frag} {mg : Str → Option Value} {d : XD} {x1 x2 f1 f2 : Str} {p0 p1 p2 p3 p4 q1 q2 r1 r2 r3 r4 r5 r6 r7 r8 : Pos} {ar : Arg}
theorem xclass2 (h : xinB K P.main.file d = true) (e : fnE K d.x = d.val) (hmg : mg d.x = some (.ref (He.ga K d.x))) (hfl : d.fl = [f1, f2])
    (hbody : d.body = [stSup p0 p1 p2 p3 p4 [.Name x1 q1, .Name x2 q2], stKeep x1 f1 r1 r2 r3 r4, stKeep x2 f2 r5 r6 r7 r8]) (NS : NScope (nI [x1, x2]) [("self" : Str), x1, x2] ["__class__"] d.scope) (hp : (d.params.posonlyargs ++ d.params.args).head? = some ar) (har : ar.arg = ("self" : Str))
    (hks : d.scope.names.lookup ("super" : Str) = some .globalImplicit) (htop : (P.main.scope.names.lookup ("super" : Str)).isSome = false)
    (d1 : (x1 == ("__debug__" : Str)) = false) (d2 : (x2 == ("__debug__" : Str)) = false) (e1 : (x1 == ("__classdict__" : Str)) = false) (e2 : (x2 == ("__classdict__" : Str)) = false)
    (hb : ∀ (cl : List (Str × Addr)) (doc pm cdv ct : Value) (an : Option Addr) (us : List Value), us.length = 3 → bindArgs (PySem.W.fnX "__init__" d.qual d.params d.body d.scope cl .none .none doc pm an cdv ct) ⟨us, []⟩ = pure ([("self" : Str), x1, x2].zip us))
    {pl : Env → Sem Bool} (hev : ∀ env, eval (.Call (.Attribute (.Call (.Name "super" p0) [] [] p1) "__init__" p2) [.Name x1 q1, .Name x2 q2] [] p3) env = (do
      let ov ← attributeBase (.Call (.Name "super" p0) [] [] p1) "__init__" env (eval (.Call (.Name "super" p0) [] [] p1) env)
      standAt p2.atName
      let (g, first) ← holding [ov] (getMethod ov "__init__" (pl env))
      callWith p3 g first (backTo p3 (starEach [.Name x1 q1, .Name x2 q2] env)) []))
    (hsw : ∀ env, swapsWith (.Call (.Attribute (.Call (.Name "super" p0) [] [] p1) "__init__" p2) [.Name x1 q1, .Name x2 q2] [] p3) none p4.line env = pure false) : XClass P w K mg d.x [f1, f2] := by
  obtain ⟨f, c, cc, D, X⟩ := xinB_ok h e
  obtain ⟨oc, doc, pm, ct, an, od, osl, lf⟩ := X.fn
  refine ⟨X.s.ox, by show 2 ≤ 100; decide, hmg, fun base => ⟨f, _, [("self" : Str), x1, x2], X.s.ini, X.s.fnT, ?_, Binds.all fun us hl => hb [(("__class__" : Str), cc)] doc pm (.ref c) ct an us hl⟩⟩
  rw [hbody] at lf ⊢
  exact xinit2 X.s lf X.code NS hp har hks htop (X.no f1 (by rw [hfl]; simp)) (X.no f2 (by rw [hfl]; simp)) d1 d2 e1 e2 hev hsw
end
theorem obsEG_eq {n : Nat} {fx : List Fx} {fn : List He.DefD} {tf : List He.Defn} {ex : PySem.W.Frag → Bool} {xs : List XD} {pd : List PDef} {g : Addr → Option Obj} {s : Shared} (h : ∀ a, g a = s.heap.get? a) : obsEG n fx fn tf ex xs pd g = (hookE n fx fn tf ex xs pd).obs s := by
  have e : g = s.heap.get? := funext h
  rw [e] <;> rfl
def tabG (T : List (Addr × Str)) : GH := fun b => (T.lookup b).map DO.tab
theorem look_cons (u : Addr) (v : Str) (r : List (Addr × Str)) (b : Addr) : ((u, v) :: r).lookup b = if b = u then some v else r.lookup b := by
  rw [List.lookup_cons]
  by_cases h : b = u
  · subst h; simp
  · have e : (b == u) = false := by simpa using h
    rw [e, if_neg h]
theorem look_nd {T : List (Addr × Str)} (nd : (T.map (·.1)).Nodup) : ∀ p ∈ T, T.lookup p.1 = some p.2 := by
  induction T with
  | nil => intro p hp; cases hp
  | cons q r ih =>
    intro p hp
    obtain ⟨u, v⟩ := q
    simp only [List.map_cons, List.nodup_cons] at nd
    rw [look_cons]
    rcases List.mem_cons.mp hp with rfl | hp
    · rw [if_pos rfl]
    · have ne : p.1 ≠ u := fun z => nd.1 (by rw [← z]; exact List.mem_map_of_mem hp)
      rw [if_neg ne]
      exact ih nd.2 p hp
theorem tabG_at {T : List (Addr × Str)} (nd : (T.map (·.1)).Nodup) {p : Addr × Str} (hp : p ∈ T) : tabG T p.1 = some (.tab p.2) := by
  unfold tabG
  rw [look_nd nd p hp]
  rfl
theorem look_mem {b : Addr} {q : Str} : ∀ {T : List (Addr × Str)}, T.lookup b = some q → (b, q) ∈ T
  | [], h => by cases h
  | (u, v) :: r, h => by
    rw [look_cons] at h
    by_cases e : b = u
    · rw [if_pos e] at h
      cases h
      rw [e]
      exact List.mem_cons_self
    · rw [if_neg e] at h
      exact List.mem_cons_of_mem _ (look_mem h)
theorem law_goT {P : Program} {w : World} {K : PySem.W.Frag} {mg mb : Str → Option Value} {k : Nat} {fa a : Addr} {T : List (Addr × Str)} {cs : List (Addr × Addr)} {fd : FuncData} {x : Str} {sp : DSp} {st : Shared} {vs : List Value} {ns : List Int}
    (kin : K.In st.heap) (gl : st.heap.Ns mainGlobals mg) (bl : st.heap.Ns builtinsNs mb) (bb : ∀ y : Str, y ≠ "__name__" → mb y = bootBuiltins y) (lim : st.heap.NoLimit) (hg : st.gens = #[])
    (hT : ∀ p ∈ T, st.heap.get? p.1 = some { cls := .none, data := .fields #[] }) (nT : ∀ p ∈ T, K.lookup p.1 = none) (hcs : ∀ p ∈ cs, p.2 ∈ T.map (·.1)) (hct : ∀ p ∈ T, ∃ c, (c, p.1) ∈ cs) (C : ∀ p ∈ cs, PySem.W.CodeHd st.heap p.1 p.2)
    (hbm : ∃ (bm : Addr) (ob : Obj), mg "__builtins__" = some (.ref bm) ∧ bm ≠ builtinsNs ∧ st.heap.get? bm = some ob ∧ ob.cls = .type "module" ∧ ob.dict = some builtinsNs ∧ ob.data = .plain)
    (ha : st.heap.get? a = some { cls := .type "list", data := .seq vs.toArray }) (hi : IntsAre vs ns) (hl : ns.length ≤ sizeLine) (hr : Room k callerA) (hgd : callerA.guards = some [])
    (F : ∀ base : Heap, K.In base → base.Ns mainGlobals mg → (∀ p ∈ cs, TabB base mg p.1 p.2) → DFn P w K mg base k fa fd [x] sp) (bind : ∀ (s : Shared) (u : Value), BindsTo s fd ⟨[u], []⟩ [(x, u)])
    (hsp : sp [.scr ns] (tabG T) (fun d _ => d = .bl true) noX) :
    codeAny (model P w) callerA (.call (.ref fa) ⟨[.ref a], []⟩) (fun r s' => r = .ok (.ret (.bool true)) ∧ OldK st.heap s'.heap ∧ s'.os = st.os ∧ AllBare s'.gens) st := by
  have rv : Vals (ns.map V.int) vs := vals_of_ints hi
  have ln : vs.length = ns.length := hi.length
  let ob : Obj := { cls := .type "list", data := .seq vs.toArray }
  let fz : HO := .frz ob (.lst (ns.map V.int))
  have isT : ∀ {b : Addr} {q : Str}, T.lookup b = some q → st.heap.get? b = some { cls := .none, data := .fields #[] } := fun {b q} h => hT _ (look_mem h)
  have aT : T.lookup a = none := by
    cases q : T.lookup a with
    | none => rfl
    | some y =>
      have z := isT q
      rw [ha] at z
      have z' : Data.seq vs.toArray _ = Data.fields #[] := congrArg Obj.data (Option.some.inj z)
      cases z'
  obtain ⟨H, h0, h1, h2, h3⟩ : ∃ H : Hp, (∀ b q, T.lookup b = some q → H b = some (.tbl #[])) ∧ (∀ b, T.lookup b = none → H b = none ∨ (b = a ∧ H b = some fz)) ∧ ScrAt K (tabG T) H a (ns.map V.int) ∧ (∀ b o, K.lookup b = some o → H b = none) := by
    have ga : tabG T a = none := by unfold tabG; rw [aT]; rfl
    cases q : K.lookup a with
    | some o =>
      have e := kin a o q
      rw [ha] at e
      cases e
      refine ⟨fun b => (T.lookup b).map fun _ => .tbl #[], fun b q z => by show (T.lookup b).map _ = _; rw [z]; rfl, fun b z => .inl (by show (T.lookup b).map _ = _; rw [z]; rfl), .inr ⟨_, vs.toArray, _, q, rfl, rfl, rfl, ?_, ?_⟩, fun b o z => ?_⟩
      · rw [List.size_toArray, ln]; exact hl
      · simpa using rv
      · show (T.lookup b).map _ = _
        cases y : T.lookup b with
        | none => rfl
        | some t => rw [nT _ (look_mem y)] at z; cases z
    | none =>
      refine ⟨fun b => if b = a then some fz else (T.lookup b).map fun _ => .tbl #[], fun b q z => ?_, fun b z => ?_, .inl ⟨ga, .inr ⟨ob, if_pos rfl⟩⟩, fun b o e => ?_⟩
      · have n : b ≠ a := fun y => by rw [y, aT] at z; cases z
        show (if b = a then some fz else (T.lookup b).map fun _ => .tbl #[]) = _
        rw [if_neg n, z]; rfl
      · by_cases e : b = a
        · exact .inr ⟨e, if_pos e⟩
        · refine .inl ?_
          show (if b = a then some fz else (T.lookup b).map fun _ => .tbl #[]) = _
          rw [if_neg e, z]; rfl
      · show (if b = a then some fz else (T.lookup b).map fun _ => .tbl #[]) = _
        have n : b ≠ a := fun y => by rw [y, q] at e; cases e
        rw [if_neg n]
        cases y : T.lookup b with
        | none => rfl
        | some t => rw [nT _ (look_mem y)] at e; cases e
  have noD : ∀ {b : Addr} {o : Obj}, st.heap.get? b = some o → (∀ us n, o.data ≠ .seq us n) → o.data ≠ .fields #[] → H b = none := by
    intro b o e d1 d2
    cases y : T.lookup b with
    | some q =>
      have z := isT y
      rw [e] at z
      cases z
      exact absurd rfl d2
    | none =>
      rcases h1 b y with z | ⟨rfl, _⟩
      · exact z
      · rw [ha] at e
        cases e
        exact absurd rfl (d1 _ _)
  have keep : ∀ {b : Addr} {m : Str → Option Value}, st.heap.Ns b m → (hidT st.heap H).Ns b m := by
    rintro b m ⟨o, es, ep, e, d, r⟩
    exact ⟨o, es, ep, hidT_get e (noD e (fun _ _ z => by rw [d] at z; cases z) (fun z => by rw [d] at z; cases z)), d, r⟩
  have kin2 : K.In (hidT st.heap H) := fun b o e => hidT_get (kin b o e) (h3 b o e)
  have ok : HOk P w H st.heap := by
    intro b u e
    cases y : T.lookup b with
    | some q =>
      rw [h0 b q y] at e
      cases e
      exact isT y
    | none =>
      rcases h1 b y with z | ⟨rfl, z⟩
      · rw [z] at e; cases e
      · rw [z] at e
        cases e
        exact ⟨ha, by rw [List.length_map]; exact hl, vs, _, rv, ha⟩
  obtain ⟨ml, l1, l2⟩ := lim
  have e0 : Env0 P w K mg (hidT st.heap H) callerA [] st H :=
    { frames := rfl, mod := ⟨kin2, keep gl, ⟨mb, keep bl, bb⟩, ⟨ml, keep l1, l2⟩⟩, bs := fun b o e => of_hidT e, bsz := Nat.le_of_eq (hidT_size _ _), funs := trivial, frf := fun b hb => absurd (show b ∈ ([] : List Addr) from hb) (by simp), hok := ok, bare := .of_eq hg }
  have gok : GOk K (tabG T) H := fun b u e => by
    unfold tabG at e
    cases y : T.lookup b with
    | none => rw [y] at e; cases e
    | some q =>
      rw [y] at e
      cases e
      exact ⟨#[], h0 b q y, True.intro, fun pos cv hc => by
        have z : codeAmong pos [] = some cv := hc
        simp [codeAmong] at z⟩
  have rep : RepL K (tabG T) H [.scr ns] [.ref a] := repL_one (by unfold RepV; exact ⟨a, rfl, h2⟩)
  have prom : toSp K sp [.ref a] H (fun v _ => v = .bl true) E0 := ⟨_, _, _, noX, rep, gok, hsp, fun v d H' G' _ _ r q => by
    have q' : d = .bl true := q
    subst q'
    exact rv_bl r, fun _ _ _ _ _ _ _ _ z => z.elim⟩
  have TB : ∀ p ∈ cs, TabB (hidT st.heap H) mg p.1 p.2 := fun p hp => by
    obtain ⟨t, ht, et⟩ := List.mem_map.mp (hcs p hp)
    have hTp := hT t ht
    rw [et] at hTp
    refine ⟨?_, ?_, fun z => ?_⟩
    · obtain ⟨o, us, file, tf, flags, tg, inF, text, tt, e1, r1, r2, r3, r4, r5, r6, r7, r8, hne⟩ := C p hp
      refine ⟨o, us, file, tf, flags, tg, inF, text, tt, hidT_get e1 (noD e1 (fun _ _ z => by rw [r2] at z; cases z) (fun z => ?_)), r1, r2, r3, r4, r5, r6, r7, r8, hne⟩
      rw [r2] at z
      cases z
      simp at r3
    · obtain ⟨bm, om, b1, b2, b3, b4, b5, b6⟩ := hbm
      refine ⟨bm, om, b1, b2, fun q => ?_, fun q => ?_, hidT_get b3 (noD b3 (fun _ _ z => by rw [b6] at z; cases z) (fun z => by rw [b6] at z; cases z)), b4, b5, b6⟩
      · obtain ⟨o, es, ep, e, hd, _⟩ := gl
        rw [q, e] at b3
        cases b3
        rw [hd] at b6
        cases b6
      · rw [q, hTp] at b3
        cases b3
        cases b6
    · obtain ⟨o, es, ep, e, hd, _⟩ := gl
      rw [z, hTp] at e
      cases e
      cases hd
  refine codeAny_mono ((F _ kin2 (keep gl) TB).go callerA [] st H ⟨[.ref a], []⟩ [.ref a] [.ref a] _ _ hr hgd e0 (bind st (.ref a)) (.cons rfl .nil) prom) ?_
  intro r s2 hq
  match r, hq with
  | .ok (.ret u), hq =>
    obtain ⟨v, H2, os, bare, un, ok2, ru, qv⟩ := hq
    have qv' : v = .bl true := qv
    subst qv'
    obtain rfl : u = Value.bool true := ru
    have key : ∀ b o, T.lookup b = none → st.heap.get? b = some o → s2.heap.get? b = some o := by
      intro b o y e
      rcases h1 b y with z | ⟨rfl, z⟩
      · exact un.keep b o e z (by simp [frs]) (by simp)
      · have z2 := un.frzs _ ob _ z
        obtain ⟨e1, _⟩ := ok _ _ z
        obtain ⟨e2, _⟩ := ok2 _ _ z2
        rw [e] at e1
        cases e1
        exact e2
    have grown : ∀ b q, T.lookup b = some q → ∃ more : Array Value, s2.heap.get? b = some { cls := .none, data := .fields more } := fun b q y => by
      obtain ⟨more, z⟩ := un.tbls b #[] (h0 b q y)
      exact ⟨_, ok2 b _ z⟩
    refine ⟨rfl, ⟨fun b o e => ?_, fun b o e => ?_⟩, os, bare⟩
    · cases y : T.lookup b with
      | none => exact .inl (key b o y e)
      | some q =>
        obtain ⟨more, hm⟩ := grown b q y
        have hTb := isT y
        rw [hTb] at e
        cases e
        obtain ⟨c, hc⟩ := hct _ (look_mem y)
        exact .inr (.inl ⟨((C _ hc).tab hTb).isCodeTable, rfl, #[], more, rfl, by rw [Array.empty_append]; exact hm⟩)
    · cases y : T.lookup b with
      | none => exact ⟨o, key b o y e⟩
      | some q =>
        obtain ⟨more, hm⟩ := grown b q y
        exact ⟨_, hm⟩
theorem d_walkT {l : PySem.W.OpenLaw} {n k : Nat} {q : Program} {loose : List Str} {XP : (Str → Option Value) → Heap → Prop} {YP : World → Heap → Prop} {d : DefRec} {x : Str}
    (hn : l.most = some n) (hn2 : n ≤ sizeLine) (hdf : d.params.defaults = []) (hr : Room k callerA) (hgd : callerA.guards = some [])
    (F : ∀ (w : World) (mg : Str → Option Value) (fa : Addr) (h : Heap), YP w h → h.Ns mainGlobals mg → mg d.name = some (.ref fa) →
      ∃ (K : PySem.W.Frag) (fd : FuncData) (sp : DSp) (T : List (Addr × Str)) (cs : List (Addr × Addr)), K.In h ∧ (∀ (s : Shared) (u : Value), BindsTo s fd ⟨[u], []⟩ [(x, u)]) ∧
        (∀ p ∈ T, h.get? p.1 = some { cls := .none, data := .fields #[] }) ∧ (∀ p ∈ T, K.lookup p.1 = none) ∧ (∀ p ∈ cs, p.2 ∈ T.map (·.1)) ∧ (∀ p ∈ T, ∃ c, (c, p.1) ∈ cs) ∧ (∀ p ∈ cs, PySem.W.CodeHd h p.1 p.2) ∧
        (∀ ns : List Int, ns.length ≤ n → sp [.scr ns] (tabG T) (fun d _ => d = .bl true) noX) ∧
        ∀ base : Heap, K.In base → base.Ns mainGlobals mg → (∀ p ∈ cs, TabB base mg p.1 p.2) → DFn l.prog w K mg base k fa fd [x] sp) :
    PySem.W.WalkO q loose XP YP l.row.toRowW d [] (fun f vs => PySem.call f vs) := by
  refine Att.attach_call hn hdf ?_
  intro w s0 s1 mg mb fa o pm cd doc a vs ns G Y ho hd hcd hmg hobj hints hlen hg
  obtain ⟨K, fd, sp, T, cs, kin, hb, t1, t2, t3, t4, t5, hsp, hF⟩ := F w mg fa _ Y G.T.g hmg
  exact law_goT kin G.T.g G.T.b G.T.builtins G.T.nolimit hg t1 t2 t3 t4 t5 G.T.bmain hobj hints (Nat.le_trans hlen hn2) hr hgd hF hb (hsp ns hlen)
end Dl
namespace K08
open PySem L2 Dl
open PyProof.Rows
theorem ob_eq (s : PySem.W.SharedT) : ob s = hk.obs s.abs := obsEG_eq (HandSHeadRun.getT_eq s)
open PySem PySem.W PySem.Calls PyProof.Rows in
theorem head_of (F : ∀ (w : World) (mg : Str → Option Value) (fa : Addr) (h : Heap) (K : PySem.W.Frag), K.In h → SaysE fx fn (tq.map (·.1)) ex xs pd h K → h.Ns mainGlobals mg → mg ("law" : Str) = some (.ref fa) →
      ∃ (K : PySem.W.Frag) (fd : FuncData) (sp : DSp) (T : List (Addr × Str)) (cs : List (Addr × Addr)), K.In h ∧ (∀ (s : Shared) (u : Value), BindsTo s fd ⟨[u], []⟩ [("_law_script", u)]) ∧
        (∀ p ∈ T, h.get? p.1 = some { cls := .none, data := .fields #[] }) ∧ (∀ p ∈ T, K.lookup p.1 = none) ∧ (∀ p ∈ cs, p.2 ∈ T.map (·.1)) ∧ (∀ p ∈ T, ∃ c, (c, p.1) ∈ cs) ∧ (∀ p ∈ cs, PySem.W.CodeHd h p.1 p.2) ∧
        (∀ ns : List Int, ns.length ≤ 63 → sp [.scr ns] (tabG T) (fun d _ => d = .bl true) noX) ∧
        ∀ base : Heap, K.In base → base.Ns mainGlobals mg → (∀ p ∈ cs, LamX.TabB base mg p.1 p.2) → DFn (PySem.Challenge.rw_honestbars_k08_signs_written_and_read).prog w K mg base 35 fa fd ["_law_script"] sp) : PySem.Challenge.rw_honestbars_k08_signs_written_and_read.Holds := by
  w_on; o_law
  refine HandSHeadRun.head_any (r := OpenLaw.row PySem.Challenge.rw_honestbars_k08_signs_written_and_read) (q := view (OpenLaw.row PySem.Challenge.rw_honestbars_k08_signs_written_and_read).prog [46]) (H := K08.hk) (ob := K08.ob) (M := 8000) (loose := K08.loose) (d := HandSHeadRun.topDef (OpenLaw.row PySem.Challenge.rw_honestbars_k08_signs_written_and_read).prog 46) (kwd := []) K08.ob_eq
    (by kernel_rfl) (fun s => by kernel_rfl) K08.run (by kernel_rfl) (by kernel_rfl) (by kernel_rfl) (by rfl) (by first | assumption | decide +kernel) (by decide +kernel) ⟨rfl, rfl, rfl, rfl, rfl, by decide +kernel⟩ ?hw ?hc
  case hw => w_witness2
  case hc =>
    refine Dl.d_walkT (l := PySem.Challenge.rw_honestbars_k08_signs_written_and_read) (n := 63) (k := 35) (x := "_law_script") rfl (by decide) (by kernel_rfl) ⟨rfl, by decide, by decide⟩ rfl ?F
    intro w mg fa h Y G hmg0
    obtain ⟨K, KX, c⟩ := Y
    have hmg : mg ("law" : PySem.Str) = some (.ref fa) := by
      have e : (HandSHeadRun.topDef (OpenLaw.row PySem.Challenge.rw_honestbars_k08_signs_written_and_read).prog 46).name = ("law" : PySem.Str) := by kernel_rfl
      rw [← e]
      exact hmg0
    exact F w mg fa h K KX c G hmg
end K08
namespace Dl
open PySem L2 PyProof.Rows LamX
section
variable {X : Cx} {pins : List (Addr × Obj)} {σ : L2.St} {H : Hp} {s : Shared}
def Within (X : Cx) (pins : List (Addr × Obj)) (σ : L2.St) (B : Cx) : Prop := ∀ (pn : List (Addr × Obj)) (τ : L2.St) (J : Hp) (t : Shared), Inv B pn τ J t → Inv X pins σ J t
end
section
variable {X : Cx} {pins : List (Addr × Obj)} {σ : L2.St} {ρX : DSt} {k n : Nat} {x : Str} {rH : Act → DTS} {Ls : List LamI} {e : Expr} {te : DTE} {p pos : Pos}
end
section
variable {X : Cx} {k n iy : Nat} {x y : Str} {rH : Act → DTS} {Ls : List LamI} {tc : DTE} {r : DR2} {wi : DTI}
end
section
variable {X : Cx}
end
end Dl
namespace Dl
open PySem L2 PyProof.Rows
def pickL {α : Type} (xs : List α) (i k : Int) : List α := (sliceRange (sliceBounds (some i) none (some k) xs.length).1 (sliceBounds (some i) none (some k) xs.length).2.1 (sliceBounds (some i) none (some k) xs.length).2.2).filterMap fun j => xs[j]?
theorem pickL_mem {α : Type} {xs : List α} {i k : Int} {x : α} (h : x ∈ pickL xs i k) : x ∈ xs := by
  obtain ⟨j, _, e⟩ := List.mem_filterMap.mp h
  exact List.mem_of_getElem? e
def tStepL (K : PySem.W.Frag) (te tl ts : TE) : TE := fun σ H Q => te σ H fun x H1 => tl σ H1 fun y H2 => ∃ i, y = .int i ∧ ts σ H2 fun z H3 => ∃ k, z = .int k ∧ k ≠ 0 ∧ ∃ a xs, x = .ref a ∧ SqL K H3 a xs ∧ ∀ p, H3 p = none → Q (.ref p) (upd H3 p (.lst (pickL xs i k)))
theorem vals_at : ∀ {xs : List V} {us : List Value}, Vals xs us → ∀ j : Nat, (∃ v u, xs[j]? = some v ∧ us[j]? = some u ∧ RelV v u) ∨ (xs[j]? = none ∧ us[j]? = none)
  | _, _, .nil, j => .inr ⟨by simp, by simp⟩
  | _, _, .cons r t, 0 => .inl ⟨_, _, rfl, rfl, r⟩
  | _, _, .cons r t, j + 1 => by
    rw [List.getElem?_cons_succ, List.getElem?_cons_succ]
    exact vals_at t j
theorem vals_pick {xs : List V} {us : List Value} (r : Vals xs us) (f : List Nat) : Vals (f.filterMap fun j => xs[j]?) (f.filterMap fun j => us[j]?) := by
  induction f with
  | nil => exact .nil
  | cons j f ih =>
    rw [List.filterMap_cons, List.filterMap_cons]
    rcases vals_at r j with ⟨v, u, e1, e2, rv⟩ | ⟨e1, e2⟩
    · rw [e1, e2]; exact .cons rv ih
    · rw [e1, e2]; exact ih
theorem pick_len {α : Type} (xs : List α) (i k : Int) (hx : xs.length ≤ sizeLine) : (pickL xs i k).length ≤ sizeLine := by
  have e : ∀ {β : Type} (ys : List β), ys.length = xs.length → (pickL ys i k).length = (pickL xs i k).length := fun {β} ys e => by
    unfold pickL
    rw [e]
    generalize sliceRange _ _ _ = f
    induction f with
    | nil => rfl
    | cons j f ih =>
      rw [List.filterMap_cons, List.filterMap_cons]
      cases h1 : ys[j]? with
      | none =>
        have : xs[j]? = none := by rw [List.getElem?_eq_none_iff] at h1 ⊢; omega
        rw [this]; exact ih
      | some y =>
        have hj := (List.getElem?_eq_some_iff.mp h1).1
        have : xs[j]? = some xs[j] := List.getElem?_eq_getElem (by omega)
        rw [this, List.length_cons, List.length_cons, ih]
  have h := slicePick_size_le (List.replicate xs.length Value.none).toArray (some i) none (some k)
  have h2 := e (List.replicate xs.length Value.none) (by simp)
  have h3 : (slicePick (List.replicate xs.length Value.none).toArray (some i) none (some k)).size = (pickL (List.replicate xs.length Value.none) i k).length := by
    unfold slicePick pickL
    rw [List.size_toArray, List.size_toArray]
    congr 1
    refine congrArg (fun f => List.filterMap f _) (funext fun j => ?_)
    rw [List.getElem?_toArray]
  rw [h3, h2] at h
  rw [List.size_toArray, List.length_replicate] at h
  exact Nat.le_trans h hx
section
variable {X : Cx}
theorem pe_stepL {e lo st : Expr} {te tl ts : TE} {p3 pos : Pos} (he : PE X e te) (hl : PE X lo tl) (hs : PE X st ts) : PE X (.Subscript e (.Slice (some lo) none (some st) p3) pos) (tStepL X.K te tl ts) := by
  refine ⟨fun pins s σ H Q I h => ?_⟩
  refine Subscript_ (thn (he.run pins s σ H _ I h) fun w s1 ⟨x, H1, I1, r1, q1⟩ => ?_)
  refine wpAny_Slice (thn (hl.run pins s1 σ H1 _ I1 q1) fun vl s2 ⟨y, H2, I2, r2, i, ey, q2⟩ => ?_)
  refine thn (po_none.run pins s2 σ H2 (fun o J => o = none ∧ J = H2) I2 ⟨rfl, rfl⟩) fun vu s3 ⟨ou, J, I3, pu, eu, ej⟩ => ?_
  rw [ej] at I3
  refine thn (hs.run pins s3 σ H2 _ I3 q2) fun vs s4 ⟨z, H4, I4, r4, k, ez, k0, a, xs, ex, hx, q⟩ => ?_
  subst ey ez ex eu
  obtain ⟨t1, rfl⟩ := r2
  obtain ⟨t2, rfl⟩ := r4
  obtain rfl : w = Value.ref a := r1
  have I5 : Inv X pins σ H4 { s4 with heap := s4.heap.push { cls := .type "slice", data := .fields #[.int i t1, vu, .int k t2] } } := I4.kept (t' := s4.toks) fun _ _ z => Heap.get?_push_of_some _ z
  obtain ⟨its, rv, pl, hz⟩ := I5.list hx
  have hz2 : its.length ≤ sizeLine := by rw [← rv.length]; exact hz
  show wpAny (model X.prog X.w) X.A (subscriptTail e (.Slice (some lo) none (some st) p3) (.ref a) (.ref s4.heap.objs.size)) _ _ _
  refine tail_any (ops := [.ref a, .ref s4.heap.objs.size]) pl.isList.typeIs (PySem.slot_list_getitem.lookup) ?_ (by with_unfolding_all rfl)
  refine wpAny_getItem_list_slice (lo := some i) (hi := none) (st := some k) pl.isList (Heap.IsSliceOf.new _ (.int i t1) vu (.int k t2)) (.int i t1) pu (.int k t2) (fun z => k0 (Option.some.inj z)) ?_ (by rw [List.size_toArray]; exact hz2)
  have e1 : slicePick its.toArray (some i) none (some k) = (pickL its i k).toArray := by
    unfold slicePick pickL
    rw [List.size_toArray]
    congr 1
    refine congrArg (fun f => List.filterMap f _) (funext fun j => ?_)
    rw [List.getElem?_toArray]
  rw [e1]
  have vp : Vals (pickL xs i k) (pickL its i k) := by
    unfold pickL
    rw [rv.length]
    exact vals_pick rv _
  refine ⟨.ref _, _, I5.laid (t' := s4.toks) (o := .lst (pickL xs i k)) (fun _ _ z => Heap.get?_push_of_some _ z) (Nat.le_refl _) ?_, rfl, q _ (I5.hok.fresh (Nat.le_refl _))⟩
  exact ⟨pick_len xs i k hz, _, 0, vp, Heap.get?_push_size _ rfl⟩
end
def dStep (te tl ts : DTE) : DTE := fun ρ G Q => te ρ G fun x G1 => tl ρ G1 fun y G2 => ∃ i, y = .int i ∧ ts ρ G2 fun z G3 => ∃ k, z = .int k ∧ k ≠ 0 ∧ ∃ ds, lsOf G3 x = some ds ∧ ∀ p, G3 p = none → Q (.ref p) (updG G3 p (.lst (pickL ds i k)))
section
variable {K : PySem.W.Frag} {G : GH} {H : Hp}
theorem repL_at : ∀ {ds : List D} {xs : List V}, RepL K G H ds xs → ∀ j : Nat, (∃ d v, ds[j]? = some d ∧ xs[j]? = some v ∧ RepV K G H d v) ∨ (ds[j]? = none ∧ xs[j]? = none)
  | [], xs, r, j => by unfold RepL at r; subst r; exact .inr ⟨by simp, by simp⟩
  | d :: ds, xs, r, j => by
    unfold RepL at r
    obtain ⟨x, ys, rfl, h1, h2⟩ := r
    cases j with
    | zero => exact .inl ⟨d, x, rfl, rfl, h1⟩
    | succ j =>
      rw [List.getElem?_cons_succ, List.getElem?_cons_succ]
      exact repL_at h2 j
theorem repL_pick {ds : List D} {xs : List V} (r : RepL K G H ds xs) (f : List Nat) : RepL K G H (f.filterMap fun j => ds[j]?) (f.filterMap fun j => xs[j]?) := by
  induction f with
  | nil => exact repL_nil
  | cons j f ih =>
    rw [List.filterMap_cons, List.filterMap_cons]
    rcases repL_at r j with ⟨d, v, e1, e2, rv⟩ | ⟨e1, e2⟩
    · rw [e1, e2]; exact repL_cons rv ih
    · rw [e1, e2]; exact ih
end
section
variable {X : Cx}
theorem de_step {e lo st : Expr} {te tl ts : DTE} {p3 pos : Pos} (he : DE X e te) (hl : DE X lo tl) (hs : DE X st ts) : DE X (.Subscript e (.Slice (some lo) none (some st) p3) pos) (dStep te tl ts) := by
  refine (pe_stepL he hl hs).imp fun σ H Q ⟨ρ, G, q, r, h, kq⟩ => ?_
  refine ⟨ρ, G, _, r, h, fun x dx H1 G1 e1 r1 v1 h1 => ?_⟩
  refine ⟨ρ, G1, _, r1, h1, fun y dy H2 G2 e2 r2 v2 h2 => ?_⟩
  obtain ⟨i, rfl, h2⟩ := h2
  refine ⟨i, rv_int v2, ρ, G2, _, r2, h2, fun z dz H3 G3 e3 r3 v3 h3 => ?_⟩
  obtain ⟨k, rfl, k0, ds, hls, h3⟩ := h3
  obtain ⟨a, xs, ex, hx, rl⟩ := ls_at r3.gok ((v1.ext e2).ext e3) hls
  refine ⟨k, rv_int v3, k0, a, xs, ex, SqL.of hx, fun p hp => ?_⟩
  have rp : RepL X.K G3 H3 (pickL ds i k) (pickL xs i k) := by
    unfold pickL
    rw [← rl.length]
    exact repL_pick rl _
  obtain ⟨e', g', rv'⟩ := new_lst r3.gok hp rp
  exact kq _ _ _ _ (((e1.trans e2).trans e3).trans e') (r3.ext e' g') rv' (h3 p (r3.gok.fresh hp))
end
end Dl
namespace Dl
open PySem L2
def bolsD : List D → Option (List Bool)
  | [] => some []
  | .bl b :: r => (bolsD r).map (b :: ·)
  | _ :: _ => none
theorem bolsD_of : ∀ {ds : List D} {bs : List Bool}, bolsD ds = some bs → ds = bs.map D.bl
  | [], bs, h => by simp [bolsD] at h; subst h; rfl
  | .bl b :: r, bs, h => by
    unfold bolsD at h
    cases e : bolsD r with
    | none => rw [e] at h; cases h
    | some l =>
      rw [e] at h
      simp at h
      subst h
      rw [bolsD_of e]; rfl
  | .non :: _, _, h => by simp [bolsD] at h
  | .int _ :: _, _, h => by simp [bolsD] at h
  | .str _ :: _, _, h => by simp [bolsD] at h
  | .byt _ :: _, _, h => by simp [bolsD] at h
  | .tup _ :: _, _, h => by simp [bolsD] at h
  | .lst _ :: _, _, h => by simp [bolsD] at h
  | .ref _ :: _, _, h => by simp [bolsD] at h
  | .scr _ :: _, _, h => by simp [bolsD] at h
@[simp] def bolsP (G : GH) (x : D) (P : List Bool → Prop) : Prop := match lsOf G x with
  | some ds => (match bolsD ds with
    | some bs => P bs
    | none => False)
  | none => False
@[simp] def rAllC : DRC := fun ds G Q => arg1 ds fun x => bolsP G x fun bs => Q (.bl (bs.all id)) G
theorem bols_pure : ∀ bs : List Bool, pureDs (bs.map D.bl) = true
  | [] => by simp [pureDs]
  | b :: bs => by simp [pureDs, pureD, bols_pure bs]
theorem bols_py : ∀ bs : List Bool, pyDs (bs.map D.bl) = bs.map PyData.bool
  | [] => by simp [pyDs]
  | b :: bs => by simp [pyDs, pyD, bols_py bs]
theorem bols_plain : ∀ bs : List Bool, PyData.plainAll (bs.map PyData.bool) = true
  | [] => by simp [PyData.plainAll]
  | b :: bs => by simp [PyData.plainAll, PyData.plain, bols_plain bs]
theorem bols_all : ∀ bs : List Bool, (bs.map PyData.bool).all PyData.truthy = bs.all id
  | [] => rfl
  | b :: bs => by simp [PyData.truthy, bols_all bs]
section
variable {X : Cx}
theorem c_all (hc : X.calm = true) : DCall X (.builtin "all") rAllC := by
  intro pins s σ H xs us Q I r ⟨G, ds, q, g, rl, h0, k⟩
  obtain ⟨d, rfl, h⟩ := arg1_of h0
  obtain ⟨x, rfl, rx⟩ := repL_1 rl
  unfold bolsP at h
  cases e : lsOf G d with
  | none => rw [e] at h; exact h.elim
  | some l =>
    rw [e] at h
    dsimp only at h
    cases e2 : bolsD l with
    | none => rw [e2] at h; exact h.elim
    | some bs =>
      rw [e2] at h
      dsimp only at h
      obtain ⟨a, ys, rfl, h1, l1⟩ := ls_at g rx e
      rw [bolsD_of e2] at l1
      obtain ⟨u, rfl, ru⟩ := vals1 r
      cases ru
      obtain ⟨its, rv, hl, _⟩ := I.list (SqL.of h1)
      obtain ⟨as, rd⟩ := Dp.readsAll I _ _ _ (dps_of l1 (bols_pure bs)) rv
      rw [bols_py] at rd
      refine PySem.W.all_list_data (I.ok.hd hc) hl.isList rd (bols_plain bs) (fun x hx => ?_) fun h' tk hk => ?_
      · obtain ⟨b, _, rfl⟩ := List.mem_map.mp hx
        trivial
      · rw [bols_all]
        exact ⟨.bl _, H, I.kept hk, rfl, k _ _ H G (Ext.refl G H) g bl_rv h⟩
end
end Dl
namespace Dl
open PySem PySem.Spec PyProof.Rows HT
section
variable {prog : Program} {w : World} {A : Around} {E : Value → Shared → Prop} {s : Shared}
theorem applied_rev {sl : Addr} {vl vu vs : Value} {n : Nat} {Q : Int × Int × Nat → Shared → Prop} (hs : s.heap.IsSliceOf sl vl vu vs) (pl : IsPart vl none) (pu : IsPart vu none) (ps : IsPart vs (some (-1)))
    (h : Q ((n : Int) - 1, -1, n) s) : wpAny (model prog w) A (Builtin.Slice.sliceApplied (.ref sl) (pure (n : Int))) Q E s := by
  obtain ⟨os, hos, hcs, hds⟩ := id hs
  unfold Builtin.Slice.sliceApplied Builtin.Slice.sliceFields
  refine wpAny_bind (wpAny_bind (wpAny_field hos hds (x := vl) rfl (wpAny_bind (wpAny_field hos hds (x := vu) rfl (wpAny_bind (wpAny_field hos hds (x := vs) rfl (wpAny_pure ?_)))))))
  refine wpAny_bind (slicePart_ ps ?_)
  show wpAny _ _ (if ((-1 : Int) == 0) = true then _ else _) _ _ s
  rw [if_neg (by decide)]
  refine wpAny_bind (slicePart_ pl (wpAny_bind (slicePart_ pu (wpAny_bind (wpAny_pure ?_)))))
  show wpAny _ _ (pure ((n : Int) - 1, (-1 : Int), Builtin.Slice.slicePlaces ((n : Int) - 1) (-1) (-1))) _ _ s
  have e : Builtin.Slice.slicePlaces ((n : Int) - 1) (-1) (-1) = n := by
    unfold Builtin.Slice.slicePlaces
    rw [if_neg (by decide)]
    split
    · rw [show (-(-1) : Int) = 1 from by decide, Int.ediv_one]; omega
    · omega
  rw [e]
  exact wpAny_pure h
theorem fm_congr {α β : Type} {f g : α → Option β} : ∀ {l : List α}, (∀ x ∈ l, f x = g x) → l.filterMap f = l.filterMap g
  | [], _ => rfl
  | x :: l, h => by
    rw [List.filterMap_cons, List.filterMap_cons, h x (List.mem_cons_self ..), fm_congr fun y hy => h y (List.mem_cons_of_mem _ hy)]
theorem rev_pick (xs : Array Value) : ((List.range xs.size).filterMap fun (m : Nat) => xs[(((xs.size : Int) - 1) + (m : Int) * (-1)).toNat]?).toArray = xs.toList.reverse.toArray := by
  have e : (List.range xs.size).filterMap (fun (m : Nat) => xs[(((xs.size : Int) - 1) + (m : Int) * (-1)).toNat]?) = ((List.range xs.size).map fun k => xs.size - 1 - k).filterMap (xs[·]?) := by
    rw [List.filterMap_map]
    refine fm_congr ?_
    intro m hm
    have := List.mem_range.mp hm
    show xs[(((xs.size : Int) - 1) + (m : Int) * (-1)).toNat]? = xs[xs.size - 1 - m]?
    congr 1
    omega
  rw [e, PySem.W.krv_range, List.filterMap_reverse, PySem.W.krv_all]
theorem getItem_tuple_rev {t sl : Addr} {items : Array Value} {vl vu vs : Value} {Q : Value → Shared → Prop} (ht : IsTup s.heap t items) (hs : s.heap.IsSliceOf sl vl vu vs) (pl : IsPart vl none) (pu : IsPart vu none) (ps : IsPart vs (some (-1)))
    (h : Q (.ref s.heap.objs.size) { s with heap := s.heap.push { cls := .type "tuple", data := .seq items.toList.reverse.toArray } })
    (hsz : items.size ≤ sizeLine) : wpAny (model prog w) A (getItem (.ref t) (.ref sl)) Q E s := by
  have htake : sizeOk (.seq items.toList.reverse.toArray) := by
    show items.toList.reverse.toArray.size ≤ sizeLine
    rw [List.size_toArray, List.length_reverse, Array.length_toList]
    exact hsz
  obtain ⟨os, hos, hcs, hds⟩ := id hs
  have hTs : s.TypeIs (.ref sl) "slice" := ⟨os, hos, hcs⟩
  unfold getItem
  try with_reducible refine wpAny_holding ?_
  first | refine wpAny_bind (wpAny_pure ?_) | skip
  refine wpAny_bind (wpAny_sequenceKey ht.typeIs (by decide) ?_)
  refine wpAny_bind (wpAny_callSpecial?_slot (name := Str.ofString "__getitem__") ht.typeIs PyProof.Rows.slot_tuple_getitem
    (wpAny_call_entry PyProof.Rows.slot_tuple_getitem ht.typeIs entry_tuple_getitem ?_ (args_tuple_getitem _ _)))
  show wpAny _ _ (Builtin.Tuple.tupleItemsOf (.ref t) >>= _) _ _ s
  refine wpAny_bind (tupleItemsOf_ ht ?_)
  refine wpAny_bind (wpAny_typeOf hTs ?_)
  rw [if_pos (by decide)]
  refine wpAny_bind (applied_rev hs pl pu ps ?_)
  have hno : ¬ (((items.size : Int) - 1 == 0 && (-1 : Int) == 1 && items.size == items.size) = true) := by
    intro q
    rw [Bool.and_eq_true, Bool.and_eq_true] at q
    exact absurd q.1.2 (by decide)
  show wpAny _ _ (if (((items.size : Int) - 1 == 0 && (-1 : Int) == 1 && items.size == items.size) = true) then _ else _) _ _ s
  rw [if_neg hno, rev_pick]
  first
    | exact wpAny_bind (m := Builtin.Tuple.tupleExact _) (wpAny_newObj_type (wpAny_pure ⟨_, rfl, wpAny_pure h⟩) htake)
    | exact wpAny_bind (m := Builtin.Tuple.tupleExact _) (wpAny_newObj_type (wpAny_bind (wpAny_pure (wpAny_pure ⟨_, rfl, wpAny_pure h⟩))) htake)
    | exact wpAny_bind (wpAny_bind (m := Builtin.Tuple.tupleExact _) (wpAny_newObj_type (wpAny_pure (wpAny_pure ⟨_, rfl, wpAny_pure h⟩)) htake))
    | exact wpAny_bind (wpAny_bind (m := Builtin.Tuple.tupleExact _) (wpAny_newObj_type (wpAny_pure ⟨_, rfl, wpAny_pure h⟩) htake))
end
end Dl
namespace Dl
open PySem L2
@[simp] def rRev : D → GH → DK → Prop := fun x G Q => match x with
  | .tup ds => Q (.tup ds.reverse) G
  | .lst ds => ∀ p, G p = none → Q (.ref p) (updG G p (.lst ds.reverse))
  | .ref a => (match G a with
    | some (.lst ds) => ∀ p, G p = none → Q (.ref p) (updG G p (.lst ds.reverse))
    | _ => False)
  | _ => False
@[simp] def dRev (te : DTE) : DTE := fun ρ G Q => te ρ G fun x G1 => rRev x G1 Q
def tRevA (K : PySem.W.Frag) (te : TE) : TE := fun σ H Q => te σ H fun x H1 => ∃ a xs, x = .ref a ∧ ((SqL K H1 a xs ∧ ∀ p, H1 p = none → Q (.ref p) (upd H1 p (.lst xs.reverse))) ∨ (SqT K H1 a xs ∧ ∀ p, H1 p = none → Q (.ref p) (upd H1 p (.tup xs.reverse))))
section
open PySem.Spec PyProof.Rows
variable {X : Cx}
theorem pe_revA {e : Expr} {te : TE} {kk : Nat} {q1 q2 q3 pos : Pos} (he : PE X e te) : PE X (.Subscript e (.Slice none none (some (.UnaryOp .USub (.Constant (.int 1) kk q1) q2)) q3) pos) (tRevA X.K te) := by
  constructor
  intro pins s σ H Q I h
  refine Subscript_ (thn (he.run pins s σ H _ I h) ?_)
  rintro v s1 ⟨x, H1, I1, r1, a, xs, rfl, q⟩
  cases r1
  have hst : PO X (some (.UnaryOp .USub (.Constant (.int 1) kk q1) q2)) (tPart (tUn (rU fun i => .int (-i)) (tC (.int 1)))) := po_some (pe_un un_neg pe_int)
  refine wpAny_Slice (thn (po_none.run pins s1 σ H1 (fun o Ha => o = none ∧ Ha = H1) I1 ⟨rfl, rfl⟩) ?_)
  rintro vl s2 ⟨l, H2, I2, pl, rfl, rfl⟩
  refine thn (po_none.run pins s2 σ H2 (fun o Hb => o = none ∧ Hb = H2) I2 ⟨rfl, rfl⟩) ?_
  rintro vu s3 ⟨u, H3, I3, pu, rfl, rfl⟩
  refine thn (hst.run pins s3 σ H3 (fun o Hc => o = some (-1) ∧ Hc = H3) I3 ⟨1, rfl, -1, rfl, rfl, rfl⟩) ?_
  rintro vs s4 ⟨o, H4, I4, ps, rfl, rfl⟩
  have I5 : Inv X pins σ H4 { s4 with heap := s4.heap.push { cls := .type "slice", data := .fields #[vl, vu, vs] } } := I4.kept (t' := s4.toks) fun b ob z => Heap.get?_push_of_some _ z
  have ho := Heap.IsSliceOf.new s4.heap vl vu vs
  rcases q with ⟨hx, q⟩ | ⟨hx, q⟩
  · obtain ⟨its, r, ht, hz⟩ := I5.list hx
    have hlen := r.length
    refine tail_any (ops := [.ref a, .ref s4.heap.objs.size]) ht.isList.typeIs (PySem.slot_list_getitem.lookup) ?_ (by with_unfolding_all rfl)
    refine wpAny_getItem_list_slice ht.isList ho pl pu ps (by decide) ?_ (by rw [List.size_toArray]; omega)
    rw [PySem.W.krv_pick]
    refine ⟨.ref _, _, I5.laid (t' := s4.toks) (o := .lst xs.reverse) (fun b ob z => Heap.get?_push_of_some _ z) (Nat.le_refl _) ?_, rfl, q _ (I5.hok.fresh (Nat.le_refl _))⟩
    exact ⟨by rw [List.length_reverse]; exact hz, _, 0, r.reverse, Heap.get?_push_size _ rfl⟩
  · obtain ⟨its, r, ht, hz⟩ := I5.tuple hx
    have hlen := r.length
    refine tail_any (ops := [.ref a, .ref s4.heap.objs.size]) ht.typeIs (PyProof.Rows.slot_tuple_getitem.lookup) ?_ (by with_unfolding_all rfl)
    refine getItem_tuple_rev ht ho pl pu ps ?_ (by rw [List.size_toArray]; omega)
    refine ⟨.ref _, _, I5.laid (t' := s4.toks) (o := .tup xs.reverse) (fun b ob z => Heap.get?_push_of_some _ z) (Nat.le_refl _) ?_, rfl, q _ (I5.hok.fresh (Nat.le_refl _))⟩
    exact ⟨by rw [List.length_reverse]; exact hz, _, r.reverse, IsTup.new _ _⟩
end
end Dl
namespace Dl
open PySem L2
section
variable {X : Cx}
theorem de_rev {e : Expr} {te : DTE} {kk : Nat} {q1 q2 q3 pos : Pos} (he : DE X e te) : DE X (.Subscript e (.Slice none none (some (.UnaryOp .USub (.Constant (.int 1) kk q1) q2)) q3) pos) (dRev te) := by
  refine (pe_revA he).imp fun σ H Q ⟨ρ, G, q, r, h, k⟩ => ?_
  refine ⟨ρ, G, _, r, h, fun x dx H1 G1 e1 r1 v1 h1 => ?_⟩
  have lcase : ∀ (a : Addr) (xs : List V) (ds : List D), x = .ref a → SqL X.K H1 a xs → RepL X.K G1 H1 ds xs → (∀ p, G1 p = none → q (.ref p) (updG G1 p (.lst ds.reverse))) →
      ∃ a xs, x = .ref a ∧ ((SqL X.K H1 a xs ∧ ∀ p, H1 p = none → Q (.ref p) (upd H1 p (.lst xs.reverse))) ∨ (SqT X.K H1 a xs ∧ ∀ p, H1 p = none → Q (.ref p) (upd H1 p (.tup xs.reverse)))) := by
    intro a xs ds ex hq rl hk
    refine ⟨a, xs, ex, .inl ⟨hq, fun p hp => ?_⟩⟩
    obtain ⟨e2, r2, v2⟩ := r1.newLst hp rl.reverse
    exact k _ _ _ _ (e1.trans e2) r2 v2 (hk p (r1.gok.fresh hp))
  cases dx with
  | tup ds =>
    obtain ⟨a, xs, ex, t, rl⟩ := tp_at v1
    refine ⟨a, xs, ex, .inr ⟨t, fun p hp => ?_⟩⟩
    obtain ⟨e2, r2, v2⟩ := r1.newTup hp rl.reverse
    exact k _ _ _ _ (e1.trans e2) r2 v2 h1
  | lst ds =>
    unfold RepV at v1
    obtain ⟨a, xs, ex, t, rl⟩ := v1
    exact lcase a xs ds ex t.sq rl h1
  | ref a =>
    cases rv_ref v1
    dsimp only [rRev] at h1
    cases hg : G1 a with
    | none => rw [hg] at h1; exact h1.elim
    | some o =>
      rw [hg] at h1
      cases o with
      | lst ds =>
        obtain ⟨xs, h3, h4⟩ := r1.gok a _ hg
        exact lcase a xs ds rfl (SqL.of h3) h4 h1
      | _ => exact h1.elim
  | _ => exact h1.elim
theorem iRev {te : DTE} {ρ : DSt} {G : GH} {Q : DK} (h : te ρ G fun x G1 => rRev x G1 Q) : dRev te ρ G Q := h
theorem revT {ds : List D} {G : GH} {Q : DK} (h : Q (.tup ds.reverse) G) : rRev (.tup ds) G Q := h
theorem revL {ds : List D} {G : GH} {Q : DK} (h : ∀ p, G p = none → Q (.ref p) (updG G p (.lst ds.reverse))) : rRev (.lst ds) G Q := h
theorem iCallG {sp : DSp} {n m : Nat} {src : List (Nat × Nat)} {dv : List D} {ta tk : DTA} {ρ : DSt} {G : GH} {Q : DK} (h : ta ρ G fun ds G1 => tk ρ G1 fun es G2 => ds.length = n ∧ es.length = m ∧ sp (pick src ds dv es) G2 Q noX) : dCallG sp n m src dv ta tk ρ G Q := h
theorem allC_i {l : List D} {bs : List Bool} {G : GH} {Q : DK} (e : bolsD l = some bs) (h : Q (.bl (bs.all id)) G) : rAllC [.lst l] G Q := by
  unfold rAllC arg1 bolsP lsOf
  dsimp only
  rw [e]
  exact h
end
end Dl
namespace Dl
open PySem L2
structure ShwA (d : D) : Prop where
  ok : okD d
  few : fewD d = true
  len : (shD d).length ≤ sizeLine
@[simp] def rReprA : DRC := fun ds G Q => arg1 ds fun x => ShwA (vw G x) ∧ Q (.str (shD (vw G x))) G
section
variable {X : Cx}
theorem c_reprA (hgd : X.A.guards = some []) (hu : X.A.units + 70 < cLine) : DCall X (.builtin "repr") rReprA := by
  intro pins s σ H xs us Q I r ⟨G, ds, q, g, rl, h0, k⟩
  obtain ⟨d, rfl, hS, h⟩ := arg1_of h0
  by_cases hsq : isSeqD (vw G d) = true
  · exact c_repr hgd hu pins s σ H xs us Q I r ⟨G, [d], q, g, rl, ⟨⟨hsq, hS.ok, hS.few, hS.len⟩, h⟩, k⟩
  · obtain ⟨x, rfl, rx⟩ := repL_1 rl
    obtain ⟨u, rfl, ru⟩ := vals1 r
    have hp := hS.ok.1
    have hlen := hS.len
    have hfew := hS.few
    have hv : vw G d = d := by
      cases d with
      | ref a =>
        dsimp only [vw] at hsq ⊢
        split
        · rename_i e; rw [e] at hsq; exact absurd rfl hsq
        · rfl
      | _ => rfl
    rw [hv] at h hp hsq hlen hfew
    cases d with
    | non => cases rv_non rx; cases ru; exact PySem.P.repr_of_none ⟨.str _, H, I.tok _, ⟨_, rfl⟩, k _ _ H G (Ext.refl G H) g str_rv h⟩
    | bl b => cases rv_bl rx; cases ru; exact PySem.P.repr_of_bool ⟨.str _, H, I.tok _, ⟨_, rfl⟩, k _ _ H G (Ext.refl G H) g str_rv h⟩
    | int i =>
      cases rv_int rx
      obtain ⟨t, rfl⟩ := ru
      exact PySem.P.repr_of_int (by simpa [fewD] using hfew) ⟨.str _, H, I.tok _, ⟨_, rfl⟩, k _ _ H G (Ext.refl G H) g str_rv h⟩
    | str z =>
      cases rv_str rx
      obtain ⟨t, rfl⟩ := ru
      exact PySem.P.repr_of_str ⟨.str _, H, I.tok _, ⟨_, rfl⟩, k _ _ H G (Ext.refl G H) g str_rv h⟩ hlen
    | tup l => exact absurd rfl hsq
    | lst l => exact absurd rfl hsq
    | byt _ => simp [pureD] at hp
    | ref _ => simp [pureD] at hp
    | scr _ => simp [pureD] at hp
    | fn _ _ _ _ => simp [pureD] at hp
    | exh _ _ _ _ _ => simp [pureD] at hp
end
end Dl
namespace Dl
open PySem L2
def cleanC (c : Nat) : Bool := (48 ≤ c && c ≤ 57) || (65 ≤ c && c ≤ 90) || c == 95 || (97 ≤ c && c ≤ 122)
def cleanS (x : Str) : Bool := x.cps.toList.all cleanC
mutual
def cleanD : D → Bool
  | .non => true
  | .bl _ => true
  | .int _ => true
  | .str x => cleanS x
  | .tup ds => cleanDs ds
  | .lst ds => cleanDs ds
  | _ => false
def cleanDs : List D → Bool
  | [] => true
  | d :: ds => cleanD d && cleanDs ds
end
end Dl
namespace Dl
open PySem L2
theorem ifNDT {A B p : Prop} [Decidable p] (h : p) (b : B) : if (!decide p) = true then A else B := by rw [decide_eq_true h, if_neg (by decide)]; exact b
theorem ifNDF {A B p : Prop} [Decidable p] (h : ¬ p) (a : A) : if (!decide p) = true then A else B := by rw [decide_eq_false h, if_pos (by decide)]; exact a
theorem iNeg {te : DTE} {ρ : DSt} {G : GH} {Q : DK} (h : te ρ G fun d G1 => match d with
  | .int i => Q (.int (-i)) G1
  | _ => False) : dNeg te ρ G Q := h
theorem vw_of {G : GH} {d : D} (h : pureD d = true) : vw G d = d := by
  cases d with
  | ref a => simp [pureD] at h
  | _ => rfl
theorem inn_n {x y : D} {ds : List D} {G : GH} {Q : DK} (e : sqOf G y = some ds) (h1 : flatD x = true) (h2 : ds.all flatD = true) (h : Q (.bl (!inD x ds)) G) : rInn not x y G Q := by
  unfold rInn; rw [e]; exact ⟨h1, h2, h⟩
theorem isN_T {G : GH} {Q : DK} (h : Q (.bl true) G) : rIsN id .non .non G Q := h
theorem isN_F {d : D} {G : GH} {Q : DK} (e : isNonD d = false) (h : Q (.bl false) G) : rIsN id d .non G Q := by
  show Q (.bl (id (isNonD d))) G
  rw [e]; exact h
theorem lcFt {α : Type} (xs : List α) (g h : α → D) (p : α → Bool) {wi : DTI} {ct : CT} {tt : DTT} {te : DTE} {ρ : DSt} {vs : List Nat} {G : GH} {Q : DK} (hw : ∀ P : List D → (GH → Prop) → GH → Prop, (∀ ok G1, (∀ G, ok G) → Grow G G1 → P (xs.map g) ok G1) → wi ρ G P)
    (hl : xs.length ≤ sizeLine) (hf : ∀ x ∈ xs, ∃ ρ2, bindC ct (g x) (wipeD ρ vs) = some ρ2 ∧ (∀ (G : GH) (K : Bool → GH → Prop), (∀ G', Grow G G' → K (p x) G') → tt ρ2 G K) ∧ (p x = true → ∀ (G : GH) (K : DK), (∀ G', Grow G G' → K (h x) G') → te ρ2 G K))
    (hq : ∀ G', Grow G G' → Q (.lst ((xs.filter p).map h)) G') : dLc wi ct tt te vs ρ G (frzK Q) := by
  unfold dLc
  refine hw _ ?_
  intro ok G1 hok g1 a ha
  have key : ∀ (rs : List α) (acc : List D) (G' : GH), (∀ x ∈ rs, x ∈ xs) → acc.length + rs.length ≤ xs.length → acc ++ (rs.filter p).map h = (xs.filter p).map h → Grow G1 G' → G' a = some (.lst acc) → dLcGo ok ct tt te (wipeD ρ vs) a (rs.map g) G' (frzK Q) := by
    intro rs
    induction rs with
    | nil =>
      intro acc G' _ _ e gg ea
      refine ⟨hok _, frzR ea ?_⟩
      have e2 : acc = (xs.filter p).map h := by simpa using e
      rw [e2]
      exact hq _ (g1.trans (Grow.drop ha gg))
    | cons r rs ih =>
      intro acc G' hm hl2 e gg ea
      rw [List.length_cons] at hl2
      obtain ⟨ρ2, e2, kt, ke⟩ := hf r (hm r (List.mem_cons_self ..))
      rw [List.map_cons]
      unfold dLcGo
      refine ⟨hok _, ?_⟩
      rw [e2]
      refine kt _ _ fun G3 g3 => ?_
      cases hp : p r with
      | false =>
        refine ifF ?_
        rw [List.filter_cons_of_neg (by rw [hp]; decide)] at e
        exact ih acc G3 (fun x hx => hm x (List.mem_cons_of_mem _ hx)) (by omega) e (gg.trans g3) (g3 _ _ ea)
      | true =>
        refine ifT ?_
        rw [List.filter_cons_of_pos hp] at e
        refine ke hp _ _ fun G4 g4 => ?_
        have ea4 := g4 _ _ (g3 _ _ ea)
        rw [ea4]
        refine ⟨by omega, ?_⟩
        refine ih (acc ++ [h r]) _ (fun x hx => hm x (List.mem_cons_of_mem _ hx)) (by rw [List.length_append, List.length_singleton]; omega) ?_ (Grow.upd2 ha ((gg.trans g3).trans g4)) updG_same
        rw [← e]; simp
  exact key xs [] _ (fun _ h => h) (by simp) (by simp) (Grow.upd ha) updG_same
end Dl
namespace Dl
open PySem L2
section
variable {X : Cx}
end
@[simp] def rIxA : DR2 := fun x y G Q => match x with
  | .str z => (match y with
    | .int i => z.length ≤ sizeLine ∧ (match atI z.cps.toList i with
      | some c => Q (.str ⟨#[c]⟩) G
      | none => False)
    | _ => False)
  | x => Dl.rIx x y G Q
section
variable {X : Cx}
theorem x_ixA : IxR X (upR X.K rIxA) := by
  intro ve sx pins s σ H x y v u Q I rx ry ⟨G, dx, dy, q, g, r1, r2, h, k⟩ hsub
  cases dx with
  | str z =>
    cases dy with
    | int i =>
      cases rv_int r2
      cases rv_str r1
      dsimp only [rIxA] at h
      obtain ⟨hz, h⟩ := h
      cases e : atI z.cps.toList i with
      | none => rw [e] at h; exact h.elim
      | some c =>
        rw [e] at h
        exact ix_str ve sx pins s σ H _ _ v u Q I rx ry ⟨z, i, c, rfl, rfl, hz, e, k _ _ H G (Ext.refl G H) g str_rv h⟩ hsub
    | _ => exact h.elim
  | _ => exact x_ix ve sx pins s σ H x y v u Q I rx ry ⟨G, _, dy, q, g, r1, r2, h, k⟩ hsub
theorem de_ixA {a b : Expr} {ta tb : DTE} {pos : Pos} (ha : DE X a ta) (hb : DE X b tb) (hs : PlainIx b := by exact fun _ _ => rfl) : DE X (.Subscript a b pos) (dOp rIxA ta tb) := (pe_ix x_ixA ha hb hs).imp fun _ _ _ h => up_op h
end
theorem ixA_t {l : List D} {i : Int} {d : D} {G : GH} {Q : DK} (e : atI l i = some d) (h : Q d G) : rIxA (.tup l) (.int i) G Q := by
  show Dl.rIx (.tup l) (.int i) G Q
  exact rIx_i (x := .tup l) (ds := l) (by with_unfolding_all rfl) e h
theorem ixA_s {z : Str} {i : Int} {c : Nat} {G : GH} {Q : DK} (hz : z.length ≤ sizeLine) (e : atI z.cps.toList i = some c) (h : Q (.str ⟨#[c]⟩) G) : rIxA (.str z) (.int i) G Q := by
  refine ⟨hz, ?_⟩
  rw [e]; exact h
end Dl
namespace Dl
open PySem L2
end Dl
namespace Dl
open PySem PySem.Spec PyProof.Rows L2
section
variable {prog : Program} {w : World} {A : Around} {R : Result → Shared → Prop} {s : Shared} {env : Env} {elt ta ia tb ib : Expr} {sc : Scope} {pos : Pos} {it acc : Value}
end
end Dl
namespace Dl
open PySem PySem.Spec PyProof.Rows L2
section
variable {Y : Cx} {tg : Expr} {J : It} {fp : List Addr} {it : Addr} {tn : Nat → Heap → Prop} {pins : List (Addr × Obj)} {σ : L2.St} {H : Hp} {s : Shared} {g : TG}
end
section
variable {X : Cx}
end
end Dl
namespace Dl
open PySem PySem.Spec PyProof.Rows L2
section
variable {P : Program} {w : World} {A : Around} {E : Value → Shared → Prop} {s : Shared}
end
end Dl
namespace Dl
open PySem PySem.Spec PyProof.Rows L2
section
variable {P : Program} {w : World} {A : Around} {E : Value → Shared → Prop} {s : Shared} {a : Addr}
end
section
variable {X : Cx}
end
end Dl
namespace Dl
open PySem L2
section
variable {K : PySem.W.Frag} {w : World}
end
section
variable {X : Cx}
end
end Dl
namespace Dl
open PySem L2
section
variable {X : Cx}
end
section
variable {te ta tb : DTE} {ρ : DSt} {G : GH} {Q : DK}
end
end Dl
namespace Dl
open PySem L2
structure FCallee (P : Program) (w : World) (K : PySem.W.Frag) (mg : Str → Option Value) (base : Heap) (k : Nat) (x : Str) (ps : List Str) (sp : DSp) : Prop where
  ex : ∃ f fd, FnOk P w K mg base CX0 k f fd ps (toSp K sp) ∧ mg x = some (.ref f) ∧ PySem.W.keepIn K (.ref f) = true ∧ Binds K fd ps [] ∧ KwB K fd ps ps (fun l => l)
section
variable {P : Program} {w : World} {K : PySem.W.Frag} {mg : Str → Option Value} {base : Heap} {j k : Nat} {x : Str} {ps : List Str} {sp : DSp}
end
section
variable {X : Cx} {k : Nat} {x : Str} {ps : List Str} {sp : DSp} {p pos : Pos} {e : Expr} {es : List Expr} {ta : DTA}
end
section
variable {P : Program} {w : World} {K : PySem.W.Frag} {mg : Str → Option Value} {base : Heap} {x qual : Str} {params : Arguments} {body : List Stmt} {scope : Scope} {f : Addr} {fd : FuncData} {N ps : List Str} {k : Nat} {sp : DSp} {t : DTS}
end
end Dl
namespace Dl
open PySem L2
section
variable {X : Cx}
end
structure DGE where
  nx : List D → DSt → GH → Prop
  rt : List D → DK
  bk : List D → DSt → GH → Prop := fun _ _ _ => False
  ct : List D → DSt → GH → Prop := fun _ _ _ => False
abbrev DTY := DGE → List D → DSt → GH → Prop
section
variable {X : Cx}
end
end Dl
namespace Dl
open PySem L2
abbrev DSpG := List D → GH → (List D → GH → Prop) → Prop
def toSpG (K : PySem.W.Frag) (sp : DSpG) : SpG := fun vs H Qv _ => ∃ ds G q, RepL K G H ds vs ∧ GOk K G H ∧ sp ds G q ∧
  ∀ zs es H' G', Ext G H G' H' → GOk K G' H' → RepL K G' H' es zs → q es G' → Qv zs H'
structure GCallee (P : Program) (w : World) (K : PySem.W.Frag) (mg : Str → Option Value) (base : Heap) (k : Nat) (x : Str) (ps : List Str) (sp : DSpG) : Prop where
  ex : ∃ j f fd, j + 3 ≤ k ∧ L2.GFn P w K mg base j f fd ps (toSpG K sp) ∧ mg x = some (.ref f) ∧ PySem.W.keepIn K (.ref f) = true ∧ Binds K fd ps []
section
variable {P : Program} {w : World} {K : PySem.W.Frag} {mg : Str → Option Value} {base : Heap} {j k : Nat} {x : Str} {ps : List Str} {sp : DSpG}
variable {qual : Str} {params : Arguments} {body : List Stmt} {scope : Scope} {f : Addr} {fd : FuncData} {N : List Str} {t : DTY}
end
section
variable {X : Cx} {k : Nat} {x : Str} {ps : List Str} {sp : DSpG} {p p2 pos pos2 : Pos} {e : Expr} {es : List Expr} {ta : DTA}
end
section
variable {X : Cx}
end
end Dl
namespace Dl
open PySem L2
section
variable {X : Cx}
end
end Dl
namespace Dl
open PySem L2
section
variable {X : Cx}
end
end Dl
namespace Dl
open PySem L2 PySem.W PySem.SeqAt PyProof.Rows
open AutoSeq1 (wpAny_loadPart')
open MeetsSeq MeetsSeq2 MeetsSeq3 SeqRoads2
structure LtAsk (A : Around) (s : Shared) (p q : Array Value) (e r : Nat → Bool) : Prop where
  eq : ∀ j (h1 : j < p.size) (h2 : j < q.size), (∀ i, i < j → e i = true) → EqAt A s p[j] q[j] (e j)
  lt : ∀ j (h1 : j < p.size) (h2 : j < q.size), (∀ i, i < j → e i = true) → e j = false → RcLt A s p[j] q[j] (r j)
end Dl
namespace Dl
open PySem L2 PySem.W PySem.SeqAt PyProof.Rows
mutual
def cmpb : PyData → PyData → Bool
  | .bool _, .bool _ => true
  | .int _, .int _ => true
  | .str _, .str _ => true
  | .tuple xs, .tuple ys => cmpbs xs ys
  | _, _ => false
def cmpbs : List PyData → List PyData → Bool
  | x :: xs, y :: ys => cmpb x y && (!PyData.eqv x y || cmpbs xs ys)
  | _, _ => true
end
end Dl
namespace Dl
open PySem L2 PySem.W PySem.SeqAt PyProof.Rows
structure Srt (ds : List PyData) : Prop where
  one : ∀ d, d ∈ ds → d.plain = true ∧ d.depth ≤ 60 ∧ ∃ i r, d = .tuple (.int i :: r)
  two : ∀ d, d ∈ ds → ∀ d', d' ∈ ds → cmpb d d' = true
section
variable {prog : Program} {w : World} {A : Around} {E : Value → Shared → Prop} {s : Shared}
end
end Dl
namespace Dl
open PySem L2
inductive Ech {α β : Type} (R : α → β → Prop) : List α → List β → Prop
  | nil : Ech R [] []
  | cons {a : α} {b : β} {as : List α} {bs : List β} : R a b → Ech R as bs → Ech R (a :: as) (b :: bs)
structure SrtD (l : List D) : Prop where
  pure : pureDs l = true
  one : ∀ d, d ∈ l → depD d ≤ 60 ∧ ∃ i r, d = .tup (.int i :: r)
  two : ∀ d, d ∈ l → ∀ d', d' ∈ l → cmpb (pyD d) (pyD d') = true
end Dl
namespace Dl
open PySem L2 PyProof.Rows
section
variable {X : Cx} {o : Expr} {td : TE} {p apos mpos pos : Pos}
end
end Dl
namespace Dl
open PySem L2
end Dl
namespace Dl
open PySem L2
def putFD (f : Str) (v : D) : List (Str × D) → List (Str × D)
  | [] => [(f, v)]
  | (g, x) :: r => if g = f then (g, v) :: r else (g, x) :: putFD f v r
section
variable {K : PySem.W.Frag} {G : GH} {H : Hp}
end
def dFld (c f : Str) (te : DTE) : DTE := fun ρ G Q => te ρ G fun d G1 => ∃ a fs v, d = .ref a ∧ G1 a = some (.ins c fs) ∧ fs.lookup f = some v ∧ Q v G1
def gFld (c f : Str) (to : DTE) : DTG := fun y ρ G Q => to ρ G fun d G1 => ∃ a fs, d = .ref a ∧ G1 a = some (.ins c fs) ∧ fs.length < 1000 ∧ Q ρ (updG G1 a (.ins c (putFD f y fs)))
section
variable {X : Cx} {e o value : Expr} {c f : Str} {pos pos' : Pos} {te to tv : DTE}
end
section
variable {X : Cx} {CX : CXT} {k : Nat} {C f : Addr} {fd : FuncData} {ps : List Str} {x m : Str} {p pos apos : Pos} {e o : Expr} {es : List Expr} {E : XK} {ta : TE} {t : TA}
end
def dMeth (c m : Str) (sp : DSp) (to : DTE) (ta : DTA) : DTE := fun ρ G Q => to ρ G fun x G1 => ∃ a fs, x = .ref a ∧ G1 a = some (.ins c fs) ∧ fs.lookup m = none ∧ ta ρ G1 fun ds G2 => sp (x :: ds) G2 Q noX
def dMake (c : Str) (sp : DSp) (ta : DTA) : DTE := fun ρ G Q => ta ρ G fun ds G1 => ∀ a, G1 a = none → sp (.ref a :: ds) (updG G1 a (.ins c [])) (fun v G2 => v = .non ∧ Q (.ref a) G2) noX
structure MCallee (P : Program) (w : World) (K : PySem.W.Frag) (mg : Str → Option Value) (base : Heap) (k : Nat) (c m : Str) (ps : List Str) (sp : DSp) : Prop where
  ex : ∃ f fd, DFn P w K mg base k f fd ps sp ∧ Cls K (He.ga K c) ∧ Meth K (He.ga K c) m f ∧ Binds K fd ps []
structure ICallee (P : Program) (w : World) (K : PySem.W.Frag) (mg : Str → Option Value) (base : Heap) (k : Nat) (c : Str) (ps : List Str) (sp : DSp) : Prop where
  ex : ∃ f fd, DFn P w K mg base k f fd ps sp ∧ Mk K (He.ga K c) f ∧ mg c = some (.ref (He.ga K c)) ∧ Binds K fd ps []
section
variable {X : Cx} {k : Nat} {c m : Str} {ps : List Str} {sp : DSp} {p pos apos : Pos} {e o : Expr} {es : List Expr} {ta : DTA} {to : DTE}
end
end Dl
namespace Dl
open PySem L2
def WFor (K : PySem.W.Frag) (a : Addr) (kvs : List (Str × Int)) (z : Str) : Prop := match kvs.lookup z with
  | some i => ∃ t, PySem.W.nsIn K a z = some (some (.int i t))
  | none => PySem.W.nsIn K a z = some none
structure WDic (K : PySem.W.Frag) (w : World) (mg : Str → Option Value) (x : Str) (kvs : List (Str × Int)) : Prop where
  ex : ∃ a es n, mg x = some (.ref a) ∧ KDict K w a es n ∧ ∀ z, WFor K a kvs z
section
variable {X : Cx} {x : Str} {kvs : List (Str × Int)} {i : Expr} {ty : DTE} {pos p : Pos}
end
def dicI (K : PySem.W.Frag) (a : Addr) (kvs : List (Str × Int)) : Bool := kvs.all fun q => match PySem.W.nsIn K a q.1 with
  | some (some (.int j _)) => decide (j = q.2)
  | _ => false
abbrev TabX : Type := Str × List (Str × Int)
section
variable {fx : List Fx} {fn : List He.DefD} {ts : List TabX} {K : PySem.W.Frag} {w : World}
end
end Dl
namespace Dl
open PySem PySem.Spec PyProof.Rows L2
section
variable {z TI TO i1 i2 a b : Addr}
end
def zipD (xs ys : List D) : List D := (xs.zip ys).map fun q => D.tup [q.1, q.2]
@[simp] def iZpM (t : DTA) : DTI := fun ρ G Q => t ρ G fun ds G1 => match ds with
  | [.lst xs, .tup ys] => Q (zipD xs ys) okAll G1
  | _ => False
@[simp] def iEnL (te : DTE) : DTI := fun ρ G Q => te ρ G fun d G1 => match d with
  | .lst ds => Q (enumD ds) okAll G1
  | _ => False
section
variable {X : Cx}
theorem di_enumL {e : Expr} {te : DTE} {p pos tpos : Pos} {elts : List Expr} {kk : Nat} (hg : Gl X "enumerate") (hm : X.mg "enumerate" = none) (he : DE X e te) (hs : starEach [e] X.env = [(false, eval e X.env)] := by rfl) :
    DI X (.Tuple elts kk tpos) (.Call (.Name "enumerate" p) [e] [] pos) (iEnL te) := by
  refine (pi_enum hg hm (pa_cons he pa_nil (by rw [hs]; rfl)) hs).imp fun σ H R ⟨ρ, G, q, r, h, k⟩ => ?_
  refine ⟨ρ, G, _, r, h, fun v d H1 G1 e1 r1 v1 h1 => ?_⟩
  cases d with
  | lst ds =>
    unfold RepV at v1
    obtain ⟨a, xs, rfl, ta, rl⟩ := v1
    refine ⟨a, xs, rfl, ta.sq, k _ (enumD ds) okAll H1 G1 e1 r1 (fun G2 H2 e2 g2 _ i => ⟨fun d hd => ?_, fun hi => ⟨xs, (ta.ext e2).sq, by rw [rl.length, hi, enumD_len]; exact Nat.le_refl _⟩⟩) h1⟩
    obtain ⟨x, hx, rfl⟩ := enumD_get hd
    obtain ⟨w, hw, rw'⟩ := (rl.ext e2).get hx
    refine ⟨⟨xs, w, (ta.ext e2).sq, hw⟩, fun y H3 hy => ?_⟩
    obtain ⟨T, z, rfl, hT, rfl, hz⟩ := hy
    have ez := hz xs (ta.ext e2).sq
    rw [hw] at ez
    cases ez
    obtain ⟨e3, g3, v3⟩ := new_tup g2 hT (repL_cons (int_rv (i := (i : Nat))) (repL_one rw'))
    exact ⟨e3, g3, v3⟩
  | _ => exact h1.elim
end
end Dl
namespace Dl
open PySem L2
abbrev KT := List Key
section
variable {K : PySem.W.Frag} {G : GH} {H : Hp} {k : KT}
end
section
variable {X : Cx}
end
end Dl
namespace Dl
open PySem L2
section
variable {t u : XTS} {te : XTE} {ta : XTA} {tc : XTT} {tr : XTA} {E : DEnds} {Z : DZ} {ρ : DSt} {G : GH} {Q : DK} {Ql : List D → GH → Prop}
theorem iXPe {t : DTE} (h : t ρ G Q) : xPe t Z ρ G Q := h
theorem iXPa {t : DTA} (h : t ρ G Ql) : xPa t Z ρ G Ql := h
theorem iXPt {t : DTT} {Qb : Bool → GH → Prop} (h : t ρ G Qb) : xPt t Z ρ G Qb := h
theorem iXPs {t : DTS} (h : t E ρ G) : xPs t Z E ρ G := h
theorem iXSeq (h : t Z { E with nx := u Z E } ρ G) : xSeq t u Z E ρ G := h
theorem iXDrop (h : te Z ρ G fun _ G1 => E.nx ρ G1) : xDrop te Z E ρ G := h
theorem iXRet (h : te Z ρ G E.rt) : xRet te Z E ρ G := h
theorem iXIfS (h : tc Z ρ G fun b G1 => if b = true then t Z E ρ G1 else u Z E ρ G1) : xIfS tc t u Z E ρ G := h
theorem iXAsg {g : DTG} (h : te Z ρ G fun x G1 => g x ρ G1 E.nx) : xAsg te g Z E ρ G := h
theorem iXCons (h : te Z ρ G fun x G1 => tr Z ρ G1 fun xs G2 => Ql (x :: xs) G2) : xCons te tr Z ρ G Ql := h
theorem iXTup (h : ta Z ρ G fun xs G1 => xs.length ≤ sizeLine ∧ Q (.tup xs) G1) : xTup ta Z ρ G Q := h
theorem iXOp {r : DR2} {tb : XTE} (h : te Z ρ G fun x G1 => tb Z ρ G1 fun y G2 => r x y G2 Q) : xOp r te tb Z ρ G Q := h
theorem iXFrz (h : te Z ρ G (frzK Q)) : xFrz te Z ρ G Q := h
theorem iXCall {sp : DSp} (h : ta Z ρ G fun ds G1 => sp ds G1 Q fun x G2 => Z x ρ G2) : xCall sp ta Z ρ G Q := h
theorem iXRaise {x : Str} {fl : List Str} (h : ta Z ρ G fun ds G1 => ds.length = fl.length ∧ Z ⟨x, (fl.zip ds).reverse⟩ ρ G1) : xRaise x fl ta Z E ρ G := h
theorem iDSeqTry {CT : CTab} {T : Str} {i : Nat} {tb : XTS} {ts : Addr → Str → Addr → DTS} (h : tb (fun x ρ' G' => (∃ as fs, (x.cls, as, fs) ∈ CT ∧ as.contains T = true) ∧
  ∀ a d, ts a x.cls d { nx := fun ρ2 G2 => E.nx (ρ2.set i none) G2, rt := E.rt, bk := fun ρ2 G2 => E.bk (ρ2.set i none) G2, ct := fun ρ2 G2 => E.ct (ρ2.set i none) G2 } (ρ'.set i (some (.exh a x.cls d (x.fs.map (·.1)) (x.fs.map (·.2))))) G') E ρ G) : dTry CT T i tb ts E ρ G := h
theorem iIsX {CT : CTab} {a d : Addr} {c T : Str} {te : DTE} (h : te ρ G fun v G1 => (∃ ns vs, v = .exh a c d ns vs) ∧ ∃ as fs, (c, as, fs) ∈ CT ∧ T ∈ CT.names ∧ Q (.bl (as.contains T)) G1) : dIsX CT a c d te T ρ G Q := h
theorem iExf {CT : CTab} {a d : Addr} {c f : Str} {te : DTE} (h : te ρ G fun v G1 => ∃ ns vs y, v = .exh a c d ns vs ∧ (∃ as fs, (c, as, fs) ∈ CT ∧ f ∈ fs) ∧ (ns.zip vs).lookup f = some y ∧ Q y G1) : dExf CT a c d te f ρ G Q := h
theorem iXAct {i : Nat} {α : Act} (e : sl ρ i = some α.d) (h : α.tl (fun x G' => Z x ρ G') G Q) : xAct i α Z ρ G Q := ⟨e, h⟩
end
theorem slL {ds : List D} {lo hi : Option Int} {G : GH} {Q : DK} (h : ∀ p, G p = none → Q (.ref p) (updG G p (.lst (cutD ds lo hi)))) : rSl (.lst ds) lo hi G Q := h
def pSpX (R : List D → Except DX D → Prop) : DSp := fun ds G Q E => ∃ o, R ds o ∧ ∀ G', Grow G G' → (match o with | .ok d => Q d G' | .error x => E x G')
theorem pSpX_ok {R : List D → Except DX D → Prop} {ds : List D} {G : GH} {Q : DK} {E : DXK} {d : D} (r : R ds (.ok d)) (h : ∀ G', Grow G G' → Q d G') : pSpX R ds G Q E := ⟨.ok d, r, h⟩
end Dl
namespace Dl
open PySem PySem.Spec PyProof.Rows L2 LamX
def tabsT (K : PySem.W.Frag) (tq : List (He.Defn × Str)) : List (Addr × Str) := tq.map fun p => ((He.cT K p.1).2, p.2)
def csT (K : PySem.W.Frag) (tq : List (He.Defn × Str)) : List (Addr × Addr) := tq.map fun p => He.cT K p.1
section
variable {fx : List Fx} {fn : List He.DefD} {tq : List (He.Defn × Str)} {ex : PySem.W.Frag → Bool} {xs : List XD} {pd : List PDef} {h : Heap} {K : PySem.W.Frag}
theorem SaysE.empty' (c : SaysE fx fn (tq.map (·.1)) ex xs pd h K) : ∀ p ∈ tabsT K tq, h.get? p.1 = some { cls := .none, data := .fields #[] } := fun p hp => by
  obtain ⟨q, hq, rfl⟩ := List.mem_map.mp hp
  exact c.empty _ (List.mem_map_of_mem hq)
theorem SaysE.out' (c : SaysE fx fn (tq.map (·.1)) ex xs pd h K) : ∀ p ∈ tabsT K tq, K.lookup p.1 = none := fun p hp => by
  obtain ⟨q, hq, rfl⟩ := List.mem_map.mp hp
  exact c.out _ (List.mem_map_of_mem hq)
theorem csT_in : ∀ p ∈ csT K tq, p.2 ∈ (tabsT K tq).map (·.1) := fun p hp => by
  obtain ⟨q, hq, rfl⟩ := List.mem_map.mp hp
  exact List.mem_map.mpr ⟨_, List.mem_map_of_mem hq, rfl⟩
theorem tabsT_cs : ∀ p ∈ tabsT K tq, ∃ c, (c, p.1) ∈ csT K tq := fun p hp => by
  obtain ⟨q, hq, rfl⟩ := List.mem_map.mp hp
  exact ⟨_, List.mem_map_of_mem (f := fun p : He.Defn × Str => He.cT K p.1) hq⟩
theorem SaysE.hd' (c : SaysE fx fn (tq.map (·.1)) ex xs pd h K) (X : K.In h) : ∀ p ∈ csT K tq, PySem.W.CodeHd h p.1 p.2 := fun p hp => by
  obtain ⟨q, hq, rfl⟩ := List.mem_map.mp hp
  exact PySem.W.codeHd_of_K X (c.hd _ (List.mem_map_of_mem hq))
theorem SaysE.at_ (c : SaysE fx fn (tq.map (·.1)) ex xs pd h K) (i : Nat) {p : He.Defn} {q : Str} (e : tq[i]? = some (p, q) := by rfl) : tabG (tabsT K tq) (He.cT K p).2 = some (.tab q) := by
  have nd : ((tabsT K tq).map (·.1)).Nodup := by
    have z := c.nd
    rw [List.map_map] at z
    unfold tabsT
    rw [List.map_map]
    exact z
  exact tabG_at nd (List.mem_map_of_mem (f := fun p : He.Defn × Str => ((He.cT K p.1).2, p.2)) (List.mem_of_getElem? e))
theorem csT_at (i : Nat) {p : He.Defn} {q : Str} (e : tq[i]? = some (p, q) := by rfl) : He.cT K p ∈ csT K tq := List.mem_map_of_mem (f := fun p : He.Defn × Str => He.cT K p.1) (List.mem_of_getElem? e)
end
theorem funD_code {K : PySem.W.Frag} {x qual : Str} {params : Arguments} {body : List Stmt} {scope : Scope} {dvs : List V} {kws : List (Str × V)} {p : He.Defn} {fd : FuncData} (F : FunD K x qual params body scope dvs kws (He.fAd K p) fd) : fd.code = .ref (He.cT K p).1 := by
  obtain ⟨oc, od, dV, kV, doc, pm, an, cdv, ct, osl, rfl, lk, hcd, _⟩ := F.ex
  obtain ⟨c, rfl⟩ := He.codeIn_ref hcd
  show _ = Value.ref (He.codeOf K p)
  rw [He.codeOf_eq lk rfl]
end Dl
namespace Dl
open PySem PySem.Spec PyProof.Rows L2
section
variable {K : PySem.W.Frag} {G : GH} {H : Hp}
end
section
variable {X : Cx} {e o value : Expr} {c f : Str} {pos pos' : Pos} {te to tv : DTE} {p : Addr} {i : Nat}
end
structure PCallee (P : Program) (w : World) (K : PySem.W.Frag) (mg : Str → Option Value) (base : Heap) (k : Nat) (c f : Str) (sp : DSp) : Prop where
  ex : ∃ (p g : Addr) (fd : FuncData) (x : Str), DFn P w K mg base k g fd [x] sp ∧ SlX.SCls K (He.ga K c) ∧ PropOf K (He.ga K c) f p g ∧ Binds K fd [x] []
section
variable {X : Cx} {CX : CXT} {k : Nat} {C g p : Addr} {fd : FuncData} {ps : List Str} {x f m : Str} {pos apos : Pos} {e o : Expr} {es : List Expr} {E : XK} {ta : TE} {t : TA} {sp : Sp}
end
section
variable {X : Cx} {k : Nat} {c f x : Str} {pos : Pos} {e : Expr} {te : DTE} {sp : DSp}
end
structure MCalleeX (P : Program) (w : World) (K : PySem.W.Frag) (mg : Str → Option Value) (base : Heap) (k : Nat) (c m : Str) (n : Nat) (ks : List Str) (src : List (Nat × Nat)) (dv : List D) (sp : DSp) : Prop where
  ex : ∃ f fd ps, XFn P w K mg base k f fd ps sp ∧ SlX.SCls K (He.ga K c) ∧ Meth K (He.ga K c) m f ∧ ∃ (its : List Value) (dvs : List V), Vals dvs its ∧ (∀ G H, RepL K G H dv dvs) ∧
    ∀ (s : Shared) (us ws : List Value), K.In s.heap → us.length = n → ws.length = ks.length → BindsTo s fd ⟨us, ks.zip ws⟩ (ps.zip (pick src us its ws))
section
variable {X : Cx} {W : WX} {k n : Nat} {c m : Str} {ks : List Str} {src : List (Nat × Nat)} {dv : List D} {sp : DSp} {pos apos : Pos} {e o : Expr} {es : List Expr} {to : DTE} {ta tk : DTA} {kws : List Keyword} {pl : Sem Bool}
end
def dCalm (t : XTE) : DTE := t fun _ _ _ => False
section
variable {X : Cx}
theorem takes_none : Takes X (fun _ _ _ _ => False) := fun u s' ⟨a, B, sI, pins, σ, H, cls, d, e, I, nb, up, sky, na, os, ag, w⟩ => w.elim
theorem de_calm {e : Expr} {t : XTE} (h : XE1 X (fun _ _ _ _ => False) e t) : DE X e (dCalm t) := PE.imp h fun σ H Q ⟨ρ, G, q, r, h, k⟩ => ⟨ρ, G, q, fun _ _ _ => False, r, h, k, fun _ _ _ _ _ _ _ _ _ _ z => z.elim⟩
end
end Dl
namespace Dl
open PySem PySem.Spec PyProof.Rows L2 StX
structure VFn (P : Program) (w : World) (K : PySem.W.Frag) (mg : Str → Option Value) (base : Heap) (k : Nat) (f : Addr) (n : Nat) (ks : List Str) (src : List (Nat × Nat)) (sp : DSp) : Prop where
  go : ∀ (A : Around) (out : List Env) (st : Shared) (H : Hp) (us ws : List Value) (xs zs : List V) (Q : VK) (E : XK), Room k A → A.guards = some [] → Env0 P w K mg base A out st H → us.length = n → ws.length = ks.length → Vals xs us → Vals zs ws →
    toSp K sp (pick src xs [] zs) H Q E → codeAny (model P w) A (.call (.ref f) ⟨us, ks.zip ws⟩) (CR (L2.CX P w) out P w H st Q E) st
structure SMaker (P : Program) (w : World) (K : PySem.W.Frag) (mg : Str → Option Value) (base : Heap) (k : Nat) (c : Str) (n : Nat) (ks : List Str) (src : List (Nat × Nat)) (sp : DSp) : Prop where
  ex : ∃ f, VFn P w K mg base k f (n + 1) ks src sp ∧ Mk K (He.ga K c) f ∧ mg c = some (.ref (He.ga K c))
section
variable {X : Cx} {W : WX} {k n : Nat} {c : Str} {ks : List Str} {src : List (Nat × Nat)} {sp : DSp} {p pos : Pos} {e : Expr} {es : List Expr} {ta tk : DTA} {kws : List Keyword} {f C : Addr}
end
end Dl
namespace Dl
open PySem PySem.Spec PyProof.Rows L2
section
variable {prog : Program} {w : World} {A : Around} {E : Value → Shared → Prop} {s : Shared} {K : PySem.W.Frag} {a C g : Addr} {ox od : Obj}
end
structure QCallee (P : Program) (w : World) (K : PySem.W.Frag) (mg : Str → Option Value) (base : Heap) (k : Nat) (c m : Str) (sp : DSp) : Prop where
  ex : ∃ f fd ps, DFn P w K mg base k f fd ps sp ∧ SlX.SCls K (He.ga K c) ∧ Meth K (He.ga K c) m f ∧ Binds K fd ps []
section
variable {X : Cx} {k : Nat} {c : Str} {sp : DSp}
end
end Dl
namespace Dl
open PySem PySem.Spec PyProof.Rows L2
end Dl
namespace Dl
open PySem PySem.Spec PyProof.Rows L2
section
variable {X : Cx} {e o value : Expr} {c f : Str} {pos pos' : Pos} {te to tv : DTE} {i : Nat}
end
end Dl
namespace Dl
open PySem PySem.Spec PyProof.Rows L2
theorem DFn.x {P : Program} {w : World} {K : PySem.W.Frag} {mg : Str → Option Value} {base : Heap} {k : Nat} {f : Addr} {fd : FuncData} {ps : List Str} {sp : DSp} (F : DFn P w K mg base k f fd ps sp) : XFn P w K mg base k f fd ps sp :=
  ⟨F.arity, fun A out st H ar us xs Q E hr hg he hb hv hs => codeAny_mono (F.go A out st H ar us xs Q E hr hg he hb hv hs) fun r s' z => by
    cases r with
    | error e => exact False.elim z
    | ok fl => cases fl <;> exact z⟩
section
variable {P : Program} {w : World} {K : PySem.W.Frag} {mg : Str → Option Value} {base : Heap} {k n : Nat} {c m qual : Str} {params : Arguments} {body : List Stmt} {scope : Scope} {fd : FuncData} {ps ks : List Str} {src : List (Nat × Nat)} {sp : DSp}
end
end Dl
namespace Dl
open PySem PySem.Spec PyProof.Rows L2
end Dl
namespace Dl
open PySem L2
section
variable {ρ : DSt} {G : GH} {Q : DK} {c : Str} {i n m : Nat} {te to : DTE} {ta tk : DTA} {sp : DSp} {src : List (Nat × Nat)} {dv : List D} {Z : DZ}
theorem calm_i {t : XTE} (h : t (fun _ _ _ => False) ρ G Q) : dCalm t ρ G Q := h
end
end Dl
namespace Dl
open PySem L2
end Dl
namespace Dl
open PySem L2
abbrev KT2 := List Key
section
variable {K : PySem.W.Frag} {G : GH} {H : Hp} {k : KT2}
end
section
variable {X : Cx}
end
end Dl
namespace Dl
open PySem L2 PyProof.Rows
@[simp] def dPar3 (i j l : Nat) (ta : DTA) : DTS := fun E ρ G => ta ρ G fun ds G1 => match ds with
  | [u, v, w] => E.nx (((ρ.set i (some u)).set j (some v)).set l (some w)) G1
  | _ => False
section
variable {X : Cx}
end
section
variable {X : Cx}
end
section
variable {X : Cx}
end
section
variable {X : Cx}
end
theorem Callee.x {P : Program} {w : World} {K : PySem.W.Frag} {mg : Str → Option Value} {base : Heap} {k : Nat} {x : Str} {ps : List Str} {sp : DSp} (C : Callee P w K mg base k x ps sp) : XCallee P w K mg base k x ps sp := by
  obtain ⟨f, fd, F, a⟩ := C.ex
  exact ⟨f, fd, DFn.x F, a⟩
end Dl
namespace Dl
open PySem L2 PyProof.Rows
abbrev RoomE := L2H.RoomH
structure EFn (P : Program) (w : World) (K : PySem.W.Frag) (mg : Str → Option Value) (base : Heap) (k : Nat) (f : Addr) (fd : FuncData) (x : Str) (rE : Addr → Str → Addr → DTS) (n : Nat) : Prop where
  go : ∀ (A : Around) (out : List Env) (st : Shared) (H : Hp) (ar : Args) (u : Value) (v : V) (a : Addr) (oe : Obj) (c : Str) (d : Addr) (ns : List Str) (vs : List D) (G : GH) (q : DK) (Q : VK),
    RoomE k A → A.guards = some [] → A.handled = some (.ref a) → Zc (.ref (He.ga K c)) (some d) oe → (∃ vs, oe.data = .fields vs) → L2H.PinOk out H st (a, oe) → Env0 P w K mg base A out st H → BindsTo st fd ar [(x, u)] → RelV v u →
    RepV K G H (.exh a c d ns vs) v → GOk K G H → rE a c d { nx := fun _ G' => q .non G', rt := q } (startD n [.exh a c d ns vs]) G → (∀ v d H' G', Ext G H G' H' → GOk K G' H' → RepV K G' H' d v → q d G' → Q v H') →
    codeAny (model P w) A (.call (.ref f) ar) (CR CX0 out P w H st Q E0) st
structure ECallee (P : Program) (w : World) (K : PySem.W.Frag) (mg : Str → Option Value) (base : Heap) (k : Nat) (x : Str) (rE : Addr → Str → Addr → DTS) (n : Nat) : Prop where
  ex : ∃ f fd p, EFn P w K mg base k f fd p rE n ∧ mg x = some (.ref f) ∧ PySem.W.keepIn K (.ref f) = true ∧ Binds K fd [p] []
end Dl
namespace Dl
open PySem L2
section
variable {E : DEnds} {ρ : DSt} {G : GH} {Q : DK} {te ta tb : DTE} {tl : DTA} {tc tu tv : DTT} {Qb : Bool → GH → Prop}
theorem iPar3 {i j l : Nat} (h : tl ρ G fun ds G1 => match ds with
  | [u, v, w] => E.nx (((ρ.set i (some u)).set j (some v)).set l (some w)) G1
  | _ => False) : dPar3 i j l tl E ρ G := h
end
end Dl
namespace Dl
open PySem L2
section
variable {X : Cx}
end
end Dl
namespace Dl
open PySem L2
end Dl
namespace Dl
open PySem L2
section
variable {X : Cx} {W : WX}
end
end Dl
namespace Dl
open PySem L2 LamX
inductive OT | nil | node (m : Nat) (o : Obj) (l r : OT)
end Dl
namespace Dl
open PySem PySem.Spec PyProof.Rows L2 LamX
def dicsOf (ts : List TabX) (K : PySem.W.Frag) : List (Option (List (Option (Str × Int)))) := ts.map fun t => match dicI K (He.ga K t.1) t.2 with
  | true => He.dicW K (He.ga K t.1)
  | false => none
def dicsV (ts : List TabX) (w : World) : List (Option (List (Option (Str × Int)))) := ts.map fun t => some (He.keysIn w.params (t.2.map (·.1)))
structure SaysET (fx : List Fx) (fn : List He.DefD) (tf : List He.Defn) (ex : PySem.W.Frag → Bool) (xs : List XD) (pd : List PDef) (ts : List TabX) (w : World) (h : Heap) (K : PySem.W.Frag) : Prop extends SaysE fx fn tf ex xs pd h K where
  dics : dicsOf ts K = dicsV ts w
end Dl
namespace Dl
open PySem L2
section
variable {X : Cx}
end
end Dl
namespace Dl
open PySem L2 PySem.W PySem.SeqAt PyProof.Rows
def tupI (ks : List Int) : PyData := .tuple (ks.map .int)
def lexI : List Int → List Int → Bool
  | [], [] => false
  | [], _ :: _ => true
  | _ :: _, [] => false
  | x :: xs, y :: ys => if x = y then lexI xs ys else decide (x < y)
def TI (h : Heap) (v : Value) (ks : List Int) : Prop := ∃ as, Reads h v (tupI ks) as
section
variable {M : Model} {A : Around} {E : Value → Shared → Prop} {s : Shared}
end
section
variable {prog : Program} {w : World} {A : Around} {E : Value → Shared → Prop} {s : Shared}
end
section
variable {P : Program} {w : World} {A : Around} {E : Value → Shared → Prop} {s : Shared}
end
section
variable {K : PySem.W.Frag} {G : GH} {H : Hp}
end
section
variable {X : Cx}
end
end Dl
namespace Dl
open PySem L2
theorem shown_mid {i : Int} (h : i.natAbs < 10 ^ 61) : (PyData.shown (.int i)).length ≤ 62 := by
  have e := int_text_length_le10 (k := 61) (by decide) h
  show (Str.ofString (toString i)).length ≤ 62
  rw [ofString_length]; exact e
mutual
def mdD : D → Bool
  | .non => true
  | .bl _ => true
  | .int i => decide (i.natAbs < 10 ^ 61)
  | .str x => PyData.strOk x
  | .tup ds => mdDs ds
  | .lst ds => mdDs ds
  | _ => false
def mdDs : List D → Bool
  | [] => true
  | d :: ds => mdD d && mdDs ds
end
mutual
def wdD : D → Nat
  | .str x => x.length
  | .int _ => 250
  | .tup ds => wdDs ds
  | .lst ds => wdDs ds
  | _ => 0
def wdDs : List D → Nat
  | [] => 0
  | d :: ds => wdD d + 1 + wdDs ds
end
mutual
theorem md_pure : ∀ d : D, mdD d = true → pureD d = true
  | .non, _ => by simp [pureD]
  | .bl _, _ => by simp [pureD]
  | .int _, _ => by simp [pureD]
  | .str x, h => by simpa [pureD, mdD] using h
  | .tup ds, h => by simpa [pureD] using mds_pure ds (by simpa [mdD] using h)
  | .lst ds, h => by simpa [pureD] using mds_pure ds (by simpa [mdD] using h)
  | .byt _, h => by simp [mdD] at h
  | .ref _, h => by simp [mdD] at h
  | .scr _, h => by simp [mdD] at h
  | .fn _ _ _ _, h => by simp [mdD] at h
  | .exh _ _ _ _ _, h => by simp [mdD] at h
theorem mds_pure : ∀ ds : List D, mdDs ds = true → pureDs ds = true
  | [], _ => by simp [pureDs]
  | d :: ds, h => by
    simp only [mdDs, Bool.and_eq_true] at h
    simp [pureDs, md_pure d h.1, mds_pure ds h.2]
end
theorem log_mid {i : Int} (h : i.natAbs < 10 ^ 61) : i.natAbs.log2 < 240 := by
  by_cases e : i.natAbs = 0
  · rw [e]; decide
  · exact (Nat.log2_lt e).mpr (Nat.lt_of_lt_of_le h (by decide))
mutual
theorem md_few : ∀ d : D, mdD d = true → fewD d = true
  | .non, _ => by simp [fewD]
  | .bl _, _ => by simp [fewD]
  | .int i, h => by
    simp only [mdD, decide_eq_true_eq] at h
    have := log_mid h
    simp only [fewD, decide_eq_true_eq]
    omega
  | .str x, h => by simp [fewD]
  | .tup ds, h => by simpa [fewD] using mds_few ds (by simpa [mdD] using h)
  | .lst ds, h => by simpa [fewD] using mds_few ds (by simpa [mdD] using h)
  | .byt _, h => by simp [mdD] at h
  | .ref _, h => by simp [mdD] at h
  | .scr _, h => by simp [mdD] at h
  | .fn _ _ _ _, h => by simp [mdD] at h
  | .exh _ _ _ _ _, h => by simp [mdD] at h
theorem mds_few : ∀ ds : List D, mdDs ds = true → fewDs ds = true
  | [], _ => by simp [fewDs]
  | d :: ds, h => by
    simp only [mdDs, Bool.and_eq_true] at h
    simp [fewDs, md_few d h.1, mds_few ds h.2]
end
mutual
theorem md_short : ∀ d : D, mdD d = true → (pyD d).intsShort 62 = true
  | .non, _ => by simp [pyD, PyData.intsShort]
  | .bl _, _ => by simp [pyD, PyData.intsShort]
  | .int i, h => by
    simp only [mdD, decide_eq_true_eq] at h
    simp only [pyD, PyData.intsShort, decide_eq_true_eq]
    exact shown_mid h
  | .str x, h => by simp [pyD, PyData.intsShort]
  | .tup ds, h => by simpa [pyD, PyData.intsShort] using mds_short ds (by simpa [mdD] using h)
  | .lst ds, h => by simpa [pyD, PyData.intsShort] using mds_short ds (by simpa [mdD] using h)
  | .byt _, h => by simp [mdD] at h
  | .ref _, h => by simp [mdD] at h
  | .scr _, h => by simp [mdD] at h
  | .fn _ _ _ _, h => by simp [mdD] at h
  | .exh _ _ _ _ _, h => by simp [mdD] at h
theorem mds_short : ∀ ds : List D, mdDs ds = true → PyData.intsShortAll 62 (pyDs ds) = true
  | [], _ => by simp [pyDs, PyData.intsShortAll]
  | d :: ds, h => by
    simp only [mdDs, Bool.and_eq_true] at h
    simp [pyDs, PyData.intsShortAll, md_short d h.1, mds_short ds h.2]
end
mutual
theorem md_weight : ∀ d : D, mdD d = true → (pyD d).weight ≤ wdD d
  | .non, _ => by simp [pyD, PyData.weight]
  | .bl _, _ => by simp [pyD, PyData.weight]
  | .int i, h => by
    simp only [mdD, decide_eq_true_eq] at h
    have := log_mid h
    simp only [pyD, PyData.weight, wdD]
    split <;> omega
  | .str x, h => by simp [pyD, PyData.weight, wdD, Str.length]
  | .tup ds, h => by simpa [pyD, PyData.weight, wdD] using mds_weight ds (by simpa [mdD] using h)
  | .lst ds, h => by simpa [pyD, PyData.weight, wdD] using mds_weight ds (by simpa [mdD] using h)
  | .byt _, h => by simp [mdD] at h
  | .ref _, h => by simp [mdD] at h
  | .scr _, h => by simp [mdD] at h
  | .fn _ _ _ _, h => by simp [mdD] at h
  | .exh _ _ _ _ _, h => by simp [mdD] at h
theorem mds_weight : ∀ ds : List D, mdDs ds = true → PyData.weightAll (pyDs ds) ≤ wdDs ds
  | [], _ => by simp [pyDs, PyData.weightAll]
  | d :: ds, h => by
    simp only [mdDs, Bool.and_eq_true] at h
    have h1 := md_weight d h.1
    have h2 := mds_weight ds h.2
    simp only [pyDs, PyData.weightAll, wdDs]
    omega
end
theorem okD_mid {d : D} (h : mdD d = true) (k : depD d ≤ 64) : okD d := ⟨md_pure d h, k⟩
theorem len_mid {d : D} (h : mdD d = true) (k : depD d ≤ 64) (z : wdD d ≤ 2 ^ 17) : (shD d).length ≤ sizeLine := by
  have e := md_weight d h
  have h3 : (pyD d).canLay0 = true := lay_py d (md_pure d h)
  have := PyData.shown_le 62 (by decide) (pyD d) (PyData.leavesShort_of_canLay0 62 _ h3 (md_short d h))
  unfold shD
  have e2 : sizeLine = 16777216 := by decide
  have e3 : (2 : Nat) ^ 17 = 131072 := by decide
  omega
theorem shw_mid {d : D} (hs : isSeqD d = true) (h : mdD d = true) (k : depD d ≤ 64) (z : wdD d ≤ 2 ^ 17) : Shw d := ⟨hs, okD_mid h k, md_few d h, len_mid h k z⟩
theorem shwA_mid {d : D} (h : mdD d = true) (k : depD d ≤ 64) (z : wdD d ≤ 2 ^ 17) : ShwA d := ⟨okD_mid h k, md_few d h, len_mid h k z⟩
theorem mdDs_iff : ∀ {ds : List D}, mdDs ds = true ↔ ∀ d ∈ ds, mdD d = true
  | [] => by simp [mdDs]
  | d :: ds => by simp [mdDs, mdDs_iff (ds := ds)]
theorem wdDs_le : ∀ {ds : List D} {n : Nat}, (∀ d ∈ ds, wdD d ≤ n) → wdDs ds ≤ ds.length * (n + 1)
  | [], n, _ => by simp [wdDs]
  | d :: ds, n, h => by
    have h1 := h d (List.mem_cons_self ..)
    have h2 := wdDs_le fun x hx => h x (List.mem_cons_of_mem _ hx)
    rw [wdDs, List.length_cons, Nat.succ_mul]; omega
end Dl
namespace Dl
open PySem PySem.Spec PyProof.Rows L2 RZ
section
variable {X : Cx}
end
end Dl
namespace Dl
open PySem L2
end Dl
namespace Dl
open PySem L2
section
variable {X : Cx}
end
end Dl
namespace Dl
open PySem PySem.Spec PyProof.Rows L2
section
variable {P : Program} {w : World} {K : PySem.W.Frag} {d : Addr} {o : Obj} {es : Array DictEntry} {ep : Nat}
end
section
variable {X : Cx} {e : Expr} {td : TE} {apos cpos : Pos}
end
end Dl
namespace Dl
open PySem L2
section
variable {X : Cx}
end
end Dl
namespace Dl
open PySem PySem.Spec PyProof.Rows L2
section
variable {z TI TO i1 i2 a b : Addr}
end
section
variable {X : Cx}
end
section
variable {X : Cx}
end
end Dl
namespace Dl
open PySem L2
section
variable {X : Cx}
end
end Dl
namespace Dl
open PySem L2
section
variable {X : Cx}
end
end Dl
namespace Dl
open PySem L2
variable {ρ : DSt} {G : GH} {Q : DK}
def fldP (c f : Str) (d : D) (G : GH) (Q : DK) : Prop := ∃ a fs v, d = .ref a ∧ G a = some (.ins c fs) ∧ fs.lookup f = some v ∧ Q v G
theorem iFld {c f : Str} {te : DTE} (h : te ρ G fun d G1 => fldP c f d G1 Q) : dFld c f te ρ G Q := h
theorem fld_i {c f : Str} {a : Addr} {fs : List (Str × D)} {v : D} (hg : G a = some (.ins c fs)) (hl : fs.lookup f = some v) (h : Q v G) : fldP c f (.ref a) G Q := ⟨a, fs, v, rfl, hg, hl, h⟩
def gfldP (c f : Str) (y d : D) (ρ : DSt) (G : GH) (Q : DSt → GH → Prop) : Prop := ∃ a fs, d = .ref a ∧ G a = some (.ins c fs) ∧ fs.length < 1000 ∧ Q ρ (updG G a (.ins c (putFD f y fs)))
theorem iGFld {c f : Str} {to : DTE} {y : D} {Qg : DSt → GH → Prop} (h : to ρ G fun d G1 => gfldP c f y d ρ G1 Qg) : gFld c f to y ρ G Qg := h
theorem gfld_i {c f : Str} {a : Addr} {fs : List (Str × D)} {y : D} {Qg : DSt → GH → Prop} (hg : G a = some (.ins c fs)) (hl : fs.length < 1000) (h : Qg ρ (updG G a (.ins c (putFD f y fs)))) : gfldP c f y (.ref a) ρ G Qg := ⟨a, fs, rfl, hg, hl, h⟩
def methP (c m : Str) (sp : DSp) (ta : DTA) (ρ : DSt) (x : D) (G : GH) (Q : DK) : Prop := ∃ a fs, x = .ref a ∧ G a = some (.ins c fs) ∧ fs.lookup m = none ∧ ta ρ G fun ds G2 => sp (x :: ds) G2 Q noX
theorem iMeth {c m : Str} {sp : DSp} {to : DTE} {ta : DTA} (h : to ρ G fun x G1 => methP c m sp ta ρ x G1 Q) : dMeth c m sp to ta ρ G Q := h
theorem pmeth_i {c m : Str} {sp : DSp} {ta : DTA} {a : Addr} {fs : List (Str × D)} (hg : G a = some (.ins c fs)) (hl : fs.lookup m = none) (h : ta ρ G fun ds G2 => sp (.ref a :: ds) G2 Q noX) : methP c m sp ta ρ (.ref a) G Q := ⟨a, fs, rfl, hg, hl, h⟩
theorem iMake {c : Str} {sp : DSp} {ta : DTA} (h : ta ρ G fun ds G1 => ∀ a, G1 a = none → sp (.ref a :: ds) (updG G1 a (.ins c [])) (fun v G2 => v = .non ∧ Q (.ref a) G2) noX) : dMake c sp ta ρ G Q := h
end Dl
namespace Dl
open PySem L2 PySem.SeqAt
structure EntN (w : World) (h : Heap) (n : NestedKey) (e : DictEntry) : Prop where
  key : NestedIs h n e.key
  hash : e.hash = n.hash w
  deep : n.depth ≤ 8
section
variable {prog : Program} {w : World} {A : Around} {E : Value → Shared → Prop} {s : Shared} {d : Addr} {o : Obj} {es : Array DictEntry} {ep : Nat} {ns : List NestedKey} {k : NestedKey} {key : Value}
end
end Dl
namespace Dl
open PySem L2 PySem.SeqAt
section
variable {X : Cx} {pins : List (Addr × Obj)} {σ : St} {H : Hp} {s : Shared}
end
end Dl
namespace Dl
open PySem L2 PySem.SeqAt PySem.Spec PyProof.Rows
section
variable {X : Cx}
end
end Dl
namespace Dl
open PySem L2 PySem.SeqAt
mutual
theorem nk_pure : ∀ d : D, isK d = true → pureD d = true
  | .int _, _ => rfl
  | .str x, h => by rw [pureD]; rwa [isK] at h
  | .tup ds, h => by rw [pureD]; rw [isK] at h; exact nks_pure ds h
  | .non, h => by simp [isK] at h
  | .bl _, h => by simp [isK] at h
  | .byt _, h => by simp [isK] at h
  | .lst _, h => by simp [isK] at h
  | .ref _, h => by simp [isK] at h
  | .scr _, h => by simp [isK] at h
  | .fn _ _ _ _, h => by simp [isK] at h
  | .exh _ _ _ _ _, h => by simp [isK] at h
theorem nks_pure : ∀ ds : List D, isKs ds = true → pureDs ds = true
  | [], _ => rfl
  | d :: ds, h => by
    rw [isKs, Bool.and_eq_true] at h
    rw [pureDs, nk_pure d h.1, nks_pure ds h.2]; rfl
end
section
variable {X : Cx} {o : Expr} {td : TE} {p pos : Pos}
end
end Dl
namespace Dl
open PySem L2 PySem.SeqAt
section
variable {X : Cx}
end
end Dl
namespace Dl
open PySem L2 PySem.SeqAt
section
variable {X : Cx} {pins : List (Addr × Obj)} {σ : St} {H : Hp} {s : Shared} {A : Around} {E : Value → Shared → Prop} {D : Addr} {ns : List NestedKey} {q : List (Int × V × V)} {k : NestedKey} {y : V} {u : Value}
end
end Dl
namespace Dl
open PySem L2 PySem.SeqAt
def keysOf (kvs : List (D × D)) : List NestedKey := kvs.map fun p => nk p.1
section
variable {K : PySem.W.Frag} {G : GH} {H : Hp} {a : Addr} {w : World} {lk : Option Obj} {kvs : List (D × D)}
end
section
variable {X : Cx} {o i e f : Expr} {pos apos cpos : Pos} {td ty tx : TE}
end
section
variable {X : Cx}
end
end Dl
namespace Dl
open PySem PySem.Spec PyProof.Rows L2
section
variable {X : Cx}
end
section
variable {K : PySem.W.Frag} {G G' : GH} {H H' : Hp} {a : Addr} {w : World} {od : Obj} {kvs : List (D × D)}
end
section
variable {X : Cx}
end
section
variable {P : Program} {w : World} {K : PySem.W.Frag} {tg : Expr} {d : Addr} {o : Obj} {es : Array DictEntry} {ep : Nat}
end
section
variable {X : Cx} {tg e : Expr}
end
end Dl
namespace Dl
open PySem L2 PySem.SeqAt PySem.Spec PyProof.Rows
structure PrsAt (P : Program) (w : World) (K : PySem.W.Frag) (G : GH) (H : Hp) (h : Heap) (prs : List (D × D)) (items : List Value) (ts : List Addr) (us : List (NestedKey × Addr × Value)) (vs : List (V × V)) : Prop where
  its : items = ts.map Value.ref
  len : ts.length = us.length
  pair : ∀ (j : Nat) (k : NestedKey) (a : Addr) (v : Value), us[j]? = some (k, a, v) → ∃ t, ts[j]? = some t ∧ IsTup h t #[.ref a, v] ∧ (nestedKind P w).is h k a
  key : us.map (·.1) = keysOf prs
  vals : Paired (fun (x : V × V) (y : NestedKey × Addr × Value) => x.1 = .ref y.2.1 ∧ RelV x.2 y.2.2) vs us
  ks : RepL K G H (prs.map (·.1)) (vs.map (·.1))
  ds : RepL K G H (prs.map (·.2)) (vs.map (·.2))
section
variable {X : Cx}
end
end Dl
namespace Dl
open PySem L2
variable {ρ : DSt} {G : GH} {Q : DK} {w : World}
end Dl
namespace Dl
open PySem L2
section
variable {κ α : Type} [DecidableEq κ] {f : κ → D} {g : α → D}
end
end Dl
namespace Dl
open PySem L2 PySem.SeqAt
section
variable {X : Cx} {pins : List (Addr × Obj)} {σ : L2.St} {H : Hp} {s : Shared} {A : Around} {E : Value → Shared → Prop} {D : Addr} {ns : List NestedKey} {q : List (Int × V × V)} {k : NestedKey} {y : V} {u : Value}
end
section
variable {X : Cx}
end
end Dl
namespace Dl
open PySem PySem.W L2 PyProof.Rows
section
variable {X : Cx}
end
end Dl
namespace Dl
open PySem PySem.W L2 PyProof.Rows
end Dl
namespace Dl
open PySem PySem.W L2 PyProof.Rows
section
variable {X : Cx} {o x : Expr} {to tx : DTE} {apos cpos : Pos}
end
end Dl
namespace Dl
open PySem PySem.W L2 PyProof.Rows
section
variable {X : Cx} {o x : Expr} {to tx : DTE} {apos cpos : Pos}
end
end Dl
namespace PySem.W
open PySem PySem.Calls PyProof.Rows
section
variable {prog : Program} {w : World} {A : Around} {E : Value → Shared → Prop} {s : Shared} {T : String} {r d : Addr} {n : Nat} {P : Nat → Value → Prop} {OK : Heap → Prop} {β : Type} {bs : List β} {R : Value → β → Prop}
end
end PySem.W
namespace Dl
open PySem L2 PyProof.Rows
section
variable {P : Program} {w : World} {K : PySem.W.Frag} {mg : Str → Option Value} {base : Heap} {A : Around} {outer : List Env} {st : Shared} {H : Hp} {f c' : Addr} {q : Str} {params : Arguments} {body : Expr} {scope : Scope} {pm ctv : Value} {N ps : List Str} {us : List Value} {xs : List V} {k : Nat} {R : Result → Shared → Prop}
end
section
variable {X : Cx} {o : Expr} {td : DTE} {T c : Addr} {q : Str} {params : Arguments} {scope : Scope} {x : Str} {p p1 p2 p3 pos : Pos} {kws : List Keyword} {k : Nat}
end
end Dl
namespace Dl
open PySem L2 PyProof.Rows
section
variable {X : Cx}
end
end Dl
namespace Dl
open PySem PySem.Spec PyProof.Rows L2
section
variable {X : Cx} {o value : Expr} {c f : Str} {pos tpos : Pos} {to tv : DTE}
end
structure MCalleeY (P : Program) (w : World) (K : PySem.W.Frag) (mg : Str → Option Value) (base : Heap) (k : Nat) (c m : Str) (n : Nat) (sp : DSp) : Prop where
  ex : ∃ f fd ps src, XFn P w K mg base k f fd ps sp ∧ Cls K (He.ga K c) ∧ Meth K (He.ga K c) m f ∧ (∀ (α : Type) (us : List α), us.length = n → pick src us [] [] = us) ∧
    ∀ (s : Shared) (us ws : List Value), K.In s.heap → us.length = n → ws.length = ([] : List Str).length → BindsTo s fd ⟨us, ([] : List Str).zip ws⟩ (ps.zip (pick src us [] ws))
section
variable {X : Cx} {W : WX} {k n : Nat} {c m : Str} {sp : DSp} {pos apos : Pos} {e o : Expr} {es : List Expr} {to : DTE} {ta : DTA} {pl : Sem Bool}
end
end Dl
namespace Dl
open PySem PySem.Spec PyProof.Rows L2
def dChain (r r' : DR2) (ta tb tc : DTE) : DTE := fun ρ G Q => ta ρ G fun x G1 => tb ρ G1 fun y G2 => r x y G2 fun z G3 => match z with
  | .bl k => if k = true then tc ρ G3 fun w G4 => r' y w G4 Q else Q (.bl false) G3
  | _ => False
theorem rv_blB {K : PySem.W.Frag} {G : GH} {H : Hp} {b : Bool} {v : V} (r : RepV K G H (.bl b) v) : v = .bl b := by unfold RepV at r; exact r
section
variable {X : Cx} {W : WX}
end
end Dl
namespace Dl
open PySem L2
section
variable {X : Cx}
theorem dt_chain {op op' : CmpOp} {r r' : DR2} {a b c : Expr} {ta tb tc : DTE} {pos : Pos} (ho : DOp X (compareOp op) r) (ho' : DOp X (compareOp op') r') (ha : DE X a ta) (hb : DE X b tb) (hc : DE X c tc)
    (hm : lastMarks [op, op'] [b, c] = false := by with_unfolding_all rfl) : DT X (.Compare a [op, op'] [b, c] pos) (dTst (dChain r r' ta tb tc)) := by
  refine (pt_chain ho ho' ha hb hc hm).imp fun σ H Q h => ?_
  obtain ⟨ρ, G, q, r0, h, k⟩ := up_tst h
  refine ⟨ρ, G, _, r0, h, fun x dx H1 G1 e1 r1 v1 h1 => ⟨ρ, G1, _, r1, h1, fun y dy H2 G2 e2 r2 v2 h2 => ?_⟩⟩
  refine ⟨G2, dx, dy, _, r2.gok, v1.ext e2, v2, h2, fun z dz H3 G3 e3 g3 v3 h3 => ?_⟩
  cases dz with
  | bl b =>
    cases rv_blB v3
    refine ⟨b, rfl, ?_⟩
    cases b with
    | true =>
      rw [if_pos rfl]
      have h3' : tc ρ G3 fun w G4 => r' dy w G4 q := h3
      exact ⟨ρ, G3, _, r2.ext e3 g3, h3', fun w dw H4 G4 e4 r4 v4 h4 => ⟨G4, dy, dw, q, r4.gok, v2.ext (e3.trans e4), v4, h4, fun v d H' G' e5 g5 v5 h5 => k v d H' G' ((((e1.trans e2).trans e3).trans e4).trans e5) (r4.ext e5 g5) v5 h5⟩⟩
    | false =>
      rw [if_neg (by decide)]
      exact k _ _ H3 G3 ((e1.trans e2).trans e3) (r2.ext e3 g3) (by unfold RepV; rfl) h3
  | _ => exact h3.elim
end
theorem iChain {r r' : DR2} {ta tb tc : DTE} {ρ : DSt} {G : GH} {Q : DK} (h : ta ρ G fun x G1 => tb ρ G1 fun y G2 => r x y G2 fun z G3 => match z with
  | .bl k => if k = true then tc ρ G3 fun w G4 => r' y w G4 Q else Q (.bl false) G3
  | _ => False) : dChain r r' ta tb tc ρ G Q := h
end Dl
namespace Dl
open PySem L2
def fvA (fv : List (Addr × DSp)) (i : Nat) : Addr := ((fv[i]?).map (·.1)).getD 0
def nthS (xs : List Str) (i : Nat) : Str := (xs[i]?).getD ""
structure FVs (P : Program) (w : World) (K : PySem.W.Frag) (mg : Str → Option Value) (base : Heap) (k : Nat) (xs : List Str) (fv : List (Addr × DSp)) : Prop where
  all : ∀ p ∈ fv, ∃ fd ps, XFn P w K mg base k p.1 fd ps p.2 ∧ PySem.W.keepIn K (.ref p.1) = true ∧ Binds K fd ps []
  nms : ∀ i, i < xs.length → mg (nthS xs i) = some (.ref (fvA fv i))
section
variable {X : Cx} {W : WX} {k : Nat} {xs ps : List Str} {fv : List (Addr × DSp)} {sp : DSp} {x c m : Str} {p pos apos : Pos} {o e : Expr} {es : List Expr} {ta : DTA} {te : DTE} {to : XTE}
end
end Dl
namespace Dl
open PySem L2
theorem strs_rep {K : PySem.W.Frag} {G : GH} {H : Hp} : ∀ {ys : List Str} {vs : List V}, RepL K G H (ys.map D.str) vs → vs = ys.map V.str
  | [], vs, h => by rw [List.map_nil] at h; unfold RepL at h; exact h
  | y :: ys, vs, h => by
    rw [List.map_cons] at h
    unfold RepL at h
    obtain ⟨x, r, rfl, h1, h2⟩ := h
    unfold RepV at h1
    rw [h1, strs_rep h2]; rfl
theorem repL_tx {K : PySem.W.Frag} {G : GH} {H : Hp} : ∀ ys : List Str, RepL K G H (ys.map D.str) (ys.map V.str)
  | [] => repL_nil
  | y :: ys => repL_cons (by unfold RepV; rfl) (repL_tx ys)
def dSplt (to te : DTE) : DTE := fun ρ G Q => to ρ G fun x G1 => ∃ a, x = .str a ∧ te ρ G1 fun y G2 => ∃ b, y = .str b ∧ (b.length == 0) = false ∧ a.length + 2 ≤ sizeLine ∧ ∀ p, G2 p = none → Q (.ref p) (updG G2 p (.lst ((Txt.split a b).map D.str)))
def dJoin (to te : DTE) : DTE := fun ρ G Q => to ρ G fun x G1 => ∃ a, x = .str a ∧ te ρ G1 fun y G2 => ∃ ys : List Str, sqOf G2 y = some (ys.map D.str) ∧ (ys.map (·.length)).sum + ys.length * a.length ≤ 16777216 ∧ Q (.str (Txt.join a ys)) G2
def dIdxS (to te : DTE) : DTE := fun ρ G Q => to ρ G fun x G1 => ∃ a, x = .str a ∧ te ρ G1 fun y G2 => ∃ b i rest, y = .str b ∧ Builtin.Str.occurrences a b 0 a.length 1 = i :: rest ∧ Q (.int (i : Nat)) G2
def dSlS (te : DTE) (tl th : DTO) : DTE := fun ρ G Q => te ρ G fun x G1 => tl ρ G1 fun l G2 => th ρ G2 fun u G3 => ∃ z, x = .str z ∧ z.length ≤ sizeLine ∧ Q (.str (cutS z l u)) G3
def dFmt (te : DTE) : DTE := fun ρ G Q => te ρ G fun x G1 => match x with
  | .str y => y.length ≤ sizeLine ∧ Q (.str y) G1
  | .int i => i.natAbs.log2 < 1920 ∧ Q (.str (toString i)) G1
  | _ => False
def rIntA : DRC := fun ds G Q => arg1 ds fun x => match x with
  | .int i => Q (.int i) G
  | .bl b => Q (.int (if b then 1 else 0)) G
  | .str a => ∃ n, PySem.intText? a = some n ∧ a.length ≤ 640 ∧ Q (.int n) G
  | _ => False
def rStrA : DRC := fun ds G Q => arg1 ds fun x => match x with
  | .int i => i.natAbs.log2 < 1920 ∧ Q (.str (toString i)) G
  | .str a => Q (.str a) G
  | _ => False
def rInTx (f : Bool → Bool) : DR2 := fun x y G Q => ∃ (c : Nat) (z : Str), x = .str ⟨#[c]⟩ ∧ y = .str z ∧ Q (.bl (f (decide (c ∈ z.cps.toList)))) G
inductive DJ (X : Cx) : List Expr → List DTE → Prop where
  | nil : DJ X [] []
  | cons {e : Expr} {t : DTE} {es : List Expr} {ts : List DTE} (h : DE X e t) (r : DJ X es ts) : DJ X (e :: es) (t :: ts)
section
variable {X : Cx} {o e lo hi : Option Expr} {to te : DTE}
end
section
variable {X : Cx} {o e v1 v2 : Expr} {rest : List Expr} {lo hi : Option Expr} {to te : DTE} {tl th : DTO} {ts : List DTE} {apos pos p2 : Pos}
theorem de_splt (ho : DE X o to) (he : DE X e te) (hs : starEach [e] X.env = [(false, eval e X.env)] := by rfl) (hbase : attributeBase o "split" X.env (eval o X.env) = eval o X.env := by rfl) (hline : (apos.endLine == pos.line) = true := by rfl) :
    DE X (.Call (.Attribute o "split" apos) [e] [] pos) (dSplt to te) := by
  refine (pe_split ho he hs hbase hline).imp fun σ H Q ⟨ρ, G, q, r, h, k⟩ => ?_
  refine ⟨ρ, G, _, r, h, fun v d H1 G1 e1 r1 v1 h1 => ?_⟩
  obtain ⟨a, rfl, h1⟩ := h1
  unfold RepV at v1
  subst v1
  refine ⟨⟨a, rfl⟩, ρ, G1, _, r1, h1, fun v d H2 G2 e2 r2 v2 h2 => ?_⟩
  obtain ⟨b, rfl, hb, hz, h2⟩ := h2
  unfold RepV at v2
  subst v2
  refine ⟨a, b, rfl, rfl, hb, hz, fun p hp => ?_⟩
  obtain ⟨e3, r3, v3⟩ := r2.newLst hp (repL_tx (Txt.split a b))
  exact k _ _ _ _ ((e1.trans e2).trans e3) r3 v3 (h2 p (r2.gok.fresh hp))
theorem de_join (ho : DE X o to) (he : DE X e te) (hs : starEach [e] X.env = [(false, eval e X.env)] := by rfl) (hbase : attributeBase o "join" X.env (eval o X.env) = eval o X.env := by rfl) (hline : (apos.endLine == pos.line) = true := by rfl) :
    DE X (.Call (.Attribute o "join" apos) [e] [] pos) (dJoin to te) := by
  refine (pe_join ho he hs hbase hline).imp fun σ H Q ⟨ρ, G, q, r, h, k⟩ => ?_
  refine ⟨ρ, G, _, r, h, fun v d H1 G1 e1 r1 v1 h1 => ?_⟩
  obtain ⟨a, rfl, h1⟩ := h1
  unfold RepV at v1
  subst v1
  refine ⟨⟨a, rfl⟩, ρ, G1, _, r1, h1, fun v d H2 G2 e2 r2 v2 h2 => ?_⟩
  obtain ⟨ys, hy, hz, h2⟩ := h2
  obtain ⟨p, xs, rfl, hp, rl⟩ := sq_at r2.gok v2 hy
  obtain rfl := strs_rep rl
  exact ⟨a, p, ys, rfl, rfl, hp, hz, k _ _ _ _ (e1.trans e2) r2 (by unfold RepV; rfl) h2⟩
theorem de_idxS (ho : DE X o to) (he : DE X e te) (hs : starEach [e] X.env = [(false, eval e X.env)] := by rfl) (hbase : attributeBase o "index" X.env (eval o X.env) = eval o X.env := by rfl) (hline : (apos.endLine == pos.line) = true := by rfl) :
    DE X (.Call (.Attribute o "index" apos) [e] [] pos) (dIdxS to te) := by
  refine (pe_m1 PySem.F.slot_str_index PySem.F.type_str_index mt_sindex ho he hs hbase hline).imp fun σ H Q ⟨ρ, G, q, r, h, k⟩ => ?_
  refine ⟨ρ, G, _, r, h, fun v d H1 G1 e1 r1 v1 h1 => ?_⟩
  obtain ⟨a, rfl, h1⟩ := h1
  unfold RepV at v1
  subst v1
  refine ⟨⟨a, rfl⟩, ρ, G1, _, r1, h1, fun v d H2 G2 e2 r2 v2 h2 => ?_⟩
  obtain ⟨b, i, rest, rfl, hi, h2⟩ := h2
  unfold RepV at v2
  subst v2
  exact ⟨a, b, i, rest, rfl, rfl, hi, k _ _ _ _ (e1.trans e2) r2 (by unfold RepV; rfl) h2⟩
theorem de_slS (he : DE X e te) (hl : DO' X lo tl) (hu : DO' X hi th) : DE X (.Subscript e (.Slice lo hi none p2) pos) (dSlS te tl th) := by
  refine (pe_slice sl_str he hl hu).imp fun σ H Q ⟨ρ, G, q, r, h, k⟩ => ?_
  refine ⟨ρ, G, _, r, h, fun v d H1 G1 e1 r1 v1 h1 => ?_⟩
  refine ⟨ρ, G1, _, r1, h1, fun l H2 G2 e2 r2 h2 => ?_⟩
  refine ⟨ρ, G2, _, r2, h2, fun u H3 G3 e3 r3 h3 => ?_⟩
  obtain ⟨z, rfl, hz, h3⟩ := h3
  unfold RepV at v1
  exact ⟨z, v1, hz, k _ _ _ _ ((e1.trans e2).trans e3) r3 (by unfold RepV; rfl) h3⟩
theorem de_fmt (he : DE X e te) : DE X (.FormattedValue e (-1) none pos) (dFmt te) := by
  refine (pe_fmt he).imp fun σ H Q ⟨ρ, G, q, r, h, k⟩ => ?_
  refine ⟨ρ, G, _, r, h, fun v d H1 G1 e1 r1 v1 h1 => ?_⟩
  cases d with
  | str y => unfold RepV at v1; exact .inl ⟨y, v1, h1.1, k _ _ _ _ e1 r1 (by unfold RepV; rfl) h1.2⟩
  | int i => unfold RepV at v1; exact .inr ⟨i, v1, h1.1, k _ _ _ _ e1 r1 (by unfold RepV; rfl) h1.2⟩
  | _ => exact h1.elim
theorem de_js1 (he : DE X e te) : DE X (.JoinedStr [e] pos) te := pe_joined1 he
theorem c_intA : DCall X (.type "int") rIntA := by
  intro pins s σ H xs us Q I r ⟨G, ds, q, g, rl, h0, k⟩
  obtain ⟨d, rfl, h⟩ := arg1_of h0
  obtain ⟨x, rfl, rx⟩ := repL_1 rl
  cases d with
  | int i => cases rv_int rx; exact call_int1 pins s σ H _ us Q I r (.inl ⟨i, rfl, k _ _ H G (Ext.refl G H) g int_rv h⟩)
  | bl b => cases rv_bl rx; exact call_int1 pins s σ H _ us Q I r (.inr ⟨b, rfl, k _ _ H G (Ext.refl G H) g int_rv h⟩)
  | str a =>
    obtain ⟨n, hn, hl, h⟩ := h
    unfold RepV at rx
    subst rx
    exact call_int_str pins s σ H _ us Q I r ⟨a, n, rfl, hn, hl, k _ _ H G (Ext.refl G H) g int_rv h⟩
  | _ => exact h.elim
theorem c_strA : DCall X (.type "str") rStrA := by
  intro pins s σ H xs us Q I r ⟨G, ds, q, g, rl, h0, k⟩
  obtain ⟨d, rfl, h⟩ := arg1_of h0
  obtain ⟨x, rfl, rx⟩ := repL_1 rl
  cases d with
  | int i => cases rv_int rx; exact call_str_int pins s σ H _ us Q I r ⟨i, rfl, h.1, k _ _ H G (Ext.refl G H) g (by unfold RepV; rfl) h.2⟩
  | str a =>
    unfold RepV at rx
    subst rx
    exact SkE.call_str_str pins s σ H _ us Q I r ⟨a, rfl, k _ _ H G (Ext.refl G H) g (by unfold RepV; rfl) h⟩
  | _ => exact h.elim
theorem o_inTx : DOp X (compareOp .In) (rInTx id) := by
  intro pins s σ H x y v u Q I rx ry ⟨G, dx, dy, q, g, vx, vy, h, k⟩
  obtain ⟨c, z, rfl, rfl, h⟩ := h
  unfold RepV at vx vy
  subst vx; subst vy
  exact op_in_sign pins s σ H _ _ v u Q I rx ry ⟨c, z, rfl, rfl, k _ _ H G (Ext.refl G H) g (by unfold RepV; rfl) h⟩
theorem o_notInTx : DOp X (compareOp .NotIn) (rInTx not) := by
  intro pins s σ H x y v u Q I rx ry ⟨G, dx, dy, q, g, vx, vy, h, k⟩
  obtain ⟨c, z, rfl, rfl, h⟩ := h
  unfold RepV at vx vy
  subst vx; subst vy
  exact op_notIn_sign pins s σ H _ _ v u Q I rx ry ⟨c, z, rfl, rfl, k _ _ H G (Ext.refl G H) g (by unfold RepV; rfl) h⟩
end
end Dl
namespace Dl
open PySem L2 PyProof.Rows LamX
section
variable {P : Program} {w : World} {K : PySem.W.Frag} {mg : Str → Option Value} {base : Heap} {k n : Nat} {x qual : Str} {params : Arguments} {body : List Stmt} {scope : Scope} {f : Addr} {fd : FuncData} {ps ks : List Str} {src : List (Nat × Nat)} {sp : DSp}
structure XGAt (P : Program) (w : World) (K : PySem.W.Frag) (mg : Str → Option Value) (base : Heap) (k : Nat) (f : Addr) (n : Nat) (ks : List Str) (src : List (Nat × Nat)) (dv : List D) (sp : DSp) : Prop where
  ex : ∃ fd ps, XFn P w K mg base k f fd ps sp ∧ PySem.W.keepIn K (.ref f) = true ∧ ∃ (its : List Value) (dvs : List V), Vals dvs its ∧ (∀ G H, RepL K G H dv dvs) ∧
    ∀ (s : Shared) (us ws : List Value), K.In s.heap → us.length = n → ws.length = ks.length → BindsTo s fd ⟨us, ks.zip ws⟩ (ps.zip (pick src us its ws))
theorem XGAt.up {j : Nat} {dv : List D} (C : XGAt P w K mg base j f n ks src dv sp) (h : j ≤ k) : XGAt P w K mg base k f n ks src dv sp := by
  obtain ⟨fd, ps, F, a⟩ := C.ex
  exact ⟨fd, ps, F.up h, a⟩
theorem xgat_of {kws ms : List (Str × V)} {dv : List D} (F : FunD K x qual params body scope [] kws f fd) (hk : kws ≠ []) (hms : ∀ q ∈ ms, q ∈ kws) (hd : ∀ G H, RepL K G H dv (ms.map (·.2))) (D' : XFn P w K mg base k f fd ps sp)
    (b : ∀ (D : Addr) (doc pm : Value) (an : Option Addr) (cdv ct : Value) (us mv ws : List Value), us.length = n → mv.length = ms.length → ws.length = ks.length →
      KwChain D ((ms.map (·.1)).zip mv) (bindArgs (PySem.W.fnOf x qual params body scope .none (.ref D) doc pm an cdv ct) ⟨us, ks.zip ws⟩) (ps.zip (pick src us mv ws))) : XGAt P w K mg base k f n ks src dv sp := by
  obtain ⟨oc, od, dV, kV, doc, pm, an, cdv, ct, osl, rfl, lk, hcd, hD, hK⟩ := F.ex
  rcases hD with ⟨_, rfl⟩ | ⟨e, _⟩
  · rcases hK with e | ⟨D, rfl, hq⟩
    · exact absurd e hk
    · obtain ⟨mv, hl, rk, hks⟩ := kwd_vals (ms := ms) fun q hm => hq q (hms q hm)
      exact ⟨_, ps, D', F.kp, mv, _, rk, hd, fun s us ws X l1 l2 => BindsTo.of_looks fun M => KwChain.looks X hks (b D doc pm an cdv ct us mv ws l1 hl l2)⟩
  · exact absurd rfl e
theorem XGAt.nm {dv : List D} (C : XGAt P w K mg base k f n ks src dv sp) (hm : mg x = some (.ref f)) : XCalleeG P w K mg base k x n ks src dv sp := by
  obtain ⟨fd, ps, F, hk, a⟩ := C.ex
  exact ⟨f, fd, ps, F, hm, hk, a⟩
end
structure FGs (P : Program) (w : World) (K : PySem.W.Frag) (mg : Str → Option Value) (base : Heap) (k : Nat) (fv : List (Addr × DSp)) (n : Nat) (ks : List Str) (src : List (Nat × Nat)) (dv : List D) : Prop where
  all : ∀ p ∈ fv, XGAt P w K mg base k p.1 n ks src dv p.2
theorem FGs.up {P : Program} {w : World} {K : PySem.W.Frag} {mg : Str → Option Value} {base : Heap} {j k n : Nat} {ks : List Str} {src : List (Nat × Nat)} {dv : List D} {fv : List (Addr × DSp)} (C : FGs P w K mg base j fv n ks src dv) (h : j ≤ k) : FGs P w K mg base k fv n ks src dv := ⟨fun p hp => (C.all p hp).up h⟩
def xCallVG (fv : List (Addr × DSp)) (n m : Nat) (src : List (Nat × Nat)) (dv : List D) (te : DTE) (ta tk : DTA) : XTE := fun Z ρ G Q => te ρ G fun v G1 => ∃ p, p ∈ fv ∧ v = .ref p.1 ∧ ta ρ G1 fun ds G2 => tk ρ G2 fun es G3 => ds.length = n ∧ es.length = m ∧ p.2 (pick src ds dv es) G3 Q fun x G4 => Z x ρ G4
section
variable {X : Cx} {W : WX} {k n : Nat} {x : Str} {ks : List Str} {src : List (Nat × Nat)} {dv : List D} {fv : List (Addr × DSp)} {p pos : Pos} {e : Expr} {es : List Expr} {te : DTE} {ta tk : DTA} {kws : List Keyword}
theorem xcVG {m : Nat} (C : FGs X.prog X.w X.K X.mg X.base k fv n ks src dv) (tk' : Takes X W) (hr : Room k X.A) (hgd : X.A.guards = some []) (hn : DE X (.Name x p) te) (ha : DA X (e :: es) ta) (hkw : DKw X kws tk)
    (hall : (backToKw pos (keywordEach kws X.env)).all (·.1.isSome) = true := by rfl) (hks : (backToKw pos (keywordEach kws X.env)).filterMap (·.1) = ks := by rfl)
    (he : starEach (e :: es) X.env = (false, eval e X.env) :: starEach es X.env := by rfl)
    (hpl : ((backTo pos (starEach (e :: es) X.env)).any (·.1) || (backToKw pos (keywordEach kws X.env)).any (·.1.isNone)) = false := by rfl) (hl : ks.length = m := by rfl) : XE1 X W (.Call (.Name x p) (e :: es) kws pos) (xCallVG fv n m src dv te ta tk) := by
  subst hl
  refine ⟨fun pins s σ H Q I ⟨ρ, G, q, Z, r, h, kk, z⟩ => ?_⟩
  refine wpAny_Call_Name_kw (thn (hn.run pins s σ H (fun v H1 => ∃ d G1, Ext G H G1 H1 ∧ DRel X.K σ H1 ρ G1 ∧ RepV X.K G1 H1 d v ∧ ∃ p, p ∈ fv ∧ d = .ref p.1 ∧ ta ρ G1 fun ds G2 => tk ρ G2 fun es G3 => ds.length = n ∧ es.length = ks.length ∧ p.2 (pick src ds dv es) G3 q fun x G4 => Z x ρ G4) I ⟨ρ, G, _, r, h, fun v d H1 G1 e1 r1 v1 h1 => ⟨d, G1, e1, r1, v1, h1⟩⟩) fun u s1 ⟨y, H1, I1, rx, d, G1, e1, r1, v1, pr, hp, ed, h1⟩ => ?_)
  subst ed
  cases rv_ref v1
  obtain rfl : u = Value.ref pr.1 := rx
  obtain ⟨fd, ps, F, hk, its, dvs, hv, hd, hb⟩ := (C.all pr hp).ex
  refine PySem.W.callWith_KW (h₀ := X.base) I1.ok.mod.kin hk hall (thn (ha.run pos pins s1 σ H1 (fun vs H2 => upA X.K tk σ H2 fun zs H3 => vs.length = n ∧ zs.length = ks.length ∧ toSp X.K pr.2 (pick src vs dvs zs) H3 Q (WE W σ)) I1 ⟨ρ, G1, _, r1, h1, fun vs ds H2 G2 e2 r2 v2 h2 => ?_⟩) fun us s2 ⟨vs, H2, I2, rv, q2⟩ => ?_) hpl he
  · refine ⟨ρ, G2, _, r2, h2, fun zs es H3 G3 e3 r3 v3 ⟨l1, l2, h3⟩ => ⟨by rw [v2.length]; exact l1, by rw [v3.length]; exact l2, ?_⟩⟩
    exact spx_at r3 (pick_reps (v2.ext e3) (hd G3 H3) v3) h3 (fun v d H' G' e4 r4 v4 h4 => kk v d H' G' (((e1.trans e2).trans e3).trans e4) r4 v4 h4) (z.ext ((e1.trans e2).trans e3))
  · refine thn (hkw.run pos pins s2 σ H2 _ I2 q2) fun ws s3 ⟨zs, H3, I3, rz, l1, l2, q3⟩ => ⟨I3.kIn, ?_⟩
    rw [hks, List.nil_append]
    exact xcg_run F tk' hr hgd hv hd hb I3 rv rz l1 l2 q3
end
theorem iCallVG {fv : List (Addr × DSp)} {n m : Nat} {src : List (Nat × Nat)} {dv : List D} {te : DTE} {ta tk : DTA} {Z : DZ} {ρ : DSt} {G : GH} {Q : DK} (h : te ρ G fun v G1 => ∃ p, p ∈ fv ∧ v = .ref p.1 ∧ ta ρ G1 fun ds G2 => tk ρ G2 fun es G3 => ds.length = n ∧ es.length = m ∧ p.2 (pick src ds dv es) G3 Q fun x G4 => Z x ρ G4) : xCallVG fv n m src dv te ta tk Z ρ G Q := h
end Dl
namespace Dl
open PySem L2
def dAugN (i : Nat) (te : DTE) : DTS := fun E ρ G => ∃ x, sl ρ i = some (.int x) ∧ te ρ G fun y G1 => ∃ j, y = .int j ∧ E.nx (ρ.set i (some (.int (x + j)))) G1
section
variable {X : Cx} {i : Nat} {x : Str} {e : Expr} {te : DTE} {pos pos' : Pos}
theorem ds_augN (hN : X.N.Nodup) (hi : X.N[i]? = some x) (hx : Loc X.env.scope x) (he : DE X e te) (hf : X.fn x = true ∨ X.env.scope.names.lookup x = some .local := by first | exact .inl rfl | exact .inr rfl | assumption) :
    DS X (.AugAssign (.Name x pos') .Add e pos) (dAugN i te) := by
  refine (ps_aug hN hi hx he iop_add hf).imp fun D σ H ⟨ρ, G, E, r, h, k1, k2, k3, k4⟩ => ?_
  obtain ⟨n, hn, h⟩ := h
  obtain ⟨v, e1, e2⟩ := r.sl hn
  unfold RepV at e2
  subst e2
  refine ⟨_, e1, ρ, G, _, r, h, fun y dy H1 G1 e1 r1 v1 h1 => ?_⟩
  obtain ⟨j, rfl, h1⟩ := h1
  unfold RepV at v1
  subst v1
  exact ⟨n, j, rfl, rfl, k1 _ _ H1 G1 e1 (r1.set i (by unfold RepV; rfl)) h1⟩
end
end Dl
namespace Dl
open PySem L2 PyProof.Rows LamX
def faA (fa : List Addr) (i : Nat) : Addr := (fa[i]?).getD 0
structure FNs (mg : Str → Option Value) (xs : List Str) (fa : List Addr) : Prop where
  nms : ∀ i, i < xs.length → mg (nthS xs i) = some (.ref (faA fa i))
theorem de_fnm {X : Cx} {xs : List Str} {fa : List Addr} {x : Str} {p : Pos} (FN : FNs X.mg xs fa) (i : Nat) (hi : i < xs.length) (hx : nthS xs i = x) (hg : Gl X x) (hd : (x == ("__debug__" : Str)) = false := by decide) : DE X (.Name x p) (dC (.ref (faA fa i))) :=
  de_c (pe_glob (v := .ref (faA fa i)) hg (hx ▸ FN.nms i hi) rfl hd) fun _ _ => by unfold RepV; rfl
section
variable {P : Program} {w : World} {K : PySem.W.Frag} {mg : Str → Option Value} {base : Heap} {k : Nat} {x : Str} {f : Addr} {p : Str} {sp : DSp}
theorem XCallee.at1 (C : XCallee P w K mg base k x [p] sp) (hm : mg x = some (.ref f)) : XGAt P w K mg base k f 1 [] [(0, 0)] [] sp := by
  obtain ⟨g, fd, F, hg, hk, hb, _⟩ := C.ex
  obtain rfl : g = f := by
    have := hg.symm.trans hm
    injection this with this
    injection this
  refine ⟨fd, [p], F, hk, [], [], .nil, fun _ _ => repL_nil, fun s us ws X l1 l2 => ?_⟩
  match us, ws, l1, l2 with
  | [u], [], _, _ =>
    have := hb s [u] X rfl
    exact this
end
end Dl
namespace Dl
open PySem L2 PyProof.Rows LamX
def cPost (M : Model) (A : Around) (E : Value → Shared → Prop) (Q : Value → Shared → Prop) (acc : Value) (ce : Env) (r : Result) (s' : Shared) : Prop :=
  match r with
  | .ok _ => ∃ m, s'.heap.Ns ce.locals m ∧ ∀ h', Heap.SameBut ce.locals s'.heap h' → Q acc { s' with heap := h' }
  | .error x => ∃ m, s'.heap.Ns ce.locals m ∧ ∀ h', Heap.SameBut ce.locals s'.heap h' → wpAny M A (PySem.passOn "comprehension.variables-let-go" x ce : Sem Value) (fun _ _ => False) E { s' with heap := h' }
theorem frame_same {ce env : Env} (h : ce.frame = env.frame) (x : Value) : noteFrame x ce = noteFrame x env := by
  unfold noteFrame PySem.frameOf
  rw [h]
section
variable {X : Cx} {pins : List (Addr × Obj)} {σ : L2.St} {W : WX} {H : Hp} {s : Shared}
theorem fly_out {s1 : Shared} {H1 : Hp} {scope : Scope} {ce : Env} {fp : List Addr} {Q0 : Value → Shared → Prop} {acc : Value} (hs : X.stack = X.env :: X.outer) (hf : X.env.frame = some X.env.locals) (hce : ce.frame = X.env.frame) (hfr : X.A.frames = some X.stack) (tk : Takes X W)
    (back : Within X pins σ (X.blk s1 H1 scope ce fp)) (hC : ∀ J : Hp, J ce.locals = none → FpOk X pins J ce.locals) {pt : List (Addr × Obj)} {τ : L2.St} {J : Hp} {t t' : Shared} {u : Value} (I : Inv (X.blk s1 H1 scope ce fp) pt τ J t)
    (c : CX X.prog X.w X.stack J t (fun c d J' => W c d σ J') u t') : notedBy (model X.prog X.w) X.A ce (fun e s' => cPost (model X.prog X.w) X.A X.xe Q0 acc ce (.error e) s') u t' := by
  obtain ⟨a, Bg, J', cls, d, rfl, fl, hok, ub, na, os, ag, hE⟩ := c
  obtain ⟨G, g1, g2⟩ := restrict t'.heap fun b => (Bg.get? b).isSome || decide (b ∈ frs X.stack)
  have st : Bg.StaysIn t'.heap := fl.1
  have gB : ∀ b o, Bg.get? b = some o → G.get? b = some o := fun b o e => by
    rw [g1 b (by simp [e])]
    exact st b o e
  have gF : ∀ b, b ∈ frs X.stack → G.get? b = t'.heap.get? b := fun b hb => g1 b (by simp [hb])
  have og : ∀ b o, G.get? b = some o → t'.heap.get? b = some o ∧ ((Bg.get? b).isSome = true ∨ b ∈ frs X.stack) := fun b o e => by
    cases q : ((Bg.get? b).isSome || decide (b ∈ frs X.stack)) with
    | false => rw [g2 b q] at e; cases e
    | true =>
      rw [g1 b q] at e
      exact ⟨e, by simpa [Bool.or_eq_true] using q⟩
  have IG : Inv (X.blk s1 H1 scope ce fp) pt τ J' { t with heap := G, gens := t'.gens, drawn := t'.drawn, toks := t'.toks } := by
    refine I.call (ch := []) ⟨fun b o e n hb _ => gB b o (ub.keep b o e n hb), fun b o e n hb _ => ?_, fun b o e n _ => ub.free b o e n, fun b o e _ => ?_, ub.tups, ub.frzs, ub.tbls⟩ (hok.kept gB) ag (fun _ z => nomatch z)
    · obtain ⟨sl, q⟩ := ub.slot b o e hb
      exact ⟨sl, by rw [gF b hb]; exact q⟩
    · by_cases hb : b ∈ frs X.stack
      · obtain ⟨sl, q⟩ := ub.slot b o e hb
        exact ⟨_, by rw [gF b hb]; exact q⟩
      · obtain ⟨o', q⟩ := ub.there b o e hb
        exact ⟨o', gB b o' q⟩
  have nb : ∀ b o, G.get? b = some o → b ∉ frs X.stack → Bg.get? b = some o := fun b o e hb => by
    obtain ⟨e', h⟩ := og b o e
    rcases h with h | h
    · obtain ⟨o', q⟩ := Option.isSome_iff_exists.mp h
      have z := st b o' q
      rw [e'] at z; cases z
      exact q
    · exact absurd h hb
  have up : G.UpToSlots t'.heap := Heap.UpToSlots.of_keeps fun b o e => (og b o e).1
  show wpAny _ X.A (noteFrame (.ref a) ce) _ _ t'
  rw [frame_same hce]
  have hfr' : X.A.frames = some (X.env :: X.outer) := by rw [hfr, hs]
  have fl' : HandSPX.FlyingZ Bg (X.env :: X.outer) a (Zc cls d) t'.heap := by rw [← hs]; exact fl
  refine HandSPX.looks_onZ Zc.steady hfr' hf fl' fun h1 held up1 => ?_
  rw [← hs] at held
  have J1 : Inv (X.blk s1 H1 scope ce fp) pt τ J' { t' with heap := h1 } := IG.landed nb held.1 (up.trans up1) os ag
  obtain ⟨m, hm, _⟩ := J1.loc
  have hm : h1.Ns ce.locals m := hm
  have nC : J' ce.locals = none := J1.free
  obtain ⟨c0, c1, c2, c3, c4, c5⟩ := hC J' nC
  refine ⟨m, hm, fun h2 sb => ?_⟩
  have nfC : ce.locals ∉ frs X.stack := fun hb => by
    obtain ⟨_, o, ho, _⟩ := IG.ok.funs.mem (show ce.locals ∈ frs (X.blk s1 H1 scope ce fp).outer from hb)
    exact absurd (Nat.lt_of_lt_of_le (Heap.lt_size ho) IG.ok.above) (Nat.lt_irrefl _)
  obtain ⟨mG, hmG, _⟩ := IG.loc
  have hmG : G.Ns ce.locals mG := hmG
  obtain ⟨oC, hoC⟩ : ∃ o, G.get? ce.locals = some o := ⟨_, hmG.choose_spec.choose_spec.choose_spec.1⟩
  have bC := nb _ _ hoC nfC
  obtain ⟨s1', hn, ff, oe, vs, T, oT, ts, he, hz, hd, hv, hnT, hTe, hT, hdT, h3⟩ := held
  have naC : a ≠ ce.locals := fun z => by rw [z, bC] at hn; cases hn
  have nTC : T ≠ ce.locals := fun z => by rw [z, bC] at hnT; cases hnT
  obtain ⟨B2, b21, b22⟩ := restrict Bg fun b => decide (b ≠ ce.locals)
  obtain ⟨G2, g21, g22⟩ := restrict G fun b => decide (b ≠ ce.locals)
  have B2of : ∀ b o, B2.get? b = some o → b ≠ ce.locals ∧ Bg.get? b = some o := fun b o e => by
    by_cases z : b = ce.locals
    · rw [b22 b (by simp [z])] at e; cases e
    · exact ⟨z, by rw [← b21 b (by simp [z])]; exact e⟩
  have G2of : ∀ b o, G2.get? b = some o → b ≠ ce.locals ∧ G.get? b = some o := fun b o e => by
    by_cases z : b = ce.locals
    · rw [g22 b (by simp [z])] at e; cases e
    · exact ⟨z, by rw [← g21 b (by simp [z])]; exact e⟩
  have B2no : ∀ b, Bg.get? b = none → B2.get? b = none := fun b e => by
    cases q : B2.get? b with
    | none => rfl
    | some o => rw [(B2of b o q).2] at e; cases e
  have J2 : Inv X pins σ J' { t' with heap := h2 } := (back _ _ _ _ J1).turned (t' := t'.toks) (fun b o hb q => (sb.2 b hb).trans q) c0 c1 c3 c4 c5
  have JG : Inv X pins σ J' { t with heap := G2, gens := t'.gens, drawn := t'.drawn, toks := t'.toks } :=
    (back _ _ _ _ IG).turned (t' := t'.toks) (h' := G2) (fun b o hb q => by rw [g21 b (by simp [hb])]; exact q) c0 c1 c3 c4 c5
  have held2 : HandSPX.HeldZ B2 X.stack a (Zc cls d) X.env.locals h2 := by
    refine ⟨fun b o e => ?_, B2no a hn, funFrames_none J2.stack fun L hL => B2no L (ff.mem hL).1, oe, vs, T, oT, ts, (sb.2 a naC).trans he, hz, hd, hv, B2no T hnT, hTe, (sb.2 T nTC).trans hT, hdT, h3⟩
    obtain ⟨z, e⟩ := B2of b o e
    exact (sb.2 b z).trans (s1' b o e)
  unfold PySem.passOn
  refine wpAny_bind (wpAny_field ((sb.2 a naC).trans he) hd hv ?_)
  rw [if_neg (show ¬ ((Value.ref T == Value.none) = true) from by simp), hce, hf]
  refine wpAny_bind (HandSPX.setFlight_onZ held2 fun h3' held3 up3 => wpAny_throw ?_)
  refine tk _ _ ⟨a, B2, { t with heap := G2, gens := t'.gens, drawn := t'.drawn, toks := t'.toks }, pins, σ, J', cls, d, rfl, JG, fun b o e hb => ?_, fun b o e hnf => ?_, .inr (.inr held3), na, os, ag, hE⟩
  · obtain ⟨z, e⟩ := G2of b o e
    rw [b21 b (by simp [z])]
    exact nb b o e hb
  · obtain ⟨z, e⟩ := G2of b o e
    obtain ⟨sl, q⟩ := (up.trans up1) b o e hnf
    have q2 : h2.get? b = some { o with slots := sl } := (sb.2 b z).trans q
    obtain ⟨sl2, q3⟩ := up3 b _ q2 hnf
    exact ⟨sl2, q3⟩
theorem comp_free {M : Model} {A : Around} {E : Value → Shared → Prop} {env : Env} {s : Shared} {e : Expr} {scope : Scope} {pos : Pos} {newAcc first : Sem Value} {g : Comprehension} {gs : List Comprehension} {cl : List (Str × Addr)} {Q : Value → Shared → Prop}
    (hcl : clausesOf e = g :: gs) (hs : ∀ x, foldedSetIterable g.iter env x = pure x) (hclos : closureFor scope env = pure cl) (hkind : scope.kind = .function) (hnames : ∀ x ∈ scope.names, x.2 = .local → scope.names.lookup x.1 = some .local)
    (h : wpAny M A first (fun x s₁ => wpAny M A (pyIter x) (fun it s₂ => wpAny M A newAcc (fun acc s₃ => wpAny M A (newFunctionEnv scope env.globals cl [] env.qual none .none (some env)) (fun cenv s₄ =>
        codeAny M A (.compStart e 0 it acc { cenv with scope := relabel scope env }) (cPost M A E Q acc { cenv with scope := relabel scope env }) s₄) E s₃) E s₂) E s₁) E s) : wpAny M A (comprehension e scope env pos newAcc false first none) Q E s := by
  unfold comprehension
  rw [hclos, hcl]
  refine wpAny_bind (wpAny_mono h (fun x s₁ h₁ => wpAny_bind (wpAny_standAt (wpAny_bind (wpAny_of_eq (hs x) (wpAny_bind (wpAny_holding (wpAny_mono h₁ (fun it s₂ h₂ =>
    wpAny_standIf (wpAny_bind (wpAny_mono h₂ (fun acc s₃ h₃ => wpAny_bind (wpAny_pure (wpAny_bind (wpAny_mono h₃ (fun cenv s₄ h₄ => ?_) fun _ _ h' => h')))) fun _ _ h' => h')))
      fun _ _ h' => h'))))))) fun _ _ h' => h')
  dsimp only
  have hv : ∀ x ∈ (scope.names.filter fun x => (x.2 == .local || x.2 == .cell) && x.1 != (".0" : Str)).reverse, x.2 = .local → Env.kindOf { cenv with scope := relabel scope env } x.1 = some .local := fun x hx hl => lookup_relabel_local (hnames x (List.mem_filter.mp (List.mem_reverse.mp hx)).1 hl)
  refine wpAny_holding (wpAny_bind (wpAny_attempt (wpAny_holding (wpAny_run (codeAny_mono h₄ fun r s' hr => ?_)))))
  cases r with
  | ok f =>
    obtain ⟨m, hn, hr⟩ := hr
    exact wpAny_bind (wpAny_holding (wpAny_comp_letGo (cenv := { cenv with scope := relabel scope env }) hkind _ s' m hv hn fun h' m' _ hs' => wpAny_pure (hr h' hs')))
  | error x =>
    obtain ⟨m, hn, hr⟩ := hr
    exact wpAny_bind (wpAny_holding (wpAny_comp_letGo (cenv := { cenv with scope := relabel scope env }) hkind _ s' m hv hn fun h' m' _ hs' => wpAny_mono (hr h' hs') (fun _ _ f => f.elim) fun _ _ y => y))
theorem lcx {Q : VK} {elt tg iter : Expr} {scope : Scope} {own : List (Str × Nat)} {pos : Pos} {wi : L2.TI} {g : L2.TG} {te : TE} (calm : X.calm = true) (nod : X.N.Nodup) (I0 : Inv X pins σ H s) (it0 : PI X tg iter wi) (bo : BlkOk X.N X.env.scope scope own)
    (pgs : ∀ (s1 : Shared) (H1 : Hp) (C : Addr) (cl : List (Str × Addr)) (fp : List Addr), PG (X.blk s1 H1 scope (compEnvC scope cl C X.env) fp) tg g)
    (hs : X.stack = X.env :: X.outer) (hf : X.env.frame = some X.env.locals) (tk : Takes X W)
    (pes : ∀ (s1 : Shared) (H1 : Hp) (C : Addr) (cl : List (Str × Addr)) (fp : List Addr) (pn : List (Addr × Obj)) (xe : Value → Shared → Prop),
      (∀ (pt : List (Addr × Obj)) (τ : L2.St) (J : Hp) (t : Shared) (u : Value) (t' : Shared), Inv ((X.blk s1 H1 scope (compEnvC scope cl C X.env) fp).tr ([] ++ pn) xe) pt τ J t → CX X.prog X.w X.stack J t (fun c d J' => W c d σ J') u t' → xe u t') →
      PE ((X.blk s1 H1 scope (compEnvC scope cl C X.env) fp).tr ([] ++ pn) xe) elt te)
    (h : tLc wi g tYes te (own.map (·.2)) σ H Q) (fold : ∀ x, foldedSetIterable iter X.env x = pure x := by intro _; rfl) :
    wpAny (model X.prog X.w) X.A (eval (.ListComp elt [⟨tg, iter, [], 0⟩] scope pos) X.env) (EP X pins σ Q) X.xe s := by
  rw [eval_ListComp]
  have cells : ∀ q ∈ scope.names, q.2 = .free → ∃ c, X.env.cells.lookup q.1 = some c := fun q hq z => (bo.free q hq z).elim (fun k => I0.ok.has _ (.inl k)) fun k => I0.ok.has _ (.inr k)
  refine comp_free rfl fold (closure_ok cells) bo.kind (fun q hq z => (bo.uniq q hq).trans (by rw [z])) (thn (it0.run pins s σ H _ I0 h) fun v0 t1 h1 => thn h1 fun v1 t2 h2 => ?_)
  obtain ⟨ia, fp, tn, J, H2, rfl, I2, TT, z2, f2, more⟩ := h2
  refine wpAny_newObj_type (newEnv_comp ?_) (by show 0 ≤ sizeLine; decide)
  generalize eD : t2.heap.objs.size = L
  have nL : H2 L = none := I2.hok.fresh (Nat.le_of_eq eD)
  obtain ⟨Wt, ⟨m0, w0⟩, turns⟩ := more L nL
  generalize e3 : ({ t2 with heap := t2.heap.push { cls := .type "list", data := .seq ([] : List Value).toArray } } : Shared) = t3
  have I3 : Inv X pins σ (upd H2 L (.lst [])) t3 := by
    subst e3
    refine I2.laid (t' := t2.toks) (fun b o z => Heap.get?_push_of_some _ z) (Nat.le_of_eq eD) ⟨Nat.zero_le _, [], 0, .nil, ?_⟩
    subst eD
    exact Heap.get?_push_size _ rfl
  have p3 : t3.heap = t2.heap.push { cls := .type "list", data := .seq ([] : List Value).toArray } := by subst e3; rfl
  have lo : ∀ b ∈ fp, b < t2.heap.objs.size := fun b hb => (TT.obj _ _ z2 b hb).elim fun o z => Heap.lt_size z.1
  have f3 : ∀ b ∈ fp, FpOk X pins (upd H2 L (.lst [])) b ∧ b < t3.heap.objs.size := fun b hb => by
    have lb := lo b hb
    have nb : b ≠ L := by subst eD; exact Nat.ne_of_lt lb
    exact ⟨⟨by rw [upd_ne nb]; exact (f2 b hb).1, (f2 b hb).2⟩, by rw [p3, Heap.size_push]; exact Nat.lt_succ_of_lt lb⟩
  have z3 : tn 0 t3.heap := TT.keep _ _ _ z2 fun b _ o z => by rw [p3]; exact Heap.get?_push_of_some _ z
  have I4 := block_start I3 bo nod f3
  generalize eC : compEnvC scope (cellsFrom (t3.heap.objs.size + 1) scope.names (cloFrom X.env.cells scope.names [])) t3.heap.objs.size X.env = ce at I4
  generalize eH : upd H2 L (.lst []) = H3 at I3 I4 w0 f3
  have back : Within X pins σ (X.blk t3 H3 scope ce fp) := fun pn τ H' t I' => I3.call' (ch := fp) I'.os I'.base I'.hok I'.bare fun b hb =>
    ⟨(f3 b hb).1.2.2.2.1, (f3 b hb).1.2.1, (f3 b hb).1.2.2.2.2.1, (f3 b hb).1.2.2.2.2.2⟩
  have hpg : PG (X.blk t3 H3 scope ce fp) tg g := by subst eC; exact pgs _ _ _ _ _
  have hpt : PTs (X.blk t3 H3 scope ce fp) [] tYes := pts_nil
  have hpe : ∀ (pn : List (Addr × Obj)) (xe : Value → Shared → Prop), (∀ (pt : List (Addr × Obj)) (τ : L2.St) (J : Hp) (t : Shared) (u : Value) (t' : Shared), Inv ((X.blk t3 H3 scope ce fp).tr ([] ++ pn) xe) pt τ J t → CX X.prog X.w X.stack J t (fun c d J' => W c d σ J') u t' → xe u t') →
      PE ((X.blk t3 H3 scope ce fp).tr ([] ++ pn) xe) elt te := by subst eC; exact pes _ _ _ _ _
  have hce : ce.frame = X.env.frame := by subst eC; rfl
  have locC : ce.locals = t3.heap.objs.size := by subst eC; rfl
  have nfp : ∀ b ∈ fp, H3 b = none := fun b hb => (f3 b hb).1.1
  have keepT : ∀ {pn : List (Addr × Obj)} {τ : L2.St} {J' : Hp} {t : Shared}, Inv (X.blk t3 H3 scope ce fp) pn τ J' t → (∀ b ∈ fp, J' b = none) → pn = [] → ∀ b ∈ fp, FpOk (X.blk t3 H3 scope ce fp) [] J' b := fun I' hn _ b hb =>
    ⟨hn b hb, (I'.ok.exf b hb).1, I'.ok.exfs b hb, .inl hb, fun x c q => (I'.ok.exf b hb).2 x c q, fun p hp => (nomatch (show p ∈ ([] : List (Addr × Obj)) from hp))⟩
  generalize e4 : ({ t3 with heap := pushCells (t3.heap.push { cls := .type "dict", data := .dict #[] }) scope.names } : Shared) = t4 at I4
  have z4 : tn 0 t4.heap := TT.keep _ _ _ z3 fun b _ o q => by subst e4; exact pushCells_keeps _ _ _ _ (Heap.get?_push_of_some _ q)
  have loop : codeAny (model X.prog X.w) X.A (.compLoop (.ListComp elt [⟨tg, iter, [], 0⟩] scope pos) 0 (.ref ia) (.ref L) ce) (cPost (model X.prog X.w) X.A X.xe (EP X pins σ Q) (.ref L) ce) t4 := by
    refine compLoop_any (fun n t => ∃ k J', Inv (X.blk t3 H3 scope ce fp) [] (wipe σ (own.map (·.2))) J' t ∧ tn k t.heap ∧ (∀ b ∈ fp, J' b = none) ∧ Wt k n J') (fun n t5 ⟨k, H5, I5, z5, n5, w5⟩ => ?_) m0 ⟨0, H3, I4, z4, nfp, w0⟩
    rcases turns k n H5 w5 with ⟨stop, fin⟩ | ⟨go, Nx, hNx, step⟩
    · refine thnF (TT.done (X.blk t3 H3 scope ce fp) rfl rfl rfl calm k [] t5 _ H5 (fun _ _ => False) I5 (keepT I5 n5 rfl) z5 stop) fun r t6 ⟨hr, I6⟩ => ?_
      subst hr
      have I7 := back _ _ _ _ I6
      have nl : H5 ce.locals = none := I6.free
      obtain ⟨m, hm, _⟩ := I6.loc
      have hm : t6.heap.Ns ce.locals m := hm
      obtain ⟨g0, g1, g2, g3, g4, g5⟩ := I3.fpOk (Nat.le_of_eq locC.symm) nl
      exact ⟨m, hm, fun h' sb => ⟨.ref L, H5, I7.turned (t' := t6.toks) (fun b o hb q => (sb.2 b hb).trans q) g0 g1 g3 g4 g5, rfl, fin⟩⟩
    · refine thnF (TT.item (X.blk t3 H3 scope ce fp) rfl rfl rfl calm k [] t5 _ H5 (fun _ _ => False) I5 (keepT I5 n5 rfl) z5 go) fun r t6 ⟨u, hr, h6⟩ => ?_
      subst hr
      refine thnF h6 fun _ t7 ⟨x, H7, I7, r7, y7, z7, n7⟩ => ?_
      refine thnF (hpg.run _ t7 _ H7 x u _ (I7.pinned (keepT I7 n7 rfl) (TT.obj _ _ z7)) r7 (step x H7 y7)) fun _ t8 ⟨τ8, H8, I8, eq8, q8⟩ => ?_
      refine thnF (hpt.run _ t8 τ8 H8 _ I8 q8) fun b t9 ⟨H9, I9, q9⟩ => ?_
      have next : ∀ (t : Shared) (J' : Hp), Inv (X.blk t3 H3 scope ce fp) ([] ++ pinsAt fp t7.heap) τ8 J' t → Nx J' → ∃ m, m < n ∧ ∃ k J', Inv (X.blk t3 H3 scope ce fp) [] (wipe σ (own.map (·.2))) J' t ∧ tn k t.heap ∧ (∀ b ∈ fp, J' b = none) ∧ Wt k m J' := fun t J' I' nx => by
        obtain ⟨m, lt, wm⟩ := hNx J' nx
        have held : ∀ b ∈ fp, ∀ o, t7.heap.get? b = some o → t.heap.get? b = some o ∧ J' b = none := fun b hb o q => by
          have pn := I'.pin (b, o) (List.mem_append_right _ (List.mem_append_right _ (mem_pinsAt hb q)))
          exact ⟨pn.1, pn.2.1⟩
        have len : (wipe σ (own.map (·.2))).length = τ8.length := by rw [← eq8]; exact wipe_length _ _
        refine ⟨m, lt, k + 1, J', (I'.unpinned (pins := [])).weak len (fun j v q => ?_), TT.keep _ _ _ z7 fun b hb o q => (held b hb o q).1, fun b hb => ?_, wm⟩
        · rw [← eq8] at q
          exact (wipe_some q).1
        · obtain ⟨o, q, _⟩ := TT.obj _ _ z7 b hb
          exact (held b hb o q).2
      cases b with
      | false => exact next _ _ I9 (by simpa using q9)
      | true =>
        have q9 : te τ8 H9 fun y H4 => ∃ acc, H4 L = some (.lst acc) ∧ acc.length < sizeLine ∧ Nx (upd H4 L (.lst (acc ++ [y]))) := by simpa using q9
        refine wpAny_mono ((hpe ([] ++ pinsAt fp t7.heap) (notedBy (model X.prog X.w) X.A ce fun e s' => cPost (model X.prog X.w) X.A X.xe (EP X pins σ Q) (.ref L) ce (.error e) s') fun pt τ J t u t' It c =>
          fly_out hs hf hce I0.ok.frames tk back (fun J hJ => I3.fpOk (Nat.le_of_eq locC.symm) hJ) (It.ofTry I9.ok) c).run [] t9 τ8 H9 _ (I9.toTry _) q9) (fun _ t10 ⟨y, H10, I10, r10, acc, aL, al, nx⟩ => ?_) fun _ _ h => h
        exact app_ok (X := X.blk t3 H3 scope ce fp) (I10.ofTry I9.ok) aL al r10 fun t11 I11 => next _ _ I11 nx
  subst e4 eC
  exact codeAny_compStart_list loop (TT.self X.A 0 _ _ _ z4 loop)
end
end Dl
namespace Dl
open PySem L2 PyProof.Rows LamX
def upE (K : PySem.W.Frag) (G0 : GH) (H0 : Hp) (te : DTE) : TE := fun σ H Qv => ∃ ρ G Q, Ext G0 H0 G H ∧ DRel K σ H ρ G ∧ te ρ G Q ∧ ∀ v d H' G', Ext G H G' H' → DRel K σ H' ρ G' → RepV K G' H' d v → Q d G' → Qv v H'
theorem up_lcE {K : PySem.W.Frag} {wi : DTI} {ct : CT} {te : DTE} {vs : List Nat} (hi : ∀ i ∈ ct.slots, i ∈ vs) {σ : L2.St} {H : Hp} {Q : VK} {ρ : DSt} {G : GH} {q : DK} (r : DRel K σ H ρ G) (h : dLc wi ct dYes te vs ρ G q)
    (k : ∀ v d H' G', Ext G H G' H' → DRel K σ H' ρ G' → RepV K G' H' d v → q d G' → Q v H') : tLc (upI K wi) (ct.gV K) tYes (upE K G H te) vs σ H Q := by
  refine ⟨ρ, G, _, r, h, fun J items ok H1 G1 e1 r1 it h1 => fun p hp => ?_⟩
  obtain ⟨e2, r2, _⟩ := r1.newLst hp (repL_nil (K := K) (G := G1) (H := H1))
  have h2 := h1 p (r1.gok.fresh hp)
  refine ⟨fun i m H2 => m = items.length - i ∧ i ≤ items.length ∧ ∃ G2, Ext (updG G1 p (.lst [])) (upd H1 p (.lst [])) G2 H2 ∧ GOk K G2 H2 ∧ dLcGo ok ct dYes te (wipeD ρ vs) p (items.drop i) G2 q, ⟨items.length, rfl, Nat.zero_le _, _, Ext.refl _ _, r2.gok, h2⟩, ?_⟩
  rintro i m H2 ⟨rfl, hi2, G2, e3, g3, h3⟩
  have r3 : DRel K σ H2 ρ G2 := r2.ext e3 g3
  have e13 : Ext G1 H1 G2 H2 := e2.trans e3
  by_cases hlt : i < items.length
  · rw [List.drop_eq_getElem_cons hlt] at h3
    unfold dLcGo at h3
    obtain ⟨ho, h3⟩ := h3
    obtain ⟨a, b⟩ := it G2 H2 e13 g3 ho i
    obtain ⟨go, yl⟩ := a items[i] (List.getElem?_eq_getElem hlt)
    refine .inr ⟨go, fun H3 => ∃ G3, Ext (updG G1 p (.lst [])) (upd H1 p (.lst [])) G3 H3 ∧ GOk K G3 H3 ∧ dLcGo ok ct dYes te (wipeD ρ vs) p (items.drop (i + 1)) G3 q, fun H3 ⟨G3, q3⟩ => ⟨items.length - (i + 1), by omega, rfl, hlt, G3, q3⟩, fun x H3 hy => ?_⟩
    obtain ⟨e4, g4, rx⟩ := yl x H3 hy
    have r4 : DRel K (wipe σ vs) H3 (wipeD ρ vs) G2 := (r3.ext e4 g4).wipe vs
    cases eb : bindC ct items[i] (wipeD ρ vs) with
    | none => rw [eb] at h3; exact h3.elim
    | some ρ2 =>
      rw [eb] at h3
      refine bindC_ok hi r4 rx eb fun σ5 r5 w5 => ⟨by rw [w5, wipe_wipe], ?_⟩
      unfold tYes
      dsimp only
      rw [if_pos rfl]
      have h3 : te ρ2 G2 fun y G4 => (match G4 p with
        | some (.lst acc) => acc.length < sizeLine ∧ dLcGo ok ct dYes te (wipeD ρ vs) p (items.drop (i + 1)) (updG G4 p (.lst (acc ++ [y]))) q
        | _ => False) := h3
      refine ⟨ρ2, G2, _, ((e1.trans e13).trans e4), r5, h3, fun y dy H7 G7 e7 r7 v7 h7 => ?_⟩
      cases hg : G7 p with
      | none => rw [hg] at h7; exact h7.elim
      | some o =>
        rw [hg] at h7
        cases o with
        | lst acc =>
          obtain ⟨xs, hx, rx⟩ := r7.gok p _ hg
          have e8 : Ext G7 H7 (updG G7 p (.lst (acc ++ [dy]))) (upd H7 p (.lst (xs ++ [y]))) := Ext.write hg
          refine ⟨xs, hx, by rw [rx.length]; exact h7.1, _, ((e3.trans e4).trans e7).trans e8, r7.gok.put e8 ⟨_, upd_same, (rx.append (repL_one v7)).ext e8⟩, h7.2⟩
        | dct _ => exact h7.elim
        | raw _ => exact h7.elim
        | ins _ _ => exact h7.elim
        | dtp _ => exact h7.elim
        | tab _ => exact h7.elim
        | slt _ _ => exact h7.elim
        | dny _ _ _ => exact h7.elim
  · have e : i = items.length := by omega
    subst e
    rw [List.drop_length] at h3
    unfold dLcGo at h3
    refine .inl ⟨(it G2 H2 e13 g3 h3.1 _).2 rfl, k _ (.ref p) H2 G2 (e1.trans e13) (r3) (by unfold RepV; rfl) h3.2⟩
def xLc (wi : DTI) (ct : CT) (sp : DSp) (ta : DTA) (vs : List Nat) : XTE := fun Z ρ G Q => dLc wi ct dYes (fun ρ2 G1 Q1 => ta ρ2 G1 fun ds G2 => sp ds G2 Q1 fun x G3 => Z x ρ G3) vs ρ G Q
section
variable {X : Cx} {W : WX} {k : Nat} {ps : List Str} {sp : DSp} {x : Str} {p cpos pos : Pos} {e tg iter : Expr} {es : List Expr} {ta : DTA} {scope : Scope} {own : List (Str × Nat)} {wi : DTI} {ct : CT}
theorem xe_lc (hc : X.calm = true) (hN : X.N.Nodup) (hi : DI X tg iter wi) (ok : BlkOk X.N X.env.scope scope own) (hv : ∀ i ∈ ct.slots, i ∈ own.map (·.2))
    (hg : ∀ (s : Shared) (H : Hp) (C : Addr) (cl : List (Str × Addr)) (fp : List Addr), PG (X.blk s H scope (compEnvC scope cl C X.env) fp) tg (ct.gV X.K))
    (C : XCallee X.prog X.w X.K X.mg X.base k x ps sp) (tk : Takes X W) (hr : Room k X.A) (hgd : X.A.guards = some []) (hs : X.stack = X.env :: X.outer) (hf : X.env.frame = some X.env.locals)
    (hgl : ∀ (s : Shared) (H : Hp) (C : Addr) (cl : List (Str × Addr)) (fp : List Addr) (pn : List (Addr × Obj)) (xe : Value → Shared → Prop), Gl ((X.blk s H scope (compEnvC scope cl C X.env) fp).tr pn xe) x)
    (ha : ∀ (s : Shared) (H : Hp) (C : Addr) (cl : List (Str × Addr)) (fp : List Addr) (pn : List (Addr × Obj)) (xe : Value → Shared → Prop), DA ((X.blk s H scope (compEnvC scope cl C X.env) fp).tr pn xe) (e :: es) ta)
    (hdb : (x == ("__debug__" : Str)) = false := by decide) (hst : ∀ (C : Addr) (cl : List (Str × Addr)), starEach (e :: es) (compEnvC scope cl C X.env) = (false, eval e (compEnvC scope cl C X.env)) :: starEach es (compEnvC scope cl C X.env) := by intros; rfl)
    (hpl : ∀ (C : Addr) (cl : List (Str × Addr)), (backTo cpos (starEach es (compEnvC scope cl C X.env))).any (·.1) = false := by intros; rfl) (fold : ∀ x, foldedSetIterable iter X.env x = pure x := by intro _; rfl) :
    XE1 X W (.ListComp (.Call (.Name x p) (e :: es) [] cpos) [⟨tg, iter, [], 0⟩] scope pos) (xLc wi ct sp ta (own.map (·.2))) := by
  refine ⟨fun pins s σ H Q I ⟨ρ, G, q, Z, r, h, kq, z⟩ => ?_⟩
  obtain ⟨f, fd, F, hm, hk, hb, _⟩ := C.ex
  have h1 := up_lcE (Q := Q) hv r h kq
  refine lcx (te := upE X.K G H fun ρ2 G1 Q1 => ta ρ2 G1 fun ds G2 => sp ds G2 Q1 fun x G3 => Z x ρ G3) hc hN I hi ok hg hs hf tk (fun s1 H1 C cl fp pn xe pass => ?_) h1 fold
  refine (gx_call (X := (X.blk s1 H1 scope (compEnvC scope cl C X.env) fp).tr ([] ++ pn) xe) (E := fun _ c d J => W c d σ J) F hr hgd (hgl s1 H1 C cl fp _ xe) hm hk hb (fun τ => ?_) (ha s1 H1 C cl fp _ xe) hdb (hst C cl) (hpl C cl)).imp fun τ J Qv ⟨ρ2, G1, Q1, e0, r1, h2, k2⟩ => ?_
  · exact fun pt J t u t' It c => pass pt τ J t u t' It c
  · refine ⟨ρ2, G1, _, r1, h2, fun vs ds H2 G2 e2 r2 v2 h3 => ?_⟩
    refine ⟨ds, G2, Q1, _, v2, r2.gok, h3, fun v d H' G' e3 g3 v3 h4 => k2 v d H' G' (e2.trans e3) (r2.ext e3 g3) v3 h4, fun x c od H' G' e3 g3 rx hz => ?_⟩
    have e4 := (e0.trans e2).trans e3
    exact z x c od σ H' ρ G' e4 (r.ext e4 g3) rx hz
def xCB (r : DRC) (t : XTA) : XTE := fun Z ρ G Q => t Z ρ G fun ds G1 => r ds G1 Q
theorem xe_callTy {T : String} {r : DRC} {t : XTA} (hc : DCall X (.type T) r) (hg : Gl X x) (hm : X.mg x = none) (hv : bootBuiltins x = some (.type T)) (ha : XA1 X W (e :: es) t) (hn : x ≠ "__name__" := by decide) (hdb : (x == ("__debug__" : Str)) = false := by decide)
    (he : starEach (e :: es) X.env = (false, eval e X.env) :: starEach es X.env := by rfl) (hpl : (backTo cpos (starEach es X.env)).any (·.1) = false := by rfl) : XE1 X W (.Call (.Name x p) (e :: es) [] cpos) (xCB r t) := by
  refine (pe_callTy hc hg hm hv ha hn hdb he hpl).imp fun σ H Q ⟨ρ, G, q, Z, r0, h, k, z⟩ => ?_
  refine ⟨ρ, G, _, Z, r0, h, fun vs ds H1 G1 e1 r1 v1 h1 => ?_, z⟩
  exact ⟨G1, ds, q, r1.gok, v1, h1, fun v d H' G' e2 g2 v2 h2 => k v d H' G' (e1.trans e2) (r1.ext e2 g2) v2 h2⟩
end
theorem iXLc {wi : DTI} {ct : CT} {sp : DSp} {ta : DTA} {vs : List Nat} {Z : DZ} {ρ : DSt} {G : GH} {Q : DK} (h : dLc wi ct dYes (fun ρ2 G1 Q1 => ta ρ2 G1 fun ds G2 => sp ds G2 Q1 fun x G3 => Z x ρ G3) vs ρ G Q) : xLc wi ct sp ta vs Z ρ G Q := h
end Dl
namespace Dl
open PySem L2 PyProof.Rows LamX
section
variable {P : Program} {w : World} {K : PySem.W.Frag} {mg : Str → Option Value} {base : Heap} {k n : Nat} {x : Str} {xs ks : List Str} {a : Addr} {fa : List Addr} {src : List (Nat × Nat)} {dv : List D} {sp : DSp} {fv : List (Addr × DSp)}
theorem FNs.nil : FNs mg [] [] := ⟨fun i h => absurd h (Nat.not_lt_zero i)⟩
theorem FNs.cons (h : mg x = some (.ref a)) (r : FNs mg xs fa) : FNs mg (x :: xs) (a :: fa) := ⟨fun i hi => by
  cases i with
  | zero => exact h
  | succ i => exact r.nms i (Nat.lt_of_succ_lt_succ hi)⟩
theorem FGs.nil : FGs P w K mg base k [] n ks src dv := ⟨fun p hp => by cases hp⟩
theorem FGs.cons (h : XGAt P w K mg base k a n ks src dv sp) (r : FGs P w K mg base k fv n ks src dv) : FGs P w K mg base k ((a, sp) :: fv) n ks src dv := ⟨fun p hp => by
  rcases List.mem_cons.mp hp with rfl | hp
  · exact h
  · exact r.all p hp⟩
end
end Dl
namespace Dl
open PySem L2 PyProof.Rows LamX
def sgnD (c : Nat) : D := .str ⟨#[c]⟩
def iTx (te : DTE) : DTI := fun ρ G Q => te ρ G fun d G1 => ∃ z, d = .str z ∧ Q (z.cps.toList.map sgnD) okAll G1
theorem di_tx {X : Cx} {tg e : Expr} {te : DTE} (he : DE X e te) : DI X tg e (iTx te) := by
  refine (pi_str he).imp fun σ H R ⟨ρ, G, q, r, h, k⟩ => ?_
  refine ⟨ρ, G, _, r, h, fun v d H1 G1 e1 r1 v1 h1 => ?_⟩
  obtain ⟨z, rfl, h1⟩ := h1
  unfold RepV at v1
  refine ⟨z, v1, k _ _ okAll H1 G1 e1 r1 (fun G2 H2 e2 g2 _ i => ⟨fun d hd => ?_, fun hi => ?_⟩) h1⟩
  · rw [List.getElem?_map] at hd
    obtain ⟨c, hc, rfl⟩ := Option.map_eq_some_iff.mp hd
    have hc' : z.cps[i]? = some c := by rw [← Array.getElem?_toList]; exact hc
    refine ⟨?_, fun x H3 hy => ?_⟩
    · exact (Array.getElem?_eq_some_iff.mp hc').1
    · obtain ⟨rfl, c2, h2, rfl⟩ := hy
      rw [hc'] at h2
      cases h2
      exact ⟨Ext.refl _ _, g2, by unfold sgnD RepV; rfl⟩
  · rw [List.length_map, Array.length_toList] at hi
    exact Nat.le_of_eq hi.symm
def repS (z : Str) (n : Nat) : Str := ⟨(List.replicate n z.cps).foldl (· ++ ·) #[]⟩
def rMulTx : DR2 := fun x y G Q => ∃ z k, x = .str z ∧ y = .int k ∧ 0 ≤ k ∧ k ≤ 1000 ∧ z.length ≤ 1000 ∧ (repS z k.toNat).length ≤ sizeLine ∧ Q (.str (repS z k.toNat)) G
theorem rep_fold (c : Array Nat) : ∀ (n : Nat) (a : Array Nat), c = #[] → (List.replicate n c).foldl (· ++ ·) a = a
  | 0, _, _ => rfl
  | n + 1, a, h => by subst h; rw [List.replicate_succ, List.foldl_cons]; simpa using rep_fold #[] n a rfl
theorem o_mulTx {X : Cx} : DOp X (binaryOp .Mult) rMulTx := by
  intro pins s σ H x y v u Q I rx ry ⟨G, dx, dy, q, g, vx, vy, h, k⟩
  obtain ⟨z, n, rfl, rfl, n0, n1, hz, hl, h⟩ := h
  unfold RepV at vx vy
  subst vx; subst vy
  obtain ⟨t, rfl⟩ := rx
  obtain ⟨u, rfl⟩ := ry
  have kk : ∀ (w : Str), w = repS z n.toNat → Q (.str w) H := fun w e => by subst e; exact k _ _ H G (Ext.refl G H) g (by unfold RepV; rfl) h
  refine PySem.P.mul_str (by simp only [Bool.or_eq_false_iff, decide_eq_false_iff_not]; omega) (fun h1 _ => ?_) (fun h1 _ => ?_) ?_
  · have h2 : (1000 : Int) ≤ (2 ^ 63 - 1) / n := by
      rw [Int.le_ediv_iff_mul_le (by omega)]
      have : (1000 : Int) * n ≤ 1000 * 1000 := by omega
      omega
    omega
  · have h2 : z.length * n.toNat ≤ 1000 * 1000 := Nat.mul_le_mul hz (by omega)
    unfold PySem.Builtin.Str.tooLong
    simp only [decide_eq_false_iff_not]
    have e : sizeLine = 16777216 := by decide
    omega
  · split
    · rename_i hn
      have : n = 0 := by omega
      subst this
      exact ⟨by decide, .str _, H, I.tok _, ⟨_, rfl⟩, kk _ rfl⟩
    · split
      · rename_i hn hc
        refine ⟨.str z, H, I, ⟨t, rfl⟩, kk _ ?_⟩
        rw [Bool.or_eq_true] at hc
        rcases hc with hc | hc
        · have : n = 1 := by simpa using hc
          subst this
          obtain ⟨c⟩ := z
          simp [repS]
        · have hz0 : z.cps = #[] := by
            have : z.length = 0 := by simpa using hc
            exact Array.eq_empty_of_size_eq_zero this
          obtain ⟨c⟩ := z
          have hz0 : c = #[] := hz0
          subst hz0
          unfold repS
          rw [rep_fold _ _ _ rfl]
      · exact ⟨hl, .str _, H, I.tok _, ⟨_, rfl⟩, kk _ rfl⟩
end Dl
namespace K08
open PySem L2 Dl
abbrev CT : CTab := [("BarError", ["BarError"], []), ("PaperError", ["PaperError", "BarError"], []), ("WorkError", ["WorkError", "BarError"], []), ("LiveError", ["LiveError", "BarError"], []), ("TextError", ["TextError", "BarError"], []), ("InvalidPaper", ["InvalidPaper", "PaperError", "BarError"], ["word", "at"]), ("NotUsable", ["NotUsable", "WorkError", "BarError"], ["word", "at"]), ("NotNext", ["NotNext", "WorkError", "BarError"], ["sign", "at"]), ("InvalidText", ["InvalidText", "TextError", "BarError"], ["line", "field"]), ("InvalidRow", ["InvalidRow", "TextError", "BarError"], ["row"])]
def r_is_sided : DTS :=
  (dRet (dAndV (dIsi "tuple" (dVar 0)) (dAndV (dOp rEqv (dCB rLen (dCons (dVar 0) dNil)) (dC (.int 2))) (dAndV (dIsi "str" (dOp rIx (dVar 0) (dC (.int 0)))) (dOp (rInn id) (dOp rIx (dVar 0) (dC (.int 0))) (dC (.tup [(.str "left"), (.str "right")])))))))
def r_sign_text (sp_is_sided : DSp) : DTS :=
  (dSeq (dAsg (dLst dNil) (gNm 1))
  (dSeq (dAsg (dVar 0) (gNm 2))
  (dSeq (dWhile (dTru (dCall sp_is_sided (dCons (dVar 2) dNil)))
  (dSeq (dDrop (dMt mAppend (dVar 1) (dCons (dOp rIx (dVar 2) (dC (.int 0))) dNil)))
  (dAsg (dOp rIx (dVar 2) (dC (.int 1))) (gNm 2))))
  (dSeq (dIfS (dTru (dIsi "str" (dVar 2)))
  (dRet (dJoin (dC (.str ":")) (dFrz (dLst (dStar (dVar 1) (dCons (dVar 2) dNil))))))
  dNext)
  (dRet (dJoin (dC (.str ":")) (dFrz (dLst (dStar (dVar 1) (dCons (dOp rIx (dVar 2) (dC (.int 0))) (dCons (dFmt (dOp rIx (dVar 2) (dC (.int 1)))) dNil)))))))))))
def r_signs_text (sp_sign_text : DSp) : DTS :=
  (dRet (dIf (dTst (dOp rGt (dCB rLen (dCons (dVar 0) dNil)) (dC (.int 0)))) (dJoin (dC (.str " ")) (dFrz (dLc (iSq (dVar 0)) (.one 1) dYes (dCall sp_sign_text (dCons (dVar 1) dNil)) [1]))) (dC (.str "-"))))
def r_number_or_none : DTS :=
  (dSeq (dIfS (dOr (dNot (dTst (dChain rLe rLe (dC (.int 1)) (dCB rLen (dCons (dVar 0) dNil)) (dC (.int 60))))) (dNot (dTru (dCB rAllC (dCons (dFrz (dLc (iTx (dVar 0)) (.one 1) dYes (dOp (rInTx id) (dVar 1) (dC (.str "0123456789"))) [1])) dNil)))))
  (dRet (dC .non))
  dNext)
  (dRet (dIf (dOr (dTst (dOp rEqv (dVar 0) (dC (.str "0")))) (dTst (dOp rNev (dOp rIxA (dVar 0) (dC (.int 0))) (dC (.str "0"))))) (dCB rIntA (dCons (dVar 0) dNil)) (dC .non))))
def r_sign_or_none (sp_number_or_none : DSp) : DTS :=
  (dSeq (dAsg (dFrz (dSplt (dVar 0) (dC (.str ":")))) (gNm 1))
  (dSeq (dAsg (dC (.int 0)) (gNm 2))
  (dSeq (dWhile (dAnd (dTst (dOp rLt (dVar 2) (dCB rLen (dCons (dVar 1) dNil)))) (dTst (dOp (rInn id) (dOp rIx (dVar 1) (dVar 2)) (dC (.tup [(.str "left"), (.str "right")])))))
  (dAugN 2 (dC (.int 1))))
  (dSeq (dAsg (dFrz (dSl (dVar 1) (dP (dVar 2)) dNoP)) (gNm 3))
  (dSeq (dIfS (dTst (dOp rGe (dVar 2) (dC (.int 30))))
  (dRet (dC .non))
  dNext)
  (dSeq (dAsg (dC .non) (gNm 4))
  (dSeq (dIfS (dAnd (dTst (dOp rEqv (dCB rLen (dCons (dVar 3) dNil)) (dC (.int 1)))) (dTst (dOp (rInn id) (dOp rIx (dVar 3) (dC (.int 0))) (dC (.tup [(.str "tick"), (.str "more"), (.str "end")])))))
  (dAsg (dOp rIx (dVar 3) (dC (.int 0))) (gNm 4))
  dNext)
  (dSeq (dIfS (dAnd (dTst (dOp rEqv (dCB rLen (dCons (dVar 3) dNil)) (dC (.int 2)))) (dAnd (dTst (dOp (rInn id) (dOp rIx (dVar 3) (dC (.int 0))) (dC (.tup [(.str "many"), (.str "way")])))) (dTst (dOp (rIsN not) (dCall sp_number_or_none (dCons (dOp rIx (dVar 3) (dC (.int 1))) dNil)) (dC .non)))))
  (dAsg (dTup (dCons (dOp rIx (dVar 3) (dC (.int 0))) (dCons (dCall sp_number_or_none (dCons (dOp rIx (dVar 3) (dC (.int 1))) dNil)) dNil))) (gNm 4))
  dNext)
  (dSeq (dIfS (dTst (dOp (rIsN id) (dVar 4) (dC .non)))
  (dRet (dC .non))
  dNext)
  (dSeq (dFor (iSq (dFrz (dRev (dFrz (dSl (dVar 1) dNoP (dP (dVar 2))))))) (gNm 5)
  (dAsg (dTup (dCons (dVar 5) (dCons (dVar 4) dNil))) (gNm 4)))
  (dRet (dVar 4))))))))))))
def r_found_or_refused : XTS :=
  (xSeq (xIfS (xPt (dTst (dOp (rIsN id) (dVar 0) (dC .non))))
  (xRaise "InvalidText" ["line", "field"] (xPa (dCons (dVar 1) (dCons (dVar 2) dNil))))
  (xPs dNext))
  (xPs (dRet (dVar 0))))
def r_require_one : XTS :=
  (xIfS (xPt (dTst (dOp rGt (dCB rLen (dCons (dVar 0) dNil)) (dC (.int 1)))))
  (xRaise "InvalidText" ["line", "field"] (xPa (dCons (dVar 1) (dCons (dOp rAdd (dVar 2) (dC (.int 1))) dNil))))
  (xPs dNext))
def r_sign_read (sp_sign_or_none : DSp) (sx_require_one : DSp) (sx_found_or_refused : DSp) : XTS :=
  (xSeq (xPs (dAsg (dFrz (dSplt (dVar 0) (dC (.str " ")))) (gNm 3)))
  (xSeq (xAsg (xCall sx_found_or_refused (xPa (dCons (dCall sp_sign_or_none (dCons (dOp rIx (dVar 3) (dC (.int 0))) dNil)) (dCons (dVar 1) (dCons (dVar 2) dNil))))) (gNm 4))
  (xSeq (xDrop (xCall sx_require_one (xPa (dCons (dVar 3) (dCons (dVar 1) (dCons (dVar 2) dNil))))))
  (xPs (dRet (dVar 4))))))
def r_signs_read (sp_sign_or_none : DSp) (sx_found_or_refused : DSp) (sx_require_one : DSp) : XTS :=
  (xSeq (xPs (dAsg (dFrz (dSplt (dVar 0) (dC (.str " ")))) (gNm 3)))
  (xSeq (xIfS (xPt (dTst (dOp rEqv (dOp rIx (dVar 3) (dC (.int 0))) (dC (.str "-")))))
  (xSeq (xDrop (xCall sx_require_one (xPa (dCons (dVar 3) (dCons (dVar 1) (dCons (dVar 2) dNil))))))
  (xPs (dRet (dTup dNil))))
  (xPs dNext))
  (xRet (xCB rTupC (xCons (xFrz (xLc (iEnL (dVar 3)) (.tup [4, 5]) sx_found_or_refused (dCons (dCall sp_sign_or_none (dCons (dVar 5) dNil)) (dCons (dVar 1) (dCons (dOp rAdd (dVar 2) (dVar 4)) dNil))) [4, 5])) (xPa dNil))))))
def r_law_feed : DTS :=
  (dRet (dDisp [((dC (.str "cells")), (dFrz (dCB rLstC (dCons (dFrz (dSl (dVar 0) dNoP (dP (dC (.int 63))))) dNil)))), ((dC (.str "at")), (dC (.int 0))), ((dC (.str "left")), (dC (.int 0))), ((dC (.str "count")), (dC (.int 0)))]))
def r_law_draw : DTS :=
  (dSeq (dAsg (dOp rAdd (dDGet (dVar 0) (dC (.str "count"))) (dC (.int 1))) (gSb (dVar 0) (dC (.str "count")) sDct))
  (dSeq (dIfS (dTst (dOp rGt (dDGet (dVar 0) (dC (.str "left"))) (dC (.int 0))))
  (dSeq (dAsg (dOp rMod (dCB rIntC (dCons (dDGet (dVar 0) (dC (.str "left"))) dNil)) (dVar 1)) (gNm 2))
  (dSeq (dAsg (dOp rFdiv (dDGet (dVar 0) (dC (.str "left"))) (dVar 1)) (gSb (dVar 0) (dC (.str "left")) sDct))
  (dRet (dVar 2))))
  dNext)
  (dSeq (dAsg (dDGet (dVar 0) (dC (.str "at"))) (gNm 3))
  (dSeq (dAsg (dOp rAdd (dVar 3) (dC (.int 1))) (gSb (dVar 0) (dC (.str "at")) sDct))
  (dSeq (dAsg (dIf (dTst (dOp rNev (dDGet (dVar 0) (dC (.str "cells"))) (dFrz (dLst dNil)))) (dOp rIx (dDGet (dVar 0) (dC (.str "cells"))) (dOp rMod (dCB rIntC (dCons (dVar 3) dNil)) (dCB rLen (dCons (dDGet (dVar 0) (dC (.str "cells"))) dNil)))) (dC (.int 53))) (gNm 4))
  (dSeq (dIfS (dAnd (dTst (dOp rGe (dVar 4) (dOp rPow (dC (.int 10)) (dC (.int 18))))) (dTst (dOp rLt (dVar 3) (dCB rLen (dCons (dDGet (dVar 0) (dC (.str "cells"))) dNil)))))
  (dSeq (dAsg (dOp rFdiv (dVar 4) (dVar 1)) (gSb (dVar 0) (dC (.str "left")) sDct))
  (dRet (dOp rMod (dCB rIntC (dCons (dVar 4) dNil)) (dVar 1))))
  dNext)
  (dSeq (dAsg (dOp rMod (dCB rIntC (dCons (dOp rAdd (dOp rAdd (dOp rMod (dCB rIntC (dCons (dVar 4) dNil)) (dC (.int 1000000487))) (dOp rMul (dC (.int 240007)) (dDGet (dVar 0) (dC (.str "count"))))) (dC (.int 103))) dNil)) (dC (.int 2147482937))) (gNm 5))
  (dSeq (dAsg (dOp rMod (dCB rIntC (dCons (dOp rAdd (dOp rAdd (dOp rMul (dVar 5) (dVar 5)) (dOp rMul (dC (.int 5300003)) (dDGet (dVar 0) (dC (.str "count"))))) (dC (.int 61))) dNil)) (dC (.int 2147482921))) (gNm 5))
  (dRet (dOp rMod (dCB rIntC (dCons (dOp rFdiv (dOp rMod (dCB rIntC (dCons (dOp rAdd (dOp rMul (dVar 5) (dVar 5)) (dOp rMul (dC (.int 107)) (dVar 5))) dNil)) (dC (.int 2147482859))) (dC (.int 16))) dNil)) (dVar 1)))))))))))
def r_law_sign (sp_law_sign : DSp) (sp_law_draw : DSp) : DTS :=
  (dSeq (dAsg (dCall sp_law_draw (dCons (dVar 0) (dCons (dIf (dTst (dOp rGt (dVar 1) (dC (.int 0)))) (dC (.int 9)) (dC (.int 7))) dNil))) (gNm 2))
  (dSeq (dIfS (dTst (dOp rLt (dVar 2) (dC (.int 4))))
  (dRet (dOp rIx (dFrz (dLst (dCons (dC (.str "tick")) (dCons (dC (.str "tick")) (dCons (dC (.str "more")) (dCons (dC (.str "end")) dNil)))))) (dVar 2)))
  dNext)
  (dSeq (dIfS (dTst (dOp rLt (dVar 2) (dC (.int 7))))
  (dSeq (dAsg (dOp rIx (dFrz (dLst (dCons (dC (.int 0)) (dCons (dC (.int 1)) (dCons (dC (.int 2)) (dCons (dC (.int 9)) (dCons (dC (.int 255)) (dCons (dC (.int 256)) (dCons (dC (.int 70000)) dNil))))))))) (dCall sp_law_draw (dCons (dVar 0) (dCons (dC (.int 7)) dNil)))) (gNm 3))
  (dRet (dTup (dCons (dOp rIx (dFrz (dLst (dCons (dC (.str "many")) (dCons (dC (.str "way")) dNil)))) (dOp rMod (dCB rIntC (dCons (dVar 2) dNil)) (dC (.int 2)))) (dCons (dVar 3) dNil)))))
  dNext)
  (dRet (dTup (dCons (dOp rIx (dFrz (dLst (dCons (dC (.str "left")) (dCons (dC (.str "right")) dNil)))) (dOp rSub (dVar 2) (dC (.int 7)))) (dCons (dCall sp_law_sign (dCons (dVar 0) (dCons (dOp rSub (dVar 1) (dC (.int 1))) dNil))) dNil)))))))
def r_law_signs (sp_law_draw : DSp) (sp_law_sign : DSp) : DTS :=
  (dSeq (dAsg (dLst dNil) (gNm 2))
  (dSeq (dFor (iRg1 (dCons (dCall sp_law_draw (dCons (dVar 0) (dCons (dOp rAdd (dVar 1) (dC (.int 1))) dNil))) dNil)) (gNm 3)
  (dSeq (dDrop (dMt mAppend (dVar 2) (dCons (dCall sp_law_sign (dCons (dVar 0) (dCons (dC (.int 3)) dNil))) dNil)))
  (dIfS (dTst (dOp rEqv (dCall sp_law_draw (dCons (dVar 0) (dCons (dC (.int 4)) dNil))) (dC (.int 0))))
  (dDrop (dMt mAppend (dVar 2) (dCons (dOp rIx (dVar 2) (dCall sp_law_draw (dCons (dVar 0) (dCons (dCB rLen (dCons (dVar 2) dNil)) dNil)))) dNil)))
  dNext)))
  (dRet (dCB rTupC (dCons (dFrz (dSl (dVar 2) dNoP (dP (dVar 1)))) dNil)))))
def r_law_heard (α : Dl.Act) : DTS :=
  (dTry CT "BarError" 1 (xRet (xTup (xCons (xPe (dC (.str "told"))) (xCons (xAct 0 α) (xPa dNil))))) (fun a c d =>
  (dSeq (dAsg (dLst (dCons (dIsX CT a c d (dVar 1) "PaperError") (dCons (dIsX CT a c d (dVar 1) "WorkError") dNil))) (gNm 2))
  (dSeq (dDrop (dMt mExtend (dVar 2) (dCons (dFrz (dLst (dCons (dIsX CT a c d (dVar 1) "LiveError") (dCons (dIsX CT a c d (dVar 1) "TextError") dNil)))) dNil)))
  (dSeq (dIfS (dAnd (dTst (dOp rEqv (dVar 2) (dFrz (dLst (dCons (dC (.bl true)) (dCons (dC (.bl false)) (dCons (dC (.bl false)) (dCons (dC (.bl false)) dNil)))))))) (dTru (dIsX CT a c d (dVar 1) "InvalidPaper")))
  (dRet (dTup (dCons (dC (.str "paper")) (dCons (dExf CT a c d (dVar 1) "word") (dCons (dExf CT a c d (dVar 1) "at") dNil)))))
  dNext)
  (dSeq (dIfS (dTst (dOp rEqv (dVar 2) (dFrz (dLst (dCons (dC (.bl false)) (dCons (dC (.bl false)) (dCons (dC (.bl false)) (dCons (dC (.bl true)) dNil))))))))
  (dSeq (dAsg (dAndV (dIsX CT a c d (dVar 1) "InvalidText") (dNotV (dIsX CT a c d (dVar 1) "InvalidRow"))) (gNm 3))
  (dRet (dIf (dTru (dVar 3)) (dTup (dCons (dC (.str "text")) (dCons (dExf CT a c d (dVar 1) "line") (dCons (dExf CT a c d (dVar 1) "field") dNil)))) (dTup (dCons (dC (.str "odd")) dNil)))))
  dNext)
  (dSeq (dIfS (dOr (dTst (dOp rNev (dVar 2) (dFrz (dLst (dCons (dC (.bl false)) (dCons (dC (.bl true)) (dCons (dC (.bl false)) (dCons (dC (.bl false)) dNil)))))))) (dTru (dIsX CT a c d (dVar 1) "NotNext")))
  (dRet (dTup (dCons (dC (.str "odd")) dNil)))
  dNext)
  (dRet (dIf (dTru (dIsX CT a c d (dVar 1) "NotUsable")) (dTup (dCons (dC (.str "use")) (dCons (dExf CT a c d (dVar 1) "word") (dCons (dExf CT a c d (dVar 1) "at") dNil)))) (dTup (dCons (dC (.str "odd")) dNil)))))))))))
def r_law_numeral : DTS :=
  (dSeq (dIfS (dOr (dNot (dTst (dChain rLt rLt (dC (.int 0)) (dCB rLen (dCons (dVar 0) dNil)) (dC (.int 61))))) (dTst (dOp rNev (dFrz (dLc (iTx (dVar 0)) (.one 1) (dTst (dOp (rInTx not) (dVar 1) (dC (.str "0123456789")))) (dVar 1) [1])) (dFrz (dLst dNil)))))
  (dRet (dC .non))
  dNext)
  (dRet (dIf (dAnd (dTst (dOp rGt (dCB rLen (dCons (dVar 0) dNil)) (dC (.int 1)))) (dTst (dOp rEqv (dOp rIxA (dVar 0) (dC (.int 0))) (dC (.str "0"))))) (dC .non) (dCB rIntA (dCons (dVar 0) dNil)))))
def r_law_sign_of (sp_law_numeral : DSp) (sp_law_sign_of : DSp) : DTS :=
  (dSeq (dIfS (dTst (dOp rGt (dVar 1) (dC (.int 29))))
  (dRet (dC .non))
  dNext)
  (dSeq (dIfS (dTst (dOp (rInn id) (dVar 0) (dTup (dCons (dC (.str "tick")) (dCons (dC (.str "more")) (dCons (dC (.str "end")) dNil))))))
  (dRet (dVar 0))
  dNext)
  (dSeq (dIfS (dTst (dOp (rInTx not) (dC (.str ":")) (dVar 0)))
  (dRet (dC .non))
  dNext)
  (dSeq (dAsg (dIdxS (dVar 0) (dC (.str ":"))) (gNm 2))
  (dSeq (dPar 3 4 (dCons (dSlS (dVar 0) dNoP (dP (dVar 2))) (dCons (dSlS (dVar 0) (dP (dOp rAdd (dVar 2) (dC (.int 1)))) dNoP) dNil)))
  (dSeq (dIfS (dTst (dOp (rInn not) (dVar 3) (dTup (dCons (dC (.str "many")) (dCons (dC (.str "way")) (dCons (dC (.str "left")) (dCons (dC (.str "right")) dNil)))))))
  (dRet (dC .non))
  dNext)
  (dSeq (dAsg (dIf (dTst (dOp (rInn id) (dVar 3) (dTup (dCons (dC (.str "many")) (dCons (dC (.str "way")) dNil))))) (dCall sp_law_numeral (dCons (dVar 4) dNil)) (dCall sp_law_sign_of (dCons (dVar 4) (dCons (dOp rAdd (dVar 1) (dC (.int 1))) dNil)))) (gNm 5))
  (dRet (dIf (dTst (dOp (rIsN id) (dVar 5) (dC .non))) (dC .non) (dTup (dCons (dVar 3) (dCons (dVar 5) dNil))))))))))))
def r_law_sign_word (sp_law_sign_word : DSp) : DTS :=
  (dSeq (dIfS (dTru (dIsi "str" (dVar 0)))
  (dRet (dVar 0))
  dNext)
  (dRet (dOp rAdd (dOp rAdd (dOp rIxA (dVar 0) (dC (.int 0))) (dC (.str ":"))) (dIf (dTst (dOp (rInn id) (dOp rIxA (dVar 0) (dC (.int 0))) (dTup (dCons (dC (.str "many")) (dCons (dC (.str "way")) dNil))))) (dCB rStrA (dCons (dOp rIxA (dVar 0) (dC (.int 1))) dNil)) (dCall sp_law_sign_word (dCons (dOp rIxA (dVar 0) (dC (.int 1))) dNil))))))
def r_law_row_text (sp_law_sign_word : DSp) : DTS :=
  (dRet (dIf (dTst (dOp rNev (dVar 0) (dTup dNil))) (dJoin (dC (.str " ")) (dFrz (dLc (iSq (dVar 0)) (.one 1) dYes (dCall sp_law_sign_word (dCons (dVar 1) dNil)) [1]))) (dC (.str "-"))))
def r_law_spoilt (sp_law_draw : DSp) : DTS :=
  (dSeq (dPar 2 3 (dCons (dSplt (dVar 1) (dC (.str " "))) (dCons (dCall sp_law_draw (dCons (dVar 0) (dCons (dC (.int 9)) dNil))) dNil)))
  (dSeq (dAsg (dFrz (dLst (dCons (dC (.str "")) (dCons (dC (.str "-")) (dCons (dC (.str "tick")) (dCons (dC (.str "tick(1)")) (dCons (dC (.str "row()")) (dCons (dC (.str "many:3")) (dCons (dC (.str "left:end")) (dCons (dC (.str "some(0,2,t)")) (dCons (dC (.str "more ")) (dCons (dC (.str "way:01")) (dCons (dC (.str "x")) dNil))))))))))))) (gNm 4))
  (dSeq (dPar 5 6 (dCons (dCall sp_law_draw (dCons (dVar 0) (dCons (dCB rLen (dCons (dVar 2) dNil)) dNil))) (dCons (dOp rIx (dVar 4) (dCall sp_law_draw (dCons (dVar 0) (dCons (dC (.int 11)) dNil)))) dNil)))
  (dSeq (dIfS (dTst (dOp rLt (dVar 3) (dC (.int 2))))
  (dAsg (dVar 6) (gSb (dVar 2) (dVar 5) sLst))
  dNext)
  (dSeq (dIfS (dTst (dOp (rInn id) (dVar 3) (dTup (dCons (dC (.int 2)) (dCons (dC (.int 3)) dNil)))))
  (dAsg (dIf (dTst (dOp rEqv (dVar 3) (dC (.int 2)))) (dOp rAdd (dFrz (dSl (dVar 2) dNoP (dP (dVar 5)))) (dFrz (dSl (dVar 2) (dP (dOp rAdd (dVar 5) (dC (.int 1)))) dNoP))) (dOp rAdd (dFrz (dSl (dVar 2) dNoP (dP (dOp rAdd (dVar 5) (dC (.int 1)))))) (dFrz (dSl (dVar 2) (dP (dVar 5)) dNoP)))) (gNm 2))
  dNext)
  (dSeq (dAsg (dJoin (dC (.str " ")) (dVar 2)) (gNm 7))
  (dSeq (dAsg (dCall sp_law_draw (dCons (dVar 0) (dCons (dOp rAdd (dCB rLen (dCons (dVar 7) dNil)) (dC (.int 1))) dNil))) (gNm 8))
  (dSeq (dIfS (dTst (dOp rGt (dVar 3) (dC (.int 3))))
  (dSeq (dAsg (dIf (dTst (dOp rEqv (dVar 3) (dC (.int 4)))) (dC (.str "")) (dOp rIxA (dC (.str " 0(),:t-\n")) (dCall sp_law_draw (dCons (dVar 0) (dCons (dC (.int 9)) dNil))))) (gNm 9))
  (dAsg (dOp rAdd (dOp rAdd (dSlS (dVar 7) dNoP (dP (dVar 8))) (dVar 9)) (dSlS (dVar 7) (dP (dOp rAdd (dVar 8) (dCB rIntC (dCons (dOp rLt (dVar 3) (dC (.int 7))) dNil)))) dNoP)) (gNm 7)))
  dNext)
  (dRet (dVar 7))))))))))
def r_law_row_due (sp_law_sign_of : DSp) : DTS :=
  (dSeq (dPar 1 2 (dCons (dFrz (dSplt (dVar 0) (dC (.str " ")))) (dCons (dLst dNil) dNil)))
  (dSeq (dIfS (dTst (dOp rEqv (dOp rIx (dVar 1) (dC (.int 0))) (dC (.str "-"))))
  (dRet (dIf (dTst (dOp rEqv (dCB rLen (dCons (dVar 1) dNil)) (dC (.int 1)))) (dTup (dCons (dC (.str "told")) (dCons (dTup dNil) dNil))) (dTup (dCons (dC (.str "no")) (dCons (dC (.int 1)) dNil)))))
  dNext)
  (dSeq (dFor (iRg1 (dCons (dCB rLen (dCons (dVar 1) dNil)) dNil)) (gNm 3)
  (dSeq (dAsg (dCall sp_law_sign_of (dCons (dOp rIx (dVar 1) (dVar 3)) (dCons (dC (.int 0)) dNil))) (gNm 4))
  (dSeq (dIfS (dTst (dOp (rIsN id) (dVar 4) (dC .non)))
  (dRet (dTup (dCons (dC (.str "no")) (dCons (dVar 3) dNil))))
  dNext)
  (dDrop (dMt mAppend (dVar 2) (dCons (dVar 4) dNil))))))
  (dRet (dTup (dCons (dC (.str "told")) (dCons (dCB rTupC (dCons (dVar 2) dNil)) dNil)))))))
def r_law_sign_due (sp_law_sign_of : DSp) : DTS :=
  (dSeq (dAsg (dFrz (dSplt (dVar 0) (dC (.str " ")))) (gNm 1))
  (dSeq (dAsg (dCall sp_law_sign_of (dCons (dOp rIx (dVar 1) (dC (.int 0))) (dCons (dC (.int 0)) dNil))) (gNm 2))
  (dSeq (dIfS (dTst (dOp (rIsN id) (dVar 2) (dC .non)))
  (dRet (dTup (dCons (dC (.str "no")) (dCons (dC (.int 0)) dNil))))
  dNext)
  (dRet (dIf (dTst (dOp rEqv (dCB rLen (dCons (dVar 1) dNil)) (dC (.int 1)))) (dTup (dCons (dC (.str "told")) (dCons (dVar 2) dNil))) (dTup (dCons (dC (.str "no")) (dCons (dC (.int 1)) dNil))))))))
def r_law_line_right (Tb : Addr) (sp_law_row_due : DSp) (sp_law_sign_due : DSp) (fvw : List (Addr × DSp)) (fvr : List (Addr × DSp)) (fa : List Addr) : DTS :=
  (dSeq (dAsg (dFrz (dLst (dCons (dTup (dCons (dC (.ref (faA fa 0))) (dCons (dC (.ref (faA fa 1))) (dCons (dCall sp_law_sign_due (dCons (dVar 0) dNil)) dNil)))) (dCons (dTup (dCons (dC (.ref (faA fa 2))) (dCons (dC (.ref (faA fa 3))) (dCons (dCall sp_law_row_due (dCons (dVar 0) dNil)) dNil)))) dNil)))) (gNm 3))
  (dSeq (dFor (iSq (dVar 3)) (gTp 3 (gsCons (gNm 4) (gsCons (gNm 5) (gsCons (gNm 6) gsNil))))
  (dSeq (dAsg (dIf (dTst (dOp rEqv (dOp rIx (dVar 6) (dC (.int 0))) (dC (.str "told")))) (dVar 6) (dTup (dCons (dC (.str "text")) (dCons (dC (.int 0)) (dCons (dOp rIx (dVar 6) (dC (.int 1))) dNil))))) (gNm 7))
  (dSeq (dIfS (dTst (dOp rNev (dCB rRepr (dCons (dHearL Tb "_law_line_right.<locals>.<lambda>" r_law_heard 4 (xCallVG fvr 1 0 [(0, 0), (1, 0), (1, 1)] [.int (0), .int (0)] (dVar 4) (dCons (dVar 0) dNil) dNil)) dNil)) (dCB rRepr (dCons (dVar 7) dNil))))
  (dRet (dC (.bl false)))
  dNext)
  (dSeq (dAsg (dIf (dTst (dOp rEqv (dOp rIx (dVar 6) (dC (.int 0))) (dC (.str "told")))) (dVar 6) (dTup (dCons (dC (.str "text")) (dCons (dVar 1) (dCons (dOp rAdd (dOp rIx (dVar 6) (dC (.int 1))) (dVar 2)) dNil))))) (gNm 7))
  (dSeq (dIfS (dTst (dOp rNev (dCB rRepr (dCons (dHearL Tb "_law_line_right.<locals>.<lambda>" r_law_heard 4 (xCallVG fvr 1 2 [(0, 0), (2, 1), (2, 0)] [] (dVar 4) (dCons (dVar 0) dNil) (dCons (dVar 2) (dCons (dVar 1) dNil)))) dNil)) (dCB rRepr (dCons (dVar 7) dNil))))
  (dRet (dC (.bl false)))
  dNext)
  (dIfS (dAnd (dTst (dOp rEqv (dOp rIx (dVar 6) (dC (.int 0))) (dC (.str "told")))) (dTst (dOp rNev (dCalm (xCallVG fvw 1 0 [(0, 0)] [] (dVar 5) (dCons (dCalm (xCallVG fvr 1 0 [(0, 0), (1, 0), (1, 1)] [.int (0), .int (0)] (dVar 4) (dCons (dVar 0) dNil) dNil)) dNil) dNil)) (dVar 0))))
  (dRet (dC (.bl false)))
  dNext))))))
  (dRet (dC (.bl true)))))
def r_law_texts_by_hand : DTS :=
  (dSeq (dAsg (dOp rMulTx (dC (.str "9")) (dC (.int 60))) (gNm 0))
  (dSeq (dAsg (dSplt (dC (.str "| |tick|more|end|Tick|ticks|tick |tick tick| tick|tick  tick")) (dC (.str "|"))) (gNm 1))
  (dSeq (dDrop (dMt mExtend (dVar 1) (dCons (dFrz (dSplt (dC (.str "-|- | -|- -|- tick|tick -|tick - more|--|many:3|many:03")) (dC (.str "|")))) dNil)))
  (dSeq (dDrop (dMt mExtend (dVar 1) (dCons (dFrz (dSplt (dC (.str "many:|many|many:-1|many:x|many 3|many:3:3|:3|way:0")) (dC (.str "|")))) dNil)))
  (dSeq (dDrop (dMt mExtend (dVar 1) (dCons (dFrz (dSplt (dC (.str "way:00|way:1 way:2|left:tick|left|left:|left:left|left:many:3|left:-")) (dC (.str "|")))) dNil)))
  (dSeq (dDrop (dMt mExtend (dVar 1) (dCons (dFrz (dSplt (dC (.str "right:left:end|right:right:way:9|right:right:way|right:up|Left:tick")) (dC (.str "|")))) dNil)))
  (dSeq (dDrop (dMt mExtend (dVar 1) (dCons (dFrz (dSplt (dC (.str "left:tick:|left:tick,more|left:tick(1)|tick:|tick:1")) (dC (.str "|")))) dNil)))
  (dSeq (dDrop (dMt mExtend (dVar 1) (dCons (dFrz (dSplt (dC (.str "tick more end many:0 way:0 left:end right:left:many:12|tick more x end")) (dC (.str "|")))) dNil)))
  (dSeq (dDrop (dMt mExtend (dVar 1) (dCons (dFrz (dSplt (dC (.str "tick many:3 left:many:x -")) (dC (.str "|")))) dNil)))
  (dSeq (dDrop (dMt mExtend (dVar 1) (dCons (dFrz (dSplt (dC (.str "more\n|\nmore|more\ntick")) (dC (.str "|")))) dNil)))
  (dSeq (dDrop (dMt mExtend (dVar 1) (dCons (dFrz (dLst (dCons (dOp rAdd (dC (.str "many:")) (dVar 0)) (dCons (dOp rAdd (dOp rAdd (dC (.str "many:")) (dVar 0)) (dC (.str "0"))) (dCons (dOp rAdd (dC (.str "left:way:")) (dVar 0)) dNil))))) dNil)))
  (dSeq (dDrop (dMt mExtend (dVar 1) (dCons (dFrz (dLst (dCons (dOp rAdd (dC (.str "left:way:1")) (dVar 0)) (dCons (dOp rMulTx (dC (.str "tick ")) (dC (.int 200))) (dCons (dOp rAdd (dOp rMulTx (dC (.str "tick ")) (dC (.int 199))) (dC (.str "tick"))) dNil))))) dNil)))
  (dSeq (dDrop (dMt mExtend (dVar 1) (dCons (dFrz (dLst (dCons (dOp rMulTx (dC (.str "left:")) (dC (.int 600))) (dCons (dOp rAdd (dOp rMulTx (dC (.str "left:")) (dC (.int 600))) (dC (.str "tick"))) (dCons (dOp rAdd (dOp rAdd (dOp rMulTx (dC (.str "tick ")) (dC (.int 99))) (dC (.str "tock "))) (dC (.str "tick"))) dNil))))) dNil)))
  (dSeq (dFor (iSq (dTup (dCons (dC (.int 12)) (dCons (dC (.int 28)) (dCons (dC (.int 29)) (dCons (dC (.int 30)) (dCons (dC (.int 31)) dNil))))))) (gNm 2)
  (dDrop (dMt mAppend (dVar 1) (dCons (dOp rAdd (dOp rAdd (dOp rMulTx (dC (.str "left:right:")) (dOp rFdiv (dVar 2) (dC (.int 2)))) (dOp rMulTx (dC (.str "left:")) (dOp rSub (dVar 2) (dOp rMul (dOp rFdiv (dVar 2) (dC (.int 2))) (dC (.int 2)))))) (dC (.str "tick"))) dNil))))
  (dRet (dFrz (dVar 1)))))))))))))))))
def r_law (sp_signs_read : DSp) (sp_sign_read : DSp) (sp_signs_text : DSp) (sp_sign_text : DSp) (sp_law_line_right : DSp) (sp_law_row_text : DSp) (sp_law_sign_word : DSp) (sp_law_spoilt : DSp) (sp_law_signs : DSp) (sp_law_texts_by_hand : DSp) (sp_law_draw : DSp) (sp_law_feed : DSp) : DTS :=
  (dSeq (dAsg (dCall sp_law_feed (dCons (dVar 0) dNil)) (gNm 1))
  (dSeq (dAsg (dTup (dCons (dCall sp_law_draw (dCons (dVar 1) (dCons (dC (.int 3)) dNil))) (dCons (dOp rIx (dFrz (dLst (dCons (dC (.int 0)) (dCons (dC (.int 3)) (dCons (dC (.int 70)) dNil))))) (dCall sp_law_draw (dCons (dVar 1) (dCons (dC (.int 3)) dNil)))) (dCons (dOp rIx (dFrz (dLst (dCons (dC (.int 0)) (dCons (dC (.int 2)) (dCons (dC (.int 25)) dNil))))) (dCall sp_law_draw (dCons (dVar 1) (dCons (dC (.int 3)) dNil)))) dNil)))) (gTp 3 (gsCons (gNm 2) (gsCons (gNm 3) (gsCons (gNm 4) gsNil)))))
  (dSeq (dAsg (dStep (dCall sp_law_texts_by_hand dNil) (dVar 2) (dC (.int 3))) (gNm 5))
  (dSeq (dFor (iRg1 (dCons (dC (.int 3)) dNil)) (gNm 6)
  (dSeq (dAsg (dCall sp_law_signs (dCons (dVar 1) (dCons (dC (.int 6)) dNil))) (gNm 7))
  (dSeq (dAsg (dCB rReprA (dCons (dVar 7) dNil)) (gNm 8))
  (dSeq (dIfS (dOr (dTst (dOp rNev (dCB rReprA (dCons (dCall sp_signs_text (dCons (dVar 7) dNil)) dNil)) (dCB rReprA (dCons (dCall sp_law_row_text (dCons (dVar 7) dNil)) dNil)))) (dTst (dOp rNev (dCB rReprA (dCons (dVar 7) dNil)) (dVar 8))))
  (dRet (dC (.bl false)))
  dNext)
  (dSeq (dFor (iSq (dVar 7)) (gNm 9)
  (dIfS (dTst (dOp rNev (dCB rReprA (dCons (dCall sp_sign_text (dCons (dVar 9) dNil)) dNil)) (dCB rReprA (dCons (dCall sp_law_sign_word (dCons (dVar 9) dNil)) dNil))))
  (dRet (dC (.bl false)))
  dNext))
  (dFor (iSq (dFrz (dOp rAdd (dFrz (dLst (dCons (dCall sp_law_row_text (dCons (dVar 7) dNil)) dNil))) (dFrz (dLc (iSq (dSl (dVar 7) dNoP (dP (dC (.int 1))))) (.one 9) dYes (dCall sp_law_sign_word (dCons (dVar 9) dNil)) [9]))))) (gNm 10)
  (dSeq (dAsg (dCall sp_law_spoilt (dCons (dVar 1) (dCons (dVar 10) dNil))) (gNm 11))
  (dDrop (dMt mExtend (dVar 5) (dCons (dFrz (dLst (dCons (dVar 10) (dCons (dVar 11) (dCons (dCall sp_law_spoilt (dCons (dVar 1) (dCons (dVar 11) dNil))) dNil))))) dNil))))))))))
  (dSeq (dIfS (dTst (dOp rNev (dFrz (dLc (iSq (dVar 5)) (.one 10) (dNot (dTru (dCall sp_law_line_right (dCons (dVar 10) (dCons (dVar 3) (dCons (dVar 4) dNil)))))) (dVar 10) [10])) (dFrz (dLst dNil))))
  (dRet (dC (.bl false)))
  dNext)
  (dSeq (dAsg (dLst (dCons (dCall sp_sign_text (dCons (dTup (dCons (dC (.str "left")) (dCons (dTup (dCons (dC (.str "many")) (dCons (dC (.int 3)) dNil))) dNil))) dNil)) (dCons (dCall sp_signs_text (dCons (dTup (dCons (dC (.str "tick")) (dCons (dTup (dCons (dC (.str "left")) (dCons (dTup (dCons (dC (.str "many")) (dCons (dC (.int 3)) dNil))) dNil))) dNil))) dNil)) dNil))) (gNm 12))
  (dSeq (dDrop (dMt mExtend (dVar 12) (dCons (dFrz (dLst (dCons (dCall sp_signs_text (dCons (dTup dNil) dNil)) dNil))) dNil)))
  (dSeq (dDrop (dMt mExtend (dVar 12) (dCons (dFrz (dLst (dCons (dCallG sp_sign_read 0 3 [(2, 2), (2, 1), (2, 0)] [] dNil (dCons (dC (.int 2)) (dCons (dC (.int 1)) (dCons (dC (.str "right:way:0")) dNil)))) (dCons (dCallG sp_signs_read 0 3 [(2, 1), (2, 0), (2, 2)] [] dNil (dCons (dC (.int 2)) (dCons (dC (.str "tick end")) (dCons (dC (.int 0)) dNil)))) dNil)))) dNil)))
  (dSeq (dDrop (dMt mExtend (dVar 12) (dCons (dFrz (dLst (dCons (dCallG sp_signs_read 1 0 [(0, 0), (1, 0), (1, 1)] [.int (0), .int (0)] (dCons (dC (.str "-")) dNil) dNil) dNil))) dNil)))
  (dRet (dOp rEqv (dVar 12) (dFrz (dLst (dCons (dC (.str "left:many:3")) (dCons (dC (.str "tick left:many:3")) (dCons (dC (.str "-")) (dCons (dTup (dCons (dC (.str "right")) (dCons (dTup (dCons (dC (.str "way")) (dCons (dC (.int 0)) dNil))) dNil))) (dCons (dTup (dCons (dC (.str "tick")) (dCons (dC (.str "end")) dNil))) (dCons (dTup dNil) dNil)))))))))))))))))))
end K08
namespace Dl
open PySem PySem.Spec PyProof.Rows L2
section
variable {X : Cx}
end
end Dl
namespace Dl
open PySem L2 PySem.W PySem.SeqAt PyProof.Rows
structure Srt2 (ds : List PyData) : Prop where
  one : ∀ d, d ∈ ds → d.plain = true ∧ d.depth ≤ 60 ∧ ∃ f r, d = .tuple (.tuple f :: r)
  two : ∀ d, d ∈ ds → ∀ d', d' ∈ ds → cmpb d d' = true
section
variable {prog : Program} {w : World} {A : Around} {E : Value → Shared → Prop} {s : Shared}
end
structure SrtT (l : List D) : Prop where
  pure : pureDs l = true
  one : ∀ d, d ∈ l → depD d ≤ 60 ∧ ∃ f r, d = .tup (.tup f :: r)
  two : ∀ d, d ∈ l → ∀ d', d' ∈ l → cmpb (pyD d) (pyD d') = true
end Dl
namespace Dl
open PySem L2 PySem.W PySem.SeqAt PyProof.Rows
section
variable {X : Cx}
end
section
variable {X : Cx} {o e : Expr} {to : DTE} {apos cpos : Pos}
end
section
variable {X : Cx}
end
end Dl
namespace Dl
open PySem L2
mutual
def mgD : D → Bool
  | .non => true
  | .bl _ => true
  | .int i => decide (i.natAbs < 10 ^ 575)
  | .str x => PyData.strOk x
  | .tup ds => mgDs ds
  | .lst ds => mgDs ds
  | _ => false
def mgDs : List D → Bool
  | [] => true
  | d :: ds => mgD d && mgDs ds
end
mutual
def wgD : D → Nat
  | .str x => x.length
  | .int i => i.natAbs.log2 + 1
  | .tup ds => wgDs ds
  | .lst ds => wgDs ds
  | _ => 0
def wgDs : List D → Nat
  | [] => 0
  | d :: ds => wgD d + 1 + wgDs ds
end
end Dl
namespace K05
open PySem L2 Dl
end K05
namespace K06
open PySem L2 Dl
def r_law_sign (sp_law_sign : DSp) (sp_law_draw : DSp) : DTS :=
  (dSeq (dAsg (dCall sp_law_draw (dCons (dVar 0) (dCons (dIf (dTst (dOp rGt (dVar 1) (dC (.int 0)))) (dC (.int 9)) (dC (.int 7))) dNil))) (gNm 2))
  (dSeq (dIfS (dTst (dOp rLt (dVar 2) (dC (.int 4))))
  (dRet (dOp rIx (dFrz (dLst (dCons (dC (.str "tick")) (dCons (dC (.str "tick")) (dCons (dC (.str "more")) (dCons (dC (.str "end")) dNil)))))) (dVar 2)))
  dNext)
  (dSeq (dIfS (dTst (dOp rLt (dVar 2) (dC (.int 7))))
  (dSeq (dAsg (dOp rIx (dFrz (dLst (dCons (dC (.int 0)) (dCons (dC (.int 1)) (dCons (dC (.int 2)) (dCons (dC (.int 9)) (dCons (dC (.int 255)) (dCons (dC (.int 256)) (dCons (dC (.int 70000)) dNil))))))))) (dCall sp_law_draw (dCons (dVar 0) (dCons (dC (.int 7)) dNil)))) (gNm 3))
  (dRet (dTup (dCons (dOp rIx (dFrz (dLst (dCons (dC (.str "many")) (dCons (dC (.str "way")) dNil)))) (dOp rMod (dCB rIntC (dCons (dVar 2) dNil)) (dC (.int 2)))) (dCons (dVar 3) dNil)))))
  dNext)
  (dRet (dTup (dCons (dOp rIx (dFrz (dLst (dCons (dC (.str "left")) (dCons (dC (.str "right")) dNil)))) (dOp rSub (dVar 2) (dC (.int 7)))) (dCons (dCall sp_law_sign (dCons (dVar 0) (dCons (dOp rSub (dVar 1) (dC (.int 1))) dNil))) dNil)))))))
def r_law_signs (sp_law_draw : DSp) (sp_law_sign : DSp) : DTS :=
  (dSeq (dAsg (dLst dNil) (gNm 2))
  (dSeq (dFor (iRg1 (dCons (dCall sp_law_draw (dCons (dVar 0) (dCons (dOp rAdd (dVar 1) (dC (.int 1))) dNil))) dNil)) (gNm 3)
  (dSeq (dDrop (dMt mAppend (dVar 2) (dCons (dCall sp_law_sign (dCons (dVar 0) (dCons (dC (.int 3)) dNil))) dNil)))
  (dIfS (dTst (dOp rEqv (dCall sp_law_draw (dCons (dVar 0) (dCons (dC (.int 4)) dNil))) (dC (.int 0))))
  (dDrop (dMt mAppend (dVar 2) (dCons (dOp rIx (dVar 2) (dCall sp_law_draw (dCons (dVar 0) (dCons (dCB rLen (dCons (dVar 2) dNil)) dNil)))) dNil)))
  dNext)))
  (dRet (dCB rTupC (dCons (dFrz (dSl (dVar 2) dNoP (dP (dVar 1)))) dNil)))))
end K06
namespace K03
open PySem L2 Dl
def r_law_feed : DTS :=
  (dRet (dDisp [((dC (.str "cells")), (dFrz (dCB rLstC (dCons (dFrz (dSl (dVar 0) dNoP (dP (dC (.int 63))))) dNil)))), ((dC (.str "at")), (dC (.int 0))), ((dC (.str "left")), (dC (.int 0))), ((dC (.str "count")), (dC (.int 0)))]))
def r_law_draw : DTS :=
  (dSeq (dAsg (dOp rAdd (dDGet (dVar 0) (dC (.str "count"))) (dC (.int 1))) (gSb (dVar 0) (dC (.str "count")) sDct))
  (dSeq (dIfS (dTst (dOp rGt (dDGet (dVar 0) (dC (.str "left"))) (dC (.int 0))))
  (dSeq (dAsg (dOp rMod (dCB rIntC (dCons (dDGet (dVar 0) (dC (.str "left"))) dNil)) (dVar 1)) (gNm 2))
  (dSeq (dAsg (dOp rFdiv (dDGet (dVar 0) (dC (.str "left"))) (dVar 1)) (gSb (dVar 0) (dC (.str "left")) sDct))
  (dRet (dVar 2))))
  dNext)
  (dSeq (dAsg (dDGet (dVar 0) (dC (.str "at"))) (gNm 3))
  (dSeq (dAsg (dOp rAdd (dVar 3) (dC (.int 1))) (gSb (dVar 0) (dC (.str "at")) sDct))
  (dSeq (dAsg (dIf (dTst (dOp rNev (dDGet (dVar 0) (dC (.str "cells"))) (dFrz (dLst dNil)))) (dOp rIx (dDGet (dVar 0) (dC (.str "cells"))) (dOp rMod (dCB rIntC (dCons (dVar 3) dNil)) (dCB rLen (dCons (dDGet (dVar 0) (dC (.str "cells"))) dNil)))) (dC (.int 53))) (gNm 4))
  (dSeq (dIfS (dAnd (dTst (dOp rGe (dVar 4) (dOp rPow (dC (.int 10)) (dC (.int 18))))) (dTst (dOp rLt (dVar 3) (dCB rLen (dCons (dDGet (dVar 0) (dC (.str "cells"))) dNil)))))
  (dSeq (dAsg (dOp rFdiv (dVar 4) (dVar 1)) (gSb (dVar 0) (dC (.str "left")) sDct))
  (dRet (dOp rMod (dCB rIntC (dCons (dVar 4) dNil)) (dVar 1))))
  dNext)
  (dSeq (dAsg (dOp rMod (dCB rIntC (dCons (dOp rAdd (dOp rAdd (dOp rMod (dCB rIntC (dCons (dVar 4) dNil)) (dC (.int 1000000487))) (dOp rMul (dC (.int 240007)) (dDGet (dVar 0) (dC (.str "count"))))) (dC (.int 103))) dNil)) (dC (.int 2147482937))) (gNm 5))
  (dSeq (dAsg (dOp rMod (dCB rIntC (dCons (dOp rAdd (dOp rAdd (dOp rMul (dVar 5) (dVar 5)) (dOp rMul (dC (.int 5300003)) (dDGet (dVar 0) (dC (.str "count"))))) (dC (.int 61))) dNil)) (dC (.int 2147482921))) (gNm 5))
  (dRet (dOp rMod (dCB rIntC (dCons (dOp rFdiv (dOp rMod (dCB rIntC (dCons (dOp rAdd (dOp rMul (dVar 5) (dVar 5)) (dOp rMul (dC (.int 107)) (dVar 5))) dNil)) (dC (.int 2147482859))) (dC (.int 16))) dNil)) (dVar 1)))))))))))
end K03
namespace K03
open PySem L2 Dl
local macro_rules | `(tactic| walk_at "ds") => `(tactic| repeat' with_reducible first
  | fail "stuck")
end K03
namespace K03
open PySem L2 Dl
local macro_rules | `(tactic| walk_at "ds") => `(tactic| repeat' with_reducible first
  | refine iVar (by with_unfolding_all rfl) ?_
  | refine iCons ?_
  | refine iNil ?_
  | refine iC ?_
  | refine iOp ?_
  | refine iSeq ?_
  | refine iAsg ?_
  | refine iGNm ?_
  | refine iFrz ?_
  | refine iTst ?_
  | refine iIfS ?_
  | refine iRet ?_
  | refine iLst ?_
  | refine iNext ?_
  | refine iDGet ?_
  | refine dctP_i (by assumption) ?_
  | refine dctP_i updG_same ?_
  | refine iGSb ?_
  | refine lenOk (by with_unfolding_all rfl) ?_
  | refine frzEnd ?_
  | refine lstC_l ?_
  | refine iAnd ?_
  | refine iIf ?_
  | refine ifT ?_
  | refine ifF ?_
  | refine iCB ?_
  | refine iSl ?_
  | refine iP ?_
  | refine iNoP ?_
  | refine rIx_i (by with_unfolding_all rfl) (by with_unfolding_all rfl) ?_
  | refine rIx_i (by with_unfolding_all rfl) atI_0 ?_
  | refine add_ii ?_
  | refine int0 ?_
  | refine len_l ?_
  | refine intC_i ?_
  | refine keyP_s ?_
  | refine iPsC ?_
  | refine iPsN ?_
  | fail "stuck")
def feedKv (cs : List Int) (at_ lf cn : Int) : List (Key × D) := [(.inr "cells", .lst (cs.map D.int)), (.inr "at", .int at_), (.inr "left", .int lf), (.inr "count", .int cn)]
def FeedOk (G : GH) (a : Addr) : Prop := ∃ cs at_ lf cn, G a = some (.dct (feedKv cs at_ lf cn))
def KeepX (a : Addr) (G G' : GH) : Prop := ∀ b o, b ≠ a → G b = some o → G' b = some o
theorem KeepX.trans {a : Addr} {G G1 G2 : GH} (h : KeepX a G G1) (k : KeepX a G1 G2) : KeepX a G G2 := fun b o n e => k b o n (h b o n e)
theorem KeepX.upd {a : Addr} {G : GH} {o : DO} : KeepX a G (updG G a o) := fun b u n e => by rw [updG_ne n]; exact e
theorem KeepX.of {a : Addr} {G G' : GH} (h : Grow G G') : KeepX a G G' := fun b o _ e => h b o e
theorem FeedOk.grow {a : Addr} {G G' : GH} (h : FeedOk G a) (k : Grow G G') : FeedOk G' a := by
  obtain ⟨c, x, y, z, e⟩ := h
  exact ⟨c, x, y, z, k _ _ e⟩
theorem FeedOk.ne {a p : Addr} {G : GH} (h : FeedOk G a) (hp : G p = none) : a ≠ p := by
  rintro rfl
  obtain ⟨_, _, _, _, e⟩ := h
  rw [hp] at e; cases e
theorem g_cells {cs : List Int} {x y z : Int} : getK (feedKv cs x y z) (.inr "cells") = some (.lst (cs.map D.int)) := by simp [getK, feedKv]
theorem g_at {cs : List Int} {x y z : Int} : getK (feedKv cs x y z) (.inr "at") = some (.int x) := by simp [getK, feedKv]
theorem g_left {cs : List Int} {x y z : Int} : getK (feedKv cs x y z) (.inr "left") = some (.int y) := by simp [getK, feedKv]
theorem g_count {cs : List Int} {x y z : Int} : getK (feedKv cs x y z) (.inr "count") = some (.int z) := by simp [getK, feedKv]
theorem p_at {cs : List Int} {x y z v : Int} : putD (feedKv cs x y z) (.inr "at") (.int v) = feedKv cs v y z := by simp [putD, feedKv]
theorem p_left {cs : List Int} {x y z v : Int} : putD (feedKv cs x y z) (.inr "left") (.int v) = feedKv cs x v z := by simp [putD, feedKv]
theorem p_count {cs : List Int} {x y z v : Int} : putD (feedKv cs x y z) (.inr "count") (.int v) = feedKv cs x y v := by simp [putD, feedKv]
theorem sDct_i {a : Addr} {kvs : List (Key × D)} {x : Str} {d : D} {G : GH} {Q : GH → Prop} (e : G a = some (.dct kvs)) (z : kvs.length < sizeLine) (h : Q (updG G a (.dct (putD kvs (.inr x) d)))) : sDct (.ref a) (.str x) d G Q := dctP_i e ⟨z, h⟩
theorem cell_at {cs : List Int} (h : cs ≠ []) (k : Int) : ∃ c : Int, atI (cs.map D.int) (k % (cs.length : Int)) = some (.int c) := by
  have hl : 0 < cs.length := List.length_pos_iff.mpr h
  have h1 := Int.emod_nonneg k (show (cs.length : Int) ≠ 0 by omega)
  have h2 := Int.emod_lt_of_pos k (show (0 : Int) < cs.length by omega)
  obtain ⟨j, hj⟩ : ∃ j : Nat, k % (cs.length : Int) = j := ⟨(k % (cs.length : Int)).toNat, by omega⟩
  rw [hj]
  have hj2 : j < cs.length := by omega
  exact ⟨cs[j], Dl.atI_nat (by simp [hj2])⟩
theorem okCells (cs : List Int) : okD (.lst (cs.map D.int)) := by
  constructor
  · rw [pureD]
    induction cs with
    | nil => simp [pureDs]
    | cons x xs ih => simp [pureDs, pureD, ih]
  · rw [depD]
    have : depDs (cs.map D.int) ≤ 0 := depDs_le (by intro d hd; obtain ⟨i, -, rfl⟩ := List.mem_map.mp hd; simp [depD])
    omega
def spDraw : DSp := fun ds G Q _ => ∃ a m, ds = [.ref a, .int m] ∧ 0 < m ∧ m < 1073741824 ∧ FeedOk G a ∧ ∀ (r : Int) G', 0 ≤ r → r < m → FeedOk G' a → KeepX a G G' → Q (.int r) G'
theorem mod64 (u : Int) {k : Int} (h1 : 0 < k) (h2 : k < 4294967296) (j : Int) : CMul (u % k) j := by
  have h3 := Int.emod_nonneg u (show k ≠ 0 by omega)
  have h4 := Int.emod_lt_of_pos u h1
  refine .inl ⟨?_, ?_⟩
  · have : (-2 ^ 64 : Int) < 0 := by decide
    omega
  · have : (2 : Int) ^ 64 = 18446744073709551616 := by decide
    omega
theorem law_draw_rd : ∀ ds G Q E, spDraw ds G Q E → r_law_draw { nx := fun _ G' => Q .non G', rt := Q } (startD 6 ds) G := by
  rintro ds G Q E ⟨a, m, rfl, hm, hm2, ⟨cs, x, y, z, e⟩, hq⟩
  unfold r_law_draw
  have go : ∀ (v : Int) (c : List Int) (x y z : Int), Q (.int (v % m)) (updG G a (.dct (feedKv c x y z))) := fun v c x y z =>
    hq _ _ (Int.emod_nonneg _ (by omega)) (Int.emod_lt_of_pos _ hm) ⟨c, x, y, z, updG_same⟩ KeepX.upd
  walk_at "ds"
  refine getK_i g_count ?_
  walk_at "ds"
  refine sDct_i e (by show 4 < sizeLine; decide) ?_
  rw [p_count]
  walk_at "ds"
  refine getK_i g_left ?_
  walk_at "ds"
  refine ifD (fun h => ?_) (fun h => ?_)
  · walk_at "ds"
    refine getK_i g_left ?_
    walk_at "ds"
    refine int2 hm ?_
    walk_at "ds"
    refine getK_i g_left ?_
    walk_at "ds"
    refine int2 ⟨hm, hm2⟩ ?_
    walk_at "ds"
    refine sDct_i updG_same (by show 4 < sizeLine; decide) ?_
    rw [p_left, updG_updG]
    walk_at "ds"
    exact go _ _ _ _ _
  · walk_at "ds"
    refine getK_i g_at ?_
    walk_at "ds"
    refine sDct_i updG_same (by show 4 < sizeLine; decide) ?_
    rw [p_at, updG_updG]
    dsimp only
    refine seqC (fun ρ G2 => ∃ c : Int, ρ = [some (.ref a), some (.int m), none, some (.int x), some (.int c), none] ∧ G2 = updG G a (.dct (feedKv cs (x + 1) y (z + 1)))) ?_ ?_
    · intro K hK
      walk_at "ds"
      refine getK_i g_cells ?_
      walk_at "ds"
      refine ne_ll (okCells cs) (okCells []) ?_
      by_cases hne : cs = []
      · rw [hne, show eqvD (.lst (([] : List Int).map D.int)) (.lst []) = true from by decide +kernel]
        refine ifF ?_
        walk_at "ds"
        exact hK _ _ ⟨53, rfl, by rw [hne]⟩
      · rw [show eqvD (.lst (cs.map D.int)) (.lst []) = false from by cases cs with
          | nil => exact absurd rfl hne
          | cons => simp [eqvD, eqvDs]]
        refine ifT ?_
        walk_at "ds"
        refine getK_i g_cells ?_
        walk_at "ds"
        refine getK_i g_cells ?_
        walk_at "ds"
        have hl : 0 < cs.length := List.length_pos_iff.mpr hne
        refine int2 (by rw [List.length_map]; omega) ?_
        rw [List.length_map]
        obtain ⟨c, hc⟩ := cell_at hne x
        refine rIx_i rfl hc ?_
        walk_at "ds"
        exact hK _ _ ⟨c, rfl, rfl⟩
    rintro ρ G2 ⟨c, rfl, rfl⟩
    have tail : (dSeq (dAsg (dOp rMod (dCB rIntC (dCons (dOp rAdd (dOp rAdd (dOp rMod (dCB rIntC (dCons (dVar 4) dNil)) (dC (.int 1000000487))) (dOp rMul (dC (.int 240007)) (dDGet (dVar 0) (dC (.str "count"))))) (dC (.int 103))) dNil)) (dC (.int 2147482937))) (gNm 5))
        (dSeq (dAsg (dOp rMod (dCB rIntC (dCons (dOp rAdd (dOp rAdd (dOp rMul (dVar 5) (dVar 5)) (dOp rMul (dC (.int 5300003)) (dDGet (dVar 0) (dC (.str "count"))))) (dC (.int 61))) dNil)) (dC (.int 2147482921))) (gNm 5))
        (dRet (dOp rMod (dCB rIntC (dCons (dOp rFdiv (dOp rMod (dCB rIntC (dCons (dOp rAdd (dOp rMul (dVar 5) (dVar 5)) (dOp rMul (dC (.int 107)) (dVar 5))) dNil)) (dC (.int 2147482859))) (dC (.int 16))) dNil)) (dVar 1))))) { nx := fun _ G' => Q .non G', rt := Q } [some (.ref a), some (.int m), none, some (.int x), some (.int c), none] (updG G a (.dct (feedKv cs (x + 1) y (z + 1)))) := by
      walk_at "ds"
      refine int2 (by decide) ?_
      walk_at "ds"
      refine getK_i g_count ?_
      walk_at "ds"
      refine mul_ii (.inl ⟨by decide, by decide⟩) ?_
      walk_at "ds"
      refine int2 (by decide) ?_
      walk_at "ds"
      refine mul_ii (mod64 _ (by decide) (by decide) _) ?_
      walk_at "ds"
      refine getK_i g_count ?_
      walk_at "ds"
      refine mul_ii (.inl ⟨by decide, by decide⟩) ?_
      walk_at "ds"
      refine int2 (by decide) ?_
      walk_at "ds"
      refine mul_ii (mod64 _ (by decide) (by decide) _) ?_
      walk_at "ds"
      refine mul_ii (.inl ⟨by decide, by decide⟩) ?_
      walk_at "ds"
      refine int2 (by decide) ?_
      walk_at "ds"
      refine int2 ⟨by decide, by decide⟩ ?_
      walk_at "ds"
      refine int2 hm ?_
      exact go _ _ _ _ _
    walk_at "ds"
    refine int2 ⟨by decide, by decide, by decide⟩ ?_
    walk_at "ds"
    refine ifD (fun h1 => ?_) (fun h1 => ?_)
    · walk_at "ds"
      refine getK_i g_cells ?_
      walk_at "ds"
      refine ifD (fun h2 => ?_) (fun h2 => ?_)
      · walk_at "ds"
        refine int2 ⟨hm, hm2⟩ ?_
        walk_at "ds"
        refine sDct_i updG_same (by show 4 < sizeLine; decide) ?_
        rw [p_left, updG_updG]
        walk_at "ds"
        refine int2 hm ?_
        exact go _ _ _ _ _
      · first | exact tail | exact ifF tail | exact ifF (ifF tail)
    · first | exact tail | exact ifF tail | exact ifF (ifF tail)
def spFeed : DSp := fun ds G Q _ => ∃ ns, ds = [.scr ns] ∧ ∀ p G', Grow G G' → FeedOk G' p → G p = none → Q (.ref p) G'
theorem law_feed_rd : ∀ ds G Q E, spFeed ds G Q E → r_law_feed { nx := fun _ G' => Q .non G', rt := Q } (startD 1 ds) G := by
  rintro ds G Q E ⟨ns, rfl, hq⟩
  unfold r_law_feed
  walk_at "ds"
  refine iDisp fun p hp => ?_
  walk_at "ds"
  refine slS ?_
  walk_at "ds"
  refine dispEnd updG_same (by with_unfolding_all rfl) (by rfl) ?_
  refine hq p _ (Grow.upd2 hp (Grow.upd hp)) ⟨(ns.drop 0).take (min 63 ns.length), 0, 0, 0, ?_⟩ hp
  rw [updG_same]
  simp [mergeD, putD, feedKv, cutD, HT.sIx, List.map_take]
end K03
namespace K03
open PySem L2 Dl
local macro_rules | `(tactic| walk_at "ds") => `(tactic| repeat' with_reducible first
  | fail "stuck")
mutual
def cW : Wk → Nat
  | .tick _ => 1
  | .sme _ _ _ => 1
  | .lop _ _ _ w => 1 + cW w
  | .eit ws => 1 + cWs ws
  | .row ws => 1 + cWs ws
  | .bes a b => 1 + (cW a + cW b)
def cWs : List Wk → Nat
  | [] => 0
  | w :: ws => cW w + cWs ws
end
mutual
def dW : Wk → Nat
  | .tick _ => 1
  | .sme _ _ _ => 1
  | .lop _ _ _ w => 1 + dW w
  | .eit ws => 1 + dWs ws
  | .row ws => 1 + dWs ws
  | .bes a b => 1 + max (dW a) (dW b)
def dWs : List Wk → Nat
  | [] => 0
  | w :: ws => max (dW w) (dWs ws)
end
structure Gw (w : Wk) (n d : Nat) : Prop where
  ok : okW 999 w
  c : cW w ≤ n
  d : dW w ≤ d
end K03
namespace K03
open PySem L2 Dl
local macro_rules | `(tactic| walk_at "ds") => `(tactic| repeat' with_reducible first
  | refine iVar (by with_unfolding_all rfl) ?_
  | refine iCons ?_
  | refine iNil ?_
  | refine iC ?_
  | refine iOp ?_
  | refine iSeq ?_
  | refine iAsg ?_
  | refine iGNm ?_
  | refine iTup ?_
  | refine iFrz ?_
  | refine iTst ?_
  | refine iIfS ?_
  | refine iRet ?_
  | refine iCall ?_
  | refine iLst ?_
  | refine iNext ?_
  | refine lstP_i (by assumption) ?_
  | refine lstP_i updG_same ?_
  | refine iRev ?_
  | refine revL ?_
  | refine iDrop ?_
  | refine iPar ?_
  | refine iGTp (by with_unfolding_all rfl) ?_
  | refine iGsCons ?_
  | refine iGsNil ?_
  | refine lenOk (by with_unfolding_all rfl) ?_
  | refine frzEnd ?_
  | refine lstC_t ?_
  | refine iIf ?_
  | refine ifT ?_
  | refine ifF ?_
  | refine iCB ?_
  | refine iMt ?_
  | refine iStar ?_
  | refine iFor ?_
  | refine rIx_i (by with_unfolding_all rfl) (by with_unfolding_all rfl) ?_
  | refine rIx_i (by with_unfolding_all rfl) atI_0 ?_
  | refine eq_strT ?_
  | refine eq_strF (by with_unfolding_all rfl) ?_
  | refine int0 ?_
  | refine len_l ?_
  | refine iIRg1 ?_
  | refine inn_T (by with_unfolding_all rfl) (by decide +kernel) (by decide +kernel) (by decide +kernel) ?_
  | refine inn_F (by with_unfolding_all rfl) (by decide +kernel) (by decide +kernel) (by decide +kernel) ?_
  | fail "stuck")
end K03
namespace K03
open PySem L2 Dl
local macro_rules | `(tactic| walk_at "ds") => `(tactic| repeat' with_reducible first
  | refine iVar (by with_unfolding_all rfl) ?_
  | refine iCons ?_
  | refine iNil ?_
  | refine iC ?_
  | refine iOp ?_
  | refine iFrz ?_
  | refine iRet ?_
  | refine iCall ?_
  | refine iLst ?_
  | refine lenOk (by with_unfolding_all rfl) ?_
  | refine frzEnd ?_
  | refine iCB ?_
  | refine iISq ?_
  | refine add_ii ?_
  | refine len_l ?_
  | refine tupC_l ?_
  | fail "stuck")
end K03
namespace K03
open PySem L2 Dl
local macro_rules | `(tactic| walk_at "ds") => `(tactic| repeat' with_reducible first
  | refine iVar (by with_unfolding_all rfl) ?_
  | refine iCons ?_
  | refine iNil ?_
  | refine iC ?_
  | refine iOp ?_
  | refine iSeq ?_
  | refine iAsg ?_
  | refine iGNm ?_
  | refine iTup ?_
  | refine iFrz ?_
  | refine iTst ?_
  | refine iIfS ?_
  | refine iRet ?_
  | refine iCall ?_
  | refine iNext ?_
  | refine iRev ?_
  | refine revT ?_
  | refine revL ?_
  | refine iGTp (by with_unfolding_all rfl) ?_
  | refine iGsCons ?_
  | refine iGsNil ?_
  | refine lenOk (by with_unfolding_all rfl) ?_
  | refine frzEnd ?_
  | refine slT ?_
  | refine iIf ?_
  | refine ifT ?_
  | refine ifF ?_
  | refine iSl ?_
  | refine iP ?_
  | refine iNoP ?_
  | refine iStar ?_
  | refine iFor ?_
  | refine rIx_i (by with_unfolding_all rfl) (by with_unfolding_all rfl) ?_
  | refine rIx_i (by with_unfolding_all rfl) atI_0 ?_
  | refine eq_strT ?_
  | refine eq_strF (by with_unfolding_all rfl) ?_
  | fail "stuck")
theorem cut_take (l : List D) (k : Nat) : cutD l none (some (k : Nat)) = l.take k := by
  have h0 : ¬ ((k : Int) < 0) := by omega
  unfold cutD HT.sIx
  simp [h0]
theorem cut_drop (l : List D) (k : Nat) : cutD l (some ((k : Nat) : Int)) none = l.drop k := by
  have h0 : ¬ ((k : Int) < 0) := by omega
  unfold cutD HT.sIx
  simp only [h0, if_false, Int.toNat_natCast, List.drop_zero, Nat.sub_zero]
  by_cases h : k ≤ l.length
  · rw [Nat.min_eq_left h]; exact List.take_of_length_le (by simp)
  · rw [Nat.min_eq_right (by omega), List.drop_of_length_le (show l.length ≤ l.length by omega), List.drop_of_length_le (show l.length ≤ k by omega)]; simp
end K03
namespace K03
open PySem L2 Dl
local macro_rules | `(tactic| walk_at "ds") => `(tactic| repeat' with_reducible first
  | refine iVar (by with_unfolding_all rfl) ?_
  | refine iCons ?_
  | refine iNil ?_
  | refine iC ?_
  | refine iOp ?_
  | refine iSeq ?_
  | refine iAsg ?_
  | refine iTup ?_
  | refine iFrz ?_
  | refine iTst ?_
  | refine iIfS ?_
  | refine iRet ?_
  | refine iCall ?_
  | refine iNext ?_
  | refine iPar ?_
  | refine iGSb ?_
  | refine lenOk (by with_unfolding_all rfl) ?_
  | refine slT ?_
  | refine iIf ?_
  | refine ifT ?_
  | refine ifF ?_
  | refine iCB ?_
  | refine iSl ?_
  | refine iP ?_
  | refine iNoP ?_
  | refine iISq ?_
  | refine rIx_i (by with_unfolding_all rfl) (by with_unfolding_all rfl) ?_
  | refine rIx_i (by with_unfolding_all rfl) atI_0 ?_
  | refine eq_strT ?_
  | refine eq_strF (by with_unfolding_all rfl) ?_
  | refine add_ttb (by with_unfolding_all rfl) ?_
  | refine inn_T (by with_unfolding_all rfl) (by decide +kernel) (by decide +kernel) (by decide +kernel) ?_
  | refine inn_F (by with_unfolding_all rfl) (by decide +kernel) (by decide +kernel) (by decide +kernel) ?_
  | fail "stuck")
end K03
namespace K03
open PySem L2 Dl
local macro_rules | `(tactic| walk_at "ds") => `(tactic| repeat' with_reducible first
  | refine iVar (by with_unfolding_all rfl) ?_
  | refine iCons ?_
  | refine iNil ?_
  | refine iC ?_
  | refine iOp ?_
  | refine iAsg ?_
  | refine iGNm ?_
  | refine iFrz ?_
  | refine iRet ?_
  | refine iCall ?_
  | refine iLst ?_
  | refine iNext ?_
  | refine iXPa ?_
  | refine iXPt ?_
  | refine iXPs ?_
  | refine iXSeq ?_
  | refine iXDrop ?_
  | refine iXIfS ?_
  | refine iXCall ?_
  | refine iXRaise ?_
  | refine iNeg ?_
  | refine lstP_i (by assumption) ?_
  | refine lstP_i updG_same ?_
  | refine iDrop ?_
  | refine lenOk (by with_unfolding_all rfl) ?_
  | refine iTru ?_
  | refine truB ?_
  | refine iNot ?_
  | refine iAndVK ?_
  | refine andVT ?_
  | refine andVF ?_
  | refine iNotV ?_
  | refine iCB ?_
  | refine iMt ?_
  | refine iIsi ?_
  | refine iISq ?_
  | refine rIx_i (by with_unfolding_all rfl) (by with_unfolding_all rfl) ?_
  | refine rIx_i (by with_unfolding_all rfl) atI_0 ?_
  | refine int0 ?_
  | refine len_l ?_
  | refine isi_T (by with_unfolding_all rfl) (by decide +kernel) ?_
  | refine isi_F (by with_unfolding_all rfl) (by decide +kernel) ?_
  | refine ifNT ?_
  | refine ifNF ?_
  | fail "stuck")
def nuA (w : Str) (k : Int) : DX := ⟨"NotUsable", [("at", .int k), ("word", .str w)]⟩
abbrev nu (w : Str) : DX := nuA w (-1)
def Pln : D → Bool
  | .non | .bl _ | .int _ | .str _ | .tup _ | .lst _ => true
  | _ => false
structure WaOk (w : Wk) (x : D) : Prop where
  c : cW w ≤ 400
  pl : Pln x = true
  its : ∀ xs, x = .tup xs → (∀ y ∈ xs, Pln y = true) ∧ xs.length ≤ 1000
end K03
namespace K03
open PySem L2 Dl
local macro_rules | `(tactic| walk_at "ds") => `(tactic| repeat' with_reducible first
  | refine iVar (by with_unfolding_all rfl) ?_
  | refine iCons ?_
  | refine iNil ?_
  | refine iC ?_
  | refine iOp ?_
  | refine iSeq ?_
  | refine iAsg ?_
  | refine iGNm ?_
  | refine iTst ?_
  | refine iIfS ?_
  | refine iRet ?_
  | refine iCall ?_
  | refine iNext ?_
  | refine isN_T ?_
  | refine isN_F (by with_unfolding_all rfl) ?_
  | refine iTru ?_
  | refine truB ?_
  | refine iAnd ?_
  | refine iOr ?_
  | refine iNot ?_
  | refine ifDT (by decide) ?_
  | refine ifDF (by decide) ?_
  | refine iIf ?_
  | refine ifT ?_
  | refine ifF ?_
  | refine iCB ?_
  | refine iIsi ?_
  | refine rIx_i (by with_unfolding_all rfl) (by with_unfolding_all rfl) ?_
  | refine rIx_i (by with_unfolding_all rfl) atI_0 ?_
  | refine eq_strT ?_
  | refine eq_strF (by with_unfolding_all rfl) ?_
  | refine eq_ii ?_
  | refine int0 ?_
  | refine len_t ?_
  | refine inn_T (by with_unfolding_all rfl) (by decide +kernel) (by decide +kernel) (by decide +kernel) ?_
  | refine inn_F (by with_unfolding_all rfl) (by decide +kernel) (by decide +kernel) (by decide +kernel) ?_
  | refine isi_T (by with_unfolding_all rfl) (by decide +kernel) ?_
  | refine isi_F (by with_unfolding_all rfl) (by decide +kernel) ?_
  | refine ifNT ?_
  | refine ifNF ?_
  | refine ifDT (by with_reducible_and_instances first | omega | (simp only [List.length_cons, List.length_nil]; omega)) ?_
  | refine ifDF (by with_reducible_and_instances first | omega | (simp only [List.length_cons, List.length_nil]; omega)) ?_
  | fail "stuck")
section
variable {ρ : DSt} {G : GH} {Q : DK} {i : Nat}
end
end K03
namespace K03
open PySem L2 Dl
local macro_rules | `(tactic| walk_at "ds") => `(tactic| repeat' with_reducible first
  | refine iVar (by with_unfolding_all rfl) ?_
  | refine iCons ?_
  | refine iNil ?_
  | refine iC ?_
  | refine iOp ?_
  | refine iSeq ?_
  | refine iAsg ?_
  | refine iGNm ?_
  | refine iTup ?_
  | refine iFrz ?_
  | refine iTst ?_
  | refine iIfS ?_
  | refine iRet ?_
  | refine iCall ?_
  | refine iLst ?_
  | refine iNext ?_
  | refine iXPe ?_
  | refine iXPa ?_
  | refine iXPs ?_
  | refine iXSeq ?_
  | refine iXDrop ?_
  | refine iXRet ?_
  | refine iXAsg ?_
  | refine iXOp ?_
  | refine iXCall ?_
  | refine iNeg ?_
  | refine lstP_i (by assumption) ?_
  | refine lstP_i updG_same ?_
  | refine isN_T ?_
  | refine isN_F (by with_unfolding_all rfl) ?_
  | refine iRev ?_
  | refine revL ?_
  | refine iDrop ?_
  | refine iGTp (by with_unfolding_all rfl) ?_
  | refine iGsCons ?_
  | refine iGsNil ?_
  | refine lenOk (by with_unfolding_all rfl) ?_
  | refine frzEnd ?_
  | refine ifT ?_
  | refine ifF ?_
  | refine iCB ?_
  | refine iMt ?_
  | refine iSl ?_
  | refine iP ?_
  | refine iNoP ?_
  | refine rIx_i (by with_unfolding_all rfl) (by with_unfolding_all rfl) ?_
  | refine rIx_i (by with_unfolding_all rfl) atI_0 ?_
  | refine int0 ?_
  | fail "stuck")
end K03
namespace K03
open PySem L2 Dl
local macro_rules | `(tactic| walk_at "ds") => `(tactic| repeat' with_reducible first
  | refine iVar (by with_unfolding_all rfl) ?_
  | refine iCons ?_
  | refine iNil ?_
  | refine iC ?_
  | refine iOp ?_
  | refine iSeq ?_
  | refine iAsg ?_
  | refine iGNm ?_
  | refine iTup ?_
  | refine iFrz ?_
  | refine iTst ?_
  | refine iIfS ?_
  | refine iRet ?_
  | refine iLst ?_
  | refine iNext ?_
  | refine iXPe ?_
  | refine iXRet ?_
  | refine iXCons ?_
  | refine iXTup ?_
  | refine iDSeqTry ?_
  | refine iIsX ?_
  | refine iExf ?_
  | refine iXAct (by with_unfolding_all rfl) ?_
  | refine lstP_i (by assumption) ?_
  | refine lstP_i updG_same ?_
  | refine iDrop ?_
  | refine lenOk (by with_unfolding_all rfl) ?_
  | refine frzEnd ?_
  | refine iTru ?_
  | refine truB ?_
  | refine iAnd ?_
  | refine iOr ?_
  | refine iIf ?_
  | refine ifT ?_
  | refine ifF ?_
  | refine iMt ?_
  | refine ifNT ?_
  | fail "stuck")
theorem eq_rl {p : Addr} {l b : List D} {G : GH} {Q : DK} (e : G p = some (.lst l)) (h1 : okD (.lst l)) (h2 : okD (.lst b)) (h : Q (.bl (eqvD (.lst l) (.lst b))) G) : rCmp id (.ref p) (.lst b) G Q := by
  unfold rCmp vw
  dsimp only
  rw [e]
  exact ⟨h1, h2, h⟩
theorem ok_bls (a b c d : Bool) : okD (.lst [.bl a, .bl b, .bl c, .bl d]) := ⟨by simp [pureD, pureDs], by simp [depD, depDs]⟩
end K03
namespace K18
open PySem L2 Dl
def r_is_sided : DTS :=
  (dRet (dAndV (dIsi "tuple" (dVar 0)) (dAndV (dOp rEqv (dCB rLen (dCons (dVar 0) dNil)) (dC (.int 2))) (dAndV (dIsi "str" (dOp rIx (dVar 0) (dC (.int 0)))) (dOp (rInn id) (dOp rIx (dVar 0) (dC (.int 0))) (dC (.tup [.str "left", .str "right"])))))))
end K18
namespace K17
open PySem L2 Dl
end K17
namespace K17
open PySem L2 Dl
local macro_rules | `(tactic| walk_at "ds") => `(tactic| repeat' with_reducible first
  | refine iVar (by with_unfolding_all rfl) ?_
  | refine iCons ?_
  | refine iNil ?_
  | refine iC ?_
  | refine iOp ?_
  | refine iSeq ?_
  | refine iAsg ?_
  | refine iGNm ?_
  | refine iTup ?_
  | refine iFrz ?_
  | refine iTst ?_
  | refine iIfS ?_
  | refine iRet ?_
  | refine iCall ?_
  | refine iLst ?_
  | refine iNext ?_
  | refine iDrop ?_
  | refine iPar ?_
  | refine lenOk (by with_unfolding_all rfl) ?_
  | refine frzEnd ?_
  | refine iAnd ?_
  | refine iIf ?_
  | refine ifT ?_
  | refine ifF ?_
  | refine iCB ?_
  | refine iMt ?_
  | refine iFor ?_
  | refine iISq ?_
  | refine rIx_i (by with_unfolding_all rfl) (by with_unfolding_all rfl) ?_
  | refine rIx_i (by with_unfolding_all rfl) atI_0 ?_
  | refine eq_strT ?_
  | refine eq_strF (by with_unfolding_all rfl) ?_
  | refine ne_strT ?_
  | refine ne_strF (by with_unfolding_all rfl) ?_
  | refine eq_ii ?_
  | fail "stuck")
end K17
namespace K17
open PySem L2 Dl
local macro_rules | `(tactic| walk_at "ds") => `(tactic| repeat' with_reducible first
  | refine iVar (by with_unfolding_all rfl) ?_
  | refine iCons ?_
  | refine iNil ?_
  | refine iC ?_
  | refine iOp ?_
  | refine iSeq ?_
  | refine iAsg ?_
  | refine iGNm ?_
  | refine iTup ?_
  | refine iFrz ?_
  | refine iTst ?_
  | refine iIfS ?_
  | refine iRet ?_
  | refine iCall ?_
  | refine iLst ?_
  | refine iNext ?_
  | refine iDrop ?_
  | refine iPar ?_
  | refine lenOk (by with_unfolding_all rfl) ?_
  | refine frzEnd ?_
  | refine lstC_t ?_
  | refine iAnd ?_
  | refine iIf ?_
  | refine ifT ?_
  | refine ifF ?_
  | refine iCB ?_
  | refine iMt ?_
  | refine iFor ?_
  | refine iISq ?_
  | refine rIx_i (by with_unfolding_all rfl) (by with_unfolding_all rfl) ?_
  | refine rIx_i (by with_unfolding_all rfl) atI_0 ?_
  | refine eq_strT ?_
  | refine eq_strF (by with_unfolding_all rfl) ?_
  | refine ne_strT ?_
  | refine ne_strF (by with_unfolding_all rfl) ?_
  | refine eq_ii ?_
  | fail "stuck")
end K17
namespace K17
open PySem L2 Dl
local macro_rules | `(tactic| walk_at "ds") => `(tactic| repeat' with_reducible first
  | refine iVar (by with_unfolding_all rfl) ?_
  | refine iCons ?_
  | refine iNil ?_
  | refine iC ?_
  | refine iOp ?_
  | refine iSeq ?_
  | refine iAsg ?_
  | refine iGNm ?_
  | refine iTup ?_
  | refine iFrz ?_
  | refine iTst ?_
  | refine iIfS ?_
  | refine iRet ?_
  | refine iCall ?_
  | refine iLst ?_
  | refine iNext ?_
  | refine lenOk (by with_unfolding_all rfl) ?_
  | refine frzEnd ?_
  | refine iTru ?_
  | refine truB ?_
  | refine iIf ?_
  | refine ifT ?_
  | refine ifF ?_
  | refine iCB ?_
  | refine eq_ii ?_
  | refine add_ii ?_
  | refine int0 ?_
  | refine max2_ii ?_
  | refine iIRg2 ?_
  | refine add_llb (by with_unfolding_all rfl) ?_
  | fail "stuck")
end K17
namespace K17
open PySem L2 Dl
local macro_rules | `(tactic| walk_at "ds") => `(tactic| repeat' with_reducible first
  | refine iVar (by with_unfolding_all rfl) ?_
  | refine iCons ?_
  | refine iNil ?_
  | refine iC ?_
  | refine iOp ?_
  | refine iSeq ?_
  | refine iAsg ?_
  | refine iGNm ?_
  | refine iTup ?_
  | refine iFrz ?_
  | refine iTst ?_
  | refine iRet ?_
  | refine iCall ?_
  | refine iLst ?_
  | refine lenOk (by with_unfolding_all rfl) ?_
  | refine frzEnd ?_
  | refine slT ?_
  | refine iIf ?_
  | refine ifT ?_
  | refine ifF ?_
  | refine iCB ?_
  | refine iSl ?_
  | refine iP ?_
  | refine iNoP ?_
  | refine iStar ?_
  | refine iMatch ?_
  | refine iISq ?_
  | refine rIx_i (by with_unfolding_all rfl) (by with_unfolding_all rfl) ?_
  | refine rIx_i (by with_unfolding_all rfl) atI_0 ?_
  | refine caT ?_
  | refine caF (by with_unfolding_all rfl) ?_
  | refine caN ?_
  | refine int0 ?_
  | refine tupC_l ?_
  | refine iIEnT ?_
  | fail "stuck")
end K17
namespace K17
open PySem L2 Dl
local macro_rules | `(tactic| walk_at "ds") => `(tactic| repeat' with_reducible first
  | refine iVar (by with_unfolding_all rfl) ?_
  | refine iCons ?_
  | refine iNil ?_
  | refine iC ?_
  | refine iOp ?_
  | refine iSeq ?_
  | refine iAsg ?_
  | refine iGNm ?_
  | refine iTup ?_
  | refine iFrz ?_
  | refine iTst ?_
  | refine iIfS ?_
  | refine iRet ?_
  | refine iCall ?_
  | refine iLst ?_
  | refine iNext ?_
  | refine iDGet ?_
  | refine lenOk (by with_unfolding_all rfl) ?_
  | refine frzEnd ?_
  | refine iTru ?_
  | refine truB ?_
  | refine iAnd ?_
  | refine iIf ?_
  | refine ifT ?_
  | refine ifF ?_
  | refine iCB ?_
  | refine iISq ?_
  | refine rIx_i (by with_unfolding_all rfl) (by with_unfolding_all rfl) ?_
  | refine rIx_i (by with_unfolding_all rfl) atI_0 ?_
  | refine eq_strT ?_
  | refine eq_strF (by with_unfolding_all rfl) ?_
  | refine eq_ii ?_
  | refine add_ii ?_
  | refine int0 ?_
  | refine len_t ?_
  | refine intC_b ?_
  | refine keyP_s ?_
  | refine iIRg1 ?_
  | refine iIRg2 ?_
  | refine add_llb (by with_unfolding_all rfl) ?_
  | refine inn_T (by with_unfolding_all rfl) (by decide +kernel) (by decide +kernel) (by decide +kernel) ?_
  | refine inn_F (by with_unfolding_all rfl) (by decide +kernel) (by decide +kernel) (by decide +kernel) ?_
  | refine iPsC ?_
  | refine iPsN ?_
  | fail "stuck")
end K17
namespace K17
open PySem L2 Dl
local macro_rules | `(tactic| walk_at "ds") => `(tactic| repeat' with_reducible first
  | refine iVar (by with_unfolding_all rfl) ?_
  | refine iCons ?_
  | refine iNil ?_
  | refine iC ?_
  | refine iOp ?_
  | refine iSeq ?_
  | refine iAsg ?_
  | refine iGNm ?_
  | refine iTup ?_
  | refine iFrz ?_
  | refine iTst ?_
  | refine iIfS ?_
  | refine iRet ?_
  | refine iCall ?_
  | refine iNext ?_
  | refine lenOk (by with_unfolding_all rfl) ?_
  | refine slT ?_
  | refine iTru ?_
  | refine truB ?_
  | refine iAnd ?_
  | refine iOr ?_
  | refine iIf ?_
  | refine ifT ?_
  | refine ifF ?_
  | refine iCB ?_
  | refine iSl ?_
  | refine iP ?_
  | refine iNoP ?_
  | refine iIsi ?_
  | refine iISq ?_
  | refine rIx_i (by with_unfolding_all rfl) (by with_unfolding_all rfl) ?_
  | refine rIx_i (by with_unfolding_all rfl) atI_0 ?_
  | refine eq_strT ?_
  | refine eq_strF (by with_unfolding_all rfl) ?_
  | refine add_ii ?_
  | refine int0 ?_
  | refine intC_b ?_
  | refine max2_ii ?_
  | refine inn_T (by with_unfolding_all rfl) (by decide +kernel) (by decide +kernel) (by decide +kernel) ?_
  | refine inn_F (by with_unfolding_all rfl) (by decide +kernel) (by decide +kernel) (by decide +kernel) ?_
  | refine isi_T (by with_unfolding_all rfl) (by decide +kernel) ?_
  | refine isi_F (by with_unfolding_all rfl) (by decide +kernel) ?_
  | fail "stuck")
end K17
namespace K17
open PySem L2 Dl
local macro_rules | `(tactic| walk_at "ds") => `(tactic| repeat' with_reducible first
  | refine iVar (by with_unfolding_all rfl) ?_
  | refine iCons ?_
  | refine iNil ?_
  | refine iC ?_
  | refine iOp ?_
  | refine iSeq ?_
  | refine iAsg ?_
  | refine iGNm ?_
  | refine iFrz ?_
  | refine iTst ?_
  | refine iIfS ?_
  | refine iRet ?_
  | refine iLst ?_
  | refine iNext ?_
  | refine iDGet ?_
  | refine iGSb ?_
  | refine lenOk (by with_unfolding_all rfl) ?_
  | refine frzEnd ?_
  | refine iAnd ?_
  | refine ifT ?_
  | refine ifF ?_
  | refine iCB ?_
  | refine rIx_i (by with_unfolding_all rfl) (by with_unfolding_all rfl) ?_
  | refine rIx_i (by with_unfolding_all rfl) atI_0 ?_
  | refine add_ii ?_
  | refine int0 ?_
  | refine len_l ?_
  | refine intC_i ?_
  | refine keyP_s ?_
  | fail "stuck")
end K17
namespace K17
open PySem L2 Dl
local macro_rules | `(tactic| walk_at "ds") => `(tactic| repeat' with_reducible first
  | refine iVar (by with_unfolding_all rfl) ?_
  | refine iCons ?_
  | refine iNil ?_
  | refine iC ?_
  | refine iOp ?_
  | refine iSeq ?_
  | refine iAsg ?_
  | refine iGNm ?_
  | refine iTup ?_
  | refine iFrz ?_
  | refine iRet ?_
  | refine iCall ?_
  | refine lenOk (by with_unfolding_all rfl) ?_
  | refine frzEnd ?_
  | refine lstC_l ?_
  | refine iCB ?_
  | refine iSl ?_
  | refine iP ?_
  | refine iNoP ?_
  | refine iISq ?_
  | refine rIx_i (by with_unfolding_all rfl) (by with_unfolding_all rfl) ?_
  | refine rIx_i (by with_unfolding_all rfl) atI_0 ?_
  | refine len_l ?_
  | refine iPsC ?_
  | refine iPsN ?_
  | fail "stuck")
end K17
namespace K17
open PySem L2 Dl
local macro_rules | `(tactic| walk_at "ds") => `(tactic| repeat' with_reducible first
  | refine iVar (by with_unfolding_all rfl) ?_
  | refine iCons ?_
  | refine iNil ?_
  | refine iC ?_
  | refine iOp ?_
  | refine iCall ?_
  | refine int0 ?_
  | refine iIRg1 ?_
  | fail "stuck")
def zz : Nat → Nat
  | 0 => 2
  | n + 1 => 4 * zz n + 6
structure JobOk (n : Nat) (w : Wk) : Prop where
  ok : okW 12 w
  z : zW w ≤ zz n
  dp : dpW w ≤ 2 + 2 * n
  p : pW w ≤ 3 + 4 * n
end K17
namespace K17
open PySem L2 Dl
local macro_rules | `(tactic| walk_at "ds") => `(tactic| repeat' with_reducible first
  | refine iVar (by with_unfolding_all rfl) ?_
  | refine iCons ?_
  | refine iNil ?_
  | refine iC ?_
  | refine iOp ?_
  | refine iSeq ?_
  | refine iAsg ?_
  | refine iGNm ?_
  | refine iTup ?_
  | refine iFrz ?_
  | refine iTst ?_
  | refine iIfS ?_
  | refine iRet ?_
  | refine iCall ?_
  | refine iNext ?_
  | refine iPar ?_
  | refine iGTp (by with_unfolding_all rfl) ?_
  | refine iGsCons ?_
  | refine iGsNil ?_
  | refine iGSb ?_
  | refine lenOk (by with_unfolding_all rfl) ?_
  | refine iTru ?_
  | refine truB ?_
  | refine iAnd ?_
  | refine iOr ?_
  | refine iNot ?_
  | refine iAndVK ?_
  | refine andVT ?_
  | refine andVF ?_
  | refine andVDT (by decide) ?_
  | refine andVDF (by decide) ?_
  | refine ifDT (by decide) ?_
  | refine ifDF (by decide) ?_
  | refine iNotV ?_
  | refine iIf ?_
  | refine ifT ?_
  | refine ifF ?_
  | refine iCB ?_
  | refine rIx_i (by with_unfolding_all rfl) (by with_unfolding_all rfl) ?_
  | refine rIx_i (by with_unfolding_all rfl) atI_0 ?_
  | refine eq_ii ?_
  | refine add_ii ?_
  | refine int0 ?_
  | refine tupC_l ?_
  | refine min2_ii ?_
  | refine inn_T (by with_unfolding_all rfl) (by decide +kernel) (by decide +kernel) (by decide +kernel) ?_
  | refine inn_F (by with_unfolding_all rfl) (by decide +kernel) (by decide +kernel) (by decide +kernel) ?_
  | fail "stuck")
end K17
namespace K17
open PySem L2 Dl
local macro_rules | `(tactic| walk_at "ds") => `(tactic| repeat' with_reducible first
  | refine iVar (by with_unfolding_all rfl) ?_
  | refine iCons ?_
  | refine iNil ?_
  | refine iC ?_
  | refine iOp ?_
  | refine iSeq ?_
  | refine iAsg ?_
  | refine iGNm ?_
  | refine iFrz ?_
  | refine iTst ?_
  | refine iIfS ?_
  | refine iRet ?_
  | refine iCall ?_
  | refine iLst ?_
  | refine iNext ?_
  | refine iPar ?_
  | refine lenOk (by with_unfolding_all rfl) ?_
  | refine frzEnd ?_
  | refine iTru ?_
  | refine truB ?_
  | refine iAndVK ?_
  | refine andVT ?_
  | refine iIf ?_
  | refine ifT ?_
  | refine ifF ?_
  | refine iCB ?_
  | refine rIx_i (by with_unfolding_all rfl) (by with_unfolding_all rfl) ?_
  | refine rIx_i (by with_unfolding_all rfl) atI_0 ?_
  | refine eq_strT ?_
  | refine ne_strT ?_
  | refine tupC_l ?_
  | fail "stuck")
structure Bd (w : Wk) : Prop where
  ok : okW 12 w
  z : zW w ≤ 270
  p : pW w ≤ 16
  dp : dpW w ≤ 20
end K17
namespace K17
open PySem L2 Dl
local macro_rules | `(tactic| walk_at "ds") => `(tactic| repeat' with_reducible first
  | refine iVar (by with_unfolding_all rfl) ?_
  | refine iCons ?_
  | refine iNil ?_
  | refine iC ?_
  | refine iOp ?_
  | refine iSeq ?_
  | refine iAsg ?_
  | refine iGNm ?_
  | refine iTup ?_
  | refine iFrz ?_
  | refine iTst ?_
  | refine iIfS ?_
  | refine iRet ?_
  | refine iCall ?_
  | refine iLst ?_
  | refine iNext ?_
  | refine iDrop ?_
  | refine iGTp (by with_unfolding_all rfl) ?_
  | refine iGsCons ?_
  | refine iGsNil ?_
  | refine iGSb ?_
  | refine lenOk (by with_unfolding_all rfl) ?_
  | refine frzEnd ?_
  | refine iAnd ?_
  | refine iAndVK ?_
  | refine ifT ?_
  | refine ifF ?_
  | refine iCB ?_
  | refine iMt ?_
  | refine iFor ?_
  | refine iISq ?_
  | refine add_ii ?_
  | refine int0 ?_
  | refine iPsC ?_
  | refine iPsN ?_
  | fail "stuck")
def itD (q : Int × Wk) : D := .tup [.int q.1, toD q.2]
structure PileOk (k : Nat) (items : List (Int × Wk)) : Prop where
  all : ∀ q ∈ items, 0 ≤ q.1 ∧ q.1 ≤ k ∧ Bd q.2 ∧ dpW q.2 ≤ 16
structure Pl (G0 : GH) (p1 p2 : Addr) (k : Nat) (G : GH) : Prop where
  ex : ∃ items kvs, G p1 = some (.lst (items.map itD)) ∧ G p2 = some (.dct kvs) ∧ items.length + k = kvs.length ∧ PileOk k items ∧ kvs.length ≤ 100000 + 2000 * k
  gr : Grow G0 G
end K17
namespace K17
open PySem L2 Dl
local macro_rules | `(tactic| walk_at "ds") => `(tactic| repeat' with_reducible first
  | refine iVar (by with_unfolding_all rfl) ?_
  | refine iCons ?_
  | refine iNil ?_
  | refine iC ?_
  | refine iOp ?_
  | refine iSeq ?_
  | refine iAsg ?_
  | refine iGNm ?_
  | refine iTup ?_
  | refine iFrz ?_
  | refine iTst ?_
  | refine iIfS ?_
  | refine iRet ?_
  | refine iCall ?_
  | refine iLst ?_
  | refine iNext ?_
  | refine iDrop ?_
  | refine iGTp (by with_unfolding_all rfl) ?_
  | refine iGsCons ?_
  | refine iGsNil ?_
  | refine lenOk (by with_unfolding_all rfl) ?_
  | refine frzEnd ?_
  | refine lstC_t ?_
  | refine iTru ?_
  | refine truB ?_
  | refine iNot ?_
  | refine iCB ?_
  | refine iMt ?_
  | refine iFor ?_
  | refine iISq ?_
  | refine iIRg1 ?_
  | fail "stuck")
end K17
namespace K18
open PySem L2 Dl K17
local macro_rules | `(tactic| walk_at "ds") => `(tactic| repeat' with_reducible first
  | refine iVar (by with_unfolding_all rfl) ?_
  | refine iCons ?_
  | refine iNil ?_
  | refine iC ?_
  | refine iOp ?_
  | refine iSeq ?_
  | refine iAsg ?_
  | refine iGNm ?_
  | refine iFrz ?_
  | refine iTst ?_
  | refine iIfS ?_
  | refine iRet ?_
  | refine iCall ?_
  | refine iNext ?_
  | refine iTru ?_
  | refine truB ?_
  | refine iOr ?_
  | refine iNot ?_
  | refine iAndVK ?_
  | refine andVT ?_
  | refine andVF ?_
  | refine andVDT (by decide) ?_
  | refine andVDF (by decide) ?_
  | refine iNotV ?_
  | refine ifT ?_
  | refine ifF ?_
  | refine iCB ?_
  | refine iIsi ?_
  | refine iISq ?_
  | refine rIx_i (by with_unfolding_all rfl) (by with_unfolding_all rfl) ?_
  | refine rIx_i (by with_unfolding_all rfl) atI_0 ?_
  | refine eq_ii ?_
  | refine ne_ii ?_
  | refine len_t ?_
  | refine isi_T (by with_unfolding_all rfl) (by decide +kernel) ?_
  | refine isi_F (by with_unfolding_all rfl) (by decide +kernel) ?_
  | refine ifNT ?_
  | refine ifNF ?_
  | refine andVDT (by with_reducible_and_instances first | omega | (simp only [List.length_cons, List.length_nil]; omega)) ?_
  | refine andVDF (by with_reducible_and_instances first | omega | (simp only [List.length_cons, List.length_nil]; omega)) ?_
  | refine ifNDT (by with_reducible_and_instances first | omega | (simp only [List.length_cons, List.length_nil]; omega)) ?_
  | refine ifNDF (by with_reducible_and_instances first | omega | (simp only [List.length_cons, List.length_nil]; omega)) ?_
  | fail "stuck")
def isNumB : D → Bool
  | .int n => decide (0 ≤ n)
  | _ => false
def sidedB : D → Bool
  | .tup [.str x, _] => inD (.str x) [.str "left", .str "right"]
  | _ => false
def isSgB : D → Bool
  | .str x => inD (.str x) [.str "tick", .str "more", .str "end"]
  | .tup [.str x, y] => if inD (.str x) [.str "left", .str "right"] = true then isSgB y else inD (.str x) [.str "many", .str "way"] && isNumB y
  | _ => false
def R1 (f : D → Bool) : List D → D → Prop := fun ds d => ∃ x, ds = [x] ∧ cleanD x = true ∧ d = .bl (f x)
theorem is_sided_rd : ∀ ds G Q E, pSp (R1 sidedB) ds G Q E → r_is_sided { nx := fun _ G' => Q .non G', rt := Q } (startD 1 ds) G := by
  rintro ds G Q E ⟨d, ⟨x, rfl, hc, rfl⟩, hq⟩
  unfold r_is_sided
  have e := hq G (Grow.refl G)
  cases x with
  | byt _ => simp [cleanD] at hc
  | ref _ => simp [cleanD] at hc
  | scr _ => simp [cleanD] at hc
  | fn _ _ _ _ => simp [cleanD] at hc
  | exh _ _ _ _ _ => simp [cleanD] at hc
  | tup l =>
    match l with
    | [] => walk_at "ds"; exact e
    | [a] => walk_at "ds"; cases a <;> exact e
    | a :: b :: c :: r =>
      walk_at "ds"
      cases a <;> exact e
    | [a, b] =>
      rw [cleanD, cleanDs, Bool.and_eq_true] at hc
      cases a with
      | byt _ => simp [cleanD] at hc
      | ref _ => simp [cleanD] at hc
      | scr _ => simp [cleanD] at hc
      | fn _ _ _ _ => simp [cleanD] at hc
      | exh _ _ _ _ _ => simp [cleanD] at hc
      | str x =>
        walk_at "ds"
        refine inn_i (by with_unfolding_all rfl) (by rfl) (by rfl) ?_
        exact e
      | _ => walk_at "ds"; exact e
  | _ => walk_at "ds"; exact e
def isSgsB : D → Bool
  | .tup l => l.all isSgB
  | _ => false
end K18
namespace K06
open PySem L2 Dl
local macro_rules | `(tactic| walk_at "ds") => `(tactic| repeat' with_reducible first
  | refine iVar (by with_unfolding_all rfl) ?_
  | refine iCons ?_
  | refine iNil ?_
  | refine iC ?_
  | refine iOp ?_
  | refine iSeq ?_
  | refine iAsg ?_
  | refine iGNm ?_
  | refine iFrz ?_
  | refine iTst ?_
  | refine iRet ?_
  | refine iLst ?_
  | refine iXPe ?_
  | refine iXPa ?_
  | refine iXRet ?_
  | refine iXCons ?_
  | refine iXTup ?_
  | refine iDSeqTry ?_
  | refine iXAct (by with_unfolding_all rfl) ?_
  | refine lstP_i (by assumption) ?_
  | refine lstP_i updG_same ?_
  | refine iRev ?_
  | refine iDrop ?_
  | refine lenOk (by with_unfolding_all rfl) ?_
  | refine frzEnd ?_
  | refine ifDT (by decide) ?_
  | refine ifDF (by decide) ?_
  | refine iCB ?_
  | refine iMt ?_
  | refine iStar ?_
  | refine int0 ?_
  | refine len_l ?_
  | refine intC_i ?_
  | refine ifDT (by with_reducible_and_instances first | omega | (simp only [List.length_cons, List.length_nil]; omega)) ?_
  | refine ifDF (by with_reducible_and_instances first | omega | (simp only [List.length_cons, List.length_nil]; omega)) ?_
  | fail "stuck")
def dg (n : Nat) : List Nat := if h : n = 0 then [] else dg (n / 256) ++ [n % 256]
termination_by n
decreasing_by omega
theorem dg0 : dg 0 = [] := by rw [dg]; rfl
theorem dgp {n : Nat} (h : n ≠ 0) : dg n = dg (n / 256) ++ [n % 256] := by rw [dg, dif_neg h]
theorem dg_len : ∀ (k n : Nat), n < 256 ^ k → (dg n).length ≤ k
  | 0, n, h => by
    have : n = 0 := by simpa using h
    subst this; rw [dg0]; simp
  | k + 1, n, h => by
    by_cases e : n = 0
    · subst e; rw [dg0]; simp
    · rw [dgp e, List.length_append, List.length_singleton]
      have := dg_len k (n / 256) (by rw [Nat.pow_succ] at h; omega)
      omega
def nsD (l : List Nat) : List D := l.map fun n => .int (n : Nat)
def nc (n : Nat) : List Nat := (dg n).length :: dg n
theorem sqR {p : Addr} {l : List D} {G : GH} (e : G p = some (.lst l)) : sqOf G (.ref p) = some l := by
  unfold sqOf
  dsimp only
  rw [e]
end K06
namespace K06
open PySem L2 Dl
local macro_rules | `(tactic| walk_at "ds") => `(tactic| repeat' with_reducible first
  | refine iVar (by with_unfolding_all rfl) ?_
  | refine iCons ?_
  | refine iNil ?_
  | refine iC ?_
  | refine iOp ?_
  | refine iSeq ?_
  | refine iAsg ?_
  | refine iGNm ?_
  | refine iFrz ?_
  | refine iTst ?_
  | refine iIfS ?_
  | refine iRet ?_
  | refine iCall ?_
  | refine iLst ?_
  | refine iNext ?_
  | refine lstP_i (by assumption) ?_
  | refine lstP_i updG_same ?_
  | refine iDrop ?_
  | refine lenOk (by with_unfolding_all rfl) ?_
  | refine frzEnd ?_
  | refine iTru ?_
  | refine truB ?_
  | refine ifDT (by decide) ?_
  | refine ifDF (by decide) ?_
  | refine iIf ?_
  | refine ifT ?_
  | refine ifF ?_
  | refine iMt ?_
  | refine iStar ?_
  | refine iIsi ?_
  | refine iFor ?_
  | refine iISq ?_
  | refine rIx_i (by with_unfolding_all rfl) (by with_unfolding_all rfl) ?_
  | refine rIx_i (by with_unfolding_all rfl) atI_0 ?_
  | refine add_ii ?_
  | refine int0 ?_
  | refine isi_T (by with_unfolding_all rfl) (by decide +kernel) ?_
  | refine isi_F (by with_unfolding_all rfl) (by decide +kernel) ?_
  | refine ifDT (by with_reducible_and_instances first | omega | (simp only [List.length_cons, List.length_nil]; omega)) ?_
  | refine ifDF (by with_reducible_and_instances first | omega | (simp only [List.length_cons, List.length_nil]; omega)) ?_
  | fail "stuck")
inductive Sn where
  | tick
  | more
  | fin
  | num (w : Bool) (n : Nat)
  | side (r : Bool) (s : Sn)
def numS (w : Bool) : Str := if w = true then "way" else "many"
def sidS (r : Bool) : Str := if r = true then "right" else "left"
def snD : Sn → D
  | .tick => .str "tick"
  | .more => .str "more"
  | .fin => .str "end"
  | .num w n => .tup [.str (numS w), .int (n : Nat)]
  | .side r s => .tup [.str (sidS r), snD s]
def cod : Sn → List Nat
  | .tick => [0]
  | .more => [1]
  | .fin => [2]
  | .num w n => (3 + w.toNat) :: nc n
  | .side r s => (5 + r.toNat) :: cod s
def sds : Sn → Nat
  | .side _ s => sds s + 1
  | _ => 0
def okN : Sn → Prop
  | .num _ n => n < 256 ^ 200
  | .side _ s => okN s
  | _ => True
theorem clean_sn : ∀ s : Sn, cleanD (snD s) = true
  | .tick => by decide +kernel
  | .more => by decide +kernel
  | .fin => by decide +kernel
  | .num w n => by have : cleanS (numS w) = true := by cases w <;> decide +kernel
                   simp [snD, cleanD, cleanDs, this]
  | .side r s => by have : cleanS (sidS r) = true := by cases r <;> decide +kernel
                    simp [snD, cleanD, cleanDs, clean_sn s, this]
theorem sided_sn : ∀ s : Sn, K18.sidedB (snD s) = (match s with | .side _ _ => true | _ => false)
  | .tick => rfl
  | .more => rfl
  | .fin => rfl
  | .num true n => by simp only [snD, numS, K18.sidedB]; decide +kernel
  | .num false n => by simp only [snD, numS, K18.sidedB]; decide +kernel
  | .side true s => by simp only [snD, sidS, K18.sidedB]; decide +kernel
  | .side false s => by simp only [snD, sidS, K18.sidedB]; decide +kernel
def cods (l : List Sn) : List Nat := l.flatMap cod
end K06
namespace K06
open PySem L2 Dl
local macro_rules | `(tactic| walk_at "ds") => `(tactic| repeat' with_reducible first
  | refine iVar (by with_unfolding_all rfl) ?_
  | refine iCons ?_
  | refine iNil ?_
  | refine iC ?_
  | refine iAsg ?_
  | refine iGNm ?_
  | refine iRet ?_
  | refine iCall ?_
  | refine iLst ?_
  | refine iXPa ?_
  | refine iXPs ?_
  | refine iXSeq ?_
  | refine iXDrop ?_
  | refine iXCall ?_
  | refine iNeg ?_
  | refine lstP_i (by assumption) ?_
  | refine lstP_i updG_same ?_
  | refine iDrop ?_
  | refine lenOk (by with_unfolding_all rfl) ?_
  | refine iCB ?_
  | refine iMt ?_
  | refine iISq ?_
  | fail "stuck")
def GoodRow (l : List Sn) : Prop := (∀ s ∈ l, okN s ∧ sds s ≤ 29) ∧ (cods l).length ≤ 230
structure SgOk (s : Sn) (a used : Nat) : Prop where
  mg : mgD (snD s) = true
  dp : depD (snD s) + a ≤ 30
  wt : wgD (snD s) + 1 ≤ 16 * used
theorem p256 (m : Nat) : (256 : Nat) ^ m = 2 ^ (8 * m) := by rw [Nat.pow_mul]
theorem log_le {n m : Nat} (h : n < 256 ^ m) : n.log2 ≤ 8 * m := by
  by_cases e : n = 0
  · subst e; simp [Nat.log2_zero]
  · have := (Nat.log2_lt e).mpr (by rw [p256] at h; exact h)
    omega
theorem len_num (w : Bool) : (numS w).length ≤ 4 ∧ PyData.strOk (numS w) = true := by cases w <;> decide +kernel
theorem len_sid (w : Bool) : (sidS w).length ≤ 5 ∧ PyData.strOk (sidS w) = true := by cases w <;> decide +kernel
structure RowOk (t : List Sn) (used : Nat) : Prop where
  mg : mgDs (t.map snD) = true
  dp : depDs (t.map snD) ≤ 30
  wt : wgDs (t.map snD) ≤ 16 * used
end K06
namespace K06
open PySem L2 Dl
local macro_rules | `(tactic| walk_at "ds") => `(tactic| repeat' with_reducible first
  | refine iVar (by with_unfolding_all rfl) ?_
  | refine iCons ?_
  | refine iNil ?_
  | refine iC ?_
  | refine iOp ?_
  | refine iSeq ?_
  | refine iAsg ?_
  | refine iGNm ?_
  | refine iTst ?_
  | refine iRet ?_
  | refine iXPe ?_
  | refine iXPa ?_
  | refine iXPs ?_
  | refine iXSeq ?_
  | refine iXDrop ?_
  | refine iXAsg ?_
  | refine iXOp ?_
  | refine iXCall ?_
  | refine iAndVK ?_
  | refine andVDT (by decide) ?_
  | refine andVDF (by decide) ?_
  | refine ifDT (by decide) ?_
  | refine ifDF (by decide) ?_
  | refine iIf ?_
  | refine iCB ?_
  | refine eq_ii ?_
  | refine add_ii ?_
  | refine int0 ?_
  | refine iIRg1 ?_
  | refine andVDT (by with_reducible_and_instances first | omega | (simp only [List.length_cons, List.length_nil]; omega)) ?_
  | refine andVDF (by with_reducible_and_instances first | omega | (simp only [List.length_cons, List.length_nil]; omega)) ?_
  | refine ifDT (by with_reducible_and_instances first | omega | (simp only [List.length_cons, List.length_nil]; omega)) ?_
  | refine ifDF (by with_reducible_and_instances first | omega | (simp only [List.length_cons, List.length_nil]; omega)) ?_
  | refine iFld ?_
  | refine fld_i (by assumption) (by with_unfolding_all rfl) ?_
  | refine fld_i updG_same (by with_unfolding_all rfl) ?_
  | refine iGFld ?_
  | refine gfld_i (by assumption) (by decide) ?_
  | refine gfld_i updG_same (by decide) ?_
  | refine iMeth ?_
  | refine pmeth_i (by assumption) (by with_unfolding_all rfl) ?_
  | refine pmeth_i updG_same (by with_unfolding_all rfl) ?_
  | fail "stuck")
theorem KeepX.of {a : Addr} {G G' : GH} (h : Grow G G') : K03.KeepX a G G' := fun b o _ e => h b o e
end K06
namespace K06
open PySem L2 Dl
local macro_rules | `(tactic| walk_at "ds") => `(tactic| repeat' with_reducible first
  | refine iVar (by with_unfolding_all rfl) ?_
  | refine iCons ?_
  | refine iNil ?_
  | refine iC ?_
  | refine iOp ?_
  | refine iAsg ?_
  | refine iGNm ?_
  | refine iTup ?_
  | refine iFrz ?_
  | refine iTst ?_
  | refine iRet ?_
  | refine iLst ?_
  | refine iXPe ?_
  | refine iXPa ?_
  | refine iXPt ?_
  | refine iXPs ?_
  | refine iXSeq ?_
  | refine iXDrop ?_
  | refine iXIfS ?_
  | refine iXAsg ?_
  | refine iXCons ?_
  | refine iXTup ?_
  | refine iXCall ?_
  | refine iNeg ?_
  | refine lstP_i (by assumption) ?_
  | refine lstP_i updG_same ?_
  | refine iRev ?_
  | refine iDrop ?_
  | refine lenOk (by with_unfolding_all rfl) ?_
  | refine iTru ?_
  | refine truB ?_
  | refine ifDT (by decide) ?_
  | refine ifDF (by decide) ?_
  | refine iIf ?_
  | refine iCB ?_
  | refine iMt ?_
  | refine iIsi ?_
  | refine iISq ?_
  | refine rIx_i (by with_unfolding_all rfl) (by with_unfolding_all rfl) ?_
  | refine rIx_i (by with_unfolding_all rfl) atI_0 ?_
  | refine int0 ?_
  | refine isi_T (by with_unfolding_all rfl) (by decide +kernel) ?_
  | refine isi_F (by with_unfolding_all rfl) (by decide +kernel) ?_
  | refine ifDT (by with_reducible_and_instances first | omega | (simp only [List.length_cons, List.length_nil]; omega)) ?_
  | refine ifDF (by with_reducible_and_instances first | omega | (simp only [List.length_cons, List.length_nil]; omega)) ?_
  | refine iMeth ?_
  | refine pmeth_i (by assumption) (by with_unfolding_all rfl) ?_
  | refine pmeth_i updG_same (by with_unfolding_all rfl) ?_
  | refine iMake ?_
  | fail "stuck")
theorem KeepX.upd2 {a p : Addr} {G G' : GH} {o : DO} (hp : G p = none) (h : K03.KeepX a G G') : K03.KeepX a G (updG G' p o) := fun b u n e => by
  rw [updG_ne (by rintro rfl; rw [hp] at e; cases e)]
  exact h b u n e
end K06
namespace K06
open PySem L2 Dl
local macro_rules | `(tactic| walk_at "ds") => `(tactic| repeat' with_reducible first
  | refine iVar (by with_unfolding_all rfl) ?_
  | refine iCons ?_
  | refine iNil ?_
  | refine iC ?_
  | refine iOp ?_
  | refine iSeq ?_
  | refine iAsg ?_
  | refine iGNm ?_
  | refine iTup ?_
  | refine iFrz ?_
  | refine iTst ?_
  | refine iIfS ?_
  | refine iRet ?_
  | refine iLst ?_
  | refine iNext ?_
  | refine iPar3 ?_
  | refine lstP_i (by assumption) ?_
  | refine lstP_i updG_same ?_
  | refine isN_T ?_
  | refine isN_F (by with_unfolding_all rfl) ?_
  | refine iDrop ?_
  | refine iPar ?_
  | refine lenOk (by with_unfolding_all rfl) ?_
  | refine frzEnd ?_
  | refine iAnd ?_
  | refine iOr ?_
  | refine ifDT (by decide) ?_
  | refine ifDF (by decide) ?_
  | refine iIf ?_
  | refine ifT ?_
  | refine ifF ?_
  | refine iCB ?_
  | refine iMt ?_
  | refine iFor ?_
  | refine rIx_i (by with_unfolding_all rfl) (by with_unfolding_all rfl) ?_
  | refine rIx_i (by with_unfolding_all rfl) atI_0 ?_
  | refine eq_ii ?_
  | refine add_ii ?_
  | refine int0 ?_
  | refine len_l ?_
  | refine iIRg1 ?_
  | refine ifDT (by with_reducible_and_instances first | omega | (simp only [List.length_cons, List.length_nil]; omega)) ?_
  | refine ifDF (by with_reducible_and_instances first | omega | (simp only [List.length_cons, List.length_nil]; omega)) ?_
  | fail "stuck")
end K06
namespace K06
open PySem L2 Dl
local macro_rules | `(tactic| walk_at "ds") => `(tactic| repeat' with_reducible first
  | refine iVar (by with_unfolding_all rfl) ?_
  | refine iCons ?_
  | refine iNil ?_
  | refine iC ?_
  | refine iOp ?_
  | refine iSeq ?_
  | refine iAsg ?_
  | refine iGNm ?_
  | refine iTup ?_
  | refine iFrz ?_
  | refine iTst ?_
  | refine iIfS ?_
  | refine iRet ?_
  | refine iCall ?_
  | refine iNext ?_
  | refine iXPa ?_
  | refine iXCall ?_
  | refine lenOk (by with_unfolding_all rfl) ?_
  | refine frzEnd ?_
  | refine iTru ?_
  | refine truB ?_
  | refine iOr ?_
  | refine iNot ?_
  | refine iIf ?_
  | refine ifF ?_
  | refine iCB ?_
  | refine iP ?_
  | refine iNoP ?_
  | refine iFor ?_
  | refine eq_strT ?_
  | refine ne_strT ?_
  | refine eq_ii ?_
  | refine add_ii ?_
  | refine min2_ii ?_
  | refine iIRg1 ?_
  | refine ifNT ?_
  | fail "stuck")
theorem repr_s {x : D} {G : GH} {Q : DK} (e : Shw x) (h : Q (.str (shD x)) G) : rRepr [x] G Q := by
  show Shw (vw G x) ∧ Q (.str (shD (vw G x))) G
  rw [vw_of e.ok.1]; exact ⟨e, h⟩
end K06
namespace K06
open PySem L2 Dl
local macro_rules | `(tactic| walk_at "ds") => `(tactic| repeat' with_reducible first
  | refine iVar (by with_unfolding_all rfl) ?_
  | refine iCons ?_
  | refine iNil ?_
  | refine iC ?_
  | refine iOp ?_
  | refine iSeq ?_
  | refine iAsg ?_
  | refine iGNm ?_
  | refine iTup ?_
  | refine iFrz ?_
  | refine iRet ?_
  | refine iLst ?_
  | refine iNeg ?_
  | refine lstP_i (by assumption) ?_
  | refine lstP_i updG_same ?_
  | refine iDrop ?_
  | refine lenOk (by with_unfolding_all rfl) ?_
  | refine frzEnd ?_
  | refine iMt ?_
  | refine add_llb (by with_unfolding_all rfl) ?_
  | refine add_ttb (by with_unfolding_all rfl) ?_
  | fail "stuck")
def rp (k : Nat) (l : List Nat) : List Nat := (List.replicate k l).flatten
end K06
namespace K06
open PySem L2 Dl
local macro_rules | `(tactic| walk_at "ds") => `(tactic| repeat' with_reducible first
  | refine iVar (by with_unfolding_all rfl) ?_
  | refine iCons ?_
  | refine iNil ?_
  | refine iC ?_
  | refine iOp ?_
  | refine iSeq ?_
  | refine iAsg ?_
  | refine iGNm ?_
  | refine iTup ?_
  | refine iFrz ?_
  | refine iTst ?_
  | refine iIfS ?_
  | refine iRet ?_
  | refine iCall ?_
  | refine iLst ?_
  | refine iNext ?_
  | refine lstP_i (by assumption) ?_
  | refine lstP_i updG_same ?_
  | refine iDrop ?_
  | refine lenOk (by with_unfolding_all rfl) ?_
  | refine frzEnd ?_
  | refine iIf ?_
  | refine iCB ?_
  | refine iMt ?_
  | refine iSl ?_
  | refine iP ?_
  | refine iNoP ?_
  | refine iFor ?_
  | refine rIx_i (by with_unfolding_all rfl) (by with_unfolding_all rfl) ?_
  | refine rIx_i (by with_unfolding_all rfl) atI_0 ?_
  | refine eq_ii ?_
  | refine add_ii ?_
  | refine int0 ?_
  | refine tupC_l ?_
  | refine intC_i ?_
  | refine iIRg1 ?_
  | fail "stuck")
structure SmSg (m : Nat) (s : Sn) : Prop where
  ok : okN s
  sd : sds s ≤ m
  ln : (cod s).length ≤ 5 + m
  wt : wgD (snD s) ≤ 32 + 8 * m
theorem sm_num (w : Bool) {n m : Nat} (h : n ≤ 70000) : SmSg m (.num w n) := by
  have h3 : n < 256 ^ 3 := by have : (256 : Nat) ^ 3 = 16777216 := rfl; omega
  have h1 := dg_len 3 n h3
  have h2 := log_le h3
  have h4 := (len_num w).1
  refine ⟨Nat.lt_of_lt_of_le h3 (by decide +kernel), by simp [sds], ?_, ?_⟩
  · simp only [cod, nc, List.length_cons]; omega
  · simp only [snD, wgD, wgDs, Int.natAbs_natCast]; omega
theorem sm_tick (m : Nat) : SmSg m .tick := ⟨trivial, by simp [sds], by show 1 ≤ 5 + m; omega, by rw [show wgD (snD .tick) = 4 from by decide +kernel]; omega⟩
theorem sm_more (m : Nat) : SmSg m .more := ⟨trivial, by simp [sds], by show 1 ≤ 5 + m; omega, by rw [show wgD (snD .more) = 4 from by decide +kernel]; omega⟩
theorem sm_fin (m : Nat) : SmSg m .fin := ⟨trivial, by simp [sds], by show 1 ≤ 5 + m; omega, by rw [show wgD (snD .fin) = 3 from by decide +kernel]; omega⟩
theorem sm_side (r : Bool) {m : Nat} {s : Sn} (h : SmSg m s) : SmSg (m + 1) (.side r s) := by
  have h1 := h.sd
  have h2 := h.ln
  have h3 := h.wt
  have h4 := (len_sid r).1
  refine ⟨h.ok, by simp only [sds]; omega, ?_, ?_⟩
  · simp only [cod, List.length_cons]; omega
  · simp only [snD, wgD, wgDs]; omega
def spSg (n : Nat) : DSp := fun ds G Q _ => ∃ a m, ds = [.ref a, .int (m : Nat)] ∧ m < n ∧ m ≤ 3 ∧ K03.FeedOk G a ∧ ∀ s G', SmSg m s → K03.FeedOk G' a → K03.KeepX a G G' → Q (snD s) G'
theorem pick_num (l : List Nat) {r : Int} {G : GH} {Q : DK} (h0 : 0 ≤ r) (h1 : r < (l.length : Int)) (hl : ∀ x ∈ l, x ≤ 70000) (h : ∀ x : Nat, x ≤ 70000 → Q (.int (x : Nat)) G) : rIx (.lst (nsD l)) (.int r) G Q := by
  obtain ⟨j, rfl⟩ : ∃ j : Nat, r = (j : Nat) := ⟨r.toNat, by omega⟩
  have hj : j < l.length := by omega
  refine rIx_i (d := .int (l[j] : Nat)) rfl (Dl.atI_nat (by unfold nsD; rw [List.getElem?_map, List.getElem?_eq_getElem hj]; rfl)) ?_
  exact h _ (hl _ (List.getElem_mem hj))
theorem law_sign_rd {n : Nat} : ∀ ds G Q E, spSg (n + 1) ds G Q E → r_law_sign (spSg n) K03.spDraw { nx := fun _ G' => Q .non G', rt := Q } (startD 4 ds) G := by
  rintro ds G Q E ⟨a, m, rfl, hm, hm3, hf, hq⟩
  unfold r_law_sign
  have main : ∀ (M : Int) (r : Int) G1, (M = if 0 < m then 9 else 7) → 0 ≤ r → r < M → K03.FeedOk G1 a → K03.KeepX a G G1 →
      (dSeq (dIfS (dTst (dOp rLt (dVar 2) (dC (.int 4))))
  (dRet (dOp rIx (dFrz (dLst (dCons (dC (.str "tick")) (dCons (dC (.str "tick")) (dCons (dC (.str "more")) (dCons (dC (.str "end")) dNil)))))) (dVar 2)))
  dNext)
  (dSeq (dIfS (dTst (dOp rLt (dVar 2) (dC (.int 7))))
  (dSeq (dAsg (dOp rIx (dFrz (dLst (dCons (dC (.int 0)) (dCons (dC (.int 1)) (dCons (dC (.int 2)) (dCons (dC (.int 9)) (dCons (dC (.int 255)) (dCons (dC (.int 256)) (dCons (dC (.int 70000)) dNil))))))))) (dCall K03.spDraw (dCons (dVar 0) (dCons (dC (.int 7)) dNil)))) (gNm 3))
  (dRet (dTup (dCons (dOp rIx (dFrz (dLst (dCons (dC (.str "many")) (dCons (dC (.str "way")) dNil)))) (dOp rMod (dCB rIntC (dCons (dVar 2) dNil)) (dC (.int 2)))) (dCons (dVar 3) dNil)))))
  dNext)
  (dRet (dTup (dCons (dOp rIx (dFrz (dLst (dCons (dC (.str "left")) (dCons (dC (.str "right")) dNil)))) (dOp rSub (dVar 2) (dC (.int 7)))) (dCons (dCall (spSg n) (dCons (dVar 0) (dCons (dOp rSub (dVar 1) (dC (.int 1))) dNil))) dNil)))))) { nx := fun _ G' => Q .non G', rt := Q } [some (.ref a), some (.int (m : Nat)), some (.int r), none] G1 := by
    intro M r G1 hM h0 h1 f1 k1
    walk_at "ds"
    refine ifD (fun h4 => ?_) (fun h4 => ?_)
    · walk_at "ds"
      obtain rfl | rfl | rfl | rfl : r = 0 ∨ r = 1 ∨ r = 2 ∨ r = 3 := by omega
      · exact rIx_i (d := .str "tick") rfl rfl (hq .tick G1 (sm_tick m) f1 k1)
      · exact rIx_i (d := .str "tick") rfl rfl (hq .tick G1 (sm_tick m) f1 k1)
      · exact rIx_i (d := .str "more") rfl rfl (hq .more G1 (sm_more m) f1 k1)
      · exact rIx_i (d := .str "end") rfl rfl (hq .fin G1 (sm_fin m) f1 k1)
    · walk_at "ds"
      refine ifD (fun h7 => ?_) (fun h7 => ?_)
      · walk_at "ds"
        refine ⟨a, 7, rfl, by decide, by decide, f1, fun t G2 t0 t1 f2 k2 => ?_⟩
        refine pick_num [0, 1, 2, 9, 255, 256, 70000] t0 t1 (by decide) fun x hx => ?_
        walk_at "ds"
        refine int2 (by decide) ?_
        walk_at "ds"
        refine rIx_i (d := .str (numS (decide (r % 2 = 1)))) rfl ?_ ?_
        · obtain e | e : r % 2 = 0 ∨ r % 2 = 1 := by omega
          · rw [e]; rfl
          · rw [e]; rfl
        walk_at "ds"
        exact hq (.num (decide (r % 2 = 1)) x) G2 (sm_num _ hx) f2 (k1.trans k2)
      · walk_at "ds"
        refine rIx_i (d := .str (sidS (decide (r = 8)))) rfl ?_ ?_
        · obtain rfl | rfl : r = 7 ∨ r = 8 := by split at hM <;> omega
          · rfl
          · rfl
        walk_at "ds"
        have hm0 : 0 < m := by split at hM <;> omega
        refine ⟨a, m - 1, by rw [show ((m - 1 : Nat) : Int) = (m : Int) - 1 by omega], by omega, by omega, f1, fun s G2 hs f2 k2 => ?_⟩
        walk_at "ds"
        have := sm_side (decide (r = 8)) hs
        rw [show m - 1 + 1 = m by omega] at this
        exact hq _ G2 this f2 (k1.trans k2)
  walk_at "ds"
  refine ifD (fun h => ?_) (fun h => ?_)
  · walk_at "ds"
    refine ⟨a, 9, rfl, by decide, by decide, hf, fun r G1 r0 r1 f1 k1 => ?_⟩
    exact main 9 r G1 (by rw [if_pos (by omega)]) r0 r1 f1 k1
  · walk_at "ds"
    refine ⟨a, 7, rfl, by decide, by decide, hf, fun r G1 r0 r1 f1 k1 => ?_⟩
    exact main 7 r G1 (by rw [if_neg (by omega)]) r0 r1 f1 k1
def spSs : DSp := fun ds G Q _ => ∃ a, ds = [.ref a, .int 6] ∧ K03.FeedOk G a ∧ ∀ (l : List Sn) G', (∀ s ∈ l, SmSg 3 s) → l.length ≤ 6 → K03.FeedOk G' a → K03.KeepX a G G' → Q (.tup (l.map snD)) G'
theorem slR {a : Addr} {ds : List D} {lo hi : Option Int} {G : GH} {Q : DK} (e : G a = some (.lst ds)) (h : ∀ p, G p = none → Q (.ref p) (updG G p (.lst (cutD ds lo hi)))) : rSl (.ref a) lo hi G Q := by
  unfold rSl
  dsimp only
  rw [e]
  exact h
theorem feed_upd {a p : Addr} {G : GH} {o : DO} (h : K03.FeedOk G a) (hne : a ≠ p) : K03.FeedOk (updG G p o) a := by
  obtain ⟨c, x, y, z, e⟩ := h; exact ⟨c, x, y, z, by rw [updG_ne hne]; exact e⟩
theorem cut6 (l : List Sn) : ∃ l' : List Sn, cutD (l.map snD) none (some 6) = l'.map snD ∧ (∀ s ∈ l', s ∈ l) ∧ l'.length ≤ 6 := by
  refine ⟨l.take 6, ?_, fun s hs => List.mem_of_mem_take hs, by rw [List.length_take]; omega⟩
  unfold cutD HT.sIx
  rw [List.map_take, List.length_map]
  show ((l.map snD).take ((if (6 : Int) < 0 then ((6 : Int) + (l.length : Nat)).toNat else min (6 : Int).toNat l.length) - 0)) = _
  rw [if_neg (by decide)]
  by_cases h : l.length ≤ 6
  · rw [List.take_of_length_le (by rw [List.length_map]; show l.length ≤ min (6 : Int).toNat l.length - 0; have : (6 : Int).toNat = 6 := rfl; omega), List.take_of_length_le (by rw [List.length_map]; exact h)]
  · congr 1
    show min (6 : Int).toNat l.length - 0 = 6
    have : (6 : Int).toNat = 6 := rfl
    omega
theorem law_signs_rd {n : Nat} (hn : 4 ≤ n) : ∀ ds G Q E, spSs ds G Q E → r_law_signs K03.spDraw (spSg n) { nx := fun _ G' => Q .non G', rt := Q } (startD 4 ds) G := by
  rintro ds G Q E ⟨a, rfl, hf, hq⟩
  unfold r_law_signs
  have hz : (3000 : Nat) ≤ sizeLine := by decide
  walk_at "ds"
  intro p hp
  have hap : a ≠ p := hf.ne hp
  walk_at "ds"
  have f0 : K03.FeedOk (updG G p (.lst [])) a := feed_upd hf hap
  refine ⟨a, 7, rfl, by decide, by decide, f0, fun r G1 r0 r1 f1 k1 => ?_⟩
  walk_at "ds"
  refine ⟨by omega, by omega, ?_⟩
  have k01 : K03.KeepX a G G1 := (KeepX.of (Grow.upd hp)).trans k1
  refine dForGo_of (I := fun rest ρ G' => ∃ (l : List Sn) (x3 : Option D), (∀ s ∈ l, SmSg 3 s) ∧ l.length + 2 * rest.length ≤ 14 ∧ ρ = [some (.ref a), some (.int 6), some (.ref p), x3] ∧ G' p = some (.lst (l.map snD)) ∧ K03.FeedOk G' a ∧ K03.KeepX a G G') ?_ ?_ _ _ _
    ⟨[], none, fun s hs => (by cases hs), (by simp [rngD]; omega), rfl, k1 _ _ (Ne.symm hap) updG_same, f1, k01⟩
  · rintro ρ G2 ⟨l, x3, hl, hlen, rfl, e2, f2, k2⟩
    refine ⟨trivial, ?_⟩
    walk_at "ds"
    refine slR e2 ?_
    obtain ⟨l', e', hm', hl'⟩ := cut6 l
    rw [e']
    refine frzEnd ?_
    walk_at "ds"
    exact hq l' _ (fun s hs => hl s (hm' s hs)) hl' f2 k2
  · rintro y rest ρ G2 ⟨l, x3, hl, hlen, rfl, e2, f2, k2⟩ K hK
    refine ⟨trivial, ?_⟩
    rw [List.length_cons] at hlen
    walk_at "ds"
    refine ⟨a, 3, rfl, by omega, by omega, f2, fun s G3 hs f3 k3 => ?_⟩
    have e3 := k3 _ _ (Ne.symm hap) e2
    walk_at "ds"
    refine app_i e3 (by rw [List.length_map]; omega) ?_
    have el : l.map snD ++ [snD s] = (l ++ [s]).map snD := by simp
    rw [el]
    walk_at "ds"
    have f4 : K03.FeedOk (updG G3 p (.lst ((l ++ [s]).map snD))) a := feed_upd f3 hap
    have k4 : K03.KeepX a G (updG G3 p (.lst ((l ++ [s]).map snD))) := KeepX.upd2 hp (k2.trans k3)
    have hl4 : ∀ t ∈ l ++ [s], SmSg 3 t := by
      intro t ht
      rcases List.mem_append.mp ht with h | h
      · exact hl t h
      · rw [List.mem_singleton] at h; subst h; exact hs
    refine ⟨a, 4, rfl, by decide, by decide, f4, fun t G5 t0 t1 f5 k5 => ?_⟩
    have e5 := k5 _ _ (Ne.symm hap) updG_same
    walk_at "ds"
    refine ifD (fun h => ?_) (fun h => ?_)
    · walk_at "ds"
      refine len_r e5 ?_
      walk_at "ds"
      refine ⟨a, _, rfl, ?_, ?_, f5, fun u G6 u0 u1 f6 k6 => ?_⟩
      · simp; try omega
      · simp; try omega
      have e6 := k6 _ _ (Ne.symm hap) e5
      obtain ⟨j, rfl⟩ : ∃ j : Nat, u = (j : Nat) := ⟨u.toNat, by omega⟩
      have hj : j < (l ++ [s]).length := by rw [List.length_map] at u1; omega
      walk_at "ds"
      refine rIx_r (d := snD (l ++ [s])[j]) e6 (Dl.atI_nat (by rw [List.getElem?_map, List.getElem?_eq_getElem hj]; rfl)) ?_
      walk_at "ds"
      refine app_i e6 (by rw [List.length_map, List.length_append, List.length_singleton]; omega) ?_
      walk_at "ds"
      refine hK _ _ ⟨(l ++ [s]) ++ [(l ++ [s])[j]], _, ?_, by simp only [List.length_append, List.length_singleton]; omega, rfl, by rw [updG_same]; simp, feed_upd f6 hap, KeepX.upd2 hp ((k4.trans k5).trans k6)⟩
      intro t ht
      rcases List.mem_append.mp ht with h | h
      · exact hl4 t h
      · rw [List.mem_singleton] at h; subst h; exact hl4 _ (List.getElem_mem hj)
    · walk_at "ds"
      exact hK _ _ ⟨l ++ [s], _, hl4, by simp only [List.length_append, List.length_singleton]; omega, rfl, e5, f5, k4.trans k5⟩
end K06
namespace K06
open PySem L2 Dl
local macro_rules | `(tactic| walk_at "ds") => `(tactic| repeat' with_reducible first
  | refine iVar (by with_unfolding_all rfl) ?_
  | refine iCons ?_
  | refine iNil ?_
  | refine iC ?_
  | refine iOp ?_
  | refine iSeq ?_
  | refine iAsg ?_
  | refine iGNm ?_
  | refine iTup ?_
  | refine iFrz ?_
  | refine iTst ?_
  | refine iIfS ?_
  | refine iRet ?_
  | refine iCall ?_
  | refine iLst ?_
  | refine iNext ?_
  | refine iXPa ?_
  | refine iXCall ?_
  | refine iPar3 ?_
  | refine iNeg ?_
  | refine lstP_i (by assumption) ?_
  | refine lstP_i updG_same ?_
  | refine iDrop ?_
  | refine lenOk (by with_unfolding_all rfl) ?_
  | refine frzEnd ?_
  | refine iTru ?_
  | refine truB ?_
  | refine iOr ?_
  | refine iNot ?_
  | refine iAndVK ?_
  | refine andVT ?_
  | refine ifF ?_
  | refine iCB ?_
  | refine iMt ?_
  | refine iFor ?_
  | refine iISq ?_
  | refine ne_strT ?_
  | refine int0 ?_
  | refine iIRg1 ?_
  | refine add_ttb (by with_unfolding_all rfl) ?_
  | refine ifNT ?_
  | fail "stuck")
def rowD (l : List Sn) : D := .tup (l.map snD)
structure RwS (l : List Sn) : Prop where
  g : GoodRow l
  w : wgD (rowD l) ≤ 1200
theorem lcNone {a : Addr} {i : Nat} {ds : List D} {ct : Dl.CT} {tt : DTT} {te : DTE} {ρ : DSt} {vs : List Nat} {G : GH} {Q : DK} (hv : sl ρ i = some (.ref a)) (e : G a = some (.lst ds))
    (hf : ∀ d ∈ ds, ∃ ρ2, bindC ct d (wipeD ρ vs) = some ρ2 ∧ ∀ (G2 : GH) (K : Bool → GH → Prop), Grow G G2 → (∀ G', Grow G2 G' → K false G') → tt ρ2 G2 K)
    (hq : ∀ G', Grow G G' → Q (.lst []) G') : dLc (iSq (dVar i)) ct tt te vs ρ G (frzK Q) := by
  refine iLc ?_
  refine iISq (iVar hv ?_)
  dsimp only
  rw [e]
  intro p hp
  have key : ∀ (rs : List D) (G' : GH), (∀ d ∈ rs, d ∈ ds) → Grow G G' → G' p = some (.lst []) → dLcGo (fun G => G a = some (.lst ds)) ct tt te (wipeD ρ vs) p rs G' (frzK Q) := by
    intro rs
    induction rs with
    | nil =>
      intro G' _ g ep
      unfold dLcGo
      exact ⟨g _ _ e, frzR ep (hq _ (Grow.drop hp g))⟩
    | cons d rs ih =>
      intro G' hm g ep
      obtain ⟨ρ2, e2, kt⟩ := hf d (hm d (List.mem_cons_self ..))
      unfold dLcGo
      refine ⟨g _ _ e, ?_⟩
      rw [e2]
      refine kt G' _ g fun G3 g3 => ?_
      refine ifF ?_
      exact ih G3 (fun x hx => hm x (List.mem_cons_of_mem _ hx)) (g.trans g3) (g3 _ _ ep)
  exact key ds _ (fun _ h => h) (Grow.upd hp) updG_same
end K06
namespace K05
open PySem L2 Dl K06
local macro_rules | `(tactic| walk_at "ds") => `(tactic| repeat' with_reducible first
  | refine iVar (by with_unfolding_all rfl) ?_
  | refine iCons ?_
  | refine iNil ?_
  | refine iC ?_
  | refine iOp ?_
  | refine iSeq ?_
  | refine iAsg ?_
  | refine iGNm ?_
  | refine iTup ?_
  | refine iFrz ?_
  | refine iTst ?_
  | refine iIfS ?_
  | refine iRet ?_
  | refine iCall ?_
  | refine iLst ?_
  | refine iNext ?_
  | refine lstP_i (by assumption) ?_
  | refine lstP_i updG_same ?_
  | refine iDrop ?_
  | refine lenOk (by with_unfolding_all rfl) ?_
  | refine frzEnd ?_
  | refine iTru ?_
  | refine truB ?_
  | refine ifDT (by decide) ?_
  | refine ifDF (by decide) ?_
  | refine iIf ?_
  | refine ifT ?_
  | refine ifF ?_
  | refine iCB ?_
  | refine iMt ?_
  | refine iStar ?_
  | refine iIsi ?_
  | refine rIx_i (by with_unfolding_all rfl) (by with_unfolding_all rfl) ?_
  | refine rIx_i (by with_unfolding_all rfl) atI_0 ?_
  | refine add_ii ?_
  | refine int0 ?_
  | refine len_t ?_
  | refine add_llb (by with_unfolding_all rfl) ?_
  | refine isi_T (by with_unfolding_all rfl) (by decide +kernel) ?_
  | refine isi_F (by with_unfolding_all rfl) (by decide +kernel) ?_
  | refine ifDT (by with_reducible_and_instances first | omega | (simp only [List.length_cons, List.length_nil]; omega)) ?_
  | refine ifDF (by with_reducible_and_instances first | omega | (simp only [List.length_cons, List.length_nil]; omega)) ?_
  | fail "stuck")
def rk : Sn → List Int
  | .tick => [0]
  | .more => [1]
  | .fin => [2]
  | .num w n => [3 + (w.toNat : Nat), (n : Nat)]
  | .side r s => (5 + (r.toNat : Nat)) :: rk s
theorem rk_inj : ∀ s t : Sn, rk s = rk t → s = t
  | .tick, t, h => by cases t <;> simp [rk] at h ⊢ <;> omega
  | .more, t, h => by cases t <;> simp [rk] at h ⊢ <;> omega
  | .fin, t, h => by cases t <;> simp [rk] at h ⊢ <;> omega
  | .num w n, t, h => by
    cases t with
    | num w' n' =>
      simp [rk] at h
      have : w = w' := by cases w <;> cases w' <;> simp at h ⊢
      have h2 : n = n' := by omega
      rw [this, h2]
    | side r s => simp [rk] at h; cases w <;> cases r <;> simp at h
    | _ => simp [rk] at h
  | .side r s, t, h => by
    cases t with
    | side r' s' =>
      simp [rk] at h
      have : r = r' := by cases r <;> cases r' <;> simp at h ⊢
      rw [this, rk_inj s s' h.2]
    | num w n => simp [rk] at h; cases w <;> cases r <;> simp at h
    | tick => simp [rk] at h; omega
    | more => simp [rk] at h; omega
    | fin => simp [rk] at h; omega
end K05
namespace K05
open PySem L2 Dl K06
local macro_rules | `(tactic| walk_at "ds") => `(tactic| repeat' with_reducible first
  | refine iVar (by with_unfolding_all rfl) ?_
  | refine iCons ?_
  | refine iNil ?_
  | refine iC ?_
  | refine iOp ?_
  | refine iFrz ?_
  | refine iRet ?_
  | refine iCall ?_
  | refine iXPa ?_
  | refine iXPs ?_
  | refine iXSeq ?_
  | refine iXDrop ?_
  | refine iXCall ?_
  | refine iNeg ?_
  | refine iCB ?_
  | refine iISq ?_
  | refine tupC_l ?_
  | fail "stuck")
structure RowOkS (l : List Sn) : Prop where
  sd : ∀ s ∈ l, sds s ≤ 7
  ln : l.length ≤ 1000
structure BadRow (x : D) : Prop where
  c : cleanD x = true
  l : ∀ l, x = .tup l → l.length ≤ sizeLine
  n : K18.isSgsB x = false
end K05
namespace K05
open PySem L2 Dl K06
local macro_rules | `(tactic| walk_at "ds") => `(tactic| repeat' with_reducible first
  | fail "stuck")
def ltS (s t : Sn) : Prop := lexI (rk s) (rk t) = true
instance (s t : Sn) : Decidable (ltS s t) := inferInstanceAs (Decidable (_ = true))
instance : DecidableEq Sn := fun s t => if h : rk s = rk t then .isTrue (rk_inj s t h) else .isFalse fun e => h (by rw [e])
end K05
namespace K05
open PySem L2 Dl K06
local macro_rules | `(tactic| walk_at "ds") => `(tactic| repeat' with_reducible first
  | fail "stuck")
theorem str_s : PyData.strOk ("tick" : Str) = true ∧ PyData.strOk ("more" : Str) = true ∧ PyData.strOk ("end" : Str) = true := by decide +kernel
theorem num_s (w : Bool) : PyData.strOk (numS w) = true := by cases w <;> decide +kernel
theorem sid_s (r : Bool) : PyData.strOk (sidS r) = true := by cases r <;> decide +kernel
theorem isK_sn : ∀ s : Sn, isK (snD s) = true
  | .tick => str_s.1
  | .more => str_s.2.1
  | .fin => str_s.2.2
  | .num w n => by simp only [snD, isK, isKs, num_s, Bool.and_true]
  | .side r s => by simp only [snD, isK, isKs, sid_s, isK_sn s, Bool.and_true]
theorem dep_sn : ∀ s : Sn, depD (snD s) ≤ sds s + 1
  | .tick => by simp [snD, depD]
  | .more => by simp [snD, depD]
  | .fin => by simp [snD, depD]
  | .num w n => by simp [snD, depD, depDs]
  | .side r s => by have := dep_sn s; simp only [snD, depD, depDs, sds]; omega
end K05
namespace K05
open PySem L2 Dl K06
local macro_rules | `(tactic| walk_at "ds") => `(tactic| repeat' with_reducible first
  | refine iVar (by with_unfolding_all rfl) ?_
  | refine iCons ?_
  | refine iNil ?_
  | refine iOp ?_
  | refine iSeq ?_
  | refine iAsg ?_
  | refine iGNm ?_
  | refine iTup ?_
  | refine iFrz ?_
  | refine iTst ?_
  | refine iIfS ?_
  | refine iRet ?_
  | refine iCall ?_
  | refine iNext ?_
  | refine lenOk (by with_unfolding_all rfl) ?_
  | refine frzEnd ?_
  | refine iCB ?_
  | refine iFor ?_
  | refine iISq ?_
  | refine rIx_i (by with_unfolding_all rfl) (by with_unfolding_all rfl) ?_
  | refine rIx_i (by with_unfolding_all rfl) atI_0 ?_
  | refine int0 ?_
  | refine len_t ?_
  | refine tupC_l ?_
  | refine min2_ii ?_
  | refine iIRg1 ?_
  | refine ifNT ?_
  | refine ifNF ?_
  | fail "stuck")
end K05
namespace K05
open PySem L2 Dl K06
local macro_rules | `(tactic| walk_at "ds") => `(tactic| repeat' with_reducible first
  | refine iVar (by with_unfolding_all rfl) ?_
  | refine iCons ?_
  | refine iNil ?_
  | refine iC ?_
  | refine iOp ?_
  | refine iSeq ?_
  | refine iAsg ?_
  | refine iGNm ?_
  | refine iFrz ?_
  | refine iTst ?_
  | refine iIfS ?_
  | refine iRet ?_
  | refine iCall ?_
  | refine iLst ?_
  | refine iNext ?_
  | refine iXPa ?_
  | refine iXPs ?_
  | refine iXSeq ?_
  | refine iXDrop ?_
  | refine iXCall ?_
  | refine iNeg ?_
  | refine lstP_i (by assumption) ?_
  | refine lstP_i updG_same ?_
  | refine iDrop ?_
  | refine lenOk (by with_unfolding_all rfl) ?_
  | refine frzEnd ?_
  | refine iCB ?_
  | refine iMt ?_
  | refine iFor ?_
  | refine iISq ?_
  | refine len_l ?_
  | refine ifNT ?_
  | refine ifNF ?_
  | fail "stuck")
end K05
namespace K05
open PySem L2 Dl K06
local macro_rules | `(tactic| walk_at "ds") => `(tactic| repeat' with_reducible first
  | refine iVar (by with_unfolding_all rfl) ?_
  | refine iCons ?_
  | refine iNil ?_
  | refine iC ?_
  | refine iOp ?_
  | refine iSeq ?_
  | refine iAsg ?_
  | refine iGNm ?_
  | refine iTup ?_
  | refine iFrz ?_
  | refine iTst ?_
  | refine iIfS ?_
  | refine iRet ?_
  | refine iCall ?_
  | refine iLst ?_
  | refine iNext ?_
  | refine iXPa ?_
  | refine iXCall ?_
  | refine iNeg ?_
  | refine lstP_i (by assumption) ?_
  | refine lstP_i updG_same ?_
  | refine iDrop ?_
  | refine lenOk (by with_unfolding_all rfl) ?_
  | refine frzEnd ?_
  | refine ifF ?_
  | refine iCB ?_
  | refine iMt ?_
  | refine iFor ?_
  | refine iISq ?_
  | refine ne_strT ?_
  | refine ifNT ?_
  | fail "stuck")
structure RwQ (l : List Sn) : Prop where
  sm : ∀ s ∈ l, SmSg 3 s
  ln : l.length ≤ 13
theorem reprA_s {x : D} {G : GH} {Q : DK} (e : ShwA x) (h : Q (.str (shD x)) G) : rReprA [x] G Q := by
  show ShwA (vw G x) ∧ Q (.str (shD (vw G x))) G
  rw [vw_of e.ok.1]; exact ⟨e, h⟩
end K05
namespace K05
open PySem L2 Dl K06
local macro_rules | `(tactic| walk_at "ds") => `(tactic| repeat' with_reducible first
  | refine iVar (by with_unfolding_all rfl) ?_
  | refine iCons ?_
  | refine iNil ?_
  | refine iC ?_
  | refine iOp ?_
  | refine iSeq ?_
  | refine iAsg ?_
  | refine iGNm ?_
  | refine iTup ?_
  | refine iFrz ?_
  | refine iTst ?_
  | refine iIfS ?_
  | refine iRet ?_
  | refine iCall ?_
  | refine iLst ?_
  | refine iNext ?_
  | refine lstP_i (by assumption) ?_
  | refine lstP_i updG_same ?_
  | refine iCallG ?_
  | refine iDrop ?_
  | refine iPar ?_
  | refine lenOk (by with_unfolding_all rfl) ?_
  | refine frzEnd ?_
  | refine slT ?_
  | refine iTru ?_
  | refine truB ?_
  | refine iOr ?_
  | refine iNot ?_
  | refine iAndVK ?_
  | refine andVT ?_
  | refine iNotV ?_
  | refine ifF ?_
  | refine iCB ?_
  | refine iMt ?_
  | refine iSl ?_
  | refine iP ?_
  | refine iNoP ?_
  | refine iFor ?_
  | refine ne_strT ?_
  | refine add_ii ?_
  | refine len_t ?_
  | refine tupC_l ?_
  | refine iIRg1 ?_
  | refine add_ttb (by with_unfolding_all rfl) ?_
  | refine ifNT ?_
  | refine ifNF ?_
  | fail "stuck")
theorem ext_as {a : Addr} {l l' m : List D} {d : D} {G : GH} {Q : DK} (e : G a = some (.lst l)) (e2 : sqOf G d = some m) (z : l.length + m.length ≤ sizeLine) (el : l ++ m = l') (h : Q .non (updG G a (.lst l'))) : mExtend (.ref a) [d] G Q := by
  subst el; exact ext_i e e2 z h
theorem tb_keep {T a : Addr} {q : Str} {G G' : GH} (h : G T = some (.tab q)) (f : K03.FeedOk G a) (k : K03.KeepX a G G') : G' T = some (.tab q) := by
  obtain ⟨_, _, _, _, e⟩ := f
  refine k _ _ ?_ h
  rintro rfl; rw [h] at e; cases e
theorem tb_upd {T p : Addr} {q : Str} {G : GH} {l : List D} {o : DO} (h : G T = some (.tab q)) (e : G p = some (.lst l)) : (updG G p o) T = some (.tab q) := by
  rw [updG_ne]; · exact h
  · rintro rfl; rw [h] at e; cases e
end K05
namespace K08
open PySem L2 Dl K06 K05
local macro_rules | `(tactic| walk_at "ds") => `(tactic| repeat' with_reducible first
  | refine iVar (by with_unfolding_all rfl) ?_
  | refine iCons ?_
  | refine iNil ?_
  | refine iC ?_
  | refine iOp ?_
  | refine iSeq ?_
  | refine iFrz ?_
  | refine iTst ?_
  | refine iIfS ?_
  | refine iRet ?_
  | refine iLst ?_
  | refine iNext ?_
  | refine lenOk (by with_unfolding_all rfl) ?_
  | refine frzEnd ?_
  | refine iTru ?_
  | refine truB ?_
  | refine iAnd ?_
  | refine iOr ?_
  | refine iNot ?_
  | refine iIf ?_
  | refine ifT ?_
  | refine ifF ?_
  | refine iCB ?_
  | refine int0 ?_
  | refine ifNT ?_
  | refine ifNF ?_
  | fail "stuck")
def isDg (c : Nat) : Bool := decide (48 ≤ c) && decide (c ≤ 57)
theorem dig_in (c : Nat) : decide (c ∈ (Str.ofString "0123456789").cps.toList) = isDg c := by
  rw [show (Str.ofString "0123456789").cps.toList = [48, 49, 50, 51, 52, 53, 54, 55, 56, 57] from by decide +kernel]
  unfold isDg
  by_cases h : 48 ≤ c ∧ c ≤ 57
  · rw [decide_eq_true (show 48 ≤ c from h.1), decide_eq_true (show c ≤ 57 from h.2)]
    refine decide_eq_true ?_
    have : c = 48 ∨ c = 49 ∨ c = 50 ∨ c = 51 ∨ c = 52 ∨ c = 53 ∨ c = 54 ∨ c = 55 ∨ c = 56 ∨ c = 57 := by omega
    simpa using this
  · have e : (decide (48 ≤ c) && decide (c ≤ 57)) = false := by
      by_cases h1 : 48 ≤ c
      · rw [decide_eq_false (show ¬ c ≤ 57 from fun z => h ⟨h1, z⟩), Bool.and_false]
      · rw [decide_eq_false h1, Bool.false_and]
    rw [e]
    refine decide_eq_false fun z => h ?_
    simp only [List.mem_cons, List.not_mem_nil, or_false] at z
    omega
structure NumW (w : Str) : Prop where
  n1 : 1 ≤ w.length
  n2 : w.length ≤ 60
  dg : w.cps.toList.all isDg = true
  hd : ¬ (1 < w.length ∧ w.cps.toList.head? = some 48)
noncomputable def numD (w : Str) : D := open Classical in if NumW w then .int ((NumText.digitsVal w.cps.toList : Nat) : Int) else .non
theorem numD_ok {w : Str} (h : NumW w) : numD w = .int ((NumText.digitsVal w.cps.toList : Nat) : Int) := by unfold numD; rw [if_pos h]
theorem numD_no {w : Str} (h : ¬ NumW w) : numD w = .non := by unfold numD; rw [if_neg h]
theorem num_int {w : Str} (h1 : 1 ≤ w.length) (h2 : w.length ≤ 60) (h : w.cps.toList.all isDg = true) : PySem.intText? w = some ((NumText.digitsVal w.cps.toList : Nat) : Int) := by
  refine PySem.intText_digits (fun c hc => ?_) (fun z => ?_) (by omega)
  · have := List.all_eq_true.mp h c hc
    unfold isDg at this
    rw [Bool.and_eq_true, decide_eq_true_eq, decide_eq_true_eq] at this
    exact this
  · have : w.length = 0 := by show w.cps.size = 0; rw [← Array.length_toList, z]; rfl
    omega
theorem bols_map {α : Type} (f : α → Bool) : ∀ l : List α, bolsD (l.map fun x => D.bl (f x)) = some (l.map f)
  | [] => rfl
  | x :: l => by simp only [List.map_cons, bolsD, bols_map f l] <;> rfl
theorem len_tl (w : Str) : w.cps.toList.length = w.length := Array.length_toList
def RNu : List D → D → Prop := fun ds d => ∃ w : Str, ds = [.str w] ∧ w.length ≤ 1000000 ∧ d = numD w
theorem number_or_none_rd : ∀ ds G Q E, pSp RNu ds G Q E → r_number_or_none { nx := fun _ G' => Q .non G', rt := Q } (startD 2 ds) G := by
  rintro ds G Q E ⟨d, ⟨w, rfl, hl, rfl⟩, hq⟩
  unfold r_number_or_none
  have hz : (1000000 : Nat) < sizeLine := by decide
  walk_at "ds"
  refine Dl.iChain ?_
  walk_at "ds"
  refine ⟨by omega, ?_⟩
  have no : ¬ NumW w → ∀ G', Grow G G' → Q .non G' := fun h G' g' => by have := hq G' g'; rw [numD_no h] at this; exact this
  by_cases h1 : 1 ≤ w.length
  rotate_left 1
  · refine Dl.int0 ?_
    rw [decide_eq_false (show ¬ (1 : Int) ≤ ((w.length : Nat) : Int) by omega)]
    walk_at "ds"
    exact no (fun h => h1 h.n1) _ (Grow.refl _)
  refine Dl.int0 ?_
  rw [decide_eq_true (show (1 : Int) ≤ ((w.length : Nat) : Int) by omega)]
  dsimp only
  rw [if_pos rfl]
  walk_at "ds"
  by_cases h2 : w.length ≤ 60
  rotate_left 1
  · rw [decide_eq_false (show ¬ ((w.length : Nat) : Int) ≤ 60 by omega)]
    walk_at "ds"
    exact no (fun h => h2 h.n2) _ (Grow.refl _)
  rw [decide_eq_true (show ((w.length : Nat) : Int) ≤ 60 by omega)]
  walk_at "ds"
  refine lcF w.cps.toList sgnD (fun c => D.bl (isDg c)) ?_ (by rw [len_tl]; omega) ?_ ?_
  · intro P hP
    exact ⟨w, rfl, hP _ _ (fun _ => trivial) (Grow.refl _)⟩
  · intro c hc
    refine ⟨_, rfl, fun G2 K hK => ?_⟩
    walk_at "ds"
    refine ⟨c, _, rfl, rfl, ?_⟩
    rw [dig_in]
    exact hK _ (Grow.refl _)
  intro G1 g1
  walk_at "ds"
  refine allC_i (bols_map isDg _) ?_
  rw [List.all_map, show (id ∘ isDg) = isDg from rfl]
  by_cases h3 : w.cps.toList.all isDg = true
  rotate_left 1
  · rw [show w.cps.toList.all isDg = false from by simpa using h3]
    walk_at "ds"
    exact no (fun h => h3 h.dg) _ g1
  rw [h3]
  walk_at "ds"
  have hv := num_int h1 h2 h3
  obtain ⟨c, cs, ec⟩ : ∃ c cs, w.cps.toList = c :: cs := List.exists_cons_of_ne_nil fun z => by have := len_tl w; rw [z] at this; simp at this; omega
  have e0 : (Str.ofString "0").cps.toList = [48] := by decide +kernel
  have str_eq : ∀ a b : Str, a = b ↔ a.cps.toList = b.cps.toList := fun a b => ⟨fun e => by rw [e], fun e => by
    obtain ⟨a⟩ := a; obtain ⟨b⟩ := b; congr 1; exact Array.toList_inj.mp e⟩
  refine eq_ss ?_
  by_cases h4 : w = Str.ofString "0"
  · rw [decide_eq_true h4]
    walk_at "ds"
    refine ⟨_, hv, by omega, ?_⟩
    have := hq _ g1
    rw [numD_ok ⟨h1, h2, h3, fun z => by have := len_tl w; rw [h4, e0] at this; rw [h4] at z; simp at this; omega⟩] at this
    exact this
  rw [decide_eq_false h4]
  walk_at "ds"
  refine ixA_s (c := c) (by omega) (by rw [ec]; exact atI_0) ?_
  walk_at "ds"
  refine ne_ss ?_
  by_cases h5 : c = 48
  · subst h5
    rw [decide_eq_true (show (⟨#[48]⟩ : Str) = Str.ofString "0" from (str_eq _ _).mpr (by rw [e0]))]
    walk_at "ds"
    refine no (fun h => h.hd ⟨?_, by rw [ec]; rfl⟩) _ g1
    have hl := len_tl w
    rw [ec, List.length_cons] at hl
    cases cs with
    | nil => exact absurd ((str_eq _ _).mpr (by rw [ec, e0])) h4
    | cons d ds => rw [List.length_cons] at hl; omega
  · rw [decide_eq_false (show ¬ (⟨#[c]⟩ : Str) = Str.ofString "0" from fun z => h5 (by have := (str_eq _ _).mp z; rw [e0] at this; simpa using this))]
    walk_at "ds"
    refine ⟨_, hv, by omega, ?_⟩
    have := hq _ g1
    rw [numD_ok ⟨h1, h2, h3, fun z => h5 (by have := z.2; rw [ec] at this; simpa using this)⟩] at this
    exact this
def RNl : List D → D → Prop := fun ds d => ∃ w : Str, ds = [.str w] ∧ w.length ≤ 1000000 ∧ PyData.strOk w = true ∧ d = numD w
theorem law_numeral_rd : ∀ ds G Q E, pSp RNl ds G Q E → r_law_numeral { nx := fun _ G' => Q .non G', rt := Q } (startD 2 ds) G := by
  rintro ds G Q E ⟨d, ⟨w, rfl, hl, hok, rfl⟩, hq⟩
  unfold r_law_numeral
  have hz : (1000000 : Nat) < sizeLine := by decide
  walk_at "ds"
  refine Dl.iChain ?_
  walk_at "ds"
  refine ⟨by omega, ?_⟩
  have no : ¬ NumW w → ∀ G', Grow G G' → Q .non G' := fun h G' g' => by have := hq G' g'; rw [numD_no h] at this; exact this
  by_cases h1 : 1 ≤ w.length
  rotate_left 1
  · refine Dl.int0 ?_
    rw [decide_eq_false (show ¬ (0 : Int) < ((w.length : Nat) : Int) by omega)]
    walk_at "ds"
    exact no (fun h => h1 h.n1) _ (Grow.refl _)
  refine Dl.int0 ?_
  rw [decide_eq_true (show (0 : Int) < ((w.length : Nat) : Int) by omega)]
  dsimp only
  rw [if_pos rfl]
  walk_at "ds"
  by_cases h2 : w.length ≤ 60
  rotate_left 1
  · rw [decide_eq_false (show ¬ ((w.length : Nat) : Int) < 61 by omega)]
    walk_at "ds"
    exact no (fun h => h2 h.n2) _ (Grow.refl _)
  rw [decide_eq_true (show ((w.length : Nat) : Int) < 61 by omega)]
  walk_at "ds"
  refine lcFt w.cps.toList sgnD sgnD (fun c => !isDg c) ?_ (by rw [len_tl]; omega) ?_ ?_
  · intro P hP
    exact ⟨w, rfl, hP _ _ (fun _ => trivial) (Grow.refl _)⟩
  · intro c hc
    refine ⟨_, rfl, fun G2 K hK => ?_, fun _ G2 K hK => ?_⟩
    · walk_at "ds"
      refine ⟨c, _, rfl, rfl, ?_⟩
      rw [dig_in]
      walk_at "ds"
      exact hK _ (Grow.refl _)
    · walk_at "ds"
      exact hK _ (Grow.refl _)
  intro G1 g1
  walk_at "ds"
  have hall : (w.cps.toList.filter fun c => !isDg c) = [] ↔ w.cps.toList.all isDg = true := by
    rw [List.filter_eq_nil_iff, List.all_eq_true]
    exact ⟨fun h c hc => by simpa using h c hc, fun h c hc => by simpa using h c hc⟩
  have hp : ∀ l : List Nat, (∀ c ∈ l, PyData.strOk ⟨#[c]⟩ = true) → okD (.lst (l.map sgnD)) := fun l hk => by
    constructor
    · rw [pureD]
      induction l with
      | nil => simp [pureDs]
      | cons x xs ih => simp [pureDs, sgnD, pureD, ih fun c hc => hk c (List.mem_cons_of_mem _ hc), hk x (List.mem_cons_self ..)]
    · rw [depD]
      have : ∀ l : List Nat, depDs (l.map sgnD) ≤ 1 := fun l => by
        induction l with
        | nil => simp [depDs]
        | cons x xs ih => simp [depDs, sgnD, depD]; omega
      have := this l
      omega
  have str_eq : ∀ a b : Str, a = b ↔ a.cps.toList = b.cps.toList := fun a b => ⟨fun e => by rw [e], fun e => by
    obtain ⟨a⟩ := a; obtain ⟨b⟩ := b; congr 1; exact Array.toList_inj.mp e⟩
  have hs : ∀ c ∈ w.cps.toList, PyData.strOk ⟨#[c]⟩ = true := fun c hc => by
    have h0 : w.cps.all (· < 0x110000) = true := hok
    rw [← Array.all_toList, List.all_eq_true] at h0
    have := h0 c hc
    simpa [PyData.strOk] using this
  refine ne_ll (hp _ fun c hc => hs c (List.mem_filter.mp hc).1) (hp [] fun _ h => nomatch h) ?_
  by_cases h3 : w.cps.toList.all isDg = true
  rotate_left 1
  · rw [show eqvD (.lst ((w.cps.toList.filter fun c => !isDg c).map sgnD)) (.lst []) = false from by
      cases e : (w.cps.toList.filter fun c => !isDg c) with
      | nil => exact absurd (hall.mp e) h3
      | cons => simp [eqvD, eqvDs]]
    walk_at "ds"
    exact no (fun h => h3 h.dg) _ g1
  rw [hall.mpr h3, show eqvD (.lst (([] : List Nat).map sgnD)) (.lst []) = true from by decide +kernel]
  walk_at "ds"
  have hv := num_int h1 h2 h3
  obtain ⟨c, cs, ec⟩ : ∃ c cs, w.cps.toList = c :: cs := List.exists_cons_of_ne_nil fun z => by have := len_tl w; rw [z] at this; simp at this; omega
  have e0 : (Str.ofString "0").cps.toList = [48] := by decide +kernel
  walk_at "ds"
  refine ⟨by omega, ?_⟩
  walk_at "ds"
  by_cases h4 : 1 < w.length
  rotate_left 1
  · rw [decide_eq_false (show ¬ (1 : Int) < ((w.length : Nat) : Int) by omega)]
    walk_at "ds"
    refine ⟨_, hv, by omega, ?_⟩
    have := hq _ g1
    rw [numD_ok ⟨h1, h2, h3, fun z => h4 z.1⟩] at this
    exact this
  rw [decide_eq_true (show (1 : Int) < ((w.length : Nat) : Int) by omega)]
  walk_at "ds"
  refine ixA_s (c := c) (by omega) (by rw [ec]; exact atI_0) ?_
  walk_at "ds"
  refine eq_ss ?_
  by_cases h5 : c = 48
  · subst h5
    rw [decide_eq_true (show (⟨#[48]⟩ : Str) = Str.ofString "0" from (str_eq _ _).mpr (by rw [e0]))]
    walk_at "ds"
    exact no (fun h => h.hd ⟨h4, by rw [ec]; rfl⟩) _ g1
  · rw [decide_eq_false (show ¬ (⟨#[c]⟩ : Str) = Str.ofString "0" from fun z => h5 (by have := (str_eq _ _).mp z; rw [e0] at this; simpa using this))]
    walk_at "ds"
    refine ⟨_, hv, by omega, ?_⟩
    have := hq _ g1
    rw [numD_ok ⟨h1, h2, h3, fun z => h5 (by have := z.2; rw [ec] at this; simpa using this)⟩] at this
    exact this
end K08
namespace K08
open PySem L2 Dl K06 K05
local macro_rules | `(tactic| walk_at "ds") => `(tactic| repeat' with_reducible first
  | refine iVar (by with_unfolding_all rfl) ?_
  | refine iCons ?_
  | refine iNil ?_
  | refine iC ?_
  | refine iOp ?_
  | refine iSeq ?_
  | refine iAsg ?_
  | refine iGNm ?_
  | refine iTup ?_
  | refine iFrz ?_
  | refine iTst ?_
  | refine iIfS ?_
  | refine iRet ?_
  | refine iLst ?_
  | refine iNext ?_
  | refine iXPe ?_
  | refine iXPa ?_
  | refine iXPt ?_
  | refine iXPs ?_
  | refine iXSeq ?_
  | refine iXRet ?_
  | refine iXIfS ?_
  | refine iXCons ?_
  | refine iXTup ?_
  | refine iXRaise ?_
  | refine iDSeqTry ?_
  | refine iIsX ?_
  | refine iExf ?_
  | refine iXAct (by with_unfolding_all rfl) ?_
  | refine lstP_i (by assumption) ?_
  | refine lstP_i updG_same ?_
  | refine isN_T ?_
  | refine isN_F (by with_unfolding_all rfl) ?_
  | refine iDrop ?_
  | refine lenOk (by with_unfolding_all rfl) ?_
  | refine frzEnd ?_
  | refine iTru ?_
  | refine truB ?_
  | refine iAnd ?_
  | refine iAndVK ?_
  | refine andVT ?_
  | refine iNotV ?_
  | refine iIf ?_
  | refine ifT ?_
  | refine ifF ?_
  | refine iCB ?_
  | refine iMt ?_
  | refine add_ii ?_
  | refine int0 ?_
  | refine len_l ?_
  | refine ifNF ?_
  | fail "stuck")
theorem is_sided_rd : ∀ ds G Q E, pSp (K18.R1 K18.sidedB) ds G Q E → r_is_sided { nx := fun _ G' => Q .non G', rt := Q } (startD 1 ds) G := K18.is_sided_rd
theorem law_draw_rd : ∀ ds G Q E, K03.spDraw ds G Q E → r_law_draw { nx := fun _ G' => Q .non G', rt := Q } (startD 6 ds) G := K03.law_draw_rd
theorem law_feed_rd : ∀ ds G Q E, K03.spFeed ds G Q E → r_law_feed { nx := fun _ G' => Q .non G', rt := Q } (startD 1 ds) G := K03.law_feed_rd
theorem law_sign_rd {n : Nat} : ∀ ds G Q E, spSg (n + 1) ds G Q E → r_law_sign (spSg n) K03.spDraw { nx := fun _ G' => Q .non G', rt := Q } (startD 4 ds) G := K06.law_sign_rd
theorem law_signs_rd {n : Nat} (hn : 4 ≤ n) : ∀ ds G Q E, spSs ds G Q E → r_law_signs K03.spDraw (spSg n) { nx := fun _ G' => Q .non G', rt := Q } (startD 4 ds) G := K06.law_signs_rd hn
def itA (line field : Int) : DX := ⟨"InvalidText", [("field", .int field), ("line", .int line)]⟩
def fdO (d : D) (l f : Int) : Except DX D := match d with
  | .non => .error (itA l f)
  | d => .ok d
def RFd : List D → Except DX D → Prop := fun ds o => ∃ d l f, ds = [d, .int l, .int f] ∧ o = fdO d l f
theorem found_or_refused_rd : ∀ ds G Q E, pSpX RFd ds G Q E → r_found_or_refused (fun x _ G' => E x G') { nx := fun _ G' => Q .non G', rt := Q } (startD 3 ds) G := by
  rintro ds G Q E ⟨o, ⟨d, l, f, rfl, rfl⟩, hq⟩
  unfold r_found_or_refused
  have e := hq G (Grow.refl G)
  by_cases hd : d = .non
  · subst hd
    walk_at "ds"
    exact ⟨rfl, e⟩
  · have e' : Q d G := by
      cases d <;> first | exact absurd rfl hd | exact e
    have hn : isNonD d = false := by
      cases d <;> first | exact absurd rfl hd | rfl
    walk_at "ds"
    refine isN_F hn ?_
    walk_at "ds"
    exact e'
def roO (n : Nat) (l f : Int) : Except DX D := if 1 < n then .error (itA l (f + 1)) else .ok .non
def RRo : List D → Except DX D → Prop := fun ds o => ∃ (x : List D) (l f : Int), ds = [.lst x, .int l, .int f] ∧ x.length ≤ 1000000 ∧ o = roO x.length l f
theorem require_one_rd : ∀ ds G Q E, pSpX RRo ds G Q E → r_require_one (fun x _ G' => E x G') { nx := fun _ G' => Q .non G', rt := Q } (startD 3 ds) G := by
  rintro ds G Q E ⟨o, ⟨x, l, f, rfl, hl, rfl⟩, hq⟩
  unfold r_require_one
  have hz : (1000000 : Nat) < sizeLine := by decide
  have e := hq G (Grow.refl G)
  unfold roO at e
  walk_at "ds"
  by_cases h : 1 < x.length
  · rw [if_pos h] at e
    rw [decide_eq_true (show (1 : Int) < ((x.length : Nat) : Int) by omega)]
    walk_at "ds"
    exact ⟨rfl, e⟩
  · rw [if_neg h] at e
    rw [decide_eq_false (show ¬ (1 : Int) < ((x.length : Nat) : Int) by omega)]
    walk_at "ds"
    exact e
theorem ct_text : (("InvalidText", ["InvalidText", "TextError", "BarError"], ["line", "field"]) : Str × List Str × List Str) ∈ CT := by decide +kernel
theorem heard_text {α : Dl.Act} {l f : Int} {G : GH} {Q : DK} (h : ∀ (E' : DXK) (Q' : DK), (∀ G', Grow G G' → E' (itA l f) G') → α.tl E' G Q') (hq : ∀ G', Grow G G' → Q (.tup [.str "text", .int l, .int f]) G') :
    r_law_heard α { nx := fun _ G' => Q .non G', rt := Q } [some α.d, none, none, none] G := by
  unfold r_law_heard
  walk_at "ds"
  refine h _ _ fun G1 g1 => ?_
  refine ⟨⟨_, _, ct_text, by decide +kernel⟩, fun a d => ?_⟩
  walk_at "ds"
  refine ⟨⟨_, _, rfl⟩, _, _, ct_text, by decide +kernel, ?_⟩
  walk_at "ds"
  refine ⟨⟨_, _, rfl⟩, _, _, ct_text, by decide +kernel, ?_⟩
  rw [show (["InvalidText", "TextError", "BarError"] : List Str).contains "PaperError" = false from by decide +kernel, show (["InvalidText", "TextError", "BarError"] : List Str).contains "WorkError" = false from by decide +kernel]
  walk_at "ds"
  intro p hp
  walk_at "ds"
  refine ⟨⟨_, _, rfl⟩, _, _, ct_text, by decide +kernel, ?_⟩
  walk_at "ds"
  refine ⟨⟨_, _, rfl⟩, _, _, ct_text, by decide +kernel, ?_⟩
  rw [show (["InvalidText", "TextError", "BarError"] : List Str).contains "LiveError" = false from by decide +kernel, show (["InvalidText", "TextError", "BarError"] : List Str).contains "TextError" = true from by decide +kernel]
  walk_at "ds"
  refine ext_i (m := [.bl false, .bl true]) updG_same rfl (by decide) ?_
  walk_at "ds"
  refine K03.eq_rl (l := [.bl false, .bl false, .bl false, .bl true]) updG_same (K03.ok_bls ..) (K03.ok_bls ..) ?_
  rw [show eqvD (.lst [.bl false, .bl false, .bl false, .bl true]) (.lst [.bl true, .bl false, .bl false, .bl false]) = false from by decide +kernel]
  walk_at "ds"
  refine K03.eq_rl (l := [.bl false, .bl false, .bl false, .bl true]) updG_same (K03.ok_bls ..) (K03.ok_bls ..) ?_
  rw [show eqvD (.lst [.bl false, .bl false, .bl false, .bl true]) (.lst [.bl false, .bl false, .bl false, .bl true]) = true from by decide +kernel]
  walk_at "ds"
  refine ⟨⟨_, _, rfl⟩, _, _, ct_text, by decide +kernel, ?_⟩
  rw [show (["InvalidText", "TextError", "BarError"] : List Str).contains "InvalidText" = true from by decide +kernel]
  walk_at "ds"
  refine ⟨⟨_, _, rfl⟩, _, _, ct_text, by decide +kernel, ?_⟩
  rw [show (["InvalidText", "TextError", "BarError"] : List Str).contains "InvalidRow" = false from by decide +kernel]
  walk_at "ds"
  refine ⟨_, _, _, rfl, ⟨_, _, ct_text, by simp⟩, rfl, ?_⟩
  walk_at "ds"
  refine ⟨_, _, _, rfl, ⟨_, _, ct_text, by simp⟩, rfl, ?_⟩
  walk_at "ds"
  refine hq _ ?_
  rw [updG_updG]
  exact g1.trans (Grow.upd hp)
theorem heard_told {α : Dl.Act} {x : D} {G : GH} {Q : DK} (h : ∀ (E' : DXK) (Q' : DK), (∀ G', Grow G G' → Q' x G') → α.tl E' G Q') (hq : ∀ G', Grow G G' → Q (.tup [.str "told", x]) G') :
    r_law_heard α { nx := fun _ G' => Q .non G', rt := Q } [some α.d, none, none, none] G := by
  unfold r_law_heard
  walk_at "ds"
  refine h _ _ fun G1 g1 => ?_
  walk_at "ds"
  exact hq _ g1
end K08
namespace K08
open PySem L2 Dl K06 K05
local macro_rules | `(tactic| walk_at "ds") => `(tactic| repeat' with_reducible first
  | refine iVar (by with_unfolding_all rfl) ?_
  | refine iCons ?_
  | refine iNil ?_
  | refine iC ?_
  | refine iOp ?_
  | refine iSeq ?_
  | refine iTup ?_
  | refine iTst ?_
  | refine iIfS ?_
  | refine iRet ?_
  | refine iCall ?_
  | refine iNext ?_
  | refine lenOk (by with_unfolding_all rfl) ?_
  | refine iTru ?_
  | refine truB ?_
  | refine iIf ?_
  | refine ifT ?_
  | refine ifF ?_
  | refine iCB ?_
  | refine iIsi ?_
  | refine inn_T (by with_unfolding_all rfl) (by decide +kernel) (by decide +kernel) (by decide +kernel) ?_
  | refine inn_F (by with_unfolding_all rfl) (by decide +kernel) (by decide +kernel) (by decide +kernel) ?_
  | refine isi_T (by with_unfolding_all rfl) (by decide +kernel) ?_
  | refine isi_F (by with_unfolding_all rfl) (by decide +kernel) ?_
  | fail "stuck")
def sgP : Sn → List Str
  | .tick => ["tick"]
  | .more => ["more"]
  | .fin => ["end"]
  | .num w n => [numS w, Str.ofString (toString ((n : Nat) : Int))]
  | .side r s => sidS r :: sgP s
def sgW (s : Sn) : Str := Str.join ":" (sgP s)
theorem sgP_ne : ∀ s : Sn, sgP s ≠ []
  | .tick | .more | .fin | .num _ _ | .side _ _ => List.cons_ne_nil _ _
theorem sgW_side (r : Bool) (s : Sn) : sgW (.side r s) = sidS r ++ ":" ++ sgW s := by
  unfold sgW
  rw [sgP]
  cases h : sgP s with
  | nil => exact absurd h (sgP_ne s)
  | cons x l => rfl
theorem sgW_num (w : Bool) (n : Nat) : sgW (.num w n) = numS w ++ ":" ++ Str.ofString (toString ((n : Nat) : Int)) := rfl
def nbN : Sn → Prop
  | .num _ n => n < 10 ^ 61
  | .side _ s => nbN s
  | _ => True
theorem app_ln (a b : Str) : (a ++ b).length = a.length + b.length := by
  have h := congrArg List.length (TL.tl_append a b)
  rw [List.length_append] at h
  have e : ∀ x : Str, (TL.tl x).length = x.length := len_tl
  rw [e, e, e] at h
  exact h
theorem num_ln {n k : Nat} (hk : 0 < k) (h : n < 10 ^ k) : (Str.ofString (toString ((n : Nat) : Int))).length ≤ k := by
  have e : ∀ x : Str, (TL.tl x).length = x.length := len_tl
  rw [← e, TL.tl_num]
  exact TL.numL_len hk h
theorem numS_ln (w : Bool) : (numS w).length ≤ 5 := by cases w <;> decide +kernel
theorem sidS_ln (r : Bool) : (sidS r).length ≤ 5 := by cases r <;> decide +kernel
theorem cln_ln : (":" : Str).length = 1 := by decide +kernel
theorem sgW_ln : ∀ s : Sn, nbN s → (sgW s).length ≤ 70 + 6 * sds s
  | .tick, _ => by have : (sgW .tick).length = 4 := by decide +kernel
                   omega
  | .more, _ => by have : (sgW .more).length = 4 := by decide +kernel
                   omega
  | .fin, _ => by have : (sgW .fin).length = 3 := by decide +kernel
                  omega
  | .num w n, h => by
    rw [sgW_num, app_ln, app_ln, cln_ln]
    have := num_ln (n := n) (k := 61) (by decide) h
    have := numS_ln w
    omega
  | .side r s, h => by
    rw [sgW_side, app_ln, app_ln, cln_ln]
    have := sgW_ln s h
    have := sidS_ln r
    rw [sds]
    omega
theorem log_nb {n : Nat} (h : n < 10 ^ 61) : ((n : Nat) : Int).natAbs.log2 < 1920 := by
  rw [Int.natAbs_natCast]
  by_cases h0 : n = 0
  · subst h0; decide
  · rw [Nat.log2_lt h0]
    exact Nat.lt_of_lt_of_le h (by decide +kernel)
def RSw (k : Nat) : List D → D → Prop := fun ds d => ∃ s : Sn, ds = [snD s] ∧ sds s < k ∧ k ≤ 201 ∧ nbN s ∧ d = .str (sgW s)
theorem law_sign_word_rd {k : Nat} : ∀ ds G Q E, pSp (RSw (k + 1)) ds G Q E → r_law_sign_word (pSp (RSw k)) { nx := fun _ G' => Q .non G', rt := Q } (startD 1 ds) G := by
  rintro ds G Q E ⟨_, ⟨s, rfl, hd, hk, hb, rfl⟩, hq⟩
  unfold r_law_sign_word
  have hz : (3000 : Nat) ≤ sizeLine := by decide
  have hl := sgW_ln s hb
  cases s with
  | side r u =>
    simp only [snD]
    walk_at "ds"
    refine ixA_t (d := .str (sidS r)) rfl ?_
    walk_at "ds"
    refine ⟨by rw [cln_ln]; have := sidS_ln r; omega, ?_⟩
    walk_at "ds"
    refine ixA_t (d := .str (sidS r)) rfl ?_
    walk_at "ds"
    refine inn_F rfl rfl rfl (by cases r <;> decide +kernel) ?_
    walk_at "ds"
    refine ixA_t (d := snD u) rfl ?_
    walk_at "ds"
    rw [sds] at hd hl
    refine ⟨_, ⟨u, rfl, by omega, by omega, hb, rfl⟩, fun G2 g2 => ?_⟩
    refine ⟨by rw [app_ln, cln_ln]; have := sidS_ln r; have := sgW_ln u hb; omega, ?_⟩
    have := hq _ g2
    rw [sgW_side] at this
    exact this
  | num w n =>
    simp only [snD]
    walk_at "ds"
    refine ixA_t (d := .str (numS w)) rfl ?_
    walk_at "ds"
    refine ⟨by rw [cln_ln]; have := numS_ln w; omega, ?_⟩
    walk_at "ds"
    refine ixA_t (d := .str (numS w)) rfl ?_
    walk_at "ds"
    refine inn_T rfl rfl rfl (by cases w <;> decide +kernel) ?_
    walk_at "ds"
    refine ixA_t (d := .int (n : Nat)) rfl ?_
    walk_at "ds"
    refine ⟨log_nb hb, ?_⟩
    refine ⟨by rw [app_ln, cln_ln]; have := numS_ln w; have := num_ln (n := n) (k := 61) (by decide) hb; omega, ?_⟩
    have := hq _ (Grow.refl G)
    rw [sgW_num] at this
    exact this
  | _ =>
    simp only [snD]
    walk_at "ds"
    exact hq _ (Grow.refl G)
end K08
namespace K08
open PySem L2 Dl K06 K05
local macro_rules | `(tactic| walk_at "ds") => `(tactic| repeat' with_reducible first
  | refine iVar (by with_unfolding_all rfl) ?_
  | refine iCons ?_
  | refine iNil ?_
  | refine iC ?_
  | refine iOp ?_
  | refine iSeq ?_
  | refine iAsg ?_
  | refine iGNm ?_
  | refine iFrz ?_
  | refine iIfS ?_
  | refine iRet ?_
  | refine iCall ?_
  | refine iLst ?_
  | refine iNext ?_
  | refine lstP_i (by assumption) ?_
  | refine lstP_i updG_same ?_
  | refine iDrop ?_
  | refine lenOk (by with_unfolding_all rfl) ?_
  | refine frzEnd ?_
  | refine iTru ?_
  | refine truB ?_
  | refine ifT ?_
  | refine ifF ?_
  | refine iMt ?_
  | refine iStar ?_
  | refine iIsi ?_
  | refine rIx_i (by with_unfolding_all rfl) (by with_unfolding_all rfl) ?_
  | refine rIx_i (by with_unfolding_all rfl) atI_0 ?_
  | refine isi_T (by with_unfolding_all rfl) (by decide +kernel) ?_
  | refine isi_F (by with_unfolding_all rfl) (by decide +kernel) ?_
  | fail "stuck")
theorem txt_join (a : Str) (ys : List Str) : Txt.join a ys = Str.join a ys := TL.join_eq a ys
theorem sgP_len : ∀ s : Sn, (sgP s).length ≤ 2 + sds s
  | .tick | .more | .fin | .num _ _ => by simp only [sgP, List.length_cons, List.length_nil]; omega
  | .side r s => by rw [sgP, sds, List.length_cons]; have := sgP_len s; omega
theorem sgP_sum : ∀ s : Sn, nbN s → ((sgP s).map (·.length)).sum ≤ 70 + 5 * sds s
  | .tick, _ | .more, _ | .fin, _ => by
    refine Nat.le_trans ?_ (Nat.le_add_right _ _)
    decide +kernel
  | .num w n, h => by
    have := num_ln (n := n) (k := 61) (by decide) h
    have := numS_ln w
    simp only [sgP, List.map_cons, List.map_nil, List.sum_cons, List.sum_nil]
    omega
  | .side r s, h => by
    rw [sgP, sds, List.map_cons, List.sum_cons]
    have := sgP_sum s h
    have := sidS_ln r
    omega
def RSt : List D → D → Prop := fun ds d => ∃ s : Sn, ds = [snD s] ∧ sds s ≤ 200 ∧ nbN s ∧ d = .str (sgW s)
theorem sign_text_rd : ∀ ds G Q E, pSp RSt ds G Q E → r_sign_text (pSp (K18.R1 K18.sidedB)) { nx := fun _ G' => Q .non G', rt := Q } (startD 3 ds) G := by
  rintro ds G Q E ⟨_, ⟨s, rfl, hd, hb, rfl⟩, hq⟩
  unfold r_sign_text
  have hl := sgP_len s
  have hm := sgP_sum s hb
  have hz : (3000 : Nat) ≤ sizeLine := by decide
  walk_at "ds"
  intro p hp
  walk_at "ds"
  have fin : ∀ G', Grow G G' → Q (.str (Txt.join ":" (sgP s))) G' := fun G' g => by rw [txt_join]; exact hq _ g
  refine dWhile_of (I := fun k ρ G1 => ∃ (u : Sn) (l : List Str), ρ = [some (snD s), some (.ref p), some (snD u)] ∧ G1 p = some (.lst (l.map D.str)) ∧ sgP s = l ++ sgP u ∧ sds u ≤ k ∧ nbN u ∧ Grow G G1) ?_ (sds s) _ _ ⟨s, [], rfl, by rw [updG_same]; rfl, by simp, Nat.le_refl _, hb, Grow.upd hp⟩
  rintro k ρ G1 ⟨u, l, rfl, e1, e2, hk, hbu, g1⟩ K hK
  have hlen : l.length + (sgP u).length ≤ 202 := by have := congrArg List.length e2; rw [List.length_append] at this; omega
  walk_at "ds"
  refine ⟨_, ⟨snD u, rfl, clean_sn u, rfl⟩, fun G2 g2 => ?_⟩
  have e3 := g2 _ _ e1
  have g3 := g1.trans g2
  rw [sided_sn]
  rw [e2] at hm hl
  cases u with
  | side r u =>
    refine truB ?_
    rw [if_pos rfl]
    simp only [snD]
    walk_at "ds"
    refine app_i e3 (by simp; omega) ?_
    walk_at "ds"
    rw [sds] at hk
    refine hK (k - 1) (by omega) _ _ ⟨u, l ++ [sidS r], rfl, ?_, ?_, by omega, hbu, Grow.upd2 hp g3⟩
    · rw [updG_same]; simp
    · rw [e2, sgP]; simp
  | num w n =>
    refine truB ?_
    rw [if_neg (by exact Bool.false_ne_true)]
    simp only [snD]
    walk_at "ds"
    unfold dJoin
    walk_at "ds"
    refine ⟨_, rfl, ?_⟩
    walk_at "ds"
    rw [sqR e3]
    dsimp only
    walk_at "ds"
    unfold dFmt
    walk_at "ds"
    refine ⟨log_nb hbu, ?_⟩
    refine ⟨by simp; omega, ?_⟩
    refine frzEnd ?_
    refine ⟨l ++ sgP (.num w n), by simp [sqOf, sgP], by rw [cln_ln, List.length_append]; omega, ?_⟩
    rw [← e2]
    exact fin _ g3
  | _ =>
    refine truB ?_
    rw [if_neg (by exact Bool.false_ne_true)]
    simp only [snD]
    walk_at "ds"
    unfold dJoin
    walk_at "ds"
    refine ⟨_, rfl, ?_⟩
    walk_at "ds"
    rw [sqR e3]
    dsimp only
    walk_at "ds"
    refine ⟨by simp; omega, ?_⟩
    refine frzEnd ?_
    first
      | refine ⟨l ++ sgP .tick, by simp [sqOf, sgP], by rw [cln_ln, List.length_append]; omega, ?_⟩; rw [← e2]; exact fin _ g3
      | refine ⟨l ++ sgP .more, by simp [sqOf, sgP], by rw [cln_ln, List.length_append]; omega, ?_⟩; rw [← e2]; exact fin _ g3
      | refine ⟨l ++ sgP .fin, by simp [sqOf, sgP], by rw [cln_ln, List.length_append]; omega, ?_⟩; rw [← e2]; exact fin _ g3
end K08
namespace K08
open PySem L2 Dl K06 K05
local macro_rules | `(tactic| walk_at "ds") => `(tactic| repeat' with_reducible first
  | refine iVar (by with_unfolding_all rfl) ?_
  | refine iCons ?_
  | refine iNil ?_
  | refine iC ?_
  | refine iOp ?_
  | refine iTup ?_
  | refine iFrz ?_
  | refine iTst ?_
  | refine iRet ?_
  | refine iCall ?_
  | refine lenOk (by with_unfolding_all rfl) ?_
  | refine ifDF (by decide) ?_
  | refine iIf ?_
  | refine ifT ?_
  | refine iCB ?_
  | refine iISq ?_
  | refine int0 ?_
  | refine len_t ?_
  | refine ifNT ?_
  | refine ifNF ?_
  | refine ifDF (by with_reducible_and_instances first | omega | (simp only [List.length_cons, List.length_nil]; omega)) ?_
  | fail "stuck")
def rowW (l : List Sn) : Str := if l = [] then "-" else Str.join " " (l.map sgW)
structure RwT (l : List Sn) : Prop where
  sd : ∀ s ∈ l, sds s ≤ 30
  nb : ∀ s ∈ l, nbN s
  ln : l.length ≤ 4000
theorem row_sum : ∀ l : List Sn, (∀ s ∈ l, sds s ≤ 30) → (∀ s ∈ l, nbN s) → ((l.map sgW).map (·.length)).sum ≤ 250 * l.length
  | [], _, _ => Nat.zero_le _
  | s :: l, h1, h2 => by
    have := row_sum l (fun s hs => h1 s (List.mem_cons_of_mem _ hs)) (fun s hs => h2 s (List.mem_cons_of_mem _ hs))
    have := sgW_ln s (h2 s (List.mem_cons_self ..))
    have := h1 s (List.mem_cons_self ..)
    rw [List.map_cons, List.map_cons, List.sum_cons, List.length_cons]
    omega
theorem spc_ln : (" " : Str).length = 1 := by decide +kernel
theorem okt_rw {l : List Sn} (h : ∀ s ∈ l, sds s ≤ 30) : okD (.tup (l.map snD)) := by
  have key : ∀ l : List Sn, (∀ s ∈ l, sds s ≤ 30) → pureDs (l.map snD) = true ∧ depDs (l.map snD) ≤ 31 := fun l => by
    induction l with
    | nil => intro _; simp [pureDs, depDs]
    | cons s l ih =>
      intro h
      have i := ih fun s hs => h s (List.mem_cons_of_mem _ hs)
      have := dep_sn s
      have := h s (List.mem_cons_self ..)
      constructor
      · simp only [List.map_cons, pureDs, nk_pure _ (isK_sn s), Bool.true_and]; exact i.1
      · simp only [List.map_cons, depDs]; have := i.2; omega
  exact ⟨by rw [pureD]; exact (key l h).1, by rw [depD]; have := (key l h).2; omega⟩
def RRw : List D → D → Prop := fun ds d => ∃ l : List Sn, ds = [.tup (l.map snD)] ∧ RwT l ∧ d = .str (rowW l)
theorem signs_text_rd : ∀ ds G Q E, pSp RRw ds G Q E → r_signs_text (pSp RSt) { nx := fun _ G' => Q .non G', rt := Q } (startD 2 ds) G := by
  rintro ds G Q E ⟨_, ⟨l, rfl, hl, rfl⟩, hq⟩
  unfold r_signs_text
  have hz : (3000000 : Nat) ≤ sizeLine := by decide
  have hn := hl.ln
  have hs := row_sum l hl.sd hl.nb
  walk_at "ds"
  by_cases h : l = []
  · subst h
    walk_at "ds"
    exact hq _ (Grow.refl G)
  have h0 : 0 < l.length := List.length_pos_iff.mpr h
  rw [List.length_map, decide_eq_true (show (0 : Int) < ((l.length : Nat) : Int) by omega)]
  walk_at "ds"
  unfold dJoin
  walk_at "ds"
  refine ⟨_, rfl, ?_⟩
  walk_at "ds"
  refine lcF l snD (fun s => .str (sgW s)) ?_ (by omega) ?_ ?_
  · intro P hP
    walk_at "ds"
    exact hP _ _ (fun _ => trivial) (Grow.refl _)
  · intro s hs
    refine ⟨_, rfl, fun G1 K hK => ?_⟩
    walk_at "ds"
    have := hl.sd s hs
    exact ⟨_, ⟨s, rfl, by omega, hl.nb s hs, rfl⟩, fun G2 g2 => hK _ g2⟩
  intro G2 g2
  refine ⟨l.map sgW, by simp [sqOf], by rw [spc_ln, List.length_map]; omega, ?_⟩
  rw [txt_join]
  have := hq _ g2
  unfold rowW at this
  rw [if_neg h] at this
  exact this
theorem law_row_text_rd {k : Nat} (hk : 31 ≤ k) (hk2 : k ≤ 201) : ∀ ds G Q E, pSp RRw ds G Q E → r_law_row_text (pSp (RSw k)) { nx := fun _ G' => Q .non G', rt := Q } (startD 2 ds) G := by
  rintro ds G Q E ⟨_, ⟨l, rfl, hl, rfl⟩, hq⟩
  unfold r_law_row_text
  have hz : (3000000 : Nat) ≤ sizeLine := by decide
  have hn := hl.ln
  have hs := row_sum l hl.sd hl.nb
  walk_at "ds"
  refine ne_tt (okt_rw hl.sd) ⟨by simp [pureD, pureDs], by simp [depD, depDs]⟩ ?_
  by_cases h : l = []
  · subst h
    rw [show eqvD (.tup (([] : List Sn).map snD)) (.tup []) = true from by decide +kernel]
    walk_at "ds"
    exact hq _ (Grow.refl G)
  rw [show eqvD (.tup (l.map snD)) (.tup []) = false from by cases l with
    | nil => exact absurd rfl h
    | cons => simp [eqvD, eqvDs]]
  walk_at "ds"
  unfold dJoin
  walk_at "ds"
  refine ⟨_, rfl, ?_⟩
  walk_at "ds"
  refine lcF l snD (fun s => .str (sgW s)) ?_ (by omega) ?_ ?_
  · intro P hP
    walk_at "ds"
    exact hP _ _ (fun _ => trivial) (Grow.refl _)
  · intro s hs
    refine ⟨_, rfl, fun G1 K hK => ?_⟩
    walk_at "ds"
    have := hl.sd s hs
    exact ⟨_, ⟨s, rfl, by omega, by omega, hl.nb s hs, rfl⟩, fun G2 g2 => hK _ g2⟩
  intro G2 g2
  refine ⟨l.map sgW, by simp [sqOf], by rw [spc_ln, List.length_map]; omega, ?_⟩
  rw [txt_join]
  have := hq _ g2
  unfold rowW at this
  rw [if_neg h] at this
  exact this
end K08
namespace K08
open PySem L2 Dl K06 K05
local macro_rules | `(tactic| walk_at "ds") => `(tactic| repeat' with_reducible first
  | fail "stuck")
noncomputable def numO (w : Str) : Option Nat := open Classical in if NumW w then some (NumText.digitsVal w.cps.toList) else none
theorem numD_O (w : Str) : numD w = match numO w with
    | some n => .int ((n : Nat) : Int)
    | none => .non := by
  by_cases h : NumW w
  · rw [numD_ok h]; unfold numO; rw [if_pos h]
  · rw [numD_no h]; unfold numO; rw [if_neg h]
def plO (w : Str) : Option Sn := if w = "tick" then some .tick else if w = "more" then some .more else if w = "end" then some .fin else none
def sidO (w : Str) : Option Bool := if w = "left" then some false else if w = "right" then some true else none
def nmO (w : Str) : Option Bool := if w = "many" then some false else if w = "way" then some true else none
noncomputable def rdP : Nat → List Str → Option Sn
  | 0, _ => none
  | _ + 1, [] => none
  | _ + 1, [w] => plO w
  | m + 1, h :: r :: rs => match nmO h with
    | some b => match rs with
      | [] => (numO r).map (.num b)
      | _ :: _ => none
    | none => match sidO h with
      | some b => (rdP m (r :: rs)).map (.side b)
      | none => none
def isSd (w : Str) : Bool := (sidO w).isSome
noncomputable def rdE : List Str → Option Sn
  | [w] => plO w
  | [h, r] => match nmO h with
    | some b => (numO r).map (.num b)
    | none => none
  | _ => none
def sidesO : List Str → Sn → Sn
  | [], s => s
  | h :: l, s => .side ((sidO h).getD false) (sidesO l s)
theorem sid_pl {w : Str} (h : isSd w = true) : plO w = none := by
  unfold isSd sidO at h
  by_cases h1 : w = "left"
  · subst h1; decide +kernel
  · rw [if_neg h1] at h
    by_cases h2 : w = "right"
    · subst h2; decide +kernel
    · rw [if_neg h2] at h; cases h
theorem sid_nm {w : Str} (h : isSd w = true) : nmO w = none := by
  unfold isSd sidO at h
  by_cases h1 : w = "left"
  · subst h1; decide +kernel
  · rw [if_neg h1] at h
    by_cases h2 : w = "right"
    · subst h2; decide +kernel
    · rw [if_neg h2] at h; cases h
theorem nm_some {w : Str} {b : Bool} (h : nmO w = some b) : w = numS b := by
  unfold nmO at h
  by_cases h1 : w = "many"
  · rw [if_pos h1] at h; cases h; exact h1
  · rw [if_neg h1] at h
    by_cases h2 : w = "way"
    · rw [if_pos h2] at h; cases h; exact h2
    · rw [if_neg h2] at h; cases h
theorem sid_some {w : Str} {b : Bool} (h : sidO w = some b) : w = sidS b := by
  unfold sidO at h
  by_cases h1 : w = "left"
  · rw [if_pos h1] at h; cases h; exact h1
  · rw [if_neg h1] at h
    by_cases h2 : w = "right"
    · rw [if_pos h2] at h; cases h; exact h2
    · rw [if_neg h2] at h; cases h
theorem rdP_sd : ∀ (m : Nat) (ps : List Str), rdP m ps = if m ≤ (ps.takeWhile isSd).length then none else (rdE (ps.dropWhile isSd)).map (sidesO (ps.takeWhile isSd))
  | 0, ps => by rw [if_pos (Nat.zero_le _)]; rfl
  | m + 1, [] => by rw [if_neg (by simp)]; rfl
  | m + 1, [w] => by
    by_cases h : isSd w = true
    · have e : rdP (m + 1) [w] = none := sid_pl h
      rw [e, List.dropWhile_cons_of_pos h, List.dropWhile_nil]
      simp [rdE]
    · rw [List.takeWhile_cons_of_neg h, List.dropWhile_cons_of_neg h, if_neg (by simp)]
      show plO w = (plO w).map _
      cases plO w <;> rfl
  | m + 1, h :: r :: rs => by
    by_cases q : isSd h = true
    · have e1 := sid_nm q
      obtain ⟨b, e2⟩ : ∃ b, sidO h = some b := Option.isSome_iff_exists.mp q
      have e : rdP (m + 1) (h :: r :: rs) = (rdP m (r :: rs)).map (.side b) := by
        rw [rdP, e1, e2]
      rw [e, rdP_sd m (r :: rs), List.takeWhile_cons_of_pos q, List.dropWhile_cons_of_pos q, List.length_cons]
      by_cases z : m ≤ ((r :: rs).takeWhile isSd).length
      · rw [if_pos z, if_pos (by omega)]; rfl
      · rw [if_neg z, if_neg (by omega), Option.map_map]
        congr 1
        funext s
        show Sn.side b _ = sidesO (h :: _) s
        rw [sidesO, e2]; rfl
    · have e2 : sidO h = none := by
        cases z : sidO h with
        | none => rfl
        | some => exact absurd (by unfold isSd; rw [z]; rfl) q
      rw [List.takeWhile_cons_of_neg q, List.dropWhile_cons_of_neg q, if_neg (by simp), show sidesO [] = id from rfl, Option.map_id]
      rw [rdP, e2]
      cases rs with
      | nil => rfl
      | cons x xs => cases nmO h <;> rfl
end K08
namespace K08
open PySem L2 Dl K06 K05
local macro_rules | `(tactic| walk_at "ds") => `(tactic| repeat' with_reducible first
  | refine iVar (by with_unfolding_all rfl) ?_
  | refine iCons ?_
  | refine iNil ?_
  | refine iC ?_
  | refine iOp ?_
  | refine iSeq ?_
  | refine iAsg ?_
  | refine iGNm ?_
  | refine iTup ?_
  | refine iFrz ?_
  | refine iTst ?_
  | refine iIfS ?_
  | refine iRet ?_
  | refine iNext ?_
  | refine isN_F (by with_unfolding_all rfl) ?_
  | refine iRev ?_
  | refine revL ?_
  | refine lenOk (by with_unfolding_all rfl) ?_
  | refine frzEnd ?_
  | refine iAnd ?_
  | refine ifDF (by decide) ?_
  | refine ifT ?_
  | refine ifF ?_
  | refine iCB ?_
  | refine iSl ?_
  | refine iP ?_
  | refine iNoP ?_
  | refine iFor ?_
  | refine iISq ?_
  | refine rIx_i (by with_unfolding_all rfl) (by with_unfolding_all rfl) ?_
  | refine rIx_i (by with_unfolding_all rfl) atI_0 ?_
  | refine eq_ii ?_
  | refine int0 ?_
  | refine len_l ?_
  | refine ifDF (by with_reducible_and_instances first | omega | (simp only [List.length_cons, List.length_nil]; omega)) ?_
  | fail "stuck")
def snO : Option Sn → D
  | none => .non
  | some s => snD s
def ptsW (w : Str) : List Str := Txt.split w ":"
def RSo : List D → D → Prop := fun ds d => ∃ w : Str, ds = [.str w] ∧ w.length ≤ 1000000 ∧ PyData.strOk w = true ∧ d = snO (rdP 30 (ptsW w))
theorem tw_at {α : Type} (p : α → Bool) : ∀ (l : List α) (i : Nat) {x : α}, i < (l.takeWhile p).length → l[i]? = some x → p x = true
  | [], i, x, h, _ => by simp at h
  | y :: l, i, x, h, e => by
    by_cases q : p y = true
    · cases i with
      | zero => simp at e; subst e; exact q
      | succ i =>
        rw [List.takeWhile_cons_of_pos q, List.length_cons] at h
        exact tw_at p l i (by omega) (by simpa using e)
    · rw [List.takeWhile_cons_of_neg q] at h; simp at h
theorem tw_end {α : Type} (p : α → Bool) : ∀ (l : List α) {x : α}, l[(l.takeWhile p).length]? = some x → p x = false
  | [], x, e => by simp at e
  | y :: l, x, e => by
    by_cases q : p y = true
    · rw [List.takeWhile_cons_of_pos q, List.length_cons, List.getElem?_cons_succ] at e
      exact tw_end p l e
    · rw [List.takeWhile_cons_of_neg q] at e
      simp at e; subst e; simpa using q
theorem drop_tw {α : Type} (p : α → Bool) : ∀ l : List α, l.drop (l.takeWhile p).length = l.dropWhile p
  | [] => rfl
  | y :: l => by
    by_cases q : p y = true
    · rw [List.takeWhile_cons_of_pos q, List.dropWhile_cons_of_pos q, List.length_cons, List.drop_succ_cons]; exact drop_tw p l
    · rw [List.takeWhile_cons_of_neg q, List.dropWhile_cons_of_neg q]; rfl
theorem tw_le {α : Type} (p : α → Bool) (l : List α) : (l.takeWhile p).length ≤ l.length := (List.takeWhile_prefix p).length_le
theorem in_sides (w : Str) : inD (.str w) [.str "left", .str "right"] = isSd w := by
  unfold isSd sidO
  by_cases h1 : w = "left"
  · subst h1; decide +kernel
  · rw [if_neg h1]
    by_cases h2 : w = "right"
    · subst h2; decide +kernel
    · rw [if_neg h2]
      simp [inD, eqvD, Ne.symm h1, Ne.symm h2]
theorem while_sides {ps : List Str} {w d3 d4 d5 : Option D} {G : GH} (hp : ps.length ≤ 1000001) {R} (h : ∀ G', Grow G G' → R.nx [w, some (.lst (ps.map D.str)), some (.int ((ps.takeWhile isSd).length : Nat)), d3, d4, d5] G') :
    dWhile (dAnd (dTst (dOp rLt (dVar 2) (dCB rLen (dCons (dVar 1) dNil)))) (dTst (dOp (rInn id) (dOp rIx (dVar 1) (dVar 2)) (dC (.tup [(.str "left"), (.str "right")]))))) (dAugN 2 (dC (.int 1))) R [w, some (.lst (ps.map D.str)), some (.int 0), d3, d4, d5] G := by
  have hz : (3000000 : Nat) ≤ sizeLine := by decide
  have tl := tw_le isSd ps
  refine dWhile_of (I := fun k ρ G1 => ∃ i : Nat, ρ = [w, some (.lst (ps.map D.str)), some (.int (i : Nat)), d3, d4, d5] ∧ i + k = (ps.takeWhile isSd).length ∧ Grow G G1) ?_ (ps.takeWhile isSd).length _ _ ⟨0, rfl, by omega, Grow.refl _⟩
  rintro k ρ G1 ⟨i, rfl, ek, g1⟩ K hK
  walk_at "ds"
  rw [List.length_map]
  by_cases h1 : i < ps.length
  rotate_left 1
  · rw [decide_eq_false (show ¬ ((i : Nat) : Int) < ((ps.length : Nat) : Int) by omega)]
    walk_at "ds"
    have e : i = (ps.takeWhile isSd).length := by omega
    subst e
    exact h _ g1
  rw [decide_eq_true (show ((i : Nat) : Int) < ((ps.length : Nat) : Int) by omega)]
  walk_at "ds"
  have ei : ps[i]? = some ps[i] := List.getElem?_eq_getElem h1
  refine rIx_i (d := .str ps[i]) rfl (Dl.atI_nat (by rw [List.getElem?_map, ei]; rfl)) ?_
  walk_at "ds"
  refine inn_i rfl rfl rfl ?_
  rw [in_sides]
  cases k with
  | zero =>
    have e : i = (ps.takeWhile isSd).length := by omega
    have hf : isSd ps[i] = false := tw_end isSd ps (by rw [← e]; exact ei)
    rw [hf]
    walk_at "ds"
    rw [← e] at h
    exact h _ g1
  | succ k =>
    have hf : isSd ps[i] = true := tw_at isSd ps i (by omega) ei
    rw [hf]
    walk_at "ds"
    refine ⟨_, rfl, ?_⟩
    walk_at "ds"
    refine ⟨_, rfl, ?_⟩
    exact hK k rfl _ _ ⟨i + 1, by rw [show ((i + 1 : Nat) : Int) = (i : Int) + 1 by omega]; rfl, by omega, g1⟩
theorem spl_ln (S : List Nat) : ∀ (l : List Nat) (k : Nat) (acc : List Nat), (TL.spl S k acc l).length ≤ l.length + 1
  | [], k, acc => by rw [TL.spl_nil]; simp
  | c :: r, 0, acc => by
    by_cases h : TL.pre S (c :: r) = true
    · rw [TL.spl_hit h, List.length_cons, List.length_cons]
      have := spl_ln S r (S.length - 1) []
      omega
    · rw [TL.spl_miss (by simpa using h), List.length_cons]
      have := spl_ln S r 0 (acc ++ [c])
      omega
  | c :: r, k + 1, acc => by
    show (TL.spl S k acc r).length ≤ _
    rw [List.length_cons]
    have := spl_ln S r k acc
    omega
theorem spl_in (S : List Nat) : ∀ (l : List Nat) (k : Nat) (acc : List Nat), ∀ p ∈ TL.spl S k acc l, p.length ≤ acc.length + l.length
  | [], k, acc, p, h => by rw [TL.spl_nil] at h; simp at h; subst h; simp
  | c :: r, 0, acc, p, h => by
    by_cases q : TL.pre S (c :: r) = true
    · rw [TL.spl_hit q] at h
      rcases List.mem_cons.mp h with rfl | h
      · omega
      · have := spl_in S r _ [] p h
        rw [List.length_cons]; simp at this; omega
    · rw [TL.spl_miss (by simpa using q)] at h
      have := spl_in S r 0 _ p h
      rw [List.length_append, List.length_singleton] at this
      rw [List.length_cons]; omega
  | c :: r, k + 1, acc, p, h => by
    have := spl_in S r k acc p h
    rw [List.length_cons]; omega
theorem cln_S : (":" : Str) = SX.S [58] := by decide +kernel
theorem spc_S : (" " : Str) = SX.S [32] := by decide +kernel
theorem pts_S (w : Str) : ptsW w = (TL.spl [58] 0 [] w.cps.toList).map SX.S := by
  unfold ptsW
  rw [cln_S]
  have h := SX.split_S (a := w.cps.toList) (b := [58]) (by simp) (by decide)
  rw [SX.S_tl] at h
  exact h
theorem pts_ln (w : Str) : (ptsW w).length ≤ w.length + 1 := by
  rw [pts_S, List.length_map]
  have := spl_ln [58] w.cps.toList 0 []
  rw [len_tl] at this
  exact this
theorem sides_app : ∀ (a b : List Str) (s : Sn), sidesO (a ++ b) s = sidesO a (sidesO b s)
  | [], _, _ => rfl
  | h :: a, b, s => by
    show Sn.side _ (sidesO (a ++ b) s) = Sn.side _ (sidesO a (sidesO b s))
    rw [sides_app a b s]
theorem isNon_sn (s : Sn) : isNonD (snD s) = false := by cases s <;> rfl
theorem sid_word {h : Str} (q : isSd h = true) : h = sidS ((sidO h).getD false) := by
  obtain ⟨b, e⟩ : ∃ b, sidO h = some b := Option.isSome_iff_exists.mp q
  rw [e]; exact sid_some e
theorem wrap_end {ps : List Str} {w : Option D} {rst : Option D} {o : Option Sn} {G : GH} (hp : ps.length ≤ 1000001) {Q : DK}
    (h : ∀ G', Grow G G' → Q (snO (o.map (sidesO (ps.takeWhile isSd)))) G') :
    (dSeq (dIfS (dTst (dOp (rIsN id) (dVar 4) (dC .non)))
      (dRet (dC .non))
      dNext)
      (dSeq (dFor (iSq (dFrz (dRev (dFrz (dSl (dVar 1) dNoP (dP (dVar 2))))))) (gNm 5)
      (dAsg (dTup (dCons (dVar 5) (dCons (dVar 4) dNil))) (gNm 4)))
      (dRet (dVar 4)))) { nx := fun _ G' => Q .non G', rt := Q } [w, some (.lst (ps.map D.str)), some (.int ((ps.takeWhile isSd).length : Nat)), rst, some (snO o), none] G := by
  have hz : (3000000 : Nat) ≤ sizeLine := by decide
  have tl := tw_le isSd ps
  cases o with
  | none =>
    walk_at "ds"
    exact h _ (Grow.refl G)
  | some s =>
    show (dSeq _ _) _ [w, some (.lst (ps.map D.str)), some (.int ((ps.takeWhile isSd).length : Nat)), rst, some (snD s), none] G
    walk_at "ds"
    refine isN_F (isNon_sn s) ?_
    walk_at "ds"
    refine slL (frzEnd ?_)
    rw [K03.cut_take, ← List.map_take, ← (List.prefix_iff_eq_take.mp (List.takeWhile_prefix isSd))]
    walk_at "ds"
    show dForGo okAll _ _ ((ps.takeWhile isSd).map D.str).reverse _ _ G
    rw [← List.map_reverse]
    generalize ht : ps.takeWhile isSd = t at *
    have hs : ∀ x ∈ t.reverse, isSd x = true := fun x hx => by
      rw [← ht] at hx
      exact List.all_takeWhile (l := ps) (p := isSd) |> fun z => List.all_eq_true.mp z x (List.mem_reverse.mp hx)
    refine dForGo_of (I := fun rest ρ G' => ∃ (L : List Str) (s' : Sn) (x5 : Option D), rest = L.map D.str ∧ (∀ x ∈ L, isSd x = true) ∧ ρ = [w, some (.lst (ps.map D.str)), some (.int (t.length : Nat)), rst, some (snD s'), x5] ∧ sidesO L.reverse s' = sidesO t s ∧ Grow G G') ?_ ?_ _ _ _
      ⟨t.reverse, s, none, rfl, hs, rfl, by rw [List.reverse_reverse], Grow.refl _⟩
    · rintro ρ G1 ⟨L, s', x5, e, hL, rfl, e2, g1⟩
      have : L = [] := by cases L with
        | nil => rfl
        | cons => cases e
      subst this
      refine ⟨trivial, ?_⟩
      walk_at "ds"
      have := h _ g1
      rw [show (some s).map (sidesO t) = some (sidesO t s) from rfl, ← e2] at this
      exact this
    · rintro x xs ρ G1 ⟨L, s', x5, e, hL, rfl, e2, g1⟩ K hK
      refine ⟨trivial, ?_⟩
      cases L with
      | nil => cases e
      | cons q L =>
        rw [List.map_cons] at e
        injection e with ea eb
        subst ea eb
        walk_at "ds"
        have hq := hL q (List.mem_cons_self ..)
        refine hK _ _ ⟨L, .side ((sidO q).getD false) s', some (.str q), rfl, fun x hx => hL x (List.mem_cons_of_mem _ hx), ?_, ?_, g1⟩
        · rw [snD, ← sid_word hq]; rfl
        · rw [← e2, List.reverse_cons, sides_app]; rfl
theorem in_plain (w : Str) : inD (.str w) [.str "tick", .str "more", .str "end"] = (plO w).isSome := by
  unfold plO
  by_cases h1 : w = "tick"
  · subst h1; decide +kernel
  · rw [if_neg h1]
    by_cases h2 : w = "more"
    · subst h2; decide +kernel
    · rw [if_neg h2]
      by_cases h3 : w = "end"
      · subst h3; decide +kernel
      · rw [if_neg h3]
        simp [inD, eqvD, Ne.symm h1, Ne.symm h2, Ne.symm h3]
theorem in_nums (w : Str) : inD (.str w) [.str "many", .str "way"] = (nmO w).isSome := by
  unfold nmO
  by_cases h1 : w = "many"
  · subst h1; decide +kernel
  · rw [if_neg h1]
    by_cases h2 : w = "way"
    · subst h2; decide +kernel
    · rw [if_neg h2]
      simp [inD, eqvD, Ne.symm h1, Ne.symm h2]
theorem pl_word {w : Str} {s : Sn} (h : plO w = some s) : snD s = .str w := by
  unfold plO at h
  by_cases h1 : w = "tick"
  · rw [if_pos h1] at h; cases h; rw [h1]; rfl
  · rw [if_neg h1] at h
    by_cases h2 : w = "more"
    · rw [if_pos h2] at h; cases h; rw [h2]; rfl
    · rw [if_neg h2] at h
      by_cases h3 : w = "end"
      · rw [if_pos h3] at h; cases h; rw [h3]; rfl
      · rw [if_neg h3] at h; cases h
theorem core_rd {w ps t : Option D} {rs : List Str} {T : DTS} {E : DEnds} {G : GH} (hl : rs.length ≤ 1000001) (hw : ∀ x ∈ rs, x.length ≤ 1000000)
    (h : ∀ G', Grow G G' → T E [w, ps, t, some (.lst (rs.map D.str)), some (snO (rdE rs)), none] G') :
    (dSeq (dIfS (dAnd (dTst (dOp rEqv (dCB rLen (dCons (dVar 3) dNil)) (dC (.int 1)))) (dTst (dOp (rInn id) (dOp rIx (dVar 3) (dC (.int 0))) (dC (.tup [(.str "tick"), (.str "more"), (.str "end")])))))
      (dAsg (dOp rIx (dVar 3) (dC (.int 0))) (gNm 4))
      dNext)
      (dSeq (dIfS (dAnd (dTst (dOp rEqv (dCB rLen (dCons (dVar 3) dNil)) (dC (.int 2)))) (dAnd (dTst (dOp (rInn id) (dOp rIx (dVar 3) (dC (.int 0))) (dC (.tup [(.str "many"), (.str "way")])))) (dTst (dOp (rIsN not) (dCall (pSp RNu) (dCons (dOp rIx (dVar 3) (dC (.int 1))) dNil)) (dC .non)))))
      (dAsg (dTup (dCons (dOp rIx (dVar 3) (dC (.int 0))) (dCons (dCall (pSp RNu) (dCons (dOp rIx (dVar 3) (dC (.int 1))) dNil)) dNil))) (gNm 4))
      dNext) T)) E [w, ps, t, some (.lst (rs.map D.str)), some .non, none] G := by
  have hz : (3000000 : Nat) ≤ sizeLine := by decide
  walk_at "ds"
  rw [List.length_map]
  match rs, hl, hw, h with
  | [], _, _, h =>
    rw [decide_eq_false (show ¬ (((([] : List Str).length : Nat) : Int) = 1) by decide)]
    walk_at "ds"
    exact h _ (Grow.refl G)
  | [x], _, _, h =>
    rw [decide_eq_true (show (((([x] : List Str).length : Nat) : Int) = 1) by simp)]
    walk_at "ds"
    refine inn_i rfl rfl rfl ?_
    rw [in_plain]
    have h' := h
    rw [show rdE [x] = plO x from rfl] at h'
    cases q : plO x with
    | none =>
      rw [q] at h'
      walk_at "ds"
      exact h' _ (Grow.refl G)
    | some s =>
      rw [q] at h'
      walk_at "ds"
      have := h' _ (Grow.refl G)
      rw [show snO (some s) = .str x from pl_word q] at this
      exact this
  | [x, y], _, hw, h =>
    rw [decide_eq_false (show ¬ (((([x, y] : List Str).length : Nat) : Int) = 1) by simp)]
    walk_at "ds"
    rw [List.length_map, decide_eq_true (show (((([x, y] : List Str).length : Nat) : Int) = 2) by simp)]
    walk_at "ds"
    refine inn_i rfl rfl rfl ?_
    rw [in_nums]
    have h' := h
    cases q : nmO x with
    | none =>
      rw [show rdE [x, y] = none from by simp only [rdE, q]] at h'
      walk_at "ds"
      exact h' _ (Grow.refl G)
    | some b =>
      rw [show rdE [x, y] = (numO y).map (.num b) from by simp only [rdE, q]] at h'
      walk_at "ds"
      refine ⟨_, ⟨y, rfl, hw y (by simp), rfl⟩, fun G2 g2 => ?_⟩
      rw [numD_O y]
      cases z : numO y with
      | none =>
        rw [z] at h'
        walk_at "ds"
        exact h' _ g2
      | some n =>
        rw [z] at h'
        walk_at "ds"
        refine ⟨_, ⟨y, rfl, hw y (by simp), rfl⟩, fun G3 g3 => ?_⟩
        rw [numD_O y, z]
        walk_at "ds"
        have := h' _ (g2.trans g3)
        rw [show snO ((some n).map (Sn.num b)) = .tup [.str x, .int (n : Nat)] from by rw [nm_some q]; rfl] at this
        exact this
  | x :: y :: z :: r, hl, _, h =>
    have e3 : (((x :: y :: z :: r : List Str).length : Nat) : Int) = (r.length : Int) + 3 := by simp; omega
    rw [decide_eq_false (show ¬ ((((x :: y :: z :: r : List Str).length : Nat) : Int) = 1) by omega)]
    walk_at "ds"
    rw [List.length_map, decide_eq_false (show ¬ ((((x :: y :: z :: r : List Str).length : Nat) : Int) = 2) by omega)]
    walk_at "ds"
    exact h _ (Grow.refl G)
theorem pts_in (w : Str) : ∀ x ∈ ptsW w, x.length ≤ w.length := fun x hx => by
  rw [pts_S] at hx
  obtain ⟨p, hp, rfl⟩ := List.mem_map.mp hx
  have := spl_in [58] _ 0 [] p hp
  rw [SX.S_len]
  rw [len_tl] at this
  simpa using this
theorem sign_or_none_rd : ∀ ds G Q E, pSp RSo ds G Q E → r_sign_or_none (pSp RNu) { nx := fun _ G' => Q .non G', rt := Q } (startD 6 ds) G := by
  rintro ds G Q E ⟨_, ⟨w, rfl, hl, hk, rfl⟩, hq⟩
  unfold r_sign_or_none
  have hz : (3000000 : Nat) ≤ sizeLine := by decide
  unfold dSplt
  walk_at "ds"
  refine ⟨w, rfl, ?_⟩
  walk_at "ds"
  refine ⟨_, rfl, by rw [cln_ln]; rfl, by omega, frzEnd ?_⟩
  walk_at "ds"
  have hp : (ptsW w).length ≤ 1000001 := by have := pts_ln w; omega
  show dWhile _ _ _ [some (.str w), some (.lst ((ptsW w).map D.str)), some (.int 0), none, none, none] G
  refine while_sides hp fun G1 g1 => ?_
  walk_at "ds"
  refine slL (frzEnd ?_)
  rw [K03.cut_drop, ← List.map_drop, drop_tw]
  walk_at "ds"
  have hr := rdP_sd 30 (ptsW w)
  by_cases h30 : 30 ≤ ((ptsW w).takeWhile isSd).length
  · rw [if_pos h30] at hr
    rw [decide_eq_true (show (30 : Int) ≤ ((((ptsW w).takeWhile isSd).length : Nat) : Int) by omega)]
    walk_at "ds"
    rw [hr] at hq
    exact hq _ g1
  rw [if_neg h30] at hr
  rw [decide_eq_false (show ¬ (30 : Int) ≤ ((((ptsW w).takeWhile isSd).length : Nat) : Int) by omega)]
  have hsub : ∀ x ∈ (ptsW w).dropWhile isSd, x ∈ ptsW w := fun x hx => (List.dropWhile_suffix isSd).subset hx
  have hwl : ∀ x ∈ ptsW w, x.length ≤ 1000000 := fun x hx => by have := pts_in w x hx; omega
  refine core_rd (by have := (List.dropWhile_suffix isSd (l := ptsW w)).length_le; omega) (fun x hx => hwl x (hsub x hx)) fun G2 g2 => ?_
  refine wrap_end hp fun G3 g3 => ?_
  have := hq _ (g1.trans (g2.trans g3))
  rw [hr] at this
  exact this
end K08
namespace K08
open PySem L2 Dl K06 K05
local macro_rules | `(tactic| walk_at "ds") => `(tactic| repeat' with_reducible first
  | refine iVar (by with_unfolding_all rfl) ?_
  | refine iCons ?_
  | refine iNil ?_
  | refine iC ?_
  | refine iOp ?_
  | refine iSeq ?_
  | refine iAsg ?_
  | refine iGNm ?_
  | refine iTup ?_
  | refine iTst ?_
  | refine iIfS ?_
  | refine iRet ?_
  | refine iNext ?_
  | refine isN_T ?_
  | refine isN_F (by with_unfolding_all rfl) ?_
  | refine iPar ?_
  | refine lenOk (by with_unfolding_all rfl) ?_
  | refine iIf ?_
  | refine ifT ?_
  | refine ifF ?_
  | refine iP ?_
  | refine iNoP ?_
  | refine add_ii ?_
  | refine int0 ?_
  | refine ifNT ?_
  | refine ifNF ?_
  | fail "stuck")
theorem idx_at {p q : List Nat} (h : 58 ∉ p) : ∃ rest, Builtin.Str.occurrences (SX.S (p ++ 58 :: q)) ":" 0 (SX.S (p ++ 58 :: q)).length 1 = p.length :: rest := by
  have hp := SX.partition_some (a := p ++ 58 :: q) (b := [58]) (p := p) (q := q) (by simp) (by have := SX.par_head (sep := []) q h; simpa using this)
  rw [← cln_S] at hp
  unfold Txt.partition at hp
  have hl : (SX.S (p ++ 58 :: q)).length = p.length + 1 + q.length := by rw [SX.S_len]; simp; omega
  cases ho : Builtin.Str.occurrences (SX.S (p ++ 58 :: q)) ":" 0 (SX.S (p ++ 58 :: q)).length 1 with
  | nil =>
    rw [ho] at hp
    exact absurd (show Str.empty = Str.ofString ":" from congrArg (fun x : Str × Str × Str => x.2.1) hp) (by decide +kernel)
  | cons i rest =>
    rw [ho] at hp
    have e1 := congrArg (fun x : Str × Str × Str => x.1.cps.toList) hp
    dsimp only at e1
    rw [StrLaws.strSub_toList] at e1
    have e2 := congrArg List.length e1
    have e3 := congrArg (fun x : Str × Str × Str => x.2.2.length) hp
    dsimp only at e3
    rw [StrLaws.sub_len _ _ _ (Nat.le_refl _), hl, cln_ln, SX.S_len] at e3
    rw [List.length_take, List.length_drop] at e2
    have e4 : (SX.S (p ++ 58 :: q)).cps.toList.length = p.length + 1 + q.length := by rw [len_tl]; exact hl
    rw [e4] at e2
    have e5 : (SX.S p).cps.toList.length = p.length := by rw [len_tl, SX.S_len]
    rw [e5] at e2
    have : i = p.length := by omega
    subst this
    exact ⟨rest, rfl⟩
theorem pts_no {w : Str} (h : 58 ∉ w.cps.toList) : ptsW w = [w] := by
  have e := SX.spl_join (c := 58) (sep := []) (parts := [w.cps.toList]) (by simp) (by simpa using h)
  rw [pts_S, show TL.spl [58] 0 [] w.cps.toList = [w.cps.toList] from e]
  simp [SX.S_tl]
theorem pts_cut {p q : List Nat} (h : 58 ∉ p) : ptsW (SX.S (p ++ 58 :: q)) = SX.S p :: ptsW (SX.S q) := by
  have e := SX.spl_free (sep := [58]) (p := p) q (by simp) (SX.free_head h)
  rw [pts_S, pts_S]
  show (TL.spl [58] 0 [] (p ++ 58 :: q)).map SX.S = _
  rw [show p ++ 58 :: q = p ++ ([58] ++ q) from rfl, e]
  rfl
theorem pts_ne (w : Str) : ptsW w ≠ [] := by
  rw [pts_S]
  intro h
  have h := List.map_eq_nil_iff.mp h
  have : ∀ (l : List Nat) (k : Nat) (acc : List Nat), TL.spl [58] k acc l ≠ [] := fun l => by
    induction l with
    | nil => intro k acc; rw [TL.spl_nil]; simp
    | cons c r ih =>
      intro k acc
      cases k with
      | zero =>
        by_cases q : TL.pre [58] (c :: r) = true
        · rw [TL.spl_hit q]; simp
        · rw [TL.spl_miss (by simpa using q)]; exact ih _ _
      | succ k => exact ih _ _
  exact this _ _ _ h
theorem cut_mem {l : List Nat} (h : 58 ∈ l) : ∃ p q, 58 ∉ p ∧ l = p ++ 58 :: q := by
  induction l with
  | nil => cases h
  | cons c r ih =>
    by_cases e : c = 58
    · exact ⟨[], r, by simp, by rw [e]; rfl⟩
    · obtain ⟨p, q, h1, h2⟩ := ih (by rcases List.mem_cons.mp h with z | z; exact absurd z.symm e; exact z)
      exact ⟨c :: p, q, by simp [h1]; exact fun z => e z.symm, by rw [h2]; rfl⟩
def RLo (k : Nat) : List D → D → Prop := fun ds d => ∃ (w : Str) (a : Nat), ds = [.str w, .int (a : Nat)] ∧ a ≤ 30 ∧ 31 ≤ a + k ∧ w.length ≤ 1000000 ∧ PyData.strOk w = true ∧ d = snO (rdP (30 - a) (ptsW w))
theorem pl_pts {w : Str} {s : Sn} (h : plO w = some s) : 58 ∉ w.cps.toList := by
  unfold plO at h
  by_cases h1 : w = "tick"
  · subst h1; decide +kernel
  · rw [if_neg h1] at h
    by_cases h2 : w = "more"
    · subst h2; decide +kernel
    · rw [if_neg h2] at h
      by_cases h3 : w = "end"
      · subst h3; decide +kernel
      · rw [if_neg h3] at h; cases h
theorem in_four (w : Str) : inD (.str w) [.str "many", .str "way", .str "left", .str "right"] = ((nmO w).isSome || isSd w) := by
  unfold isSd nmO sidO
  by_cases h1 : w = "many"
  · subst h1; decide +kernel
  · rw [if_neg h1]
    by_cases h2 : w = "way"
    · subst h2; decide +kernel
    · rw [if_neg h2]
      by_cases h3 : w = "left"
      · subst h3; decide +kernel
      · rw [if_neg h3]
        by_cases h4 : w = "right"
        · subst h4; decide +kernel
        · rw [if_neg h4]
          simp [inD, eqvD, Ne.symm h1, Ne.symm h2, Ne.symm h3, Ne.symm h4]
theorem num_58 {w : Str} (h : 58 ∈ w.cps.toList) : numO w = none := by
  unfold numO
  rw [if_neg]
  intro n
  have := List.all_eq_true.mp n.dg 58 h
  exact absurd this (by decide)
theorem law_sign_of_rd {k : Nat} : ∀ ds G Q E, pSp (RLo (k + 1)) ds G Q E → r_law_sign_of (pSp RNl) (pSp (RLo k)) { nx := fun _ G' => Q .non G', rt := Q } (startD 6 ds) G := by
  rintro ds G Q E ⟨_, ⟨w, a, rfl, ha, hak, hl, hk, rfl⟩, hq⟩
  unfold r_law_sign_of
  have hz : (3000000 : Nat) ≤ sizeLine := by decide
  walk_at "ds"
  by_cases h30 : 29 < a
  · rw [decide_eq_true (show (29 : Int) < ((a : Nat) : Int) by omega)]
    walk_at "ds"
    have := hq _ (Grow.refl G)
    rw [show 30 - a = 0 by omega] at this
    exact this
  obtain ⟨m, em⟩ : ∃ m, 30 - a = m + 1 := ⟨29 - a, by omega⟩
  rw [em] at hq
  rw [decide_eq_false (show ¬ (29 : Int) < ((a : Nat) : Int) by omega)]
  walk_at "ds"
  refine inn_i rfl rfl rfl ?_
  rw [in_plain]
  cases q : plO w with
  | some s =>
    walk_at "ds"
    have := hq _ (Grow.refl G)
    rw [pts_no (pl_pts q), show rdP (m + 1) [w] = plO w from rfl, q, show snO (some s) = .str w from pl_word q] at this
    exact this
  | none =>
    walk_at "ds"
    refine ⟨58, w, congrArg D.str (by decide +kernel), rfl, ?_⟩
    by_cases h58 : 58 ∈ w.cps.toList
    rotate_left 1
    · rw [decide_eq_false h58]
      walk_at "ds"
      have := hq _ (Grow.refl G)
      rw [pts_no h58, show rdP (m + 1) [w] = plO w from rfl, q] at this
      exact this
    rw [decide_eq_true h58]
    walk_at "ds"
    obtain ⟨p, r, hp, ew⟩ := cut_mem h58
    have ew' : w = SX.S (p ++ 58 :: r) := by rw [← ew, SX.S_tl]
    obtain ⟨rest, hi⟩ := idx_at (q := r) hp
    rw [← ew'] at hi
    unfold dIdxS
    walk_at "ds"
    refine ⟨_, rfl, ?_⟩
    walk_at "ds"
    refine ⟨_, _, _, rfl, hi, ?_⟩
    unfold dSlS
    walk_at "ds"
    have c1 : cutS w none (some ((p.length : Nat) : Int)) = SX.S p := by
      rw [C8.cutS_slice, ew']; exact SX.to_app p (58 :: r) rfl
    have c2 : cutS w (some (((p.length : Nat) : Int) + 1)) none = SX.S r := by
      rw [C8.cutS_slice, ew', show p ++ 58 :: r = (p ++ [58]) ++ r by simp]; exact SX.from_app (p ++ [58]) r (by simp)
    refine ⟨w, rfl, by omega, ?_⟩
    rw [c1]
    walk_at "ds"
    refine ⟨w, rfl, by omega, ?_⟩
    rw [c2]
    have er : ptsW w = SX.S p :: ptsW (SX.S r) := by rw [ew']; exact pts_cut hp
    rw [er] at hq
    have hrl : (SX.S r).length ≤ 1000000 := by
      have : (SX.S (p ++ 58 :: r)).length ≤ 1000000 := by rw [← ew']; exact hl
      rw [SX.S_len] at this ⊢
      simp at this; omega
    have hrk : PyData.strOk (SX.S r) = true := by
      have h0 : w.cps.all (· < 0x110000) = true := hk
      rw [← Array.all_toList, ew, List.all_append, Bool.and_eq_true, List.all_cons, Bool.and_eq_true] at h0
      show (SX.S r).cps.all (· < 0x110000) = true
      rw [← Array.all_toList]
      exact h0.2.2
    generalize SX.S p = hd at hq ⊢
    generalize SX.S r = tlw at hq hrl hrk ⊢
    walk_at "ds"
    refine inn_n rfl rfl rfl ?_
    rw [in_four]
    cases hn : nmO hd with
    | some b =>
      rw [show (!((some b : Option Bool).isSome || isSd hd)) = false from rfl]
      walk_at "ds"
      refine inn_i rfl rfl rfl ?_
      rw [in_nums, hn]
      walk_at "ds"
      refine ⟨_, ⟨tlw, rfl, hrl, hrk, rfl⟩, fun G2 g2 => ?_⟩
      have h' := hq _ g2
      have e : rdP (m + 1) (hd :: ptsW tlw) = (numO tlw).map (.num b) := by
        by_cases h2 : 58 ∈ tlw.cps.toList
        · obtain ⟨p', r', hp', ew2⟩ := cut_mem h2
          have e2 : ptsW tlw = SX.S p' :: ptsW (SX.S r') := by rw [← pts_cut hp', ← ew2, SX.S_tl]
          obtain ⟨y, ys, e3⟩ := List.exists_cons_of_ne_nil (pts_ne (SX.S r'))
          rw [e2, e3, rdP, hn, num_58 h2]; rfl
        · rw [pts_no h2, rdP, hn]
      rw [e] at h'
      rw [numD_O]
      cases z : numO tlw with
      | none =>
        rw [z] at h'
        walk_at "ds"
        exact h'
      | some n =>
        rw [z] at h'
        walk_at "ds"
        rw [show snO ((some n).map (Sn.num b)) = .tup [.str hd, .int (n : Nat)] from by rw [nm_some hn]; rfl] at h'
        exact h'
    | none =>
      obtain ⟨y, ys, e3⟩ := List.exists_cons_of_ne_nil (pts_ne tlw)
      cases hs : sidO hd with
      | none =>
        rw [show isSd hd = false from by unfold isSd; rw [hs]; rfl, show (!((none : Option Bool).isSome || false)) = true from rfl]
        walk_at "ds"
        have h' := hq _ (Grow.refl G)
        rw [e3, rdP, hn, hs] at h'
        exact h'
      | some b =>
        rw [show isSd hd = true from by unfold isSd; rw [hs]; rfl, show (!((none : Option Bool).isSome || true)) = false from rfl]
        walk_at "ds"
        refine inn_i rfl rfl rfl ?_
        rw [in_nums, hn]
        walk_at "ds"
        refine ⟨_, ⟨tlw, a + 1, rfl, by omega, by omega, hrl, hrk, rfl⟩, fun G2 g2 => ?_⟩
        have h' := hq _ g2
        rw [show 30 - (a + 1) = m by omega]
        rw [show rdP (m + 1) (hd :: ptsW tlw) = (rdP m (ptsW tlw)).map (.side b) from by rw [e3, rdP, hn, hs]] at h'
        cases z : rdP m (ptsW tlw) with
        | none =>
          rw [z] at h'
          walk_at "ds"
          exact h'
        | some s =>
          rw [z] at h'
          rw [show snO (some s) = snD s from rfl]
          walk_at "ds"
          refine isN_F (isNon_sn s) ?_
          walk_at "ds"
          rw [show snO ((some s).map (Sn.side b)) = .tup [.str hd, snD s] from by rw [sid_some hs]; rfl] at h'
          exact h'
end K08
namespace K08
open PySem L2 Dl K06 K05
local macro_rules | `(tactic| walk_at "ds") => `(tactic| repeat' with_reducible first
  | refine iVar (by with_unfolding_all rfl) ?_
  | refine iCons ?_
  | refine iNil ?_
  | refine iC ?_
  | refine iOp ?_
  | refine iSeq ?_
  | refine iAsg ?_
  | refine iGNm ?_
  | refine iTup ?_
  | refine iFrz ?_
  | refine iTst ?_
  | refine iIfS ?_
  | refine iRet ?_
  | refine iCall ?_
  | refine iNext ?_
  | refine isN_T ?_
  | refine isN_F (by with_unfolding_all rfl) ?_
  | refine lenOk (by with_unfolding_all rfl) ?_
  | refine frzEnd ?_
  | refine iIf ?_
  | refine ifT ?_
  | refine ifF ?_
  | refine iCB ?_
  | refine rIx_i (by with_unfolding_all rfl) (by with_unfolding_all rfl) ?_
  | refine rIx_i (by with_unfolding_all rfl) atI_0 ?_
  | refine eq_ii ?_
  | refine len_l ?_
  | fail "stuck")
theorem spl_mem (S : List Nat) : ∀ (l : List Nat) (k : Nat) (acc : List Nat), ∀ p ∈ TL.spl S k acc l, ∀ c ∈ p, c ∈ acc ∨ c ∈ l
  | [], k, acc, p, h, c, hc => by rw [TL.spl_nil] at h; simp at h; subst h; exact .inl hc
  | x :: r, 0, acc, p, h, c, hc => by
    by_cases q : TL.pre S (x :: r) = true
    · rw [TL.spl_hit q] at h
      rcases List.mem_cons.mp h with rfl | h
      · exact .inl hc
      · rcases spl_mem S r _ [] p h c hc with z | z
        · cases z
        · exact .inr (List.mem_cons_of_mem _ z)
    · rw [TL.spl_miss (by simpa using q)] at h
      rcases spl_mem S r 0 _ p h c hc with z | z
      · rcases List.mem_append.mp z with z | z
        · exact .inl z
        · simp at z; subst z; exact .inr (List.mem_cons_self ..)
      · exact .inr (List.mem_cons_of_mem _ z)
  | x :: r, k + 1, acc, p, h, c, hc => by
    rcases spl_mem S r k acc p h c hc with z | z
    · exact .inl z
    · exact .inr (List.mem_cons_of_mem _ z)
def wdsW (t : Str) : List Str := Txt.split t " "
theorem wds_S (w : Str) : wdsW w = (TL.spl [32] 0 [] w.cps.toList).map SX.S := by
  unfold wdsW
  rw [spc_S]
  have h := SX.split_S (a := w.cps.toList) (b := [32]) (by simp) (by decide)
  rw [SX.S_tl] at h
  exact h
theorem wds_ln (w : Str) : (wdsW w).length ≤ w.length + 1 := by
  rw [wds_S, List.length_map]
  have := spl_ln [32] w.cps.toList 0 []
  rw [len_tl] at this
  exact this
theorem wds_in (w : Str) : ∀ x ∈ wdsW w, x.length ≤ w.length := fun x hx => by
  rw [wds_S] at hx
  obtain ⟨p, hp, rfl⟩ := List.mem_map.mp hx
  have := spl_in [32] _ 0 [] p hp
  rw [SX.S_len]
  rw [len_tl] at this
  simpa using this
theorem wds_ok {w : Str} (h : PyData.strOk w = true) : ∀ x ∈ wdsW w, PyData.strOk x = true := fun x hx => by
  rw [wds_S] at hx
  obtain ⟨p, hp, rfl⟩ := List.mem_map.mp hx
  have h0 : w.cps.all (· < 0x110000) = true := h
  rw [← Array.all_toList, List.all_eq_true] at h0
  show (SX.S p).cps.all (· < 0x110000) = true
  rw [← Array.all_toList, List.all_eq_true]
  intro c hc
  rcases spl_mem [32] _ 0 [] p hp c hc with z | z
  · cases z
  · exact h0 c z
theorem spl_ne (S : List Nat) : ∀ (l : List Nat) (k : Nat) (acc : List Nat), TL.spl S k acc l ≠ [] := fun l => by
  induction l with
  | nil => intro k acc; rw [TL.spl_nil]; simp
  | cons c r ih =>
    intro k acc
    cases k with
    | zero =>
      by_cases q : TL.pre S (c :: r) = true
      · rw [TL.spl_hit q]; simp
      · rw [TL.spl_miss (by simpa using q)]; exact ih _ _
    | succ k => exact ih _ _
theorem wds_ne (w : Str) : wdsW w ≠ [] := by
  rw [wds_S]
  exact fun h => spl_ne _ _ _ _ (List.map_eq_nil_iff.mp h)
noncomputable def sgOf (w : Str) : Option Sn := rdP 30 (ptsW w)
def noD (k : Int) : D := .tup [.str "no", .int k]
def tdD (d : D) : D := .tup [.str "told", d]
noncomputable def sgDue (ws : List Str) : D := match ws with
  | [] => .non
  | w :: r => match sgOf w with
    | none => noD 0
    | some s => if r = [] then tdD (snD s) else noD 1
structure TxOk (t : Str) : Prop where
  ln : t.length ≤ 999999
  ok : PyData.strOk t = true
def RSd : List D → D → Prop := fun ds d => ∃ t : Str, ds = [.str t] ∧ TxOk t ∧ d = sgDue (wdsW t)
theorem law_sign_due_rd {k : Nat} (hk : 31 ≤ k) : ∀ ds G Q E, pSp RSd ds G Q E → r_law_sign_due (pSp (RLo k)) { nx := fun _ G' => Q .non G', rt := Q } (startD 3 ds) G := by
  rintro ds G Q E ⟨_, ⟨t, rfl, ht, rfl⟩, hq⟩
  unfold r_law_sign_due
  have hz : (3000000 : Nat) ≤ sizeLine := by decide
  have h1 := ht.ln
  unfold dSplt
  walk_at "ds"
  refine ⟨t, rfl, ?_⟩
  walk_at "ds"
  refine ⟨_, rfl, by rw [spc_ln]; rfl, by omega, frzEnd ?_⟩
  rw [show Txt.split t " " = wdsW t from rfl]
  obtain ⟨x, r, e⟩ := List.exists_cons_of_ne_nil (wds_ne t)
  have hx1 := wds_in t x (by rw [e]; exact List.mem_cons_self ..)
  have hx2 := wds_ok ht.ok x (by rw [e]; exact List.mem_cons_self ..)
  have hl := wds_ln t
  rw [e] at hq hl ⊢
  walk_at "ds"
  refine ⟨_, ⟨x, 0, rfl, by omega, by omega, by omega, hx2, rfl⟩, fun G2 g2 => ?_⟩
  have h' := hq _ g2
  rw [sgDue] at h'
  show _
  rw [show rdP (30 - 0) (ptsW x) = sgOf x from rfl]
  cases z : sgOf x with
  | none =>
    rw [z] at h'
    rw [show snO none = D.non from rfl]
    walk_at "ds"
    exact h'
  | some s =>
    rw [z] at h'
    rw [show snO (some s) = snD s from rfl]
    walk_at "ds"
    refine isN_F (isNon_sn s) ?_
    walk_at "ds"
    rw [List.length_map]
    by_cases hr : r = []
    · subst hr
      have h' : Q (tdD (snD s)) G2 := by simpa only [if_pos] using h'
      rw [decide_eq_true (show ((([x] : List Str).length : Nat) : Int) = 1 by simp)]
      walk_at "ds"
      exact h'
    · have hp := List.length_pos_iff.mpr hr
      have h'' : Q (noD 1) G2 := by
        have := h'
        simp only [if_neg hr] at this
        exact this
      rw [decide_eq_false (show ¬ (((x :: r : List Str).length : Nat) : Int) = 1 by rw [List.length_cons]; omega)]
      walk_at "ds"
      exact h''
end K08
namespace K08
open PySem L2 Dl K06 K05
local macro_rules | `(tactic| walk_at "ds") => `(tactic| repeat' with_reducible first
  | refine iVar (by with_unfolding_all rfl) ?_
  | refine iCons ?_
  | refine iNil ?_
  | refine iC ?_
  | refine iOp ?_
  | refine iSeq ?_
  | refine iAsg ?_
  | refine iGNm ?_
  | refine iTup ?_
  | refine iFrz ?_
  | refine iTst ?_
  | refine iIfS ?_
  | refine iRet ?_
  | refine iCall ?_
  | refine iLst ?_
  | refine iNext ?_
  | refine lstP_i (by assumption) ?_
  | refine lstP_i updG_same ?_
  | refine isN_T ?_
  | refine isN_F (by with_unfolding_all rfl) ?_
  | refine iDrop ?_
  | refine iPar ?_
  | refine lenOk (by with_unfolding_all rfl) ?_
  | refine frzEnd ?_
  | refine iIf ?_
  | refine ifT ?_
  | refine ifF ?_
  | refine iCB ?_
  | refine iMt ?_
  | refine iFor ?_
  | refine rIx_i (by with_unfolding_all rfl) (by with_unfolding_all rfl) ?_
  | refine rIx_i (by with_unfolding_all rfl) atI_0 ?_
  | refine eq_ii ?_
  | refine len_l ?_
  | refine iIRg1 ?_
  | fail "stuck")
noncomputable def rowGo : Nat → List Str → List Sn → D
  | _, [], acc => tdD (.tup (acc.map snD))
  | k, w :: r, acc => match sgOf w with
    | none => noD (k : Nat)
    | some s => rowGo (k + 1) r (acc ++ [s])
noncomputable def rowDue (ws : List Str) : D := if ws.head? = some "-" then (if ws.length = 1 then tdD (.tup []) else noD 1) else rowGo 0 ws []
def RRd : List D → D → Prop := fun ds d => ∃ t : Str, ds = [.str t] ∧ TxOk t ∧ d = rowDue (wdsW t)
theorem rng_cons (j : Int) (n : Nat) : rngD j (n + 1) = D.int j :: rngD (j + 1) n := by
  unfold rngD
  rw [List.range_succ_eq_map, List.map_cons, List.map_map]
  congr 1
  · simp
  · refine List.map_congr_left fun i _ => ?_
    show D.int (j + ((i + 1 : Nat) : Int)) = D.int (j + 1 + (i : Int))
    congr 1; omega
theorem law_row_due_rd {k : Nat} (hk : 31 ≤ k) : ∀ ds G Q E, pSp RRd ds G Q E → r_law_row_due (pSp (RLo k)) { nx := fun _ G' => Q .non G', rt := Q } (startD 5 ds) G := by
  rintro ds G Q E ⟨_, ⟨t, rfl, ht, rfl⟩, hq⟩
  unfold r_law_row_due
  have hz : (3000000 : Nat) ≤ sizeLine := by decide
  have h1 := ht.ln
  unfold dSplt
  walk_at "ds"
  refine ⟨t, rfl, ?_⟩
  walk_at "ds"
  refine ⟨_, rfl, by rw [spc_ln]; rfl, by omega, frzEnd ?_⟩
  rw [show Txt.split t " " = wdsW t from rfl]
  have hwi := wds_in t
  have hwo := wds_ok ht.ok
  have hl := wds_ln t
  have hne := wds_ne t
  generalize wdsW t = ws at hq hwi hwo hl hne ⊢
  obtain ⟨x, r, rfl⟩ := List.exists_cons_of_ne_nil hne
  walk_at "ds"
  intro p hp
  walk_at "ds"
  refine eq_ss ?_
  unfold rowDue at hq
  by_cases hx : x = "-"
  · rw [if_pos (by rw [hx]; rfl)] at hq
    rw [decide_eq_true hx]
    walk_at "ds"
    rw [List.length_map]
    by_cases hr : (x :: r).length = 1
    · rw [if_pos hr] at hq
      rw [decide_eq_true (show ((((x :: r) : List Str).length : Nat) : Int) = 1 by omega)]
      walk_at "ds"
      exact hq _ (Grow.upd hp)
    · rw [if_neg hr] at hq
      rw [decide_eq_false (show ¬ ((((x :: r) : List Str).length : Nat) : Int) = 1 by omega)]
      walk_at "ds"
      exact hq _ (Grow.upd hp)
  rw [if_neg (by simpa using hx)] at hq
  rw [decide_eq_false hx]
  walk_at "ds"
  refine ⟨by omega, by rw [List.length_map]; omega, ?_⟩
  rw [List.length_map, show (((x :: r : List Str).length : Nat) : Int).toNat = (x :: r).length from by omega]
  generalize x :: r = W at hq hwi hwo hl ⊢
  refine dForGo_of (I := fun rest ρ G' => ∃ (j : Nat) (acc : List Sn) (x3 x4 : Option D), rest = rngD (j : Nat) (W.length - j) ∧ j ≤ W.length ∧
      ρ = [some (.str t), some (.lst (W.map D.str)), some (.ref p), x3, x4] ∧ G' p = some (.lst (acc.map snD)) ∧ acc.length = j ∧ rowGo j (W.drop j) acc = rowGo 0 W [] ∧ Grow G G') ?_ ?_ _ _ _
    ⟨0, [], none, none, rfl, Nat.zero_le _, rfl, updG_same, rfl, rfl, Grow.upd hp⟩
  · rintro ρ G1 ⟨j, acc, x3, x4, er, hj, rfl, ep, ea, e2, g1⟩
    have hz' : W.length - j = 0 := by have := congrArg List.length er; simp [rngD] at this; omega
    rw [List.drop_of_length_le (by omega)] at e2
    refine ⟨trivial, ?_⟩
    walk_at "ds"
    refine tupC_r ep ?_
    walk_at "ds"
    have := hq _ g1
    rw [← e2, rowGo] at this
    exact this
  · rintro y rest ρ G1 ⟨j, acc, x3, x4, er, hj, rfl, ep, ea, e2, g1⟩ K hK
    refine ⟨trivial, ?_⟩
    obtain ⟨n, en⟩ : ∃ n, W.length - j = n + 1 := ⟨W.length - j - 1, by
      have : W.length - j ≠ 0 := fun z => by rw [z] at er; cases er
      omega⟩
    rw [en, rng_cons] at er
    injection er with ea1 ea2
    subst ea1 ea2
    have hjl : j < W.length := by omega
    have ei : W[j]? = some W[j] := List.getElem?_eq_getElem hjl
    rw [List.drop_eq_getElem_cons hjl, rowGo] at e2
    have hm := List.getElem_mem hjl
    walk_at "ds"
    refine rIx_i (d := .str W[j]) rfl (Dl.atI_nat (by rw [List.getElem?_map, ei]; rfl)) ?_
    walk_at "ds"
    refine ⟨_, ⟨W[j], 0, rfl, by omega, by omega, by have := hwi _ hm; omega, hwo _ hm, rfl⟩, fun G2 g2 => ?_⟩
    have ep2 := g2 _ _ ep
    rw [show rdP (30 - 0) (ptsW W[j]) = sgOf W[j] from rfl]
    cases z : sgOf W[j] with
    | none =>
      rw [z] at e2
      rw [show snO none = D.non from rfl]
      walk_at "ds"
      have := hq _ (g1.trans g2)
      rw [← e2] at this
      exact this
    | some s =>
      rw [z] at e2
      rw [show snO (some s) = snD s from rfl]
      walk_at "ds"
      refine isN_F (isNon_sn s) ?_
      walk_at "ds"
      refine app_i ep2 (by rw [List.length_map]; omega) ?_
      refine hK _ _ ⟨j + 1, acc ++ [s], _, _, ?_, by omega, rfl, ?_, by simp [ea], e2, Grow.upd2 hp (g1.trans g2)⟩
      · rw [show W.length - (j + 1) = n by omega]; rfl
      · rw [updG_same, List.map_append]; rfl
end K08
namespace K08
open PySem L2 Dl K06 K05
local macro_rules | `(tactic| walk_at "ds") => `(tactic| repeat' with_reducible first
  | refine iVar (by with_unfolding_all rfl) ?_
  | refine iCons ?_
  | refine iNil ?_
  | refine iC ?_
  | refine iOp ?_
  | refine iAsg ?_
  | refine iGNm ?_
  | refine iFrz ?_
  | refine iRet ?_
  | refine iCall ?_
  | refine iXPa ?_
  | refine iXPs ?_
  | refine iXSeq ?_
  | refine iXDrop ?_
  | refine iXAsg ?_
  | refine iXCall ?_
  | refine frzEnd ?_
  | refine rIx_i (by with_unfolding_all rfl) (by with_unfolding_all rfl) ?_
  | refine rIx_i (by with_unfolding_all rfl) atI_0 ?_
  | fail "stuck")
noncomputable def srO (ws : List Str) (l f : Int) : Except DX D := match ws with
  | [] => .ok .non
  | w :: r => match sgOf w with
    | none => .error (itA l f)
    | some s => if r = [] then .ok (snD s) else .error (itA l (f + 1))
def RSr : List D → Except DX D → Prop := fun ds o => ∃ (t : Str) (l f : Int), ds = [.str t, .int l, .int f] ∧ TxOk t ∧ o = srO (wdsW t) l f
theorem sign_read_rd : ∀ ds G Q E, pSpX RSr ds G Q E → r_sign_read (pSp RSo) (pSpX RRo) (pSpX RFd) (fun x _ G' => E x G') { nx := fun _ G' => Q .non G', rt := Q } (startD 5 ds) G := by
  rintro ds G Q E ⟨o, ⟨t, l, f, rfl, ht, rfl⟩, hq⟩
  unfold r_sign_read
  have hz : (3000000 : Nat) ≤ sizeLine := by decide
  have h1 := ht.ln
  unfold dSplt
  walk_at "ds"
  refine ⟨t, rfl, ?_⟩
  walk_at "ds"
  refine ⟨_, rfl, by rw [spc_ln]; rfl, by omega, frzEnd ?_⟩
  rw [show Txt.split t " " = wdsW t from rfl]
  have hwi := wds_in t
  have hwo := wds_ok ht.ok
  have hl := wds_ln t
  have hne := wds_ne t
  generalize wdsW t = ws at hq hwi hwo hl hne ⊢
  obtain ⟨x, r, rfl⟩ := List.exists_cons_of_ne_nil hne
  have hx := hwi x (List.mem_cons_self ..)
  walk_at "ds"
  refine ⟨_, ⟨x, rfl, by omega, hwo x (List.mem_cons_self ..), rfl⟩, fun G2 g2 => ?_⟩
  walk_at "ds"
  refine ⟨_, ⟨_, l, f, rfl, rfl⟩, fun G3 g3 => ?_⟩
  have h3 := hq _ (g2.trans g3)
  rw [show rdP 30 (ptsW x) = sgOf x from rfl]
  cases z : sgOf x with
  | none =>
    rw [show srO (x :: r) l f = .error (itA l f) from by simp only [srO, z]] at h3
    exact h3
  | some s =>
    rw [show fdO (snO (some s)) l f = .ok (snD s) from by cases s <;> rfl]
    have e : srO (x :: r) l f = if r = [] then .ok (snD s) else .error (itA l (f + 1)) := by simp only [srO, z]
    rw [e] at hq
    dsimp only
    walk_at "ds"
    refine ⟨_, ⟨_, l, f, rfl, by rw [List.length_map]; omega, rfl⟩, fun G4 g4 => ?_⟩
    have h4 := hq _ ((g2.trans g3).trans g4)
    rw [List.length_map]
    unfold roO
    by_cases hr : r = []
    · subst hr
      rw [if_pos rfl] at h4
      rw [if_neg (by simp)]
      dsimp only
      walk_at "ds"
      exact h4
    · rw [if_neg hr] at h4
      have := List.length_pos_iff.mpr hr
      rw [if_pos (by rw [List.length_cons]; omega)]
      exact h4
end K08
namespace K08
open PySem L2 Dl K06 K05
local macro_rules | `(tactic| walk_at "ds") => `(tactic| repeat' with_reducible first
  | refine iVar (by with_unfolding_all rfl) ?_
  | refine iCons ?_
  | refine iNil ?_
  | refine iC ?_
  | refine iOp ?_
  | refine iAsg ?_
  | refine iGNm ?_
  | refine iTup ?_
  | refine iFrz ?_
  | refine iTst ?_
  | refine iRet ?_
  | refine iCall ?_
  | refine iNext ?_
  | refine iXPa ?_
  | refine iXPt ?_
  | refine iXPs ?_
  | refine iXSeq ?_
  | refine iXDrop ?_
  | refine iXRet ?_
  | refine iXIfS ?_
  | refine iXFrz ?_
  | refine iXCall ?_
  | refine lenOk (by with_unfolding_all rfl) ?_
  | refine frzEnd ?_
  | refine ifT ?_
  | refine ifF ?_
  | refine rIx_i (by with_unfolding_all rfl) (by with_unfolding_all rfl) ?_
  | refine rIx_i (by with_unfolding_all rfl) atI_0 ?_
  | refine add_ii ?_
  | fail "stuck")
noncomputable def rrGo (l f : Int) : Nat → List Str → List Sn → Except DX D
  | _, [], acc => .ok (.tup (acc.map snD))
  | k, w :: r, acc => match sgOf w with
    | none => .error (itA l (f + (k : Nat)))
    | some s => rrGo l f (k + 1) r (acc ++ [s])
noncomputable def rrO (ws : List Str) (l f : Int) : Except DX D := if ws.head? = some "-" then (if ws.length = 1 then .ok (.tup []) else .error (itA l (f + 1))) else rrGo l f 0 ws []
def RRr : List D → Except DX D → Prop := fun ds o => ∃ (t : Str) (l f : Int), ds = [.str t, .int l, .int f] ∧ TxOk t ∧ o = rrO (wdsW t) l f
def enF : Nat → List Str → List D
  | _, [] => []
  | j, w :: r => .tup [.int (j : Nat), .str w] :: enF (j + 1) r
theorem en_f : ∀ (L : List Str) (j : Nat), ((List.range (L.map D.str).length).map fun i => D.tup [.int ((j + i : Nat) : Int), (L.map D.str).getD i .non]) = enF j L
  | [], _ => rfl
  | w :: r, j => by
    rw [List.map_cons, List.length_cons, List.range_succ_eq_map, List.map_cons, List.map_map, enF, ← en_f r (j + 1)]
    congr 1
    refine List.map_congr_left fun i _ => ?_
    show D.tup [.int ((j + (i + 1) : Nat) : Int), _] = D.tup [.int ((j + 1 + i : Nat) : Int), _]
    rw [show j + (i + 1) = j + 1 + i by omega]; rfl
theorem enum_f (L : List Str) : enumD (L.map D.str) = enF 0 L := by
  rw [← en_f L 0]; unfold enumD
  refine List.map_congr_left fun i _ => by rw [Nat.zero_add]
theorem signs_read_rd : ∀ ds G Q E, pSpX RRr ds G Q E → r_signs_read (pSp RSo) (pSpX RFd) (pSpX RRo) (fun x _ G' => E x G') { nx := fun _ G' => Q .non G', rt := Q } (startD 6 ds) G := by
  rintro ds G Q E ⟨o, ⟨t, l, f, rfl, ht, rfl⟩, hq⟩
  unfold r_signs_read
  have hz : (3000000 : Nat) ≤ sizeLine := by decide
  have h1 := ht.ln
  unfold dSplt
  walk_at "ds"
  refine ⟨t, rfl, ?_⟩
  walk_at "ds"
  refine ⟨_, rfl, by rw [spc_ln]; rfl, by omega, frzEnd ?_⟩
  rw [show Txt.split t " " = wdsW t from rfl]
  have hwi := wds_in t
  have hwo := wds_ok ht.ok
  have hl := wds_ln t
  have hne := wds_ne t
  generalize wdsW t = ws at hq hwi hwo hl hne ⊢
  obtain ⟨x, r, rfl⟩ := List.exists_cons_of_ne_nil hne
  walk_at "ds"
  refine eq_ss ?_
  unfold rrO at hq
  by_cases hx : x = "-"
  · rw [if_pos (by rw [hx]; rfl)] at hq
    rw [decide_eq_true hx]
    walk_at "ds"
    refine ⟨_, ⟨_, l, f, rfl, by rw [List.length_map]; omega, rfl⟩, fun G4 g4 => ?_⟩
    have h4 := hq _ g4
    rw [List.length_map]
    unfold roO
    by_cases hr : (x :: r).length = 1
    · rw [if_pos hr] at h4
      rw [if_neg (by omega)]
      dsimp only
      walk_at "ds"
      exact h4
    · rw [if_neg hr] at h4
      rw [if_pos (by rw [List.length_cons] at hr ⊢; omega)]
      exact h4
  rw [if_neg (by simpa using hx)] at hq
  rw [decide_eq_false hx]
  walk_at "ds"
  unfold xCB xCons
  walk_at "ds"
  refine iXLc ?_
  unfold dLc
  show ∀ p, G p = none → dLcGo okAll _ _ _ _ p (enumD ((x :: r).map D.str)) _ _
  intro p hp
  rw [enum_f]
  refine dLcGo_of (I := fun rest acc G' => ∃ (j : Nat) (W : List Str) (ac : List Sn), rest = enF j W ∧ acc = ac.map snD ∧ rrGo l f j W ac = rrGo l f 0 (x :: r) [] ∧ (∀ w ∈ W, w ∈ x :: r) ∧ ac.length + W.length = (x :: r).length ∧ Grow G G' ∧ G' p = some (.lst acc)) ?_ ?_ _ _ _
    ⟨0, x :: r, [], rfl, rfl, rfl, fun _ h => h, by simp, Grow.upd hp, updG_same⟩
  · rintro acc G' ⟨j, W, ac, er, rfl, e2, -, -, g, ep⟩
    refine ⟨trivial, ?_⟩
    have hW : W = [] := by cases W with
      | nil => rfl
      | cons => cases er
    subst hW
    have gd : Grow G (dropG G' p) := fun b o e => by
      have hb : b ≠ p := by rintro rfl; rw [hp] at e; cases e
      unfold dropG
      first | rw [if_neg hb]; exact g _ _ e | simp only [hb, if_false]; exact g _ _ e
    have h3 := hq _ gd
    rw [← e2, rrGo] at h3
    unfold frzK
    dsimp only
    rw [ep]
    exact h3
  · rintro y ys acc G' ⟨j, W, ac, er, rfl, e2, hm, hln, g, ep⟩
    refine ⟨trivial, ?_⟩
    cases W with
    | nil => cases er
    | cons w W =>
      rw [enF] at er
      injection er with ea eb
      subst ea eb
      have hw := hm w (List.mem_cons_self ..)
      refine ⟨_, rfl, fun K hK => ?_⟩
      walk_at "ds"
      refine ⟨_, ⟨w, rfl, by have := hwi w hw; omega, hwo w hw, rfl⟩, fun G2 g2 => ?_⟩
      walk_at "ds"
      refine ⟨_, ⟨_, l, f + (j : Nat), rfl, rfl⟩, fun G3 g3 => ?_⟩
      rw [show rdP 30 (ptsW w) = sgOf w from rfl]
      rw [rrGo] at e2
      cases z : sgOf w with
      | none =>
        rw [z] at e2
        have h3 := hq _ (g.trans (g2.trans g3))
        rw [← e2] at h3
        exact h3
      | some s =>
        rw [z] at e2
        rw [show fdO (snO (some s)) l (f + (j : Nat)) = .ok (snD s) from by cases s <;> rfl]
        have gg := g2.trans g3
        refine hK _ _ (gg _ _ ep) (by rw [List.length_map]; rw [List.length_cons] at hln; omega) ⟨j + 1, W, ac ++ [s], rfl, by simp, e2, fun v hv => hm v (List.mem_cons_of_mem _ hv), by rw [List.length_cons] at hln; simp; simp at hln; omega, Grow.upd2 hp (g.trans gg), updG_same⟩
end K08
namespace K08
open PySem L2 Dl K06 K05
local macro_rules | `(tactic| walk_at "ds") => `(tactic| repeat' with_reducible first
  | fail "stuck")
theorem row_agrees : ∀ (W : List Str) (k : Nat) (acc : List Sn), (∃ x, rowGo k W acc = tdD x ∧ ∀ l f, rrGo l f k W acc = .ok x) ∨ (∃ j : Nat, rowGo k W acc = noD j ∧ ∀ l f, rrGo l f k W acc = .error (itA l (f + (j : Nat))))
  | [], k, acc => .inl ⟨_, by rw [rowGo], fun l f => by rw [rrGo]⟩
  | w :: r, k, acc => by
    cases z : sgOf w with
    | none => exact .inr ⟨k, by simp only [rowGo, z], fun l f => by simp only [rrGo, z]⟩
    | some s =>
      have ih := row_agrees r (k + 1) (acc ++ [s])
      simp only [rowGo, rrGo, z]
      exact ih
theorem due_row (W : List Str) : (∃ x, rowDue W = tdD x ∧ ∀ l f, rrO W l f = .ok x) ∨ (∃ j : Nat, rowDue W = noD j ∧ ∀ l f, rrO W l f = .error (itA l (f + (j : Nat)))) := by
  unfold rowDue rrO
  by_cases h : W.head? = some "-"
  · simp only [if_pos h]
    by_cases h1 : W.length = 1
    · simp only [if_pos h1]; exact .inl ⟨_, rfl, fun _ _ => rfl⟩
    · simp only [if_neg h1]; exact .inr ⟨1, rfl, fun _ _ => rfl⟩
  · simp only [if_neg h]; exact row_agrees W 0 []
theorem due_sign {W : List Str} (hW : W ≠ []) : (∃ x, sgDue W = tdD x ∧ ∀ l f, srO W l f = .ok x) ∨ (∃ j : Nat, sgDue W = noD j ∧ ∀ l f, srO W l f = .error (itA l (f + (j : Nat)))) := by
  obtain ⟨w, r, rfl⟩ := List.exists_cons_of_ne_nil hW
  cases z : sgOf w with
  | none => exact .inr ⟨0, by simp only [sgDue, z]; rfl, fun l f => by simp only [srO, z]; rw [show f + ((0 : Nat) : Int) = f by omega]⟩
  | some s =>
    by_cases h : r = []
    · exact .inl ⟨snD s, by simp only [sgDue, z, if_pos h], fun l f => by simp only [srO, z, if_pos h]⟩
    · exact .inr ⟨1, by simp only [sgDue, z, if_neg h]; rfl, fun l f => by simp only [srO, z, if_neg h]; rfl⟩
end K08
namespace K08
open PySem L2 Dl K06 K05
local macro_rules | `(tactic| walk_at "ds") => `(tactic| repeat' with_reducible first
  | fail "stuck")
theorem num_back {w : Str} (h : NumW w) : Str.ofString (toString ((NumText.digitsVal w.cps.toList : Nat) : Int)) = w := by
  refine TL.ext_tl ?_
  rw [TL.tl_num]
  show TL.numL _ = w.cps.toList
  have hl := len_tl w
  have h1 := h.n1
  have hd := h.hd
  have hg := fun c hc => List.all_eq_true.mp h.dg c hc
  have hA : NumText.AllDigits w.cps.toList := fun c hc => by
    have := hg c hc
    unfold isDg at this
    rw [Bool.and_eq_true, decide_eq_true_eq, decide_eq_true_eq] at this
    exact this
  generalize w.cps.toList = cs at hl hd hg hA ⊢
  rw [← hl] at h1 hd
  unfold TL.numL
  rw [NumText.toDigits_digitsVal (cs.length - 1) cs (by omega) hA ?_, List.map_map]
  · conv => rhs; rw [← List.map_id cs]
    refine List.map_congr_left fun c hc => ?_
    have hb := hA c hc
    have key : ∀ n : Fin 58, (Char.ofNat n.1).toNat = n.1 := by decide +kernel
    exact key ⟨c, by omega⟩
  · cases cs with
    | nil => simp at h1
    | cons c r =>
      by_cases hr : r = []
      · subst hr; exact .inl rfl
      · refine .inr ⟨c, r, rfl, ?_⟩
        have hb := hA c (List.mem_cons_self ..)
        have hp := List.length_pos_iff.mpr hr
        have : c ≠ 48 := fun z => hd ⟨by rw [List.length_cons]; omega, by rw [z]; rfl⟩
        omega
theorem pl_back {w : Str} {s : Sn} (h : plO w = some s) : sgP s = [w] := by
  unfold plO at h
  by_cases h1 : w = "tick"
  · rw [if_pos h1] at h; cases h; rw [h1]; rfl
  · rw [if_neg h1] at h
    by_cases h2 : w = "more"
    · rw [if_pos h2] at h; cases h; rw [h2]; rfl
    · rw [if_neg h2] at h
      by_cases h3 : w = "end"
      · rw [if_pos h3] at h; cases h; rw [h3]; rfl
      · rw [if_neg h3] at h; cases h
theorem rdP_back : ∀ (m : Nat) (ps : List Str) {s : Sn}, rdP m ps = some s → sgP s = ps
  | 0, _, _, h => by cases h
  | _ + 1, [], _, h => by cases h
  | _ + 1, [w], _, h => pl_back h
  | m + 1, h :: r :: rs, s, e => by
    rw [rdP] at e
    cases hn : nmO h with
    | some b =>
      rw [hn] at e
      cases rs with
      | cons => cases e
      | nil =>
        dsimp only at e
        cases z : numO r with
        | none => rw [z] at e; cases e
        | some n =>
          rw [z] at e
          cases e
          unfold numO at z
          by_cases q : NumW r
          · rw [if_pos q] at z; cases z
            rw [sgP, num_back q, ← nm_some hn]
          · rw [if_neg q] at z; cases z
    | none =>
      rw [hn] at e
      dsimp only at e
      cases hs : sidO h with
      | none => rw [hs] at e; cases e
      | some b =>
        rw [hs] at e
        dsimp only at e
        cases z : rdP m (r :: rs) with
        | none => rw [z] at e; cases e
        | some u =>
          rw [z] at e
          cases e
          rw [sgP, rdP_back m (r :: rs) z, ← sid_some hs]
end K08
namespace K08
open PySem L2 Dl K06 K05
local macro_rules | `(tactic| walk_at "ds") => `(tactic| repeat' with_reducible first
  | fail "stuck")
theorem join_cons (c : Nat) (p : List Nat) {ps : List (List Nat)} (h : ps ≠ []) : TL.joinL [c] (p :: ps) = p ++ (c :: TL.joinL [c] ps) := by
  cases ps with
  | nil => exact absurd rfl h
  | cons q r => rfl
theorem join_spl (c : Nat) : ∀ (l acc : List Nat), TL.joinL [c] (TL.spl [c] 0 acc l) = acc ++ l
  | [], acc => by rw [TL.spl_nil, List.append_nil]; rfl
  | x :: r, acc => by
    by_cases q : TL.pre [c] (x :: r) = true
    · rw [TL.spl_hit q, join_cons c acc (spl_ne _ _ _ _)]
      have e : x = c := by
        unfold TL.pre at q
        simpa using q
      rw [show ([c] : List Nat).length - 1 = 0 from rfl, join_spl c r [], e]; rfl
    · rw [TL.spl_miss (by simpa using q), join_spl c r]; simp
theorem pts_back (w : Str) : Str.join ":" (ptsW w) = w := by
  refine TL.ext_tl ?_
  rw [TL.tl_join, pts_S, SX.map_S_tl, cln_S]
  exact (join_spl 58 _ []).trans rfl
theorem wds_back (w : Str) : Str.join " " (wdsW w) = w := by
  refine TL.ext_tl ?_
  rw [TL.tl_join, wds_S, SX.map_S_tl, spc_S]
  exact (join_spl 32 _ []).trans rfl
theorem sg_back {w : Str} {s : Sn} (h : sgOf w = some s) : sgW s = w := by
  unfold sgW
  rw [rdP_back 30 _ h, pts_back]
end K08
namespace K08
open PySem L2 Dl K06 K05
local macro_rules | `(tactic| walk_at "ds") => `(tactic| repeat' with_reducible first
  | fail "stuck")
theorem spl_cnt (c : Nat) : ∀ (l acc : List Nat), (TL.spl [c] 0 acc l).length = l.count c + 1
  | [], acc => by rw [TL.spl_nil]; rfl
  | x :: r, acc => by
    by_cases q : TL.pre [c] (x :: r) = true
    · rw [TL.spl_hit q, List.length_cons, show ([c] : List Nat).length - 1 = 0 from rfl, spl_cnt c r []]
      have e : x = c := by unfold TL.pre at q; simpa using q
      subst e
      rw [List.count_cons_self]
    · rw [TL.spl_miss (by simpa using q), spl_cnt c r]
      have e : x ≠ c := fun z => q (by unfold TL.pre; simp [z])
      rw [List.count_cons_of_ne e]
theorem wds_cnt (t : Str) : (wdsW t).length = t.cps.toList.count 32 + 1 := by
  rw [wds_S, List.length_map, spl_cnt]
structure LnOk (t : Str) : Prop where
  ln : t.length ≤ 3100
  sp : t.cps.toList.count 32 ≤ 240
  ok : PyData.strOk t = true
theorem LnOk.tx {t : Str} (h : LnOk t) : TxOk t := ⟨by have := h.ln; omega, h.ok⟩
theorem LnOk.wd {t : Str} (h : LnOk t) : (wdsW t).length ≤ 241 := by rw [wds_cnt]; have := h.sp; omega
theorem dv_lt : ∀ (n : Nat) (cs : List Nat), cs.length = n → NumText.AllDigits cs → NumText.digitsVal cs < 10 ^ n
  | 0, cs, h, _ => by
    have : cs = [] := List.eq_nil_of_length_eq_zero h
    subst this; decide
  | n + 1, cs, h, hA => by
    have hne : cs ≠ [] := fun z => by rw [z] at h; cases h
    have e := List.dropLast_concat_getLast hne
    have hl : cs.dropLast.length = n := by rw [List.length_dropLast, h]; rfl
    have hg := hA (cs.getLast hne) (List.getLast_mem hne)
    have ih := dv_lt n cs.dropLast hl fun c hc => hA c (List.dropLast_subset cs hc)
    rw [← e, PySem.NumText.digitsVal_snoc, Nat.pow_succ]
    omega
theorem num_lt {w : Str} (h : NumW w) : NumText.digitsVal w.cps.toList < 10 ^ 60 := by
  have hA : NumText.AllDigits w.cps.toList := fun c hc => by
    have := List.all_eq_true.mp h.dg c hc
    unfold isDg at this
    rw [Bool.and_eq_true, decide_eq_true_eq, decide_eq_true_eq] at this
    exact this
  have := dv_lt _ w.cps.toList rfl hA
  refine Nat.lt_of_lt_of_le this (Nat.pow_le_pow_right (by decide) ?_)
  rw [len_tl]; exact h.n2
theorem rdP_sm : ∀ (m : Nat) (ps : List Str) {s : Sn}, rdP m ps = some s → sds s < m ∧ nbN s
  | 0, _, _, h => by cases h
  | _ + 1, [], _, h => by cases h
  | _ + 1, [w], s, h => by
    have h : plO w = some s := h
    unfold plO at h
    by_cases h1 : w = "tick"
    · rw [if_pos h1] at h; cases h; exact ⟨Nat.succ_pos _, trivial⟩
    · rw [if_neg h1] at h
      by_cases h2 : w = "more"
      · rw [if_pos h2] at h; cases h; exact ⟨Nat.succ_pos _, trivial⟩
      · rw [if_neg h2] at h
        by_cases h3 : w = "end"
        · rw [if_pos h3] at h; cases h; exact ⟨Nat.succ_pos _, trivial⟩
        · rw [if_neg h3] at h; cases h
  | m + 1, h :: r :: rs, s, e => by
    rw [rdP] at e
    cases hn : nmO h with
    | some b =>
      rw [hn] at e
      cases rs with
      | cons => cases e
      | nil =>
        dsimp only at e
        cases z : numO r with
        | none => rw [z] at e; cases e
        | some n =>
          rw [z] at e
          cases e
          unfold numO at z
          by_cases q : NumW r
          · rw [if_pos q] at z; cases z
            exact ⟨Nat.succ_pos _, Nat.lt_of_lt_of_le (num_lt q) (by decide)⟩
          · rw [if_neg q] at z; cases z
    | none =>
      rw [hn] at e
      dsimp only at e
      cases hs : sidO h with
      | none => rw [hs] at e; cases e
      | some b =>
        rw [hs] at e
        dsimp only at e
        cases z : rdP m (r :: rs) with
        | none => rw [z] at e; cases e
        | some u =>
          rw [z] at e
          cases e
          have := rdP_sm m (r :: rs) z
          exact ⟨by rw [sds]; omega, this.2⟩
theorem sg_sm {w : Str} {s : Sn} (h : sgOf w = some s) : sds s < 30 ∧ nbN s := rdP_sm 30 _ h
theorem rr_go : ∀ (W : List Str) (k : Nat) (acc : List Sn) {l f : Int} {x : D}, rrGo l f k W acc = .ok x → ∃ L : List Sn, x = .tup ((acc ++ L).map snD) ∧ L.map sgW = W ∧ ∀ s ∈ L, sds s < 30 ∧ nbN s
  | [], k, acc, l, f, x, h => by rw [rrGo] at h; cases h; exact ⟨[], by rw [List.append_nil], rfl, fun _ h => nomatch h⟩
  | w :: r, k, acc, l, f, x, h => by
    cases z : sgOf w with
    | none => simp only [rrGo, z] at h; cases h
    | some s =>
      simp only [rrGo, z] at h
      obtain ⟨L, e1, e2, e3⟩ := rr_go r (k + 1) (acc ++ [s]) h
      refine ⟨s :: L, by rw [e1, List.append_assoc]; rfl, by rw [List.map_cons, e2, sg_back z], fun u hu => ?_⟩
      rcases List.mem_cons.mp hu with rfl | hu
      · exact sg_sm z
      · exact e3 u hu
theorem row_read {t : Str} {l f : Int} {x : D} (h : rrO (wdsW t) l f = .ok x) : ∃ L : List Sn, x = .tup (L.map snD) ∧ (∀ s ∈ L, sds s < 30 ∧ nbN s) ∧ L.length ≤ (wdsW t).length ∧ rowW L = t := by
  have hb := wds_back t
  have hn := wds_ne t
  generalize wdsW t = W at h hb hn ⊢
  unfold rrO at h
  by_cases hd : W.head? = some "-"
  · rw [if_pos hd] at h
    by_cases h1 : W.length = 1
    · rw [if_pos h1] at h
      cases h
      refine ⟨[], rfl, (fun _ h => by cases h), Nat.zero_le _, ?_⟩
      cases W with
      | nil => cases h1
      | cons w r =>
        have : r = [] := List.eq_nil_of_length_eq_zero (by rw [List.length_cons] at h1; omega)
        subst this
        have hd : w = "-" := by simpa using hd
        subst hd
        rw [← hb]; decide +kernel
    · rw [if_neg h1] at h; cases h
  · rw [if_neg hd] at h
    obtain ⟨L, e1, e2, e3⟩ := rr_go W 0 [] h
    refine ⟨L, by rw [e1]; rfl, e3, by rw [← e2, List.length_map]; exact Nat.le_refl _, ?_⟩
    unfold rowW
    rw [if_neg (fun z => by rw [z] at e2; exact hn e2.symm), e2, hb]
theorem join_one (w : Str) : Str.join " " [w] = w := by
  refine TL.ext_tl ?_
  rw [TL.tl_join]
  rfl
theorem sign_back {t : Str} {l f : Int} {x : D} (h : srO (wdsW t) l f = .ok x) : ∃ s : Sn, x = snD s ∧ sds s < 30 ∧ nbN s ∧ sgW s = t := by
  have hb := wds_back t
  have hn := wds_ne t
  generalize wdsW t = W at h hb hn ⊢
  obtain ⟨w, r, rfl⟩ := List.exists_cons_of_ne_nil hn
  cases z : sgOf w with
  | none => simp only [srO, z] at h; cases h
  | some s =>
    simp only [srO, z] at h
    by_cases hr : r = []
    · rw [if_pos hr] at h
      cases h
      subst hr
      have := sg_sm z
      exact ⟨s, rfl, this.1, this.2, by rw [sg_back z, ← hb, join_one]⟩
    · rw [if_neg hr] at h; cases h
theorem num_ok (w : Bool) : PyData.strOk (numS w) = true := by cases w <;> decide +kernel
theorem sid_ok (r : Bool) : PyData.strOk (sidS r) = true := by cases r <;> decide +kernel
theorem md_sn : ∀ s : Sn, nbN s → mdD (snD s) = true
  | .tick, _ | .more, _ | .fin, _ => by simp only [snD, mdD]; decide +kernel
  | .num w n, h => by
    have h : n < 10 ^ 61 := h
    simp only [snD, mdD, mdDs, num_ok, Bool.true_and, Bool.and_true, Int.natAbs_natCast, decide_eq_true_eq]
    exact h
  | .side r s, h => by
    simp only [snD, mdD, mdDs, sid_ok, md_sn s h, Bool.and_self]
theorem wd_sn : ∀ s : Sn, wdD (snD s) ≤ 260 + 8 * sds s
  | .tick | .more | .fin => by
    refine Nat.le_trans ?_ (Nat.le_add_right _ _)
    simp only [snD, wdD]; decide +kernel
  | .num w n => by
    have := numS_ln w
    simp only [snD, wdD, wdDs]; omega
  | .side r s => by
    have := sidS_ln r
    have := wd_sn s
    simp only [snD, wdD, wdDs, sds]; omega
theorem told_s {s : Sn} (h : sds s < 30) (hb : nbN s) : Shw (tdD (snD s)) := by
  have e : (2 : Nat) ^ 17 = 131072 := by decide
  have := dep_sn s
  have := wd_sn s
  have h4 : ("told" : Str).length = 4 := by decide +kernel
  refine shw_mid rfl ?_ ?_ ?_
  · have h5 : PyData.strOk "told" = true := by decide +kernel
    simp only [tdD, mdD, mdDs, md_sn s hb, h5, Bool.and_self]
  · simp only [tdD, depD, depDs]; omega
  · simp only [tdD, wdD, wdDs, h4]; omega
theorem told_r {L : List Sn} (h : ∀ s ∈ L, sds s < 30 ∧ nbN s) (hl : L.length ≤ 250) : Shw (tdD (.tup (L.map snD))) := by
  have e : (2 : Nat) ^ 17 = 131072 := by decide
  have h4 : ("told" : Str).length = 4 := by decide +kernel
  have hd : depDs (L.map snD) ≤ 31 := depDs_le (by
    intro d hd
    obtain ⟨s, hs, rfl⟩ := List.mem_map.mp hd
    have := dep_sn s
    have := (h s hs).1
    omega)
  have hw := wdDs_le (ds := L.map snD) (n := 500) (by
    intro d hd
    obtain ⟨s, hs, rfl⟩ := List.mem_map.mp hd
    have := wd_sn s
    have := (h s hs).1
    omega)
  rw [List.length_map] at hw
  have : L.length * (500 + 1) ≤ 250 * 501 := Nat.mul_le_mul hl (Nat.le_refl _)
  refine shw_mid rfl ?_ ?_ ?_
  · have h5 : PyData.strOk "told" = true := by decide +kernel
    have h6 : mdDs (L.map snD) = true := mdDs_iff.mpr (by
      intro d hd
      obtain ⟨s, hs, rfl⟩ := List.mem_map.mp hd
      exact md_sn s (h s hs).2)
    simp only [tdD, mdD, mdDs, h6, h5, Bool.and_self]
  · simp only [tdD, depD, depDs]; omega
  · simp only [tdD, wdD, wdDs, h4]; omega
def txD (l f : Int) : D := .tup [.str "text", .int l, .int f]
theorem text_s {l f : Int} (h1 : 0 ≤ l) (h2 : l ≤ 100000) (h3 : 0 ≤ f) (h4 : f ≤ 100000) : Shw (txD l f) := by
  have h6 : ("text" : Str).length = 4 := by decide +kernel
  refine shw_mid rfl ?_ ?_ ?_
  · have h5 : PyData.strOk "text" = true := by decide +kernel
    have e1 : l.natAbs < 10 ^ 61 := by have e : (100001 : Nat) ≤ 10 ^ 61 := by decide
                                       omega
    have e2 : f.natAbs < 10 ^ 61 := by have e : (100001 : Nat) ≤ 10 ^ 61 := by decide
                                       omega
    simp only [txD, mdD, mdDs, h5, decide_eq_true e1, decide_eq_true e2, Bool.and_self]
  · simp only [txD, depD, depDs]; decide
  · simp only [txD, wdD, wdDs, h6]; decide
theorem row_no : ∀ (W : List Str) (k : Nat) (acc : List Sn) {j : Nat}, rowGo k W acc = noD (j : Nat) → j ≤ k + W.length
  | [], k, acc, j, h => by rw [rowGo] at h; cases h
  | w :: r, k, acc, j, h => by
    cases z : sgOf w with
    | none =>
      simp only [rowGo, z] at h
      unfold noD at h
      have : (k : Int) = (j : Int) := by injection h with h; injection h with _ h; injection h with h; injection h
      omega
    | some s =>
      simp only [rowGo, z] at h
      have := row_no r (k + 1) (acc ++ [s]) h
      rw [List.length_cons]; omega
theorem due_no {W : List Str} (hW : W ≠ []) {j : Nat} (h : rowDue W = noD (j : Nat)) : j ≤ W.length := by
  unfold rowDue at h
  by_cases hd : W.head? = some "-"
  · rw [if_pos hd] at h
    by_cases h1 : W.length = 1
    · rw [if_pos h1] at h; cases h
    · rw [if_neg h1] at h
      unfold noD at h
      have : (1 : Int) = (j : Int) := by injection h with h; injection h with _ h; injection h with h; injection h
      have := List.length_pos_iff.mpr hW
      omega
  · rw [if_neg hd] at h
    have := row_no W 0 [] h
    omega
theorem sgd_no {W : List Str} (hW : W ≠ []) {j : Nat} (h : sgDue W = noD (j : Nat)) : j ≤ 1 := by
  have key : ∀ i : Int, noD i = noD (j : Nat) → i = (j : Int) := fun i h => by
    unfold noD at h
    injection h with h; injection h with _ h; injection h with h; injection h
  obtain ⟨w, r, rfl⟩ := List.exists_cons_of_ne_nil hW
  cases z : sgOf w with
  | none => simp only [sgDue, z] at h; have := key _ h; omega
  | some s =>
    by_cases hr : r = []
    · simp only [sgDue, z, if_pos hr] at h; cases h
    · simp only [sgDue, z, if_neg hr] at h; have := key _ h; omega
end K08
namespace K08
open PySem L2 Dl K06 K05
local macro_rules | `(tactic| walk_at "ds") => `(tactic| repeat' with_reducible first
  | refine iVar (by with_unfolding_all rfl) ?_
  | refine iCons ?_
  | refine iNil ?_
  | refine iC ?_
  | refine iOp ?_
  | refine iSeq ?_
  | refine iAsg ?_
  | refine iGNm ?_
  | refine iTup ?_
  | refine iFrz ?_
  | refine iTst ?_
  | refine iIfS ?_
  | refine iRet ?_
  | refine iCall ?_
  | refine iLst ?_
  | refine iNext ?_
  | refine iGTp (by with_unfolding_all rfl) ?_
  | refine iGsCons ?_
  | refine iGsNil ?_
  | refine lenOk (by with_unfolding_all rfl) ?_
  | refine frzEnd ?_
  | refine iAnd ?_
  | refine iIf ?_
  | refine ifT ?_
  | refine ifF ?_
  | refine iCB ?_
  | refine iFor ?_
  | refine iISq ?_
  | refine rIx_i (by with_unfolding_all rfl) (by with_unfolding_all rfl) ?_
  | refine rIx_i (by with_unfolding_all rfl) atI_0 ?_
  | refine eq_strT ?_
  | refine eq_strF (by with_unfolding_all rfl) ?_
  | refine ne_strT ?_
  | refine add_ii ?_
  | fail "stuck")
abbrev qLn : Str := "_law_line_right.<locals>.<lambda>"
structure TurnOk (fvr fvw : List (Addr × DSp)) (t : Str) (r : Addr × Addr × D) : Prop where
  ex : ∃ spr, (r.1, spr) ∈ fvr ∧
    ((∃ x, r.2.2 = tdD x ∧ Shw (tdD x) ∧ (∀ (l f : Int) (G : GH) (Q : DK) (E : DXK), (∀ G', Grow G G' → Q x G') → spr [.str t, .int l, .int f] G Q E) ∧
      ∃ spw, (r.2.1, spw) ∈ fvw ∧ ∀ (G : GH) (Q : DK) (E : DXK), (∀ G', Grow G G' → Q (.str t) G') → spw [x] G Q E) ∨
    (∃ j : Nat, r.2.2 = noD j ∧ j ≤ 250 ∧ ∀ (l f : Int) (G : GH) (Q : DK) (E : DXK), (∀ G', Grow G G' → E (itA l (f + (j : Nat))) G') → spr [.str t, .int l, .int f] G Q E))
theorem heardL_text {Tb : Addr} {q : Str} {T : XTE} {ρ : DSt} {G : GH} {Q : DK} {l f : Int} (hT : G Tb = some (.tab q)) (h : ∀ (E' : DXK) (Q' : DK), (∀ G', Grow G G' → E' (itA l f) G') → T (fun x _ G2 => E' x G2) ρ G Q') (hq : ∀ G', Grow G G' → Q (txD l f) G') : dHearL Tb q r_law_heard 4 T ρ G Q :=
  ⟨hT, fun φ n1 H1 => heard_text (α := ⟨q, φ, n1, H1, fun E' G' Q' => T (fun x _ G2 => E' x G2) ρ G' Q'⟩) h hq⟩
theorem heardL_told {Tb : Addr} {q : Str} {T : XTE} {ρ : DSt} {G : GH} {Q : DK} {x : D} (hT : G Tb = some (.tab q)) (h : ∀ (E' : DXK) (Q' : DK), (∀ G', Grow G G' → Q' x G') → T (fun x _ G2 => E' x G2) ρ G Q') (hq : ∀ G', Grow G G' → Q (tdD x) G') : dHearL Tb q r_law_heard 4 T ρ G Q :=
  ⟨hT, fun φ n1 H1 => heard_told (α := ⟨q, φ, n1, H1, fun E' G' Q' => T (fun x _ G2 => E' x G2) ρ G' Q'⟩) h hq⟩
theorem vg_1 {fv : List (Addr × DSp)} {a : Addr} {sp : DSp} {i : Nat} {d : D} {ρ : DSt} {G : GH} {Q : DK} {Z : DZ} (hm : (a, sp) ∈ fv) (h4 : sl ρ i = some (.ref a)) (h0 : sl ρ 0 = some d) (h : sp [d, .int 0, .int 0] G Q fun x G3 => Z x ρ G3) :
    xCallVG fv 1 0 [(0, 0), (1, 0), (1, 1)] [.int 0, .int 0] (dVar i) (dCons (dVar 0) dNil) dNil Z ρ G Q := by
  refine iCallVG ?_
  refine iVar h4 ?_
  refine ⟨_, hm, rfl, ?_⟩
  refine iCons ?_
  refine iVar h0 ?_
  refine iNil ?_
  refine iNil ?_
  exact ⟨rfl, rfl, h⟩
theorem vg_2 {fv : List (Addr × DSp)} {a : Addr} {sp : DSp} {i : Nat} {d d1 d2 : D} {ρ : DSt} {G : GH} {Q : DK} {Z : DZ} (hm : (a, sp) ∈ fv) (h4 : sl ρ i = some (.ref a)) (h0 : sl ρ 0 = some d) (h1 : sl ρ 1 = some d1) (h2 : sl ρ 2 = some d2) (h : sp [d, d1, d2] G Q fun x G3 => Z x ρ G3) :
    xCallVG fv 1 2 [(0, 0), (2, 1), (2, 0)] [] (dVar i) (dCons (dVar 0) dNil) (dCons (dVar 2) (dCons (dVar 1) dNil)) Z ρ G Q := by
  refine iCallVG ?_
  refine iVar h4 ?_
  refine ⟨_, hm, rfl, ?_⟩
  refine iCons ?_
  refine iVar h0 ?_
  refine iNil ?_
  refine iCons ?_
  refine iVar h2 ?_
  refine iCons ?_
  refine iVar h1 ?_
  refine iNil ?_
  exact ⟨rfl, rfl, h⟩
def trD (r : Addr × Addr × D) : D := .tup [.ref r.1, .ref r.2.1, r.2.2]
theorem sign_turn {a0 a1 : Addr} {fvr fvw : List (Addr × DSp)} {t : Str} (h0 : (a0, pSpX RSr) ∈ fvr) (h1 : (a1, pSp RSt) ∈ fvw) (ht : LnOk t) : TurnOk fvr fvw t (a0, a1, sgDue (wdsW t)) := by
  refine ⟨_, h0, ?_⟩
  rcases due_sign (wds_ne t) with ⟨x, e1, e2⟩ | ⟨j, e1, e2⟩
  · obtain ⟨s, rfl, hs, hb, hw⟩ := sign_back (e2 0 0)
    exact .inl ⟨_, e1, told_s hs hb, fun l f G Q E h => ⟨_, ⟨t, l, f, rfl, ht.tx, rfl⟩, fun G' g => by rw [e2]; exact h G' g⟩, _, h1, fun G Q E h => ⟨_, ⟨s, rfl, by omega, hb, rfl⟩, fun G' g => by rw [hw]; exact h G' g⟩⟩
  · exact .inr ⟨j, e1, by have := sgd_no (wds_ne t) e1; omega, fun l f G Q E h => ⟨_, ⟨t, l, f, rfl, ht.tx, rfl⟩, fun G' g => by rw [e2]; exact h G' g⟩⟩
theorem row_turn {a2 a3 : Addr} {fvr fvw : List (Addr × DSp)} {t : Str} (h0 : (a2, pSpX RRr) ∈ fvr) (h1 : (a3, pSp RRw) ∈ fvw) (ht : LnOk t) : TurnOk fvr fvw t (a2, a3, rowDue (wdsW t)) := by
  refine ⟨_, h0, ?_⟩
  have hl := ht.wd
  rcases due_row (wdsW t) with ⟨x, e1, e2⟩ | ⟨j, e1, e2⟩
  · obtain ⟨L, rfl, hs, hn, hw⟩ := row_read (e2 0 0)
    exact .inl ⟨_, e1, told_r hs (by omega), fun l f G Q E h => ⟨_, ⟨t, l, f, rfl, ht.tx, rfl⟩, fun G' g => by rw [e2]; exact h G' g⟩, _, h1, fun G Q E h => ⟨_, ⟨L, rfl, ⟨fun s h => by have := (hs s h).1; omega, fun s h => (hs s h).2, by omega⟩, rfl⟩, fun G' g => by rw [hw]; exact h G' g⟩⟩
  · exact .inr ⟨j, e1, by have := due_no (wds_ne t) e1; omega, fun l f G Q E h => ⟨_, ⟨t, l, f, rfl, ht.tx, rfl⟩, fun G' g => by rw [e2]; exact h G' g⟩⟩
def spLn (Tb : Addr) : DSp := fun ds G Q _ => ∃ (t : Str) (l f : Int), ds = [.str t, .int l, .int f] ∧ LnOk t ∧ 0 ≤ l ∧ l ≤ 1000 ∧ 0 ≤ f ∧ f ≤ 1000 ∧ G Tb = some (.tab qLn) ∧ ∀ G', Grow G G' → Q (.bl true) G'
theorem ne_eqs {a : Str} {G : GH} {Q : DK} (h : Q (.bl false) G) : rNev (.str a) (.str a) G Q := ne_ss (by rw [decide_eq_true rfl]; exact h)
theorem law_line_right_rd {Tb a0 a1 a2 a3 : Addr} : ∀ ds G Q E, spLn Tb ds G Q E → r_law_line_right Tb (pSp RRd) (pSp RSd) [(a1, pSp RSt), (a3, pSp RRw)] [(a0, pSpX RSr), (a2, pSpX RRr)] [a0, a1, a2, a3] { nx := fun _ G' => Q .non G', rt := Q } (startD 8 ds) G := by
  rintro ds G Q E ⟨t, l, f, rfl, ht, l0, l1, f0, f1, hT, hq⟩
  unfold r_law_line_right
  have t1 : TurnOk [(a0, pSpX RSr), (a2, pSpX RRr)] [(a1, pSp RSt), (a3, pSp RRw)] t (a0, a1, sgDue (wdsW t)) := sign_turn (List.mem_cons_self ..) (List.mem_cons_self ..) ht
  have t2 : TurnOk [(a0, pSpX RSr), (a2, pSpX RRr)] [(a1, pSp RSt), (a3, pSp RRw)] t (a2, a3, rowDue (wdsW t)) := row_turn (List.mem_cons_of_mem _ (List.mem_cons_self ..)) (List.mem_cons_of_mem _ (List.mem_cons_self ..)) ht
  generalize ([(a0, pSpX RSr), (a2, pSpX RRr)] : List (Addr × DSp)) = fvr at t1 t2 ⊢
  generalize ([(a1, pSp RSt), (a3, pSp RRw)] : List (Addr × DSp)) = fvw at t1 t2 ⊢
  walk_at "ds"
  refine ⟨_, ⟨t, rfl, ht.tx, rfl⟩, fun G1 g1 => ?_⟩
  walk_at "ds"
  refine ⟨_, ⟨t, rfl, ht.tx, rfl⟩, fun G2 g2 => ?_⟩
  walk_at "ds"
  have gg := g1.trans g2
  refine dForGo_of (I := fun rest ρ G' => ∃ (L : List (Addr × Addr × D)) (x3 x4 x5 x6 x7 : Option D), rest = L.map trD ∧ (∀ r ∈ L, TurnOk fvr fvw t r) ∧ ρ = [some (.str t), some (.int l), some (.int f), x3, x4, x5, x6, x7] ∧ Grow G G') ?_ ?_ _ _ _
    ⟨[(a0, a1, sgDue (wdsW t)), (a2, a3, rowDue (wdsW t))], _, none, none, none, none, rfl, fun r hr => by
      rcases List.mem_cons.mp hr with rfl | hr
      · exact t1
      · rw [List.mem_singleton] at hr; subst hr; exact t2, rfl, gg⟩
  · rintro ρ G3 ⟨L, x3, x4, x5, x6, x7, e, -, rfl, g3⟩
    refine ⟨trivial, ?_⟩
    walk_at "ds"
    exact hq _ g3
  · rintro y rest ρ G3 ⟨L, x3, x4, x5, x6, x7, e, hL, rfl, g3⟩ K hK
    refine ⟨trivial, ?_⟩
    cases L with
    | nil => cases e
    | cons r L =>
      rw [List.map_cons] at e
      injection e with ea eb
      subst ea eb
      obtain ⟨ar, aw, d⟩ := r
      obtain ⟨spr, hm, hc⟩ := (hL _ (List.mem_cons_self ..)).ex
      have fin : ∀ G', Grow G3 G' → ∀ x4 x5 x6 x7, K [some (.str t), some (.int l), some (.int f), x3, x4, x5, x6, x7] G' := fun G' g x4 x5 x6 x7 => hK _ _ ⟨L, x3, x4, x5, x6, x7, rfl, fun r hr => hL r (List.mem_cons_of_mem _ hr), rfl, g3.trans g⟩
      have hT3 := g3 _ _ hT
      simp only [trD]
      rcases hc with ⟨x, ed, hs, hr, spw, hmw, hw⟩ | ⟨j, ed, hj, hr⟩
      · have ed : d = tdD x := ed
        subst ed
        simp only [tdD]
        walk_at "ds"
        refine heardL_told (x := x) hT3 (fun E' Q' h => vg_1 hm rfl rfl (hr _ _ _ _ _ h)) fun G4 g4 => ?_
        walk_at "ds"
        refine K06.repr_s hs ?_
        walk_at "ds"
        refine K06.repr_s hs ?_
        walk_at "ds"
        refine ne_eqs (a := shD (tdD x)) ?_
        walk_at "ds"
        refine heardL_told (x := x) (g4 _ _ hT3) (fun E' Q' h => by
          refine vg_2 (d := .str t) (d1 := .int l) (d2 := .int f) hm rfl rfl rfl rfl ?_
          exact hr _ _ _ _ _ h) fun G5 g5 => ?_
        walk_at "ds"
        refine K06.repr_s hs ?_
        walk_at "ds"
        refine K06.repr_s hs ?_
        walk_at "ds"
        refine ne_eqs (a := shD (tdD x)) ?_
        walk_at "ds"
        refine calm_i ?_
        refine iCallVG ?_
        walk_at "ds"
        refine ⟨_, hmw, rfl, ?_⟩
        walk_at "ds"
        refine calm_i ?_
        refine vg_1 hm rfl rfl (hr _ _ _ _ _ fun G6 g6 => ?_)
        walk_at "ds"
        refine ⟨rfl, rfl, hw _ _ _ fun G7 g7 => ?_⟩
        walk_at "ds"
        exact fin _ (((g4.trans g5).trans g6).trans g7) _ _ _ _
      · have ed : d = noD j := ed
        subst ed
        simp only [noD]
        walk_at "ds"
        refine heardL_text (l := 0) (f := 0 + (j : Nat)) hT3 (fun E' Q' h => vg_1 hm rfl rfl (hr _ _ _ _ _ h)) fun G4 g4 => ?_
        rw [Int.zero_add]
        walk_at "ds"
        refine K06.repr_s (text_s (Int.le_refl 0) (by decide) (by omega) (by omega)) ?_
        walk_at "ds"
        refine K06.repr_s (text_s (Int.le_refl 0) (by decide) (by omega) (by omega)) ?_
        walk_at "ds"
        refine ne_eqs (a := shD (txD 0 j)) ?_
        walk_at "ds"
        refine heardL_text (l := l) (f := f + (j : Nat)) (g4 _ _ hT3) (fun E' Q' h => by
          refine vg_2 (d := .str t) (d1 := .int l) (d2 := .int f) hm rfl rfl rfl rfl ?_
          exact hr _ _ _ _ _ h) fun G5 g5 => ?_
        walk_at "ds"
        refine K06.repr_s (text_s l0 (by omega) (by omega) (by omega)) ?_
        walk_at "ds"
        rw [Int.add_comm (j : Int) f]
        refine K06.repr_s (text_s l0 (by omega) (by omega) (by omega)) ?_
        walk_at "ds"
        refine ne_eqs (a := shD (txD l (f + (j : Nat)))) ?_
        walk_at "ds"
        exact fin _ (g4.trans g5) _ _ _ _
end K08
namespace K08
open PySem L2 Dl K06 K05
local macro_rules | `(tactic| walk_at "ds") => `(tactic| repeat' with_reducible first
  | fail "stuck")
structure Tq (n m : Nat) (t : Str) : Prop where
  ln : t.length ≤ n
  sp : t.cps.toList.count 32 ≤ m
  ok : PyData.strOk t = true
theorem Tq.up {n m k j : Nat} {t : Str} (h : Tq n m t) (a : n ≤ k) (b : m ≤ j) : Tq k j t := ⟨Nat.le_trans h.ln a, Nat.le_trans h.sp b, h.ok⟩
theorem Tq.line {t : Str} (h : Tq 3100 240 t) : LnOk t := ⟨h.ln, h.sp, h.ok⟩
theorem ok_iff {t : Str} : PyData.strOk t = true ↔ ∀ c ∈ t.cps.toList, c < 0x110000 := by
  show t.cps.all (· < 0x110000) = true ↔ _
  rw [← Array.all_toList, List.all_eq_true]
  exact ⟨fun h c hc => by simpa using h c hc, fun h c hc => by simpa using h c hc⟩
theorem jl_len (c : Nat) : ∀ ps : List (List Nat), ps ≠ [] → (TL.joinL [c] ps).length + 1 = (ps.map fun p => p.length + 1).sum
  | [], h => absurd rfl h
  | [p], _ => by simp [TL.joinL]
  | p :: q :: r, _ => by
    have ih := jl_len c (q :: r) (List.cons_ne_nil _ _)
    rw [join_cons c p (List.cons_ne_nil _ _), List.length_append, List.length_cons, List.map_cons, List.sum_cons]
    omega
theorem jl_cnt (c : Nat) : ∀ ps : List (List Nat), ps ≠ [] → (TL.joinL [c] ps).count c + 1 = (ps.map fun p => p.count c + 1).sum
  | [], h => absurd rfl h
  | [p], _ => by simp [TL.joinL]
  | p :: q :: r, _ => by
    have ih := jl_cnt c (q :: r) (List.cons_ne_nil _ _)
    rw [join_cons c p (List.cons_ne_nil _ _), List.count_append, List.count_cons_self, List.map_cons, List.sum_cons]
    omega
theorem jl_mem (c : Nat) : ∀ ps : List (List Nat), ∀ x ∈ TL.joinL [c] ps, x = c ∨ ∃ p ∈ ps, x ∈ p
  | [], x, h => by cases h
  | [p], x, h => .inr ⟨p, List.mem_cons_self .., h⟩
  | p :: q :: r, x, h => by
    rw [join_cons c p (List.cons_ne_nil _ _)] at h
    rcases List.mem_append.mp h with h | h
    · exact .inr ⟨p, List.mem_cons_self .., h⟩
    · rcases List.mem_cons.mp h with h | h
      · exact .inl h
      · rcases jl_mem c (q :: r) x h with h | ⟨p', h1, h2⟩
        · exact .inl h
        · exact .inr ⟨p', List.mem_cons_of_mem _ h1, h2⟩
def sumF (f : Str → Nat) (W : List Str) : Nat := (W.map f).sum
def fL (w : Str) : Nat := w.length + 1
def fC (w : Str) : Nat := w.cps.toList.count 32 + 1
theorem sumF_app (f : Str → Nat) (a b : List Str) : sumF f (a ++ b) = sumF f a + sumF f b := by unfold sumF; rw [List.map_append, List.sum_append]
theorem sumF_cut (f : Str → Nat) (k : Nat) (W : List Str) : sumF f (W.take k) + sumF f (W.drop k) = sumF f W := by
  rw [← sumF_app, List.take_append_drop]
theorem sumF_set (f : Str → Nat) (w : Str) : ∀ (W : List Str) (k : Nat), sumF f (W.set k w) ≤ sumF f W + f w
  | [], _ => by unfold sumF; simp
  | x :: W, 0 => by unfold sumF; simp; omega
  | x :: W, k + 1 => by
    have := sumF_set f w W k
    unfold sumF at this ⊢
    simp at this ⊢; omega
theorem spc_tl : TL.tl " " = [32] := by decide +kernel
theorem jn_list (W : List Str) : (Str.join " " W).cps.toList = TL.joinL [32] (W.map TL.tl) := by
  have := TL.tl_join " " W
  rw [spc_tl] at this
  exact this
theorem wds_fl (t : Str) : sumF fL (wdsW t) = t.length + 1 := by
  have h := jl_len 32 ((wdsW t).map TL.tl) (fun z => wds_ne t (List.map_eq_nil_iff.mp z))
  rw [← jn_list, wds_back, len_tl, List.map_map] at h
  rw [h]; unfold sumF
  congr 1
theorem wds_fc (t : Str) : sumF fC (wdsW t) = t.cps.toList.count 32 + 1 := by
  have h := jl_cnt 32 ((wdsW t).map TL.tl) (fun z => wds_ne t (List.map_eq_nil_iff.mp z))
  rw [← jn_list, wds_back, List.map_map] at h
  rw [h]; rfl
theorem join_q {W : List Str} {n m : Nat} (h1 : sumF fL W ≤ n) (h2 : sumF fC W ≤ m) (h3 : ∀ w ∈ W, PyData.strOk w = true) : Tq n m (Str.join " " W) := by
  by_cases hW : W = []
  · subst hW
    exact ⟨Nat.zero_le _, Nat.zero_le _, by decide +kernel⟩
  have hn : W.map TL.tl ≠ [] := fun z => hW (List.map_eq_nil_iff.mp z)
  have a1 := jl_len 32 _ hn
  have a2 := jl_cnt 32 _ hn
  rw [← jn_list, List.map_map] at a1 a2
  rw [len_tl] at a1
  have e1 : (W.map ((fun p => p.length + 1) ∘ TL.tl)).sum = sumF fL W := by
    unfold sumF; congr 1
  have e2 : (W.map ((fun p => p.count 32 + 1) ∘ TL.tl)).sum = sumF fC W := rfl
  refine ⟨by omega, by omega, ok_iff.mpr fun c hc => ?_⟩
  rw [jn_list] at hc
  rcases jl_mem 32 _ c hc with rfl | ⟨p, hp, hc⟩
  · decide
  · obtain ⟨w, hw, rfl⟩ := List.mem_map.mp hp
    exact ok_iff.mp (h3 w hw) c hc
structure WdQ (n m : Nat) (W : List Str) : Prop where
  l : sumF fL W ≤ n
  c : sumF fC W ≤ m
  k : ∀ w ∈ W, PyData.strOk w = true
theorem Tq.words {n m : Nat} {t : Str} (h : Tq n m t) : WdQ (n + 1) (m + 1) (wdsW t) := ⟨by rw [wds_fl]; have := h.ln; omega, by rw [wds_fc]; have := h.sp; omega, wds_ok h.ok⟩
theorem WdQ.join {n m : Nat} {W : List Str} (h : WdQ n m W) : Tq n m (Str.join " " W) := join_q h.l h.c h.k
theorem WdQ.up {n m k j : Nat} {W : List Str} (h : WdQ n m W) (a : n ≤ k) (b : m ≤ j) : WdQ k j W := ⟨Nat.le_trans h.l a, Nat.le_trans h.c b, h.k⟩
theorem WdQ.set {n m : Nat} {W : List Str} {w : Str} (h : WdQ n m W) (k : Nat) (hw : w.length ≤ 11 ∧ w.cps.toList.count 32 ≤ 1 ∧ PyData.strOk w = true) : WdQ (2 * n + 12) (2 * m + 2) (W.set k w) := by
  have a := sumF_set fL w W k
  have b := sumF_set fC w W k
  have := h.l
  have := h.c
  unfold fL at a
  unfold fC at b
  refine ⟨by unfold fL at *; omega, by unfold fC at *; omega, fun x hx => ?_⟩
  rcases List.mem_or_eq_of_mem_set hx with hx | rfl
  · exact h.k x hx
  · exact hw.2.2
theorem WdQ.out {n m : Nat} {W : List Str} (h : WdQ n m W) (k : Nat) : WdQ (2 * n + 12) (2 * m + 2) (W.take k ++ W.drop (k + 1)) := by
  have a := sumF_cut fL k W
  have b := sumF_cut fC k W
  have a2 := sumF_cut fL (k + 1) W
  have b2 := sumF_cut fC (k + 1) W
  have := h.l
  have := h.c
  refine ⟨by rw [sumF_app]; omega, by rw [sumF_app]; omega, fun x hx => ?_⟩
  rcases List.mem_append.mp hx with hx | hx
  · exact h.k x (List.mem_of_mem_take hx)
  · exact h.k x (List.mem_of_mem_drop hx)
theorem WdQ.dup {n m : Nat} {W : List Str} (h : WdQ n m W) (k : Nat) : WdQ (2 * n + 12) (2 * m + 2) (W.take (k + 1) ++ W.drop k) := by
  have a := sumF_cut fL k W
  have b := sumF_cut fC k W
  have a2 := sumF_cut fL (k + 1) W
  have b2 := sumF_cut fC (k + 1) W
  have := h.l
  have := h.c
  refine ⟨by rw [sumF_app]; omega, by rw [sumF_app]; omega, fun x hx => ?_⟩
  rcases List.mem_append.mp hx with hx | hx
  · exact h.k x (List.mem_of_mem_take hx)
  · exact h.k x (List.mem_of_mem_drop hx)
theorem cut_to (t : Str) (i : Nat) : (cutS t none (some (i : Nat))).cps.toList = t.cps.toList.take i := by
  have h := SX.slice_to (a := t.cps.toList) (i := (i : Nat)) (Int.natCast_nonneg i)
  rw [SX.S_tl] at h
  rw [C8.cutS_slice, h]; rfl
theorem cut_from (t : Str) (i : Nat) : (cutS t (some ((i : Nat) : Int)) none).cps.toList = t.cps.toList.drop i := by
  have h := SX.slice_from (a := t.cps.toList) (i := (i : Nat)) (Int.natCast_nonneg i)
  rw [SX.S_tl] at h
  rw [C8.cutS_slice, h]; rfl
theorem Tq.put {n m i j : Nat} {t x : Str} (h : Tq n m t) (hj : i ≤ j) (hx : x.length ≤ 1 ∧ PyData.strOk x = true) :
    Tq (n + 1) (m + 1) (cutS t none (some (i : Nat)) ++ x ++ cutS t (some ((j : Nat) : Int)) none) := by
  have e : (cutS t none (some (i : Nat)) ++ x ++ cutS t (some ((j : Nat) : Int)) none).cps.toList = t.cps.toList.take i ++ x.cps.toList ++ t.cps.toList.drop j := by
    rw [← cut_to, ← cut_from]
    have a := TL.tl_append (cutS t none (some (i : Nat)) ++ x) (cutS t (some ((j : Nat) : Int)) none)
    have b := TL.tl_append (cutS t none (some (i : Nat))) x
    exact a.trans (congrArg (· ++ TL.tl (cutS t (some ((j : Nat) : Int)) none)) b)
  have l1 := len_tl x
  have l2 := len_tl t
  have hl := h.ln
  have hc := h.sp
  have c1 : x.cps.toList.count 32 ≤ x.cps.toList.length := List.count_le_length
  have c2 : (t.cps.toList.drop j).count 32 ≤ (t.cps.toList.drop i).count 32 := (List.drop_sublist_drop_left t.cps.toList hj).count_le 32
  have c3 : (t.cps.toList.take i).count 32 + (t.cps.toList.drop i).count 32 = t.cps.toList.count 32 := by rw [← List.count_append, List.take_append_drop]
  refine ⟨?_, ?_, ok_iff.mpr fun c hc => ?_⟩
  · rw [← len_tl, e]
    simp only [List.length_append, List.length_take, List.length_drop]
    omega
  · rw [e, List.count_append, List.count_append]; omega
  · rw [e] at hc
    rcases List.mem_append.mp hc with hc | hc
    · rcases List.mem_append.mp hc with hc | hc
      · exact ok_iff.mp h.ok c (List.mem_of_mem_take hc)
      · exact ok_iff.mp hx.2 c hc
    · exact ok_iff.mp h.ok c (List.mem_of_mem_drop hc)
theorem odd_ok : ∀ w ∈ (["", "-", "tick", "tick(1)", "row()", "many:3", "left:end", "some(0,2,t)", "more ", "way:01", "x"] : List Str), w.length ≤ 11 ∧ w.cps.toList.count 32 ≤ 1 ∧ PyData.strOk w = true := by decide +kernel
end K08
namespace K08
open PySem L2 Dl K06 K05
local macro_rules | `(tactic| walk_at "ds") => `(tactic| repeat' with_reducible first
  | refine iVar (by with_unfolding_all rfl) ?_
  | refine iCons ?_
  | refine iNil ?_
  | refine iC ?_
  | refine iOp ?_
  | refine iSeq ?_
  | refine iAsg ?_
  | refine iGNm ?_
  | refine iTup ?_
  | refine iFrz ?_
  | refine iTst ?_
  | refine iIfS ?_
  | refine iRet ?_
  | refine iCall ?_
  | refine iLst ?_
  | refine iNext ?_
  | refine iPar ?_
  | refine iGSb ?_
  | refine lenOk (by with_unfolding_all rfl) ?_
  | refine frzEnd ?_
  | refine ifDT (by decide) ?_
  | refine ifDF (by decide) ?_
  | refine iIf ?_
  | refine ifT ?_
  | refine ifF ?_
  | refine iCB ?_
  | refine iSl ?_
  | refine iP ?_
  | refine iNoP ?_
  | refine rIx_i (by with_unfolding_all rfl) (by with_unfolding_all rfl) ?_
  | refine rIx_i (by with_unfolding_all rfl) atI_0 ?_
  | refine eq_ii ?_
  | refine add_ii ?_
  | refine int0 ?_
  | refine intC_b ?_
  | refine ifDT (by with_reducible_and_instances first | omega | (simp only [List.length_cons, List.length_nil]; omega)) ?_
  | refine ifDF (by with_reducible_and_instances first | omega | (simp only [List.length_cons, List.length_nil]; omega)) ?_
  | fail "stuck")
def spSpo : DSp := fun ds G Q _ => ∃ a t n m, ds = [.ref a, .str t] ∧ K03.FeedOk G a ∧ Tq n m t ∧ n ≤ 100000 ∧ ∀ t' G', Tq (2 * n + 15) (2 * m + 5) t' → K03.FeedOk G' a → K03.KeepX a G G' → Q (.str t') G'
theorem sum_fl : ∀ W : List Str, (W.map (·.length)).sum + W.length = sumF fL W
  | [] => rfl
  | x :: l => by
    have := sum_fl l
    unfold sumF fL at this ⊢
    simp only [List.map_cons, List.sum_cons, List.length_cons] at this ⊢
    omega
theorem in_23 (r : Int) : inD (.int r) [.int 2, .int 3] = (decide (2 = r) || decide (3 = r)) := by
  simp [inD, eqvD]
  rfl
theorem law_spoilt_rd : ∀ ds G Q E, spSpo ds G Q E → r_law_spoilt K03.spDraw { nx := fun _ G' => Q .non G', rt := Q } (startD 10 ds) G := by
  rintro ds G Q E ⟨a, t, n, m, rfl, hf, ht, hn, hq⟩
  unfold r_law_spoilt
  have hz : (3000000 : Nat) ≤ sizeLine := by decide
  have h1 := ht.ln
  unfold dSplt
  walk_at "ds"
  refine ⟨t, rfl, ?_⟩
  walk_at "ds"
  refine ⟨_, rfl, by rw [spc_ln]; rfl, by omega, fun p hp => ?_⟩
  rw [show Txt.split t " " = wdsW t from rfl]
  have hap : a ≠ p := hf.ne hp
  have hW := ht.words
  have hne := wds_ne t
  have hwl := wds_ln t
  generalize wdsW t = W at hW hne hwl ⊢
  have hpos := List.length_pos_iff.mpr hne
  have f0 : K03.FeedOk (updG G p (.lst (W.map D.str))) a := K06.feed_upd hf hap
  walk_at "ds"
  refine ⟨a, 9, rfl, by decide, by decide, f0, fun r G1 r0 r1 f1 k1 => ?_⟩
  have e1 := k1 _ _ (Ne.symm hap) updG_same
  have k01 : K03.KeepX a G G1 := (K03.KeepX.of (Grow.upd hp)).trans k1
  walk_at "ds"
  refine len_r e1 ?_
  walk_at "ds"
  rw [List.length_map]
  refine ⟨a, _, rfl, by omega, by omega, f1, fun k G2 k0 k1' f2 k2 => ?_⟩
  have e2 := k2 _ _ (Ne.symm hap) e1
  have k02 := k01.trans k2
  walk_at "ds"
  refine ⟨a, 11, rfl, by decide, by decide, f2, fun v G3 v0 v1 f3 k3 => ?_⟩
  have e3 := k3 _ _ (Ne.symm hap) e2
  have k03 := k02.trans k3
  obtain ⟨kn, rfl⟩ : ∃ j : Nat, k = (j : Nat) := ⟨k.toNat, by omega⟩
  have hkn : kn < W.length := by omega
  obtain ⟨w, hw, ew⟩ : ∃ w : Str, (w.length ≤ 11 ∧ w.cps.toList.count 32 ≤ 1 ∧ PyData.strOk w = true) ∧ atI [D.str "", D.str "-", D.str "tick", D.str "tick(1)", D.str "row()", D.str "many:3", D.str "left:end", D.str "some(0,2,t)", D.str "more ", D.str "way:01", D.str "x"] v = some (.str w) := by
    obtain ⟨vn, rfl⟩ : ∃ j : Nat, v = (j : Nat) := ⟨v.toNat, by omega⟩
    have hv : vn < (["", "-", "tick", "tick(1)", "row()", "many:3", "left:end", "some(0,2,t)", "more ", "way:01", "x"] : List Str).length := by show vn < 11; omega
    exact ⟨_, odd_ok _ (List.getElem_mem hv), Dl.atI_nat (xs := (["", "-", "tick", "tick(1)", "row()", "many:3", "left:end", "some(0,2,t)", "more ", "way:01", "x"] : List Str).map D.str) (by rw [List.getElem?_map, List.getElem?_eq_getElem hv]; rfl)⟩
  refine rIx_i (d := .str w) rfl ew ?_
  have tail : ∀ (p' : Addr) (W' : List Str) (G4 : GH) (x4 x5 x6 : Option D), G4 p' = some (.lst (W'.map D.str)) → WdQ (2 * n + 14) (2 * m + 4) W' → K03.FeedOk G4 a → K03.KeepX a G G4 →
      (dSeq (dAsg (dJoin (dC (.str " ")) (dVar 2)) (gNm 7))
      (dSeq (dAsg (dCall K03.spDraw (dCons (dVar 0) (dCons (dOp rAdd (dCB rLen (dCons (dVar 7) dNil)) (dC (.int 1))) dNil))) (gNm 8))
      (dSeq (dIfS (dTst (dOp rGt (dVar 3) (dC (.int 3))))
      (dSeq (dAsg (dIf (dTst (dOp rEqv (dVar 3) (dC (.int 4)))) (dC (.str "")) (dOp rIxA (dC (.str " 0(),:t-\n")) (dCall K03.spDraw (dCons (dVar 0) (dCons (dC (.int 9)) dNil))))) (gNm 9))
      (dAsg (dOp rAdd (dOp rAdd (dSlS (dVar 7) dNoP (dP (dVar 8))) (dVar 9)) (dSlS (dVar 7) (dP (dOp rAdd (dVar 8) (dCB rIntC (dCons (dOp rLt (dVar 3) (dC (.int 7))) dNil)))) dNoP)) (gNm 7)))
      dNext)
      (dRet (dVar 7))))) { nx := fun _ G' => Q .non G', rt := Q } [some (.ref a), some (.str t), some (.ref p'), some (.int r), x4, x5, x6, none, none, none] G4 := by
    intro p' W' G4 x4 x5 x6 e4 hW' f4 k4
    have hj := hW'.join
    have hl' := hW'.l
    have hsum := sum_fl W'
    unfold dJoin
    walk_at "ds"
    refine ⟨_, rfl, ?_⟩
    walk_at "ds"
    refine ⟨W', by rw [sqR e4], by rw [spc_ln]; omega, ?_⟩
    rw [txt_join]
    generalize Str.join " " W' = z at hj ⊢
    have hzl := hj.ln
    walk_at "ds"
    refine ⟨by omega, ?_⟩
    walk_at "ds"
    refine ⟨a, _, rfl, by omega, by omega, f4, fun q G5 q0 q1 f5 k5 => ?_⟩
    have k05 := k4.trans k5
    obtain ⟨i, rfl⟩ : ∃ i : Nat, q = (i : Nat) := ⟨q.toNat, by omega⟩
    walk_at "ds"
    refine ifD (fun h3 => ?_) (fun h3 => ?_)
    rotate_left 1
    · walk_at "ds"
      exact hq z G5 (hj.up (by omega) (by omega)) f5 k05
    have key : ∀ (x : Str) (G6 : GH), x.length ≤ 1 → PyData.strOk x = true → K03.FeedOk G6 a → K03.KeepX a G G6 →
        (dSeq (dAsg (dOp rAdd (dOp rAdd (dSlS (dVar 7) dNoP (dP (dVar 8))) (dVar 9)) (dSlS (dVar 7) (dP (dOp rAdd (dVar 8) (dCB rIntC (dCons (dOp rLt (dVar 3) (dC (.int 7))) dNil)))) dNoP)) (gNm 7))
        (dRet (dVar 7))) { nx := fun _ G' => Q .non G', rt := Q } [some (.ref a), some (.str t), some (.ref p'), some (.int r), x4, x5, x6, some (.str z), some (.int (i : Nat)), some (.str x)] G6 := by
      intro x G6 x1 xok f6 k6
      unfold dSlS
      have b1 : (cutS z none (some (i : Nat))).length ≤ z.length := by
        have := congrArg List.length (cut_to z i)
        rw [len_tl, List.length_take, len_tl] at this; omega
      have b2 : ∀ j : Nat, (cutS z (some ((j : Nat) : Int)) none).length ≤ z.length := fun j => by
        have := congrArg List.length (cut_from z j)
        rw [len_tl, List.length_drop, len_tl] at this; omega
      walk_at "ds"
      refine ⟨z, rfl, by omega, ?_⟩
      walk_at "ds"
      refine ⟨by omega, ?_⟩
      walk_at "ds"
      by_cases h7 : r < 7
      · rw [decide_eq_true h7]
        walk_at "ds"
        refine ⟨z, rfl, by omega, ?_⟩
        walk_at "ds"
        rw [show ((i : Int) + if true = true then 1 else 0) = ((i + 1 : Nat) : Int) from rfl]
        have b3 := b2 (i + 1)
        refine ⟨by rw [app_ln]; omega, ?_⟩
        walk_at "ds"
        exact hq _ G6 ((hj.put (Nat.le_succ i) ⟨x1, xok⟩).up (by omega) (by omega)) f6 k6
      · rw [decide_eq_false h7]
        walk_at "ds"
        refine ⟨z, rfl, by omega, ?_⟩
        walk_at "ds"
        rw [show ((i : Int) + if false = true then 1 else 0) = ((i : Nat) : Int) from Int.add_zero _]
        have b3 := b2 i
        refine ⟨by rw [app_ln]; omega, ?_⟩
        walk_at "ds"
        exact hq _ G6 ((hj.put (Nat.le_refl i) ⟨x1, xok⟩).up (by omega) (by omega)) f6 k6
    walk_at "ds"
    by_cases h4 : r = 4
    · subst h4
      walk_at "ds"
      refine key "" G5 (by decide) (by decide +kernel) f5 k05
    · rw [decide_eq_false h4]
      walk_at "ds"
      refine ⟨a, 9, rfl, by decide, by decide, f5, fun u G6 u0 u1 f6 k6 => ?_⟩
      obtain ⟨un, rfl⟩ : ∃ j : Nat, u = (j : Nat) := ⟨u.toNat, by omega⟩
      have hl9 : (Str.ofString " 0(),:t-\n").cps.toList = [32, 48, 40, 41, 44, 58, 116, 45, 10] := by decide +kernel
      have hu : un < (Str.ofString " 0(),:t-\n").cps.toList.length := by rw [hl9]; show un < 9; omega
      have ok9 : ∀ c ∈ (Str.ofString " 0(),:t-\n").cps.toList, PyData.strOk ⟨#[c]⟩ = true := by rw [hl9]; decide +kernel
      refine ixA_s (by decide +kernel) (Dl.atI_nat (List.getElem?_eq_getElem hu)) ?_
      refine key _ G6 (Nat.le_refl 1) (ok9 _ (List.getElem_mem hu)) f6 (k05.trans k6)
  walk_at "ds"
  refine ifD (fun h2 => ?_) (fun h2 => ?_)
  · walk_at "ds"
    refine sLst_i e3 (ixN_at (by rw [List.length_map]; exact hkn)) ?_
    walk_at "ds"
    refine inn_i rfl rfl rfl ?_
    rw [in_23, decide_eq_false (show ¬ (2 : Int) = r by omega), decide_eq_false (show ¬ (3 : Int) = r by omega)]
    walk_at "ds"
    refine tail p (W.set kn w) _ _ _ _ (by rw [updG_same, List.map_set]) ((hW.set kn hw).up (by omega) (by omega)) (K06.feed_upd f3 hap) (KeepX.upd2 hp k03)
  · walk_at "ds"
    refine inn_i rfl rfl rfl ?_
    rw [in_23]
    have hlen : W.length ≤ 100001 := by omega
    by_cases hr2 : 2 = r
    · subst hr2
      rw [show (decide ((2 : Int) = 2) || decide ((3 : Int) = 2)) = true from by decide]
      walk_at "ds"
      refine K06.slR e3 ?_
      rw [K03.cut_take]
      refine frzEnd ?_
      walk_at "ds"
      refine K06.slR e3 ?_
      rw [show ((kn : Int) + 1) = ((kn + 1 : Nat) : Int) from rfl, K03.cut_drop]
      refine frzEnd ?_
      refine add_ll (by rw [List.length_take, List.length_drop, List.length_map]; omega) fun p2 hp2 => ?_
      walk_at "ds"
      refine tail p2 (W.take kn ++ W.drop (kn + 1)) _ _ _ _ (by rw [updG_same, List.map_append, List.map_take, List.map_drop]) ((hW.out kn).up (by omega) (by omega)) (K06.feed_upd f3 (f3.ne hp2)) (k03.trans (K03.KeepX.of (Grow.upd hp2)))
    rw [decide_eq_false hr2]
    by_cases hr3 : 3 = r
    · subst hr3
      rw [show (false || decide ((3 : Int) = 3)) = true from by decide]
      walk_at "ds"
      refine K06.slR e3 ?_
      rw [show ((kn : Int) + 1) = ((kn + 1 : Nat) : Int) from rfl, K03.cut_take]
      refine frzEnd ?_
      walk_at "ds"
      refine K06.slR e3 ?_
      rw [K03.cut_drop]
      refine frzEnd ?_
      refine add_ll (by rw [List.length_take, List.length_drop, List.length_map]; omega) fun p2 hp2 => ?_
      walk_at "ds"
      refine tail p2 (W.take (kn + 1) ++ W.drop kn) _ _ _ _ (by rw [updG_same, List.map_append, List.map_take, List.map_drop]) ((hW.dup kn).up (by omega) (by omega)) (K06.feed_upd f3 (f3.ne hp2)) (k03.trans (K03.KeepX.of (Grow.upd hp2)))
    · rw [decide_eq_false hr3, Bool.or_false]
      walk_at "ds"
      refine tail p W _ _ _ _ e3 (hW.up (by omega) (by omega)) f3 k03
end K08
namespace K08
open PySem L2 Dl K06 K05
local macro_rules | `(tactic| walk_at "ds") => `(tactic| repeat' with_reducible first
  | refine iVar (by with_unfolding_all rfl) ?_
  | refine iCons ?_
  | refine iNil ?_
  | refine iC ?_
  | refine iOp ?_
  | refine iSeq ?_
  | refine iAsg ?_
  | refine iGNm ?_
  | refine iTup ?_
  | refine iFrz ?_
  | refine iRet ?_
  | refine iLst ?_
  | refine lstP_i (by assumption) ?_
  | refine lstP_i updG_same ?_
  | refine iDrop ?_
  | refine lenOk (by with_unfolding_all rfl) ?_
  | refine frzEnd ?_
  | refine iMt ?_
  | refine iFor ?_
  | refine iISq ?_
  | refine int0 ?_
  | fail "stuck")
theorem Tq.app {n m k j : Nat} {a b : Str} (h : Tq n m a) (g : Tq k j b) : Tq (n + k) (m + j) (a ++ b) := by
  have e : (a ++ b).cps.toList = a.cps.toList ++ b.cps.toList := TL.tl_append a b
  have := h.ln
  have := g.ln
  have := h.sp
  have := g.sp
  refine ⟨by rw [app_ln]; omega, by rw [e, List.count_append]; omega, ok_iff.mpr fun c hc => ?_⟩
  rw [e] at hc
  rcases List.mem_append.mp hc with hc | hc
  · exact ok_iff.mp h.ok c hc
  · exact ok_iff.mp g.ok c hc
theorem rep_list (c : Array Nat) : ∀ (n : Nat) (a : Array Nat), ((List.replicate n c).foldl (· ++ ·) a).toList = a.toList ++ (List.replicate n c.toList).flatten
  | 0, a => by simp
  | n + 1, a => by rw [List.replicate_succ, List.foldl_cons, rep_list c n, List.replicate_succ, List.flatten_cons]; simp
theorem rep_tl (z : Str) (k : Nat) : (repS z k).cps.toList = (List.replicate k z.cps.toList).flatten := by
  unfold repS
  rw [rep_list]; rfl
theorem Tq.rep {n m : Nat} {z : Str} (h : Tq n m z) (k : Nat) : Tq (k * n) (k * m) (repS z k) := by
  have hl := h.ln
  have hs := h.sp
  rw [← len_tl] at hl
  have e1 : ∀ (l : List Nat) (k : Nat), (List.replicate k l).flatten.length = k * l.length := fun l k => by
    induction k with
    | zero => simp
    | succ k ih => rw [List.replicate_succ, List.flatten_cons, List.length_append, ih, Nat.succ_mul, Nat.add_comm]
  have e2 : ∀ (l : List Nat) (k : Nat), (List.replicate k l).flatten.count 32 = k * l.count 32 := fun l k => by
    induction k with
    | zero => simp
    | succ k ih => rw [List.replicate_succ, List.flatten_cons, List.count_append, ih, Nat.succ_mul, Nat.add_comm]
  refine ⟨?_, ?_, ok_iff.mpr fun c hc => ?_⟩
  · rw [← len_tl, rep_tl, e1]; exact Nat.mul_le_mul (Nat.le_refl _) hl
  · rw [rep_tl, e2]; exact Nat.mul_le_mul (Nat.le_refl _) hs
  · rw [rep_tl] at hc
    obtain ⟨l, h1, h2⟩ := List.mem_flatten.mp hc
    obtain rfl := (List.mem_replicate.mp h1).2
    exact ok_iff.mp h.ok c h2
structure AllLn (N : Nat) (L : List Str) : Prop where
  ln : L.length ≤ N
  ok : ∀ t ∈ L, LnOk t
theorem AllLn.app {N M : Nat} {L K : List Str} (h : AllLn N L) (g : AllLn M K) : AllLn (N + M) (L ++ K) := by
  have := h.ln
  have := g.ln
  refine ⟨by rw [List.length_append]; omega, fun t ht => ?_⟩
  rcases List.mem_append.mp ht with ht | ht
  · exact h.ok t ht
  · exact g.ok t ht
theorem bar_S : ("|" : Str) = SX.S [124] := by decide +kernel
theorem split_ok {t : Str} (h1 : t.length ≤ 240) (h2 : PyData.strOk t = true) : AllLn 241 (Txt.split t "|") := by
  have e : Txt.split t "|" = (TL.spl [124] 0 [] t.cps.toList).map SX.S := by
    rw [bar_S]
    have h := SX.split_S (a := t.cps.toList) (b := [124]) (by simp) (by decide)
    rw [SX.S_tl] at h
    exact h
  rw [e]
  have hl := len_tl t
  refine ⟨?_, fun w hw => ?_⟩
  · have := spl_ln [124] t.cps.toList 0 []
    rw [List.length_map]; omega
  · obtain ⟨p, hp, rfl⟩ := List.mem_map.mp hw
    have a := spl_in [124] _ 0 [] p hp
    have b : p.count 32 ≤ p.length := List.count_le_length
    rw [List.length_nil, Nat.zero_add] at a
    refine ⟨by rw [SX.S_len]; omega, ?_, ok_iff.mpr fun c hc => ?_⟩
    · show p.count 32 ≤ 240; omega
    · rcases spl_mem [124] _ 0 [] p hp c hc with z | z
      · cases z
      · exact ok_iff.mp h2 c z
theorem all3 {a b c : Str} (ha : LnOk a) (hb : LnOk b) (hc : LnOk c) : AllLn 3 [a, b, c] := ⟨Nat.le_refl 3, fun t ht => by
  rcases List.mem_cons.mp ht with rfl | ht
  · exact ha
  rcases List.mem_cons.mp ht with rfl | ht
  · exact hb
  rw [List.mem_singleton] at ht; subst ht; exact hc⟩
structure Hd (G : GH) (p : Addr) (N : Nat) (G' : GH) : Prop where
  hp : G p = none
  g : Grow G G'
  e : ∃ L, AllLn N L ∧ G' p = some (.lst (L.map D.str))
theorem Hd.new {G : GH} {p : Addr} {N : Nat} {L : List Str} (hp : G p = none) (h : AllLn N L) : Hd G p N (updG G p (.lst (L.map D.str))) := ⟨hp, Grow.upd hp, L, h, updG_same⟩
theorem Hd.ext {G G' : GH} {p : Addr} {N M : Nat} {K : List Str} {d : D} {Q : DK} (h : Hd G p N G') (hK : AllLn M K) (ed : d = .lst (K.map D.str)) (hz : N + M ≤ 100000) (k : ∀ G2, Hd G p (N + M) G2 → Q .non G2) : mExtend (.ref p) [d] G' Q := by
  obtain ⟨L, hL, e⟩ := h.e
  subst ed
  have hs : (100000 : Nat) ≤ sizeLine := by decide
  have := hL.ln
  have := hK.ln
  refine ext_i e (m := K.map D.str) rfl (by rw [List.length_map, List.length_map]; omega) ?_
  rw [← List.map_append]
  exact k _ ⟨h.hp, Grow.upd2 h.hp h.g, _, hL.app hK, updG_same⟩
theorem Hd.app {G G' : GH} {p : Addr} {N : Nat} {t : Str} {Q : DK} (h : Hd G p N G') (ht : LnOk t) (hz : N ≤ 100000) (k : ∀ G2, Hd G p (N + 1) G2 → Q .non G2) : mAppend (.ref p) [.str t] G' Q := by
  obtain ⟨L, hL, e⟩ := h.e
  have hs : (100001 : Nat) ≤ sizeLine := by decide
  have := hL.ln
  refine app_i e (by rw [List.length_map]; omega) ?_
  rw [show L.map D.str ++ [D.str t] = (L ++ [t]).map D.str by simp]
  exact k _ ⟨h.hp, Grow.upd2 h.hp h.g, _, hL.app (K := [t]) (M := 1) ⟨Nat.le_refl 1, fun x hx => by rw [List.mem_singleton] at hx; subst hx; exact ht⟩, updG_same⟩
def spHand : DSp := fun ds G Q _ => ds = [] ∧ ∀ L G', AllLn 5000 L → Grow G G' → Q (.lst (L.map D.str)) G'
theorem law_texts_by_hand_rd : ∀ ds G Q E, spHand ds G Q E → r_law_texts_by_hand { nx := fun _ G' => Q .non G', rt := Q } (startD 3 ds) G := by
  rintro ds G Q E ⟨rfl, hq⟩
  unfold r_law_texts_by_hand
  have q9 : Tq 1 0 "9" := ⟨by decide +kernel, by decide +kernel, by decide +kernel⟩
  have hb : (("|" : Str).length == 0) = false := by decide +kernel
  unfold dSplt
  walk_at "ds"
  have qn : Tq 60 0 (repS "9" (60 : Int).toNat) := q9.rep 60
  have hz : (3000000 : Nat) ≤ sizeLine := by decide
  refine ⟨_, _, rfl, rfl, by decide, by decide, by decide +kernel, by have := qn.ln; omega, ?_⟩
  generalize repS "9" (60 : Int).toNat = nine at qn ⊢
  walk_at "ds"
  refine ⟨_, rfl, ?_⟩
  walk_at "ds"
  refine ⟨_, rfl, hb, by decide +kernel, fun p hp => ?_⟩
  have d0 : Hd G p 241 (updG G p (.lst ((Txt.split "| |tick|more|end|Tick|ticks|tick |tick tick| tick|tick  tick" "|").map D.str))) := Hd.new hp (split_ok (by decide +kernel) (by decide +kernel))
  generalize updG G p (.lst ((Txt.split "| |tick|more|end|Tick|ticks|tick |tick tick| tick|tick  tick" "|").map D.str)) = G0 at d0 ⊢
  obtain ⟨L0, -, e0⟩ := d0.e
  walk_at "ds"
  refine ⟨_, rfl, ?_⟩
  walk_at "ds"
  refine ⟨_, rfl, hb, by decide +kernel, frzEnd ?_⟩
  walk_at "ds"
  refine d0.ext (split_ok (by decide +kernel) (by decide +kernel)) rfl (by decide) fun G1 d1 => ?_
  obtain ⟨L1, -, e1⟩ := d1.e
  walk_at "ds"
  refine ⟨_, rfl, ?_⟩
  walk_at "ds"
  refine ⟨_, rfl, hb, by decide +kernel, frzEnd ?_⟩
  walk_at "ds"
  refine d1.ext (split_ok (by decide +kernel) (by decide +kernel)) rfl (by decide) fun G2 d2 => ?_
  obtain ⟨L2, -, e2⟩ := d2.e
  walk_at "ds"
  refine ⟨_, rfl, ?_⟩
  walk_at "ds"
  refine ⟨_, rfl, hb, by decide +kernel, frzEnd ?_⟩
  walk_at "ds"
  refine d2.ext (split_ok (by decide +kernel) (by decide +kernel)) rfl (by decide) fun G3 d3 => ?_
  obtain ⟨L3, -, e3⟩ := d3.e
  walk_at "ds"
  refine ⟨_, rfl, ?_⟩
  walk_at "ds"
  refine ⟨_, rfl, hb, by decide +kernel, frzEnd ?_⟩
  walk_at "ds"
  refine d3.ext (split_ok (by decide +kernel) (by decide +kernel)) rfl (by decide) fun G4 d4 => ?_
  obtain ⟨L4, -, e4⟩ := d4.e
  walk_at "ds"
  refine ⟨_, rfl, ?_⟩
  walk_at "ds"
  refine ⟨_, rfl, hb, by decide +kernel, frzEnd ?_⟩
  walk_at "ds"
  refine d4.ext (split_ok (by decide +kernel) (by decide +kernel)) rfl (by decide) fun G5 d5 => ?_
  obtain ⟨L5, -, e5⟩ := d5.e
  walk_at "ds"
  refine ⟨_, rfl, ?_⟩
  walk_at "ds"
  refine ⟨_, rfl, hb, by decide +kernel, frzEnd ?_⟩
  walk_at "ds"
  refine d5.ext (split_ok (by decide +kernel) (by decide +kernel)) rfl (by decide) fun G6 d6 => ?_
  obtain ⟨L6, -, e6⟩ := d6.e
  walk_at "ds"
  refine ⟨_, rfl, ?_⟩
  walk_at "ds"
  refine ⟨_, rfl, hb, by decide +kernel, frzEnd ?_⟩
  walk_at "ds"
  refine d6.ext (split_ok (by decide +kernel) (by decide +kernel)) rfl (by decide) fun G7 d7 => ?_
  obtain ⟨L7, -, e7⟩ := d7.e
  walk_at "ds"
  refine ⟨_, rfl, ?_⟩
  walk_at "ds"
  refine ⟨_, rfl, hb, by decide +kernel, frzEnd ?_⟩
  walk_at "ds"
  refine d7.ext (split_ok (by decide +kernel) (by decide +kernel)) rfl (by decide) fun G8 d8 => ?_
  obtain ⟨L8, -, e8⟩ := d8.e
  have qm : Tq 5 0 "many:" := ⟨by decide +kernel, by decide +kernel, by decide +kernel⟩
  have q0 : Tq 1 0 "0" := ⟨by decide +kernel, by decide +kernel, by decide +kernel⟩
  have qw : Tq 9 0 "left:way:" := ⟨by decide +kernel, by decide +kernel, by decide +kernel⟩
  have qw1 : Tq 10 0 "left:way:1" := ⟨by decide +kernel, by decide +kernel, by decide +kernel⟩
  have qt : Tq 5 1 "tick " := ⟨by decide +kernel, by decide +kernel, by decide +kernel⟩
  have qk : Tq 4 0 "tick" := ⟨by decide +kernel, by decide +kernel, by decide +kernel⟩
  have qo : Tq 5 1 "tock " := ⟨by decide +kernel, by decide +kernel, by decide +kernel⟩
  have ql : Tq 5 0 "left:" := ⟨by decide +kernel, by decide +kernel, by decide +kernel⟩
  have qlr : Tq 11 0 "left:right:" := ⟨by decide +kernel, by decide +kernel, by decide +kernel⟩
  have a1 := qm.app qn
  have a2 := a1.app q0
  have a3 := qw.app qn
  have a4 := qw1.app qn
  have a5 := qt.rep 200
  have a6 := (qt.rep 199).app qk
  have a7 := ql.rep 600
  have a8 := (ql.rep 600).app qk
  have a9 := ((qt.rep 99).app qo).app qk
  walk_at "ds"
  refine ⟨by have := a1.ln; rw [app_ln] at this; omega, ?_⟩
  walk_at "ds"
  refine ⟨by have := a1.ln; rw [app_ln] at this; omega, ?_⟩
  walk_at "ds"
  refine ⟨by have := a2.ln; rw [app_ln] at this; omega, ?_⟩
  walk_at "ds"
  refine ⟨by have := a3.ln; rw [app_ln] at this; omega, ?_⟩
  walk_at "ds"
  refine d8.ext (all3 (a1.up (by decide) (by decide)).line (a2.up (by decide) (by decide)).line (a3.up (by decide) (by decide)).line) rfl (by decide) fun G9 d9 => ?_
  obtain ⟨L9, -, e9⟩ := d9.e
  walk_at "ds"
  refine ⟨by have := a4.ln; rw [app_ln] at this; omega, ?_⟩
  walk_at "ds"
  refine ⟨_, _, rfl, rfl, by decide, by decide, by decide +kernel, by have := a5.ln; show (repS "tick " 200).length ≤ _; omega, ?_⟩
  walk_at "ds"
  refine ⟨_, _, rfl, rfl, by decide, by decide, by decide +kernel, by have := (qt.rep 199).ln; show (repS "tick " 199).length ≤ _; omega, ?_⟩
  walk_at "ds"
  refine ⟨by have := a6.ln; rw [app_ln] at this; exact Nat.le_trans this (by decide), ?_⟩
  walk_at "ds"
  refine d9.ext (all3 (a4.up (by decide) (by decide)).line (a5.up (by decide) (by decide)).line (a6.up (by decide) (by decide)).line) rfl (by decide) fun G10 d10 => ?_
  obtain ⟨L10, -, e10⟩ := d10.e
  walk_at "ds"
  refine ⟨_, _, rfl, rfl, by decide, by decide, by decide +kernel, by have := a7.ln; show (repS "left:" 600).length ≤ _; omega, ?_⟩
  walk_at "ds"
  refine ⟨_, _, rfl, rfl, by decide, by decide, by decide +kernel, by have := a7.ln; show (repS "left:" 600).length ≤ _; omega, ?_⟩
  walk_at "ds"
  refine ⟨by have := a8.ln; rw [app_ln] at this; exact Nat.le_trans this (by decide), ?_⟩
  walk_at "ds"
  refine ⟨_, _, rfl, rfl, by decide, by decide, by decide +kernel, by have := (qt.rep 99).ln; show (repS "tick " 99).length ≤ _; omega, ?_⟩
  walk_at "ds"
  refine ⟨by have := ((qt.rep 99).app qo).ln; rw [app_ln] at this; exact Nat.le_trans this (by decide), ?_⟩
  walk_at "ds"
  refine ⟨by have := a9.ln; rw [app_ln] at this; exact Nat.le_trans this (by decide), ?_⟩
  walk_at "ds"
  refine d10.ext (all3 (a7.up (by decide) (by decide)).line (a8.up (by decide) (by decide)).line (a9.up (by decide) (by decide)).line) rfl (by decide) fun G11 d11 => ?_
  walk_at "ds"
  dsimp only
  refine dForGo_of (I := fun rest ρ G' => ∃ (vs : List Int) (N : Nat) (x2 : Option D), rest = vs.map D.int ∧ (∀ v ∈ vs, 0 ≤ v ∧ v ≤ 31) ∧ N + vs.length ≤ 5000 ∧ ρ = [some (.str nine), some (.ref p), x2] ∧ Hd G p N G') ?_ ?_ _ _ _
    ⟨[12, 28, 29, 30, 31], _, none, rfl, by decide, by decide, rfl, d11⟩
  · rintro ρ G12 ⟨vs, N, x2, ev, -, hN, rfl, d12⟩
    refine ⟨trivial, ?_⟩
    obtain ⟨L, hL, e12⟩ := d12.e
    walk_at "ds"
    refine frzR e12 ?_
    exact hq L _ ⟨by have := hL.ln; omega, hL.ok⟩ (Grow.drop hp d12.g)
  · rintro y rest ρ G12 ⟨vs, N, x2, ev, hv, hN, rfl, d12⟩ K hK
    refine ⟨trivial, ?_⟩
    cases vs with
    | nil => cases ev
    | cons v vs =>
      rw [List.map_cons] at ev
      injection ev with ea eb
      subst ea eb
      have hv1 := hv v (List.mem_cons_self ..)
      rw [List.length_cons] at hN
      obtain ⟨L, hL, e12⟩ := d12.e
      walk_at "ds"
      have hd0 : 0 ≤ v / 2 := Int.ediv_nonneg hv1.1 (by decide)
      have hd1 : v / 2 ≤ 15 := by omega
      have hm0 : 0 ≤ v - v / 2 * 2 := by omega
      have hm1 : v - v / 2 * 2 ≤ 1 := by omega
      have b1 := qlr.rep (v / 2).toNat
      have b2 := ql.rep (v - v / 2 * 2).toNat
      have b3 := (b1.app b2).app qk
      have c1 : (v / 2).toNat * 11 ≤ 165 := by omega
      have c2 : (v - v / 2 * 2).toNat * 5 ≤ 5 := by omega
      refine int2 ⟨by decide, by decide⟩ ?_
      refine ⟨_, _, rfl, rfl, hd0, by omega, by decide +kernel, by have := b1.ln; omega, ?_⟩
      walk_at "ds"
      refine int2 ⟨by decide, by decide⟩ ?_
      walk_at "ds"
      refine mul_ii (.inr (by decide)) ?_
      walk_at "ds"
      refine ⟨_, _, rfl, rfl, hm0, by omega, by decide +kernel, by have := b2.ln; omega, ?_⟩
      walk_at "ds"
      refine ⟨by have := (b1.app b2).ln; rw [app_ln] at this; omega, ?_⟩
      walk_at "ds"
      refine ⟨by have := b3.ln; rw [app_ln] at this; omega, ?_⟩
      walk_at "ds"
      refine d12.app (b3.up (by omega) (by omega)).line (by omega) fun G13 d13 => ?_
      walk_at "ds"
      exact hK _ _ ⟨vs, N + 1, _, rfl, fun u hu => hv u (List.mem_cons_of_mem _ hu), by omega, rfl, d13⟩
end K08
namespace K08
open PySem L2 Dl K06 K05
local macro_rules | `(tactic| walk_at "ds") => `(tactic| repeat' with_reducible first
  | fail "stuck")
def RSrC : List D → D → Prop := fun ds d => ∃ (t : Str) (l f : Int), ds = [.str t, .int l, .int f] ∧ TxOk t ∧ srO (wdsW t) l f = .ok d
def RRrC : List D → D → Prop := fun ds d => ∃ (t : Str) (l f : Int), ds = [.str t, .int l, .int f] ∧ TxOk t ∧ rrO (wdsW t) l f = .ok d
theorem sign_read_calm : ∀ ds G Q E, pSp RSrC ds G Q E → pSpX RSr ds G Q noX := by
  rintro ds G Q E ⟨d, ⟨t, l, f, rfl, ht, e⟩, hq⟩
  exact pSpX_ok (d := d) ⟨t, l, f, rfl, ht, e.symm⟩ fun G1 g1 => hq G1 g1
theorem signs_read_calm : ∀ ds G Q E, pSp RRrC ds G Q E → pSpX RRr ds G Q noX := by
  rintro ds G Q E ⟨d, ⟨t, l, f, rfl, ht, e⟩, hq⟩
  exact pSpX_ok (d := d) ⟨t, l, f, rfl, ht, e.symm⟩ fun G1 g1 => hq G1 g1
theorem wds_by {t : Str} {ps : List (List Nat)} (h : TL.spl [32] 0 [] t.cps.toList = ps) : wdsW t = ps.map SX.S := by rw [wds_S, h]
theorem pts_by {t : Str} {ps : List (List Nat)} (h : TL.spl [58] 0 [] t.cps.toList = ps) : ptsW t = ps.map SX.S := by rw [pts_S, h]
theorem num0 : numO (SX.S [48]) = some 0 := by
  unfold numO
  rw [if_pos ⟨by decide, by decide, by decide, by decide⟩]
  rfl
theorem sg_tick : sgOf "tick" = some .tick := by
  unfold sgOf
  rw [pts_by (ps := [[116, 105, 99, 107]]) (by decide +kernel)]
  show plO (SX.S [116, 105, 99, 107]) = _
  decide +kernel
theorem sg_end : sgOf "end" = some .fin := by
  unfold sgOf
  rw [pts_by (ps := [[101, 110, 100]]) (by decide +kernel)]
  show plO (SX.S [101, 110, 100]) = _
  decide +kernel
theorem sg_rw : sgOf "right:way:0" = some (.side true (.num true 0)) := by
  unfold sgOf
  rw [pts_by (ps := [[114, 105, 103, 104, 116], [119, 97, 121], [48]]) (by decide +kernel)]
  have h1 : nmO (SX.S [114, 105, 103, 104, 116]) = none := by decide +kernel
  have h2 : sidO (SX.S [114, 105, 103, 104, 116]) = some true := by decide +kernel
  have h3 : nmO (SX.S [119, 97, 121]) = some true := by decide +kernel
  simp only [List.map_cons, List.map_nil, rdP, h1, h2, h3, num0, Option.map_some]
theorem read_rw : srO (wdsW "right:way:0") 1 2 = .ok (snD (.side true (.num true 0))) := by
  rw [wds_by (ps := [[114, 105, 103, 104, 116, 58, 119, 97, 121, 58, 48]]) (by decide +kernel)]
  have e : SX.S [114, 105, 103, 104, 116, 58, 119, 97, 121, 58, 48] = "right:way:0" := by decide +kernel
  simp only [List.map_cons, List.map_nil, srO, e, sg_rw, if_pos]
theorem read_te : rrO (wdsW "tick end") 2 0 = .ok (.tup [snD .tick, snD .fin]) := by
  rw [wds_by (ps := [[116, 105, 99, 107], [101, 110, 100]]) (by decide +kernel)]
  have e1 : SX.S [116, 105, 99, 107] = "tick" := by decide +kernel
  have e2 : SX.S [101, 110, 100] = "end" := by decide +kernel
  have e3 : ¬ (some ("tick" : Str) = some "-") := by decide +kernel
  simp only [List.map_cons, List.map_nil, rrO, e1, e2, List.head?_cons, if_neg e3, rrGo, sg_tick, sg_end]
  rfl
theorem read_no : rrO (wdsW "-") 0 0 = .ok (.tup []) := by
  rw [wds_by (ps := [[45]]) (by decide +kernel)]
  have e1 : SX.S [45] = "-" := by decide +kernel
  rw [List.map_cons, List.map_nil, e1]
  unfold rrO
  rw [if_pos (by rfl), if_pos (by rfl)]
theorem sm_nb : ∀ {m : Nat} {s : Sn}, wgD (snD s) ≤ m → m ≤ 200 → nbN s
  | _, .tick, _, _ | _, .more, _, _ | _, .fin, _, _ => trivial
  | m, .num w n, h, hm => by
    simp only [snD, wgD, wgDs] at h
    rw [Int.natAbs_natCast] at h
    by_cases h0 : n = 0
    · subst h0; show (0 : Nat) < 10 ^ 61; decide
    have : n < 2 ^ 200 := (Nat.log2_lt h0).mp (by omega)
    exact Nat.lt_of_lt_of_le this (by decide)
  | m, .side r s, h, hm => by
    simp only [snD, wgD, wgDs] at h
    exact sm_nb (s := s) (m := m) (by omega) hm
theorem dr_nb {s : Sn} (h : SmSg 3 s) : nbN s := sm_nb h.wt (by decide)
theorem sg_free : ∀ s : Sn, (32 : Nat) ∉ (sgW s).cps.toList
  | .tick | .more | .fin => by unfold sgW sgP; decide +kernel
  | .num w n => by
    have e : (sgW (.num w n)).cps.toList = (numS w).cps.toList ++ (":" : Str).cps.toList ++ (Str.ofString (toString ((n : Nat) : Int))).cps.toList := by
      rw [sgW_num]
      have a := TL.tl_append (numS w ++ ":") (Str.ofString (toString ((n : Nat) : Int)))
      have b := TL.tl_append (numS w) ":"
      exact a.trans (congrArg (· ++ TL.tl (Str.ofString (toString ((n : Nat) : Int)))) b)
    rw [e]
    intro h
    rcases List.mem_append.mp h with h | h
    · rcases List.mem_append.mp h with h | h
      · cases w <;> exact absurd h (by decide +kernel)
      · exact absurd h (by decide +kernel)
    · have h' : (32 : Nat) ∈ TL.tl (Str.ofString (toString ((n : Nat) : Int))) := h
      rw [TL.tl_num] at h'
      exact TL.numL_free (.inl (by decide)) h'
  | .side r s => by
    have e : (sgW (.side r s)).cps.toList = (sidS r).cps.toList ++ (":" : Str).cps.toList ++ (sgW s).cps.toList := by
      rw [sgW_side]
      have a := TL.tl_append (sidS r ++ ":") (sgW s)
      have b := TL.tl_append (sidS r) ":"
      exact a.trans (congrArg (· ++ TL.tl (sgW s)) b)
    rw [e]
    intro h
    rcases List.mem_append.mp h with h | h
    · rcases List.mem_append.mp h with h | h
      · cases r <;> exact absurd h (by decide +kernel)
      · exact absurd h (by decide +kernel)
    · exact sg_free s h
theorem sg_ok : ∀ s : Sn, PyData.strOk (sgW s) = true
  | .tick | .more | .fin => by unfold sgW sgP; decide +kernel
  | .num w n => by
    rw [sgW_num, ok_iff]
    intro c h
    have e : (numS w ++ ":" ++ Str.ofString (toString ((n : Nat) : Int))).cps.toList = TL.tl (numS w ++ ":") ++ TL.tl (Str.ofString (toString ((n : Nat) : Int))) := TL.tl_append _ _
    rw [e, TL.tl_num] at h
    rcases List.mem_append.mp h with h | h
    · have k : ∀ c ∈ TL.tl (numS w ++ ":"), c < 0x110000 := by cases w <;> decide +kernel
      exact k c h
    · have := TL.numL_digits n c h; omega
  | .side r s => by
    rw [sgW_side, ok_iff]
    intro c h
    have e : (sidS r ++ ":" ++ sgW s).cps.toList = TL.tl (sidS r ++ ":") ++ TL.tl (sgW s) := TL.tl_append _ _
    rw [e] at h
    rcases List.mem_append.mp h with h | h
    · have k : ∀ c ∈ TL.tl (sidS r ++ ":"), c < 0x110000 := by cases r <;> decide +kernel
      exact k c h
    · exact ok_iff.mp (sg_ok s) c h
theorem sg_tq {s : Sn} (h : SmSg 3 s) : Tq 88 0 (sgW s) := by
  have a := sgW_ln s (dr_nb h)
  have := h.sd
  exact ⟨by omega, Nat.le_of_eq (List.count_eq_zero.mpr (sg_free s)), sg_ok s⟩
theorem row_tq {l : List Sn} (h : ∀ s ∈ l, SmSg 3 s) (hl : l.length ≤ 6) : Tq 534 6 (rowW l) := by
  unfold rowW
  by_cases h0 : l = []
  · rw [if_pos h0]; exact ⟨by decide, by decide +kernel, by decide +kernel⟩
  rw [if_neg h0]
  have key : ∀ l : List Sn, (∀ s ∈ l, SmSg 3 s) → sumF fL (l.map sgW) ≤ 89 * l.length ∧ sumF fC (l.map sgW) ≤ l.length := fun l => by
    induction l with
    | nil => intro _; exact ⟨Nat.zero_le _, Nat.zero_le _⟩
    | cons s l ih =>
      intro h
      have i := ih fun s hs => h s (List.mem_cons_of_mem _ hs)
      have q := sg_tq (h s (List.mem_cons_self ..))
      have q1 := q.ln
      have q2 := q.sp
      unfold sumF at i ⊢
      simp only [List.map_cons, List.sum_cons, List.length_cons] at i ⊢
      unfold fL fC at *
      omega
  have k := key l h
  refine (join_q (n := 534) (m := 6) (by omega) (by omega) fun w hw => ?_)
  obtain ⟨s, hs, rfl⟩ := List.mem_map.mp hw
  exact sg_ok s
theorem row_rwt {l : List Sn} (h : ∀ s ∈ l, SmSg 3 s) (hl : l.length ≤ 6) : RwT l := ⟨fun s hs => by have := (h s hs).sd; omega, fun s hs => dr_nb (h s hs), by omega⟩
theorem str_shw {t : Str} {n m : Nat} (h : Tq n m t) (hn : n ≤ 10000) : ShwA (.str t) := by
  have e : (2 : Nat) ^ 17 = 131072 := by decide
  have := h.ln
  refine shwA_mid (by simp only [mdD]; exact h.ok) (by simp only [depD]; omega) (by simp only [wdD]; omega)
theorem row_shw8 {l : List Sn} (h : ∀ s ∈ l, SmSg 3 s) (hl : l.length ≤ 6) : ShwA (.tup (l.map snD)) := by
  have e : (2 : Nat) ^ 17 = 131072 := by decide
  have hd : depDs (l.map snD) ≤ 31 := depDs_le (by
    intro d hd
    obtain ⟨s, hs, rfl⟩ := List.mem_map.mp hd
    have := dep_sn s
    have := (h s hs).sd
    omega)
  have hw := wdDs_le (ds := l.map snD) (n := 500) (by
    intro d hd
    obtain ⟨s, hs, rfl⟩ := List.mem_map.mp hd
    have := wd_sn s
    have := (h s hs).sd
    omega)
  rw [List.length_map] at hw
  have : l.length * (500 + 1) ≤ 6 * 501 := Nat.mul_le_mul hl (Nat.le_refl _)
  refine shwA_mid ?_ ?_ ?_
  · have h6 : mdDs (l.map snD) = true := mdDs_iff.mpr (by
      intro d hd
      obtain ⟨s, hs, rfl⟩ := List.mem_map.mp hd
      exact md_sn s (dr_nb (h s hs)))
    simp only [mdD, h6]
  · simp only [depD]; omega
  · simp only [wdD]; omega
theorem pick8 {α : Type} (xs : List α) (i k : Int) : (pickL xs i k).length ≤ xs.length := by
  have e : ∀ {β : Type} (ys : List β), ys.length = xs.length → (pickL ys i k).length = (pickL xs i k).length := fun {β} ys e => by
    unfold pickL
    rw [e]
    generalize sliceRange _ _ _ = f
    induction f with
    | nil => rfl
    | cons j f ih =>
      rw [List.filterMap_cons, List.filterMap_cons]
      cases h1 : ys[j]? with
      | none =>
        have : xs[j]? = none := by rw [List.getElem?_eq_none_iff] at h1 ⊢; omega
        rw [this]; exact ih
      | some y =>
        have hj := (List.getElem?_eq_some_iff.mp h1).1
        have : xs[j]? = some xs[j] := List.getElem?_eq_getElem (by omega)
        rw [this, List.length_cons, List.length_cons, ih]
  have h := slicePick_size_le (List.replicate xs.length Value.none).toArray (some i) none (some k)
  have h2 := e (List.replicate xs.length Value.none) (by simp)
  have h3 : (slicePick (List.replicate xs.length Value.none).toArray (some i) none (some k)).size = (pickL (List.replicate xs.length Value.none) i k).length := by
    unfold slicePick pickL
    rw [List.size_toArray, List.size_toArray]
    congr 1
    refine congrArg (fun f => List.filterMap f _) (funext fun j => ?_)
    rw [List.getElem?_toArray]
  rw [h3, h2] at h
  rw [List.size_toArray, List.length_replicate] at h
  exact h
theorem texts_of {L : List Str} : ∀ {ds : List D}, (∀ d ∈ ds, d ∈ L.map D.str) → ∃ L' : List Str, ds = L'.map D.str ∧ ∀ t ∈ L', t ∈ L
  | [], _ => ⟨[], rfl, fun _ h => by cases h⟩
  | d :: ds, h => by
    obtain ⟨L', e, k⟩ := texts_of (L := L) (ds := ds) fun d hd => h d (List.mem_cons_of_mem _ hd)
    obtain ⟨t, ht, rfl⟩ := List.mem_map.mp (h d (List.mem_cons_self ..))
    exact ⟨t :: L', by rw [e]; rfl, fun u hu => by
      rcases List.mem_cons.mp hu with rfl | hu
      · exact ht
      · exact k u hu⟩
theorem str_3 : Str.ofString (toString ((3 : Nat) : Int)) = SX.S [51] := by
  rw [SX.num_S, TL.numL_lt (by decide)]
theorem sg_lm : sgW (.side false (.num false 3)) = "left:many:3" := by
  rw [sgW_side, sgW_num, str_3]; decide +kernel
theorem row_lm : rowW [.tick, .side false (.num false 3)] = "tick left:many:3" := by
  unfold rowW
  rw [if_neg (List.cons_ne_nil _ _), List.map_cons, List.map_cons, List.map_nil, sg_lm]; decide +kernel
theorem row_nil : rowW [] = "-" := by unfold rowW; rw [if_pos rfl]
end K08
namespace K08
open PySem L2 Dl K06 K05
local macro_rules | `(tactic| walk_at "ds") => `(tactic| repeat' with_reducible first
  | refine iVar (by with_unfolding_all rfl) ?_
  | refine iCons ?_
  | refine iNil ?_
  | refine iC ?_
  | refine iOp ?_
  | refine iSeq ?_
  | refine iAsg ?_
  | refine iGNm ?_
  | refine iTup ?_
  | refine iFrz ?_
  | refine iTst ?_
  | refine iIfS ?_
  | refine iRet ?_
  | refine iCall ?_
  | refine iLst ?_
  | refine iNext ?_
  | refine lstP_i (by assumption) ?_
  | refine lstP_i updG_same ?_
  | refine iCallG ?_
  | refine iDrop ?_
  | refine iGTp (by with_unfolding_all rfl) ?_
  | refine iGsCons ?_
  | refine iGsNil ?_
  | refine lenOk (by with_unfolding_all rfl) ?_
  | refine frzEnd ?_
  | refine slT ?_
  | refine iTru ?_
  | refine truB ?_
  | refine iOr ?_
  | refine iNot ?_
  | refine ifF ?_
  | refine iCB ?_
  | refine iMt ?_
  | refine iSl ?_
  | refine iP ?_
  | refine iNoP ?_
  | refine iFor ?_
  | refine iISq ?_
  | refine rIx_i (by with_unfolding_all rfl) (by with_unfolding_all rfl) ?_
  | refine rIx_i (by with_unfolding_all rfl) atI_0 ?_
  | refine ne_strT ?_
  | refine iIRg1 ?_
  | refine ifNT ?_
  | fail "stuck")
def spLaw08 (Tb : Addr) : DSp := fun ds G Q _ => ∃ ns, ds = [.scr ns] ∧ G Tb = some (.tab qLn) ∧ ∀ G', Q (.bl true) G'
theorem law_rd {Tb : Addr} : ∀ ds G Q E, spLaw08 Tb ds G Q E → r_law (pSp RRrC) (pSp RSrC) (pSp RRw) (pSp RSt) (spLn Tb) (pSp RRw) (pSp (RSw 31)) spSpo spSs spHand K03.spDraw K03.spFeed { nx := fun _ G' => Q .non G', rt := Q } (startD 13 ds) G := by
  rintro ds G Q E ⟨ns, rfl, hT, hq⟩
  unfold r_law
  have hz : (3000000 : Nat) ≤ sizeLine := by decide
  walk_at "ds"
  refine ⟨ns, rfl, fun a G1 g1 f1 ha => ?_⟩
  have t1 := g1 _ _ hT
  walk_at "ds"
  refine ⟨a, 3, rfl, by decide, by decide, f1, fun i G2 i0 i1 f2 k2 => ?_⟩
  have t2 := tb_keep t1 f1 k2
  walk_at "ds"
  refine ⟨a, 3, rfl, by decide, by decide, f2, fun j G3 j0 j1 f3 k3 => ?_⟩
  have t3 := tb_keep t2 f2 k3
  obtain ⟨l, l0, l1, el⟩ : ∃ l : Int, 0 ≤ l ∧ l ≤ 1000 ∧ atI [D.int 0, .int 3, .int 70] j = some (.int l) := by
    obtain rfl | rfl | rfl : j = 0 ∨ j = 1 ∨ j = 2 := by omega
    · exact ⟨0, by decide, by decide, rfl⟩
    · exact ⟨3, by decide, by decide, rfl⟩
    · exact ⟨70, by decide, by decide, rfl⟩
  refine rIx_i (d := .int l) rfl el ?_
  walk_at "ds"
  refine ⟨a, 3, rfl, by decide, by decide, f3, fun j G4 j0 j1 f4 k4 => ?_⟩
  have t4 := tb_keep t3 f3 k4
  obtain ⟨f, h0, h1, ef⟩ : ∃ l : Int, 0 ≤ l ∧ l ≤ 1000 ∧ atI [D.int 0, .int 2, .int 25] j = some (.int l) := by
    obtain rfl | rfl | rfl : j = 0 ∨ j = 1 ∨ j = 2 := by omega
    · exact ⟨0, by decide, by decide, rfl⟩
    · exact ⟨2, by decide, by decide, rfl⟩
    · exact ⟨25, by decide, by decide, rfl⟩
  refine rIx_i (d := .int f) rfl ef ?_
  unfold dStep
  walk_at "ds"
  refine ⟨rfl, fun L G5 hL g5 => ?_⟩
  have t5 := g5 _ _ t4
  have f5 := f4.grow g5
  walk_at "ds"
  refine ⟨i, rfl, ?_⟩
  walk_at "ds"
  refine ⟨3, rfl, by decide, _, rfl, fun p hp => ?_⟩
  have hap : a ≠ p := f5.ne hp
  obtain ⟨L1, e1, hL1⟩ := texts_of (L := L) (ds := pickL (L.map D.str) i 3) fun d hd => pickL_mem hd
  have hln1 : L1.length ≤ 5000 := by
    have := pick8 (L.map D.str) i 3
    rw [e1, List.length_map, List.length_map] at this
    have := hL.ln
    omega
  rw [e1]
  walk_at "ds"
  refine ⟨by decide, by decide, ?_⟩
  refine dForGo_of (I := fun rest ρ G' => ∃ (M : List Str) (x6 x7 x8 x9 x10 x11 : Option D), (∀ t ∈ M, LnOk t) ∧ M.length + 6 * rest.length ≤ 5018 ∧
      ρ = [some (.scr ns), some (.ref a), some (.int i), some (.int l), some (.int f), some (.ref p), x6, x7, x8, x9, x10, x11, none] ∧ G' p = some (.lst (M.map D.str)) ∧ G' Tb = some (.tab qLn) ∧ K03.FeedOk G' a) ?_ ?_ _ _ _
    ⟨L1, none, none, none, none, none, none, fun t ht => hL.ok t (hL1 t ht), by simp [rngD]; omega, rfl, updG_same, Grow.upd hp _ _ t5, feed_upd f5 hap⟩
  rotate_left
  · rintro y rest ρ G6 ⟨M, x6, x7, x8, x9, x10, x11, hM, hlen, rfl, ep, tT, fa⟩ K hK
    refine ⟨trivial, ?_⟩
    rw [List.length_cons] at hlen
    walk_at "ds"
    refine ⟨a, rfl, fa, fun r G7 hr hr6 f7 k7 => ?_⟩
    have ep7 := k7 _ _ (Ne.symm hap) ep
    have t7 := tb_keep tT fa k7
    have rq := row_tq hr hr6
    walk_at "ds"
    refine reprA_s (row_shw8 hr hr6) ?_
    walk_at "ds"
    refine ⟨_, ⟨r, rfl, row_rwt hr hr6, rfl⟩, fun G8 g8 => ?_⟩
    walk_at "ds"
    refine reprA_s (str_shw rq (by decide)) ?_
    walk_at "ds"
    refine ⟨_, ⟨r, rfl, row_rwt hr hr6, rfl⟩, fun G9 g9 => ?_⟩
    walk_at "ds"
    refine reprA_s (str_shw rq (by decide)) ?_
    walk_at "ds"
    refine reprA_s (row_shw8 hr hr6) ?_
    walk_at "ds"
    have g79 := g8.trans g9
    refine dForGo_of (I := fun rest ρ G' => ∃ (R : List Sn) (x9 : Option D), rest = R.map snD ∧ (∀ s ∈ R, SmSg 3 s) ∧
        ρ = [some (.scr ns), some (.ref a), some (.int i), some (.int l), some (.int f), some (.ref p), some y, some (.tup (r.map snD)), some (.str (shD (.tup (r.map snD)))), x9, x10, x11, none] ∧ Grow G7 G') ?_ ?_ _ _ _
      ⟨r, x9, rfl, hr, rfl, g79⟩
    rotate_left
    · rintro z rest2 ρ G10 ⟨R, z9, ez, hR, rfl, g10⟩ K2 hK2
      refine ⟨trivial, ?_⟩
      cases R with
      | nil => cases ez
      | cons s R =>
        rw [List.map_cons] at ez
        injection ez with ea eb
        subst ea eb
        have hs := hR s (List.mem_cons_self ..)
        have hsd := hs.sd
        walk_at "ds"
        refine ⟨_, ⟨s, rfl, by omega, dr_nb hs, rfl⟩, fun G11 g11 => ?_⟩
        walk_at "ds"
        refine reprA_s (str_shw (sg_tq hs) (by decide)) ?_
        walk_at "ds"
        refine ⟨_, ⟨s, rfl, by omega, by decide, dr_nb hs, rfl⟩, fun G12 g12 => ?_⟩
        walk_at "ds"
        refine reprA_s (str_shw (sg_tq hs) (by decide)) ?_
        walk_at "ds"
        exact hK2 _ _ ⟨R, _, rfl, fun s hs => hR s (List.mem_cons_of_mem _ hs), rfl, (g10.trans g11).trans g12⟩
    rintro ρ G10 ⟨R, z9, ez, -, rfl, g10⟩
    refine ⟨trivial, ?_⟩
    have ep10 := g10 _ _ ep7
    have t10 := g10 _ _ t7
    have f10 := f7.grow g10
    walk_at "ds"
    refine ⟨_, ⟨r, rfl, row_rwt hr hr6, rfl⟩, fun G11 g11 => ?_⟩
    walk_at "ds"
    have ecut : cutD (r.map snD) none (some 1) = (r.take 1).map snD := by
      have := K03.cut_take (r.map snD) 1
      rw [List.map_take]; exact this
    have hr1 : (r.take 1).length ≤ 1 := by rw [List.length_take]; omega
    refine lcF (r.take 1) snD (fun s => .str (sgW s)) ?_ (by omega) ?_ ?_
    · intro P hP
      walk_at "ds"
      rw [ecut]
      exact hP _ _ (fun _ => trivial) (Grow.refl _)
    · intro s hs
      have hs3 := hr s (List.mem_of_mem_take hs)
      have := hs3.sd
      refine ⟨_, rfl, fun G12 K2 hK2 => ?_⟩
      walk_at "ds"
      exact ⟨_, ⟨s, rfl, by omega, by decide, dr_nb hs3, rfl⟩, fun G13 g13 => hK2 _ g13⟩
    intro G12 g12
    have g1012 := g11.trans g12
    refine add_ll (by rw [List.length_map]; show 1 + _ ≤ _; omega) ?_
    refine frzEnd ?_
    have hT3 : ∀ t ∈ rowW r :: (r.take 1).map sgW, Tq 534 6 t := by
      intro t ht
      rcases List.mem_cons.mp ht with rfl | ht
      · exact rq
      · obtain ⟨s, hs, rfl⟩ := List.mem_map.mp ht
        exact (sg_tq (hr s (List.mem_of_mem_take hs))).up (by decide) (by decide)
    have hTl : (rowW r :: (r.take 1).map sgW).length ≤ 2 := by rw [List.length_cons, List.length_map]; omega
    have eT : [D.str (rowW r)] ++ (r.take 1).map (fun s => D.str (sgW s)) = (rowW r :: (r.take 1).map sgW).map D.str := by
      rw [List.map_cons, List.map_map]; rfl
    rw [eT]
    generalize rowW r :: (r.take 1).map sgW = T at hT3 hTl
    dsimp only
    refine dForGo_of (I := fun rest' ρ G' => ∃ (R M' : List Str) (x10 x11 : Option D), rest' = R.map D.str ∧ (∀ t ∈ R, Tq 534 6 t) ∧ (∀ t ∈ M', LnOk t) ∧ M'.length + 3 * R.length + 6 * rest.length ≤ 5018 ∧
        ρ = [some (.scr ns), some (.ref a), some (.int i), some (.int l), some (.int f), some (.ref p), some y, some (.tup (r.map snD)), some (.str (shD (.tup (r.map snD)))), z9, x10, x11, none] ∧ G' p = some (.lst (M'.map D.str)) ∧ G' Tb = some (.tab qLn) ∧ K03.FeedOk G' a) ?_ ?_ _ _ _
      ⟨T, M, x10, x11, rfl, hT3, hM, by omega, rfl, g1012 _ _ ep10, g1012 _ _ t10, f10.grow g1012⟩
    · rintro ρ G13 ⟨R, M', y10, y11, eR, -, hM', hl13, rfl, ep13, t13, f13⟩
      refine ⟨trivial, ?_⟩
      walk_at "ds"
      exact hK _ _ ⟨M', _, _, _, _, _, _, hM', by omega, rfl, ep13, t13, f13⟩
    · rintro z rest2 ρ G13 ⟨R, M', y10, y11, eR, hR, hM', hl13, rfl, ep13, t13, f13⟩ K2 hK2
      refine ⟨trivial, ?_⟩
      cases R with
      | nil => cases eR
      | cons t R =>
        rw [List.map_cons] at eR
        injection eR with ea eb
        subst ea eb
        rw [List.length_cons] at hl13
        have ht := hR t (List.mem_cons_self ..)
        walk_at "ds"
        refine ⟨a, t, 534, 6, rfl, f13, ht, by decide, fun u G14 hu f14 k14 => ?_⟩
        have ep14 := k14 _ _ (Ne.symm hap) ep13
        have t14 := tb_keep t13 f13 k14
        walk_at "ds"
        refine ⟨a, u, 1083, 17, rfl, f14, hu, by decide, fun v G15 hv f15 k15 => ?_⟩
        have ep15 := k15 _ _ (Ne.symm hap) ep14
        have t15 := tb_keep t14 f14 k15
        walk_at "ds"
        refine ext_as (l' := (M' ++ [t, u, v]).map D.str) ep15 rfl (by rw [List.length_map]; show M'.length + 3 ≤ _; omega) (by simp) ?_
        walk_at "ds"
        refine hK2 _ _ ⟨R, M' ++ [t, u, v], _, _, rfl, fun t ht => hR t (List.mem_cons_of_mem _ ht), ?_, by rw [List.length_append]; show M'.length + 3 + _ + _ ≤ _; omega, rfl, updG_same, tb_upd t15 ep15, feed_upd f15 hap⟩
        intro x hx
        rcases List.mem_append.mp hx with hx | hx
        · exact hM' x hx
        · simp only [List.mem_cons, List.not_mem_nil, or_false] at hx
          rcases hx with rfl | rfl | rfl
          · exact (ht.up (by decide) (by decide)).line
          · exact (hu.up (by decide) (by decide)).line
          · exact (hv.up (by decide) (by decide)).line
  rintro ρ G6 ⟨M, x6, x7, x8, x9, x10, x11, hM, hlen, rfl, ep, tT, fa⟩
  refine ⟨trivial, ?_⟩
  walk_at "ds"
  refine lcNone rfl ep ?_ fun G7 g7 => ?_
  · intro d hd
    obtain ⟨t, ht, rfl⟩ := List.mem_map.mp hd
    refine ⟨_, rfl, fun G2 K g2 hK => ?_⟩
    walk_at "ds"
    refine ⟨t, l, f, rfl, hM t ht, l0, l1, h0, h1, g2 _ _ tT, fun G' g' => ?_⟩
    walk_at "ds"
    exact hK G' g'
  walk_at "ds"
  have okn : okD (.lst []) := ⟨by simp [pureD, pureDs], by simp [depD, depDs]⟩
  refine ne_ll okn okn ?_
  rw [show eqvD (.lst []) (.lst []) = true from by decide +kernel]
  walk_at "ds"
  have h3 : nbN (.side false (.num false 3)) := by show (3 : Nat) < 10 ^ 61; decide
  refine ⟨_, ⟨.side false (.num false 3), rfl, by decide, h3, rfl⟩, fun G8 g8 => ?_⟩
  rw [sg_lm]
  walk_at "ds"
  refine ⟨_, ⟨[.tick, .side false (.num false 3)], rfl, ⟨by decide, fun s hs => ?_, by decide⟩, rfl⟩, fun G9 g9 => ?_⟩
  · rcases List.mem_cons.mp hs with rfl | hs
    · trivial
    · rw [List.mem_singleton] at hs; subst hs; exact h3
  rw [row_lm]
  walk_at "ds"
  intro q hq2
  have e9 : (updG G9 q (.lst [D.str "left:many:3", D.str "tick left:many:3"])) q = some (.lst [D.str "left:many:3", D.str "tick left:many:3"]) := updG_same
  generalize updG G9 q (.lst [D.str "left:many:3", D.str "tick left:many:3"]) = G10 at e9 ⊢
  walk_at "ds"
  refine ⟨_, ⟨[], rfl, ⟨fun s hs => (by cases hs), fun s hs => (by cases hs), by decide⟩, rfl⟩, fun G11 g11 => ?_⟩
  rw [row_nil]
  walk_at "ds"
  have e11 := g11 _ _ e9
  refine ext_i e11 rfl (by show (3 : Nat) ≤ _; omega) ?_
  have e12 : (updG G11 q (.lst ([D.str "left:many:3", D.str "tick left:many:3"] ++ [D.str "-"]))) q = some (.lst [D.str "left:many:3", D.str "tick left:many:3", D.str "-"]) := updG_same
  generalize updG G11 q (.lst ([D.str "left:many:3", D.str "tick left:many:3"] ++ [D.str "-"])) = G12 at e12 ⊢
  walk_at "ds"
  refine ⟨rfl, rfl, _, ⟨"right:way:0", 1, 2, rfl, ⟨by decide +kernel, by decide +kernel⟩, read_rw⟩, fun G13 g13 => ?_⟩
  walk_at "ds"
  refine ⟨rfl, rfl, _, ⟨"tick end", 2, 0, rfl, ⟨by decide +kernel, by decide +kernel⟩, read_te⟩, fun G14 g14 => ?_⟩
  walk_at "ds"
  have e14 := g14 _ _ (g13 _ _ e12)
  refine ext_i e14 rfl (by show (5 : Nat) ≤ _; omega) ?_
  have e15 : (updG G14 q (.lst ([D.str "left:many:3", D.str "tick left:many:3", D.str "-"] ++ [snD (.side true (.num true 0)), .tup [snD .tick, snD .fin]]))) q = some (.lst [D.str "left:many:3", D.str "tick left:many:3", D.str "-", snD (.side true (.num true 0)), .tup [snD .tick, snD .fin]]) := updG_same
  generalize updG G14 q (.lst ([D.str "left:many:3", D.str "tick left:many:3", D.str "-"] ++ [snD (.side true (.num true 0)), .tup [snD .tick, snD .fin]])) = G15 at e15 ⊢
  walk_at "ds"
  refine ⟨rfl, rfl, _, ⟨"-", 0, 0, rfl, ⟨by decide +kernel, by decide +kernel⟩, read_no⟩, fun G16 g16 => ?_⟩
  walk_at "ds"
  have e16 := g16 _ _ e15
  refine ext_i e16 rfl (by show (6 : Nat) ≤ _; omega) ?_
  walk_at "ds"
  have okw : okD (.lst [D.str "left:many:3", D.str "tick left:many:3", D.str "-", .tup [.str "right", .tup [.str "way", .int 0]], .tup [.str "tick", .str "end"], .tup []]) := ⟨by decide +kernel, by decide +kernel⟩
  refine K03.eq_rl (l := [D.str "left:many:3", D.str "tick left:many:3", D.str "-", .tup [.str "right", .tup [.str "way", .int 0]], .tup [.str "tick", .str "end"], .tup []]) updG_same okw okw ?_
  rw [show eqvD (.lst [D.str "left:many:3", D.str "tick left:many:3", D.str "-", .tup [.str "right", .tup [.str "way", .int 0]], .tup [.str "tick", .str "end"], .tup []]) (.lst [D.str "left:many:3", D.str "tick left:many:3", D.str "-", .tup [.str "right", .tup [.str "way", .int 0]], .tup [.str "tick", .str "end"], .tup []]) = true from by decide +kernel]
  exact hq _
end K08
namespace K08
open PySem L2 Dl LamX
structure Tx (P : Program) (w : World) (K : PySem.W.Frag) (mg : Str → Option Value) : Prop where
  m_all : mg "all" = none
  m_enumerate : mg "enumerate" = none
  m_int : mg "int" = none
  m_isinstance : mg "isinstance" = none
  m_len : mg "len" = none
  m_list : mg "list" = none
  m_range : mg "range" = none
  m_repr : mg "repr" = none
  m_str : mg "str" = none
  m_tuple : mg "tuple" = none
  c_PLAIN_SIGNS : ∃ u, mg "PLAIN_SIGNS" = some u ∧ ∃ v, RelV v u ∧ ∀ G H, RepV K G H (.tup [(.str "tick"), (.str "more"), (.str "end")]) v
  c_NUMBER_SIGNS : ∃ u, mg "NUMBER_SIGNS" = some u ∧ ∃ v, RelV v u ∧ ∀ G H, RepV K G H (.tup [(.str "many"), (.str "way")]) v
  c_SIDES : ∃ u, mg "SIDES" = some u ∧ ∃ v, RelV v u ∧ ∀ G H, RepV K G H (.tup [(.str "left"), (.str "right")]) v
  c_NO_SIGNS : ∃ u, mg "NO_SIGNS" = some u ∧ ∃ v, RelV v u ∧ ∀ G H, RepV K G H (.str "-") v
  c_DIGITS : ∃ u, mg "DIGITS" = some u ∧ ∃ v, RelV v u ∧ ∀ G H, RepV K G H (.str "0123456789") v
  c_MOST_DIGITS : ∃ u, mg "MOST_DIGITS" = some u ∧ ∃ v, RelV v u ∧ ∀ G H, RepV K G H (.int 60) v
  c_MOST_AROUND : ∃ u, mg "MOST_AROUND" = some u ∧ ∃ v, RelV v u ∧ ∀ G H, RepV K G H (.int 30) v
  x_InvalidText : XClass P w K mg "InvalidText" ["line", "field"]
  g_BarError : mg "BarError" = some (.ref (He.ga K "BarError"))
  g_InvalidPaper : mg "InvalidPaper" = some (.ref (He.ga K "InvalidPaper"))
  g_InvalidRow : mg "InvalidRow" = some (.ref (He.ga K "InvalidRow"))
  g_InvalidText : mg "InvalidText" = some (.ref (He.ga K "InvalidText"))
  g_LiveError : mg "LiveError" = some (.ref (He.ga K "LiveError"))
  g_NotNext : mg "NotNext" = some (.ref (He.ga K "NotNext"))
  g_NotUsable : mg "NotUsable" = some (.ref (He.ga K "NotUsable"))
  g_PaperError : mg "PaperError" = some (.ref (He.ga K "PaperError"))
  g_TextError : mg "TextError" = some (.ref (He.ga K "TextError"))
  g_WorkError : mg "WorkError" = some (.ref (He.ga K "WorkError"))
  et : ExT K CT
theorem hu70_of {A : Around} {k : Nat} (hr : Room k A) : A.units + 70 < cLine := by have := hr.un; omega
abbrev N_is_sided : List Str := ["thing"]
abbrev P_is_sided : List Str := ["thing"]
open PyProof.Rows (envOfC)
section
variable {P : Program} {w : World} {K : PySem.W.Frag} {mg : Str → Option Value} {base : Heap} {k : Nat} {f : Addr} {fd : FuncData} {sp : DSp}
theorem sc_is_sided : FnScope N_is_sided P_is_sided (defScope s_is_sided) := ⟨rfl, rfl, rfl, by decide +kernel, rfl, by decide +kernel, by decide +kernel⟩
theorem b_is_sided (T : Tx P w K mg)    (cdv : Value) (A : Around) (out : List Env) (st : Shared) (H : Hp) (E : XK)
    (hr : Room k (A.deeper (envOfC "is_sided" (defScope s_is_sided) st.heap.objs.size f cdv))) (hgd : (A.deeper (envOfC "is_sided" (defScope s_is_sided) st.heap.objs.size f cdv)).guards = some []) :
    DSs (cxOf CX0 P w K mg base N_is_sided "is_sided" (defScope s_is_sided) f cdv A out st H E).nox (defBody s_is_sided) (r_is_sided) := by
  have SC := sc_is_sided
  have hu := hu_of hr
  have hu64 := hr.units
  have hu70 := hu70_of hr
  exact (ds_one (ds_ret (de_and (de_isi (T := "tuple") (by decide) rfl T.m_isinstance rfl T.m_tuple (by decide +kernel) (dv 0)) (de_and (de_cmp (o_eq hu64) (de_callB c_len rfl T.m_len PySem.boot_len (da_cons (dv 0) da_nil)) de_int (nomark _)) (de_and (de_isi (T := "str") (by decide) rfl T.m_isinstance rfl T.m_str (by decide +kernel) (de_ix (dv 0) de_int)) (de_one (de_cmp o_in (de_ix (dv 0) de_int) (de_glob rfl T.c_SIDES) rfl)))))))
theorem k_is_sided (T : Tx P w K mg)
    (F : FunD K "is_sided" "is_sided" (defArgs s_is_sided) (defBody s_is_sided) (defScope s_is_sided) [] [] f fd) (hm : mg "is_sided" = some (.ref f)) (len : ∀ ds G Q E, sp ds G Q E → ds.length = 1)
    (ok : ∀ ds G Q E, sp ds G Q E → (r_is_sided) { nx := fun _ G' => Q .non G', rt := Q } (startD 1 ds) G) : Callee P w K mg base (k + 1) "is_sided" P_is_sided sp :=
  callee_of F hm (dfn_of F sc_is_sided len (b_is_sided T) ok) (fun _ _ _ _ _ _ us hl => match us, hl with | [_], _ => rfl) (fun _ _ _ _ _ _ us hl => match us, hl with | [_], _ => rfl)
abbrev N_sign_text : List Str := ["sign", "found", "rest"]
abbrev P_sign_text : List Str := ["sign"]
theorem sc_sign_text : FnScope N_sign_text P_sign_text (defScope s_sign_text) := ⟨rfl, rfl, rfl, by decide +kernel, rfl, by decide +kernel, by decide +kernel⟩
theorem b_sign_text (T : Tx P w K mg) {sp_is_sided : DSp} (C_is_sided : Callee P w K mg base k "is_sided" P_is_sided sp_is_sided)  (cdv : Value) (A : Around) (out : List Env) (st : Shared) (H : Hp) (E : XK)
    (hr : Room k (A.deeper (envOfC "sign_text" (defScope s_sign_text) st.heap.objs.size f cdv))) (hgd : (A.deeper (envOfC "sign_text" (defScope s_sign_text) st.heap.objs.size f cdv)).guards = some []) :
    DSs (cxOf CX0 P w K mg base N_sign_text "sign_text" (defScope s_sign_text) f cdv A out st H E).nox (defBody s_sign_text) (r_sign_text sp_is_sided) := by
  have SC := sc_sign_text
  have hu := hu_of hr
  have hu64 := hr.units
  have hu70 := hu70_of hr
  exact (ds_cons (ds_set (i := 1) SC.nd rfl (by first | exact Or.inl rfl | exact Or.inr rfl) (de_lst da_nil))
  (ds_cons (ds_set (i := 2) SC.nd rfl (by first | exact Or.inl rfl | exact Or.inr rfl) (dv 0))
  (ds_cons (ds_while PassesOwn.never (dt_tru (dc C_is_sided hr hgd rfl (da_cons (dv 2) da_nil)))
  (ds_cons (ds_expr (de_append (dv 1) (de_ix (dv 2) de_int)))
  (ds_one (ds_set (i := 2) SC.nd rfl (by first | exact Or.inl rfl | exact Or.inr rfl) (de_ix (dv 2) de_int)))))
  (ds_cons (ds_if (dt_tru (de_isi (T := "str") (by decide) rfl T.m_isinstance rfl T.m_str (by decide +kernel) (dv 2)))
  (ds_one (ds_ret (de_join de_str (de_frz (de_lst (da_star (dv 1) (da_cons (dv 2) da_nil)))))))
  ds_nil)
  (ds_one (ds_ret (de_join de_str (de_frz (de_lst (da_star (dv 1) (da_cons (de_ix (dv 2) de_int) (da_cons (de_js1 (de_fmt (de_ix (dv 2) de_int))) da_nil))))))))))))
theorem k_sign_text (T : Tx P w K mg) {sp_is_sided : DSp} (C_is_sided : Callee P w K mg base k "is_sided" P_is_sided sp_is_sided)
    (F : FunD K "sign_text" "sign_text" (defArgs s_sign_text) (defBody s_sign_text) (defScope s_sign_text) [] [] f fd) (hm : mg "sign_text" = some (.ref f)) (len : ∀ ds G Q E, sp ds G Q E → ds.length = 1)
    (ok : ∀ ds G Q E, sp ds G Q E → (r_sign_text sp_is_sided) { nx := fun _ G' => Q .non G', rt := Q } (startD 3 ds) G) : Callee P w K mg base (k + 1) "sign_text" P_sign_text sp :=
  callee_of F hm (dfn_of F sc_sign_text len (b_sign_text T C_is_sided) ok) (fun _ _ _ _ _ _ us hl => match us, hl with | [_], _ => rfl) (fun _ _ _ _ _ _ us hl => match us, hl with | [_], _ => rfl)
abbrev N_signs_text : List Str := ["signs", "sign"]
abbrev P_signs_text : List Str := ["signs"]
theorem sc_signs_text : FnScope N_signs_text P_signs_text (defScope s_signs_text) := ⟨rfl, rfl, rfl, by decide +kernel, rfl, by decide +kernel, by decide +kernel⟩
theorem b_signs_text (T : Tx P w K mg) {sp_sign_text : DSp} (C_sign_text : Callee P w K mg base k "sign_text" P_sign_text sp_sign_text)  (cdv : Value) (A : Around) (out : List Env) (st : Shared) (H : Hp) (E : XK)
    (hr : Room k (A.deeper (envOfC "signs_text" (defScope s_signs_text) st.heap.objs.size f cdv))) (hgd : (A.deeper (envOfC "signs_text" (defScope s_signs_text) st.heap.objs.size f cdv)).guards = some []) :
    DSs (cxOf CX0 P w K mg base N_signs_text "signs_text" (defScope s_signs_text) f cdv A out st H E).nox (defBody s_signs_text) (r_signs_text sp_sign_text) := by
  have SC := sc_signs_text
  have hu := hu_of hr
  have hu64 := hr.units
  have hu70 := hu70_of hr
  exact (ds_one (ds_ret (de_if (dt_cmp o_gt (de_callB c_len rfl T.m_len PySem.boot_len (da_cons (dv 0) da_nil)) de_int (nomark _)) (de_join de_str (de_frz (de_lc (own := [("sign", 1)]) (ct := (.one 1)) rfl SC.nd (di_seq (dv 0)) (blkOk_by (by show blkC N_signs_text (defScope s_signs_text) _ _ = true; decide +kernel)) (by decide) (fun _ _ _ _ _ => pg_name (i := 1) SC.nd rfl (Or.inl rfl)) (fun _ _ _ _ _ => dts_nil) (fun _ _ _ _ _ => (dc C_sign_text hr hgd rfl (da_cons (dv 1) da_nil)))))) (de_glob rfl T.c_NO_SIGNS))))
theorem k_signs_text (T : Tx P w K mg) {sp_sign_text : DSp} (C_sign_text : Callee P w K mg base k "sign_text" P_sign_text sp_sign_text)
    (F : FunD K "signs_text" "signs_text" (defArgs s_signs_text) (defBody s_signs_text) (defScope s_signs_text) [] [] f fd) (hm : mg "signs_text" = some (.ref f)) (len : ∀ ds G Q E, sp ds G Q E → ds.length = 1)
    (ok : ∀ ds G Q E, sp ds G Q E → (r_signs_text sp_sign_text) { nx := fun _ G' => Q .non G', rt := Q } (startD 2 ds) G) : Callee P w K mg base (k + 1) "signs_text" P_signs_text sp :=
  callee_of F hm (dfn_of F sc_signs_text len (b_signs_text T C_sign_text) ok) (fun _ _ _ _ _ _ us hl => match us, hl with | [_], _ => rfl) (fun _ _ _ _ _ _ us hl => match us, hl with | [_], _ => rfl)
abbrev N_number_or_none : List Str := ["word", "sign"]
abbrev P_number_or_none : List Str := ["word"]
theorem sc_number_or_none : FnScope N_number_or_none P_number_or_none (defScope s_number_or_none) := ⟨rfl, rfl, rfl, by decide +kernel, rfl, by decide +kernel, by decide +kernel⟩
theorem b_number_or_none (T : Tx P w K mg)    (cdv : Value) (A : Around) (out : List Env) (st : Shared) (H : Hp) (E : XK)
    (hr : Room k (A.deeper (envOfC "number_or_none" (defScope s_number_or_none) st.heap.objs.size f cdv))) (hgd : (A.deeper (envOfC "number_or_none" (defScope s_number_or_none) st.heap.objs.size f cdv)).guards = some []) :
    DSs (cxOf CX0 P w K mg base N_number_or_none "number_or_none" (defScope s_number_or_none) f cdv A out st H E).nox (defBody s_number_or_none) (r_number_or_none) := by
  have SC := sc_number_or_none
  have hu := hu_of hr
  have hu64 := hr.units
  have hu70 := hu70_of hr
  exact (ds_cons (ds_if (dt_w (dw_or (dt_not (dt_chain o_le o_le de_int (de_callB c_len rfl T.m_len PySem.boot_len (da_cons (dv 0) da_nil)) (de_glob rfl T.c_MOST_DIGITS))) (dw_or1 (dt_not (dt_tru (de_callB (c_all rfl) rfl T.m_all (by decide +kernel) (da_cons (de_frz (de_lc (own := [("sign", 1)]) (ct := (.one 1)) rfl SC.nd (di_tx (dv 0)) (blkOk_by (by show blkC N_number_or_none (defScope s_number_or_none) _ _ = true; decide +kernel)) (by decide) (fun _ _ _ _ _ => pg_name (i := 1) SC.nd rfl (Or.inl rfl)) (fun _ _ _ _ _ => dts_nil) (fun _ _ _ _ _ => (de_cmp o_inTx (dv 1) (de_glob rfl T.c_DIGITS) rfl)))) da_nil)))))))
  (ds_one (ds_ret de_non))
  ds_nil)
  (ds_one (ds_ret (de_if (dt_w (dw_or (dt_cmp (o_eq hu64) (dv 0) de_str (nomark _)) (dw_or1 (dt_cmp (o_ne hu64) (de_ixA (dv 0) de_int) de_str (nomark _))))) (de_callTy c_intA rfl T.m_int (by decide +kernel) (da_cons (dv 0) da_nil)) de_non))))
theorem k_number_or_none (T : Tx P w K mg)
    (F : FunD K "number_or_none" "number_or_none" (defArgs s_number_or_none) (defBody s_number_or_none) (defScope s_number_or_none) [] [] f fd) (hm : mg "number_or_none" = some (.ref f)) (len : ∀ ds G Q E, sp ds G Q E → ds.length = 1)
    (ok : ∀ ds G Q E, sp ds G Q E → (r_number_or_none) { nx := fun _ G' => Q .non G', rt := Q } (startD 2 ds) G) : Callee P w K mg base (k + 1) "number_or_none" P_number_or_none sp :=
  callee_of F hm (dfn_of F sc_number_or_none len (b_number_or_none T) ok) (fun _ _ _ _ _ _ us hl => match us, hl with | [_], _ => rfl) (fun _ _ _ _ _ _ us hl => match us, hl with | [_], _ => rfl)
abbrev N_sign_or_none : List Str := ["word", "parts", "many", "rest", "found", "side"]
abbrev P_sign_or_none : List Str := ["word"]
theorem sc_sign_or_none : FnScope N_sign_or_none P_sign_or_none (defScope s_sign_or_none) := ⟨rfl, rfl, rfl, by decide +kernel, rfl, by decide +kernel, by decide +kernel⟩
theorem b_sign_or_none (T : Tx P w K mg) {sp_number_or_none : DSp} (C_number_or_none : Callee P w K mg base k "number_or_none" P_number_or_none sp_number_or_none)  (cdv : Value) (A : Around) (out : List Env) (st : Shared) (H : Hp) (E : XK)
    (hr : Room k (A.deeper (envOfC "sign_or_none" (defScope s_sign_or_none) st.heap.objs.size f cdv))) (hgd : (A.deeper (envOfC "sign_or_none" (defScope s_sign_or_none) st.heap.objs.size f cdv)).guards = some []) :
    DSs (cxOf CX0 P w K mg base N_sign_or_none "sign_or_none" (defScope s_sign_or_none) f cdv A out st H E).nox (defBody s_sign_or_none) (r_sign_or_none sp_number_or_none) := by
  have SC := sc_sign_or_none
  have hu := hu_of hr
  have hu64 := hr.units
  have hu70 := hu70_of hr
  exact (ds_cons (ds_set (i := 1) SC.nd rfl (by first | exact Or.inl rfl | exact Or.inr rfl) (de_frz (de_splt (dv 0) de_str)))
  (ds_cons (ds_set (i := 2) SC.nd rfl (by first | exact Or.inl rfl | exact Or.inr rfl) de_int)
  (ds_cons (ds_while PassesOwn.never (dt_w (dw_and (dt_cmp o_lt (dv 2) (de_callB c_len rfl T.m_len PySem.boot_len (da_cons (dv 1) da_nil)) (nomark _)) (dw_and1 (dt_cmp o_in (de_ix (dv 1) (dv 2)) (de_glob rfl T.c_SIDES) rfl))))
  (ds_one (ds_augN (i := 2) SC.nd rfl (by first | exact Or.inl rfl | exact Or.inr rfl) de_int)))
  (ds_cons (ds_set (i := 3) SC.nd rfl (by first | exact Or.inl rfl | exact Or.inr rfl) (de_frz (de_slice (dv 1) (do_some (dv 2)) do_none)))
  (ds_cons (ds_if (dt_cmp o_ge (dv 2) (de_glob rfl T.c_MOST_AROUND) (nomark _))
  (ds_one (ds_ret de_non))
  ds_nil)
  (ds_cons (ds_set (i := 4) SC.nd rfl (by first | exact Or.inl rfl | exact Or.inr rfl) de_non)
  (ds_cons (ds_if (dt_w (dw_and (dt_cmp (o_eq hu64) (de_callB c_len rfl T.m_len PySem.boot_len (da_cons (dv 3) da_nil)) de_int (nomark _)) (dw_and1 (dt_cmp o_in (de_ix (dv 3) de_int) (de_glob rfl T.c_PLAIN_SIGNS) rfl))))
  (ds_one (ds_set (i := 4) SC.nd rfl (by first | exact Or.inl rfl | exact Or.inr rfl) (de_ix (dv 3) de_int)))
  ds_nil)
  (ds_cons (ds_if (dt_w (dw_and (dt_cmp (o_eq hu64) (de_callB c_len rfl T.m_len PySem.boot_len (da_cons (dv 3) da_nil)) de_int (nomark _)) (dw_and (dt_cmp o_in (de_ix (dv 3) de_int) (de_glob rfl T.c_NUMBER_SIGNS) rfl) (dw_and1 (dt_cmp o_notN (dc C_number_or_none hr hgd rfl (da_cons (de_ix (dv 3) de_int) da_nil)) de_non (nomark _))))))
  (ds_one (ds_set (i := 4) SC.nd rfl (by first | exact Or.inl rfl | exact Or.inr rfl) (de_tup (da_cons (de_ix (dv 3) de_int) (da_cons (dc C_number_or_none hr hgd rfl (da_cons (de_ix (dv 3) de_int) da_nil)) da_nil)))))
  ds_nil)
  (ds_cons (ds_if (dt_cmp o_isN (dv 4) de_non (nomark _))
  (ds_one (ds_ret de_non))
  ds_nil)
  (ds_cons (ds_for PassesOwn.never rfl (di_seq (de_frz (de_rev (de_frz (de_slice (dv 1) do_none (do_some (dv 2))))))) (dg_name (i := 5) SC.nd rfl (by first | exact Or.inl rfl | exact Or.inr rfl))
  (ds_one (ds_set (i := 4) SC.nd rfl (by first | exact Or.inl rfl | exact Or.inr rfl) (de_tup (da_cons (dv 5) (da_cons (dv 4) da_nil))))))
  (ds_one (ds_ret (dv 4)))))))))))))
theorem k_sign_or_none (T : Tx P w K mg) {sp_number_or_none : DSp} (C_number_or_none : Callee P w K mg base k "number_or_none" P_number_or_none sp_number_or_none)
    (F : FunD K "sign_or_none" "sign_or_none" (defArgs s_sign_or_none) (defBody s_sign_or_none) (defScope s_sign_or_none) [] [] f fd) (hm : mg "sign_or_none" = some (.ref f)) (len : ∀ ds G Q E, sp ds G Q E → ds.length = 1)
    (ok : ∀ ds G Q E, sp ds G Q E → (r_sign_or_none sp_number_or_none) { nx := fun _ G' => Q .non G', rt := Q } (startD 6 ds) G) : Callee P w K mg base (k + 1) "sign_or_none" P_sign_or_none sp :=
  callee_of F hm (dfn_of F sc_sign_or_none len (b_sign_or_none T C_number_or_none) ok) (fun _ _ _ _ _ _ us hl => match us, hl with | [_], _ => rfl) (fun _ _ _ _ _ _ us hl => match us, hl with | [_], _ => rfl)
abbrev N_found_or_refused : List Str := ["found", "line", "field"]
abbrev P_found_or_refused : List Str := ["found", "line", "field"]
theorem sc_found_or_refused : FnScope N_found_or_refused P_found_or_refused (defScope s_found_or_refused) := ⟨rfl, rfl, rfl, by decide +kernel, rfl, by decide +kernel, by decide +kernel⟩
theorem b_found_or_refused (T : Tx P w K mg)         (hk2 : 2 ≤ k) (cdv : Value) (A : Around) (out : List Env) (st : Shared) (H : Hp) (E : XK)
    (hr : Room k (A.deeper (envOfC "found_or_refused" (defScope s_found_or_refused) st.heap.objs.size f cdv))) (hgd : (A.deeper (envOfC "found_or_refused" (defScope s_found_or_refused) st.heap.objs.size f cdv)).guards = some []) (tk : Takes (cxOf (L2.CX P w) P w K mg base N_found_or_refused "found_or_refused" (defScope s_found_or_refused) f cdv A out st H E) (fun c d _ H' => E c d H')) (hpo : PassesOwn (model P w) (A.deeper (envOfC "found_or_refused" (defScope s_found_or_refused) st.heap.objs.size f cdv)) (envOfC "found_or_refused" (defScope s_found_or_refused) st.heap.objs.size f cdv) (cxOf (L2.CX P w) P w K mg base N_found_or_refused "found_or_refused" (defScope s_found_or_refused) f cdv A out st H E).xe) :
    XSs (cxOf (L2.CX P w) P w K mg base N_found_or_refused "found_or_refused" (defScope s_found_or_refused) f cdv A out st H E) (fun c d _ H' => E c d H') (defBody s_found_or_refused) (r_found_or_refused) := by
  have SC := sc_found_or_refused
  have hu := hu_of hr
  have hu64 := hr.units
  have hu70 := hu70_of hr
  exact (xs_cons (xs_if (xt_p (dt_cmp o_isN (dv 0) de_non (nomark _)))
  (xs_one (xs_raise T.x_InvalidText rfl tk (hr.mono hk2) rfl (xa_p (da_cons (dv 1) (da_cons (dv 2) da_nil)))))
  (xss_p ds_nil))
  (xs_one (xs_p (ds_ret (dv 0)))))
theorem d_found_or_refused (T : Tx P w K mg)         (hk2 : 2 ≤ k)
    (F : FunD K "found_or_refused" "found_or_refused" (defArgs s_found_or_refused) (defBody s_found_or_refused) (defScope s_found_or_refused) [] [] f fd) (len : ∀ ds G Q E, sp ds G Q E → ds.length = 3)
    (ok : ∀ ds G Q E, sp ds G Q E → (r_found_or_refused) (fun x _ G' => E x G') { nx := fun _ G' => Q .non G', rt := Q } (startD 3 ds) G) : XFn P w K mg base (k + 1) f fd P_found_or_refused sp :=
  xfn_of F sc_found_or_refused len (b_found_or_refused T hk2) ok
theorem k_found_or_refused (T : Tx P w K mg)         (hk2 : 2 ≤ k)
    (F : FunD K "found_or_refused" "found_or_refused" (defArgs s_found_or_refused) (defBody s_found_or_refused) (defScope s_found_or_refused) [] [] f fd) (hm : mg "found_or_refused" = some (.ref f)) (len : ∀ ds G Q E, sp ds G Q E → ds.length = 3)
    (ok : ∀ ds G Q E, sp ds G Q E → (r_found_or_refused) (fun x _ G' => E x G') { nx := fun _ G' => Q .non G', rt := Q } (startD 3 ds) G) : XCallee P w K mg base (k + 1) "found_or_refused" P_found_or_refused sp :=
  xcallee_of F hm (d_found_or_refused T hk2 F len ok) (fun _ _ _ _ _ _ us hl => match us, hl with | [_, _, _], _ => rfl) (fun _ _ _ _ _ _ us hl => match us, hl with | [_, _, _], _ => rfl)
abbrev N_require_one : List Str := ["words", "line", "field"]
abbrev P_require_one : List Str := ["words", "line", "field"]
theorem sc_require_one : FnScope N_require_one P_require_one (defScope s_require_one) := ⟨rfl, rfl, rfl, by decide +kernel, rfl, by decide +kernel, by decide +kernel⟩
theorem b_require_one (T : Tx P w K mg)         (hk2 : 2 ≤ k) (cdv : Value) (A : Around) (out : List Env) (st : Shared) (H : Hp) (E : XK)
    (hr : Room k (A.deeper (envOfC "require_one" (defScope s_require_one) st.heap.objs.size f cdv))) (hgd : (A.deeper (envOfC "require_one" (defScope s_require_one) st.heap.objs.size f cdv)).guards = some []) (tk : Takes (cxOf (L2.CX P w) P w K mg base N_require_one "require_one" (defScope s_require_one) f cdv A out st H E) (fun c d _ H' => E c d H')) (hpo : PassesOwn (model P w) (A.deeper (envOfC "require_one" (defScope s_require_one) st.heap.objs.size f cdv)) (envOfC "require_one" (defScope s_require_one) st.heap.objs.size f cdv) (cxOf (L2.CX P w) P w K mg base N_require_one "require_one" (defScope s_require_one) f cdv A out st H E).xe) :
    XSs (cxOf (L2.CX P w) P w K mg base N_require_one "require_one" (defScope s_require_one) f cdv A out st H E) (fun c d _ H' => E c d H') (defBody s_require_one) (r_require_one) := by
  have SC := sc_require_one
  have hu := hu_of hr
  have hu64 := hr.units
  have hu70 := hu70_of hr
  exact (xs_one (xs_if (xt_p (dt_cmp o_gt (de_callB c_len rfl T.m_len PySem.boot_len (da_cons (dv 0) da_nil)) de_int (nomark _)))
  (xs_one (xs_raise T.x_InvalidText rfl tk (hr.mono hk2) rfl (xa_p (da_cons (dv 1) (da_cons (de_op o_add (dv 2) de_int) da_nil)))))
  (xss_p ds_nil)))
theorem d_require_one (T : Tx P w K mg)         (hk2 : 2 ≤ k)
    (F : FunD K "require_one" "require_one" (defArgs s_require_one) (defBody s_require_one) (defScope s_require_one) [] [] f fd) (len : ∀ ds G Q E, sp ds G Q E → ds.length = 3)
    (ok : ∀ ds G Q E, sp ds G Q E → (r_require_one) (fun x _ G' => E x G') { nx := fun _ G' => Q .non G', rt := Q } (startD 3 ds) G) : XFn P w K mg base (k + 1) f fd P_require_one sp :=
  xfn_of F sc_require_one len (b_require_one T hk2) ok
theorem k_require_one (T : Tx P w K mg)         (hk2 : 2 ≤ k)
    (F : FunD K "require_one" "require_one" (defArgs s_require_one) (defBody s_require_one) (defScope s_require_one) [] [] f fd) (hm : mg "require_one" = some (.ref f)) (len : ∀ ds G Q E, sp ds G Q E → ds.length = 3)
    (ok : ∀ ds G Q E, sp ds G Q E → (r_require_one) (fun x _ G' => E x G') { nx := fun _ G' => Q .non G', rt := Q } (startD 3 ds) G) : XCallee P w K mg base (k + 1) "require_one" P_require_one sp :=
  xcallee_of F hm (d_require_one T hk2 F len ok) (fun _ _ _ _ _ _ us hl => match us, hl with | [_, _, _], _ => rfl) (fun _ _ _ _ _ _ us hl => match us, hl with | [_, _, _], _ => rfl)
abbrev N_sign_read : List Str := ["text", "line", "field", "words", "found"]
abbrev P_sign_read : List Str := ["text", "line", "field"]
theorem sc_sign_read : FnScope N_sign_read P_sign_read (defScope s_sign_read) := ⟨rfl, rfl, rfl, by decide +kernel, rfl, by decide +kernel, by decide +kernel⟩
theorem b_sign_read (T : Tx P w K mg) {sp_sign_or_none : DSp} {sx_require_one : DSp} {sx_found_or_refused : DSp} (C_sign_or_none : Callee P w K mg base k "sign_or_none" P_sign_or_none sp_sign_or_none)  (X_require_one : XCallee P w K mg base k "require_one" P_require_one sx_require_one) (X_found_or_refused : XCallee P w K mg base k "found_or_refused" P_found_or_refused sx_found_or_refused)    (cdv : Value) (A : Around) (out : List Env) (st : Shared) (H : Hp) (E : XK)
    (hr : Room k (A.deeper (envOfC "sign_read" (defScope s_sign_read) st.heap.objs.size f cdv))) (hgd : (A.deeper (envOfC "sign_read" (defScope s_sign_read) st.heap.objs.size f cdv)).guards = some []) (tk : Takes (cxOf (L2.CX P w) P w K mg base N_sign_read "sign_read" (defScope s_sign_read) f cdv A out st H E) (fun c d _ H' => E c d H')) (hpo : PassesOwn (model P w) (A.deeper (envOfC "sign_read" (defScope s_sign_read) st.heap.objs.size f cdv)) (envOfC "sign_read" (defScope s_sign_read) st.heap.objs.size f cdv) (cxOf (L2.CX P w) P w K mg base N_sign_read "sign_read" (defScope s_sign_read) f cdv A out st H E).xe) :
    XSs (cxOf (L2.CX P w) P w K mg base N_sign_read "sign_read" (defScope s_sign_read) f cdv A out st H E) (fun c d _ H' => E c d H') (defBody s_sign_read) (r_sign_read sp_sign_or_none sx_require_one sx_found_or_refused) := by
  have SC := sc_sign_read
  have hu := hu_of hr
  have hu64 := hr.units
  have hu70 := hu70_of hr
  exact (xs_cons (xs_p (ds_set (i := 3) SC.nd rfl (by first | exact Or.inl rfl | exact Or.inr rfl) (de_frz (de_splt (dv 0) de_str))))
  (xs_cons (xs_set (i := 4) SC.nd rfl (by first | exact Or.inl rfl | exact Or.inr rfl) (xc X_found_or_refused tk hr hgd rfl (xa_p (da_cons (dc C_sign_or_none hr hgd rfl (da_cons (de_ix (dv 3) de_int) da_nil)) (da_cons (dv 1) (da_cons (dv 2) da_nil))))))
  (xs_cons (xs_expr (xc X_require_one tk hr hgd rfl (xa_p (da_cons (dv 3) (da_cons (dv 1) (da_cons (dv 2) da_nil))))))
  (xs_one (xs_p (ds_ret (dv 4)))))))
theorem d_sign_read (T : Tx P w K mg) {sp_sign_or_none : DSp} {sx_require_one : DSp} {sx_found_or_refused : DSp} (C_sign_or_none : Callee P w K mg base k "sign_or_none" P_sign_or_none sp_sign_or_none)  (X_require_one : XCallee P w K mg base k "require_one" P_require_one sx_require_one) (X_found_or_refused : XCallee P w K mg base k "found_or_refused" P_found_or_refused sx_found_or_refused)
    (F : FunD K "sign_read" "sign_read" (defArgs s_sign_read) (defBody s_sign_read) (defScope s_sign_read) [] [("line", .int (0)), ("field", .int (0))] f fd) (len : ∀ ds G Q E, sp ds G Q E → ds.length = 3)
    (ok : ∀ ds G Q E, sp ds G Q E → (r_sign_read sp_sign_or_none sx_require_one sx_found_or_refused) (fun x _ G' => E x G') { nx := fun _ G' => Q .non G', rt := Q } (startD 5 ds) G) : XFn P w K mg base (k + 1) f fd P_sign_read sp :=
  xfn_of F sc_sign_read len (b_sign_read T C_sign_or_none X_require_one X_found_or_refused) ok
abbrev N_signs_read : List Str := ["text", "line", "field", "words", "k", "word"]
abbrev P_signs_read : List Str := ["text", "line", "field"]
theorem sc_signs_read : FnScope N_signs_read P_signs_read (defScope s_signs_read) := ⟨rfl, rfl, rfl, by decide +kernel, rfl, by decide +kernel, by decide +kernel⟩
theorem b_signs_read (T : Tx P w K mg) {sp_sign_or_none : DSp} {sx_found_or_refused : DSp} {sx_require_one : DSp} (C_sign_or_none : Callee P w K mg base k "sign_or_none" P_sign_or_none sp_sign_or_none)  (X_found_or_refused : XCallee P w K mg base k "found_or_refused" P_found_or_refused sx_found_or_refused) (X_require_one : XCallee P w K mg base k "require_one" P_require_one sx_require_one)    (cdv : Value) (A : Around) (out : List Env) (st : Shared) (H : Hp) (E : XK)
    (hr : Room k (A.deeper (envOfC "signs_read" (defScope s_signs_read) st.heap.objs.size f cdv))) (hgd : (A.deeper (envOfC "signs_read" (defScope s_signs_read) st.heap.objs.size f cdv)).guards = some []) (tk : Takes (cxOf (L2.CX P w) P w K mg base N_signs_read "signs_read" (defScope s_signs_read) f cdv A out st H E) (fun c d _ H' => E c d H')) (hpo : PassesOwn (model P w) (A.deeper (envOfC "signs_read" (defScope s_signs_read) st.heap.objs.size f cdv)) (envOfC "signs_read" (defScope s_signs_read) st.heap.objs.size f cdv) (cxOf (L2.CX P w) P w K mg base N_signs_read "signs_read" (defScope s_signs_read) f cdv A out st H E).xe) :
    XSs (cxOf (L2.CX P w) P w K mg base N_signs_read "signs_read" (defScope s_signs_read) f cdv A out st H E) (fun c d _ H' => E c d H') (defBody s_signs_read) (r_signs_read sp_sign_or_none sx_found_or_refused sx_require_one) := by
  have SC := sc_signs_read
  have hu := hu_of hr
  have hu64 := hr.units
  have hu70 := hu70_of hr
  exact (xs_cons (xs_p (ds_set (i := 3) SC.nd rfl (by first | exact Or.inl rfl | exact Or.inr rfl) (de_frz (de_splt (dv 0) de_str))))
  (xs_cons (xs_if (xt_p (dt_cmp (o_eq hu64) (de_ix (dv 3) de_int) (de_glob rfl T.c_NO_SIGNS) (nomark _)))
  (xs_cons (xs_expr (xc X_require_one tk hr hgd rfl (xa_p (da_cons (dv 3) (da_cons (dv 1) (da_cons (dv 2) da_nil))))))
  (xs_one (xs_p (ds_ret (de_tup da_nil)))))
  (xss_p ds_nil))
  (xs_one (xs_ret (xe_callTy c_tuple rfl T.m_tuple (by decide +kernel) (xa_cons (xe_frz (xe_lc (own := [("k", 4), ("word", 5)]) (ct := (.tup [4, 5])) rfl SC.nd (di_enumL rfl T.m_enumerate (dv 3)) (blkOk_by (by show blkC N_signs_read (defScope s_signs_read) _ _ = true; decide +kernel)) (by decide) (fun _ _ _ _ _ => pg_tup rfl (pgs_cons (pg_name (i := 4) SC.nd rfl (Or.inl rfl)) (pgs_cons (pg_name (i := 5) SC.nd rfl (Or.inl rfl)) pgs_nil))) X_found_or_refused tk hr hgd rfl rfl (fun _ _ _ _ _ _ _ => rfl) (fun _ _ _ _ _ _ _ => (da_cons (dc C_sign_or_none hr hgd rfl (da_cons (dv 5) da_nil)) (da_cons (dv 1) (da_cons (de_op o_add (dv 2) (dv 4)) da_nil)))))) (xa_p da_nil)))))))
theorem d_signs_read (T : Tx P w K mg) {sp_sign_or_none : DSp} {sx_found_or_refused : DSp} {sx_require_one : DSp} (C_sign_or_none : Callee P w K mg base k "sign_or_none" P_sign_or_none sp_sign_or_none)  (X_found_or_refused : XCallee P w K mg base k "found_or_refused" P_found_or_refused sx_found_or_refused) (X_require_one : XCallee P w K mg base k "require_one" P_require_one sx_require_one)
    (F : FunD K "signs_read" "signs_read" (defArgs s_signs_read) (defBody s_signs_read) (defScope s_signs_read) [] [("line", .int (0)), ("field", .int (0))] f fd) (len : ∀ ds G Q E, sp ds G Q E → ds.length = 3)
    (ok : ∀ ds G Q E, sp ds G Q E → (r_signs_read sp_sign_or_none sx_found_or_refused sx_require_one) (fun x _ G' => E x G') { nx := fun _ G' => Q .non G', rt := Q } (startD 6 ds) G) : XFn P w K mg base (k + 1) f fd P_signs_read sp :=
  xfn_of F sc_signs_read len (b_signs_read T C_sign_or_none X_found_or_refused X_require_one) ok
abbrev N_law_feed : List Str := ["_law_script"]
abbrev P_law_feed : List Str := ["_law_script"]
theorem sc_law_feed : FnScope N_law_feed P_law_feed (defScope s_law_feed) := ⟨rfl, rfl, rfl, by decide +kernel, rfl, by decide +kernel, by decide +kernel⟩
theorem b_law_feed (T : Tx P w K mg)    (cdv : Value) (A : Around) (out : List Env) (st : Shared) (H : Hp) (E : XK)
    (hr : Room k (A.deeper (envOfC "_law_feed" (defScope s_law_feed) st.heap.objs.size f cdv))) (hgd : (A.deeper (envOfC "_law_feed" (defScope s_law_feed) st.heap.objs.size f cdv)).guards = some []) :
    DSs (cxOf CX0 P w K mg base N_law_feed "_law_feed" (defScope s_law_feed) f cdv A out st H E).nox (defBody s_law_feed) (r_law_feed) := by
  have SC := sc_law_feed
  have hu := hu_of hr
  have hu64 := hr.units
  have hu70 := hu70_of hr
  exact (ds_one (ds_ret (de_disp (dps_cons de_str (de_frz (de_callTy c_list rfl T.m_list (by decide +kernel) (da_cons (de_frz (de_slice (dv 0) do_none (do_some de_int))) da_nil))) (dps_cons de_str de_int (dps_cons de_str de_int (dps_cons de_str de_int dps_nil)))))))
theorem k_law_feed (T : Tx P w K mg)
    (F : FunD K "_law_feed" "_law_feed" (defArgs s_law_feed) (defBody s_law_feed) (defScope s_law_feed) [] [] f fd) (hm : mg "_law_feed" = some (.ref f)) (len : ∀ ds G Q E, sp ds G Q E → ds.length = 1)
    (ok : ∀ ds G Q E, sp ds G Q E → (r_law_feed) { nx := fun _ G' => Q .non G', rt := Q } (startD 1 ds) G) : Callee P w K mg base (k + 1) "_law_feed" P_law_feed sp :=
  callee_of F hm (dfn_of F sc_law_feed len (b_law_feed T) ok) (fun _ _ _ _ _ _ us hl => match us, hl with | [_], _ => rfl) (fun _ _ _ _ _ _ us hl => match us, hl with | [_], _ => rfl)
abbrev N_law_draw : List Str := ["_law_feed_here", "_law_many", "_law_digit", "_law_spot", "_law_cell", "_law_mixed"]
abbrev P_law_draw : List Str := ["_law_feed_here", "_law_many"]
theorem sc_law_draw : FnScope N_law_draw P_law_draw (defScope s_law_draw) := ⟨rfl, rfl, rfl, by decide +kernel, rfl, by decide +kernel, by decide +kernel⟩
theorem b_law_draw (T : Tx P w K mg)    (cdv : Value) (A : Around) (out : List Env) (st : Shared) (H : Hp) (E : XK)
    (hr : Room k (A.deeper (envOfC "_law_draw" (defScope s_law_draw) st.heap.objs.size f cdv))) (hgd : (A.deeper (envOfC "_law_draw" (defScope s_law_draw) st.heap.objs.size f cdv)).guards = some []) :
    DSs (cxOf CX0 P w K mg base N_law_draw "_law_draw" (defScope s_law_draw) f cdv A out st H E).nox (defBody s_law_draw) (r_law_draw) := by
  have SC := sc_law_draw
  have hu := hu_of hr
  have hu64 := hr.units
  have hu70 := hu70_of hr
  exact (ds_cons (ds_asg (de_op o_add (de_dget hu (dv 0) de_str) de_int) (dg_sub (dv 0) de_str (set_dct hu)))
  (ds_cons (ds_if (dt_cmp o_gt (de_dget hu (dv 0) de_str) de_int (nomark _))
  (ds_cons (ds_set (i := 2) SC.nd rfl (by first | exact Or.inl rfl | exact Or.inr rfl) (de_op o_mod (de_callTy c_int rfl T.m_int (by decide +kernel) (da_cons (de_dget hu (dv 0) de_str) da_nil)) (dv 1)))
  (ds_cons (ds_asg (de_op o_fdiv (de_dget hu (dv 0) de_str) (dv 1)) (dg_sub (dv 0) de_str (set_dct hu)))
  (ds_one (ds_ret (dv 2)))))
  ds_nil)
  (ds_cons (ds_set (i := 3) SC.nd rfl (by first | exact Or.inl rfl | exact Or.inr rfl) (de_dget hu (dv 0) de_str))
  (ds_cons (ds_asg (de_op o_add (dv 3) de_int) (dg_sub (dv 0) de_str (set_dct hu)))
  (ds_cons (ds_set (i := 4) SC.nd rfl (by first | exact Or.inl rfl | exact Or.inr rfl) (de_if (dt_cmp (o_ne hu64) (de_dget hu (dv 0) de_str) (de_frz (de_lst da_nil)) (nomark _)) (de_ix (de_dget hu (dv 0) de_str) (de_op o_mod (de_callTy c_int rfl T.m_int (by decide +kernel) (da_cons (dv 3) da_nil)) (de_callB c_len rfl T.m_len PySem.boot_len (da_cons (de_dget hu (dv 0) de_str) da_nil)))) de_int))
  (ds_cons (ds_if (dt_w (dw_and (dt_cmp o_ge (dv 4) (de_op o_pow de_int de_int) (nomark _)) (dw_and1 (dt_cmp o_lt (dv 3) (de_callB c_len rfl T.m_len PySem.boot_len (da_cons (de_dget hu (dv 0) de_str) da_nil)) (nomark _)))))
  (ds_cons (ds_asg (de_op o_fdiv (dv 4) (dv 1)) (dg_sub (dv 0) de_str (set_dct hu)))
  (ds_one (ds_ret (de_op o_mod (de_callTy c_int rfl T.m_int (by decide +kernel) (da_cons (dv 4) da_nil)) (dv 1)))))
  ds_nil)
  (ds_cons (ds_set (i := 5) SC.nd rfl (by first | exact Or.inl rfl | exact Or.inr rfl) (de_op o_mod (de_callTy c_int rfl T.m_int (by decide +kernel) (da_cons (de_op o_add (de_op o_add (de_op o_mod (de_callTy c_int rfl T.m_int (by decide +kernel) (da_cons (dv 4) da_nil)) de_int) (de_op o_mul de_int (de_dget hu (dv 0) de_str))) de_int) da_nil)) de_int))
  (ds_cons (ds_set (i := 5) SC.nd rfl (by first | exact Or.inl rfl | exact Or.inr rfl) (de_op o_mod (de_callTy c_int rfl T.m_int (by decide +kernel) (da_cons (de_op o_add (de_op o_add (de_op o_mul (dv 5) (dv 5)) (de_op o_mul de_int (de_dget hu (dv 0) de_str))) de_int) da_nil)) de_int))
  (ds_one (ds_ret (de_op o_mod (de_callTy c_int rfl T.m_int (by decide +kernel) (da_cons (de_op o_fdiv (de_op o_mod (de_callTy c_int rfl T.m_int (by decide +kernel) (da_cons (de_op o_add (de_op o_mul (dv 5) (dv 5)) (de_op o_mul de_int (dv 5))) da_nil)) de_int) de_int) da_nil)) (dv 1))))))))))))
theorem k_law_draw (T : Tx P w K mg)
    (F : FunD K "_law_draw" "_law_draw" (defArgs s_law_draw) (defBody s_law_draw) (defScope s_law_draw) [] [] f fd) (hm : mg "_law_draw" = some (.ref f)) (len : ∀ ds G Q E, sp ds G Q E → ds.length = 2)
    (ok : ∀ ds G Q E, sp ds G Q E → (r_law_draw) { nx := fun _ G' => Q .non G', rt := Q } (startD 6 ds) G) : Callee P w K mg base (k + 1) "_law_draw" P_law_draw sp :=
  callee_of F hm (dfn_of F sc_law_draw len (b_law_draw T) ok) (fun _ _ _ _ _ _ us hl => match us, hl with | [_, _], _ => rfl) (fun _ _ _ _ _ _ us hl => match us, hl with | [_, _], _ => rfl)
abbrev N_law_sign : List Str := ["_law_feed_here", "_law_deep", "_law_turn_in", "_law_number"]
abbrev P_law_sign : List Str := ["_law_feed_here", "_law_deep"]
theorem sc_law_sign : FnScope N_law_sign P_law_sign (defScope s_law_sign) := ⟨rfl, rfl, rfl, by decide +kernel, rfl, by decide +kernel, by decide +kernel⟩
theorem b_law_sign (T : Tx P w K mg) {sp_law_sign : DSp} {sp_law_draw : DSp} (C_law_sign : Callee P w K mg base k "_law_sign" P_law_sign sp_law_sign) (C_law_draw : Callee P w K mg base k "_law_draw" P_law_draw sp_law_draw)  (cdv : Value) (A : Around) (out : List Env) (st : Shared) (H : Hp) (E : XK)
    (hr : Room k (A.deeper (envOfC "_law_sign" (defScope s_law_sign) st.heap.objs.size f cdv))) (hgd : (A.deeper (envOfC "_law_sign" (defScope s_law_sign) st.heap.objs.size f cdv)).guards = some []) :
    DSs (cxOf CX0 P w K mg base N_law_sign "_law_sign" (defScope s_law_sign) f cdv A out st H E).nox (defBody s_law_sign) (r_law_sign sp_law_sign sp_law_draw) := by
  have SC := sc_law_sign
  have hu := hu_of hr
  have hu64 := hr.units
  have hu70 := hu70_of hr
  exact (ds_cons (ds_set (i := 2) SC.nd rfl (by first | exact Or.inl rfl | exact Or.inr rfl) (dc C_law_draw hr hgd rfl (da_cons (dv 0) (da_cons (de_if (dt_cmp o_gt (dv 1) de_int (nomark _)) de_int de_int) da_nil))))
  (ds_cons (ds_if (dt_cmp o_lt (dv 2) de_int (nomark _))
  (ds_one (ds_ret (de_ix (de_frz (de_lst (da_cons de_str (da_cons de_str (da_cons de_str (da_cons de_str da_nil)))))) (dv 2))))
  ds_nil)
  (ds_cons (ds_if (dt_cmp o_lt (dv 2) de_int (nomark _))
  (ds_cons (ds_set (i := 3) SC.nd rfl (by first | exact Or.inl rfl | exact Or.inr rfl) (de_ix (de_frz (de_lst (da_cons de_int (da_cons de_int (da_cons de_int (da_cons de_int (da_cons de_int (da_cons de_int (da_cons de_int da_nil))))))))) (dc C_law_draw hr hgd rfl (da_cons (dv 0) (da_cons de_int da_nil)))))
  (ds_one (ds_ret (de_tup (da_cons (de_ix (de_frz (de_lst (da_cons de_str (da_cons de_str da_nil)))) (de_op o_mod (de_callTy c_int rfl T.m_int (by decide +kernel) (da_cons (dv 2) da_nil)) de_int)) (da_cons (dv 3) da_nil))))))
  ds_nil)
  (ds_one (ds_ret (de_tup (da_cons (de_ix (de_frz (de_lst (da_cons de_str (da_cons de_str da_nil)))) (de_op o_sub (dv 2) de_int)) (da_cons (dc C_law_sign hr hgd rfl (da_cons (dv 0) (da_cons (de_op o_sub (dv 1) de_int) da_nil))) da_nil))))))))
theorem k_law_sign (T : Tx P w K mg) {sp_law_sign : DSp} {sp_law_draw : DSp} (C_law_sign : Callee P w K mg base k "_law_sign" P_law_sign sp_law_sign) (C_law_draw : Callee P w K mg base k "_law_draw" P_law_draw sp_law_draw)
    (F : FunD K "_law_sign" "_law_sign" (defArgs s_law_sign) (defBody s_law_sign) (defScope s_law_sign) [] [] f fd) (hm : mg "_law_sign" = some (.ref f)) (len : ∀ ds G Q E, sp ds G Q E → ds.length = 2)
    (ok : ∀ ds G Q E, sp ds G Q E → (r_law_sign sp_law_sign sp_law_draw) { nx := fun _ G' => Q .non G', rt := Q } (startD 4 ds) G) : Callee P w K mg base (k + 1) "_law_sign" P_law_sign sp :=
  callee_of F hm (dfn_of F sc_law_sign len (b_law_sign T C_law_sign C_law_draw) ok) (fun _ _ _ _ _ _ us hl => match us, hl with | [_, _], _ => rfl) (fun _ _ _ _ _ _ us hl => match us, hl with | [_, _], _ => rfl)
theorem z_law_sign {P : Program} {w : World} {K : PySem.W.Frag} {mg : Str → Option Value} {base : Heap} {f : Addr} {fd : FuncData} {sp : DSp} (F : FunD K "_law_sign" "_law_sign" (defArgs s_law_sign) (defBody s_law_sign) (defScope s_law_sign) [] [] f fd) (hm : mg "_law_sign" = some (.ref f)) (h : ∀ ds G Q E, ¬ sp ds G Q E) : Callee P w K mg base 0 "_law_sign" P_law_sign sp :=
  callee0 F hm h (fun _ _ _ _ _ _ us hl => match us, hl with | [_, _], _ => rfl) (fun _ _ _ _ _ _ us hl => match us, hl with | [_, _], _ => rfl)
abbrev N_law_signs : List Str := ["_law_feed_here", "_law_most_in", "_law_found", "_law_k"]
abbrev P_law_signs : List Str := ["_law_feed_here", "_law_most_in"]
theorem sc_law_signs : FnScope N_law_signs P_law_signs (defScope s_law_signs) := ⟨rfl, rfl, rfl, by decide +kernel, rfl, by decide +kernel, by decide +kernel⟩
theorem b_law_signs (T : Tx P w K mg) {sp_law_draw : DSp} {sp_law_sign : DSp} (C_law_draw : Callee P w K mg base k "_law_draw" P_law_draw sp_law_draw) (C_law_sign : Callee P w K mg base k "_law_sign" P_law_sign sp_law_sign)  (cdv : Value) (A : Around) (out : List Env) (st : Shared) (H : Hp) (E : XK)
    (hr : Room k (A.deeper (envOfC "_law_signs" (defScope s_law_signs) st.heap.objs.size f cdv))) (hgd : (A.deeper (envOfC "_law_signs" (defScope s_law_signs) st.heap.objs.size f cdv)).guards = some []) :
    DSs (cxOf CX0 P w K mg base N_law_signs "_law_signs" (defScope s_law_signs) f cdv A out st H E).nox (defBody s_law_signs) (r_law_signs sp_law_draw sp_law_sign) := by
  have SC := sc_law_signs
  have hu := hu_of hr
  have hu64 := hr.units
  have hu70 := hu70_of hr
  exact (ds_cons (ds_set (i := 2) SC.nd rfl (by first | exact Or.inl rfl | exact Or.inr rfl) (de_lst da_nil))
  (ds_cons (ds_for PassesOwn.never rfl (di_range1 rfl T.m_range (da_cons (dc C_law_draw hr hgd rfl (da_cons (dv 0) (da_cons (de_op o_add (dv 1) de_int) da_nil))) da_nil)) (dg_name (i := 3) SC.nd rfl (by first | exact Or.inl rfl | exact Or.inr rfl))
  (ds_cons (ds_expr (de_append (dv 2) (dc C_law_sign hr hgd rfl (da_cons (dv 0) (da_cons de_int da_nil)))))
  (ds_one (ds_if (dt_cmp (o_eq hu64) (dc C_law_draw hr hgd rfl (da_cons (dv 0) (da_cons de_int da_nil))) de_int (nomark _))
  (ds_one (ds_expr (de_append (dv 2) (de_ix (dv 2) (dc C_law_draw hr hgd rfl (da_cons (dv 0) (da_cons (de_callB c_len rfl T.m_len PySem.boot_len (da_cons (dv 2) da_nil)) da_nil)))))))
  ds_nil))))
  (ds_one (ds_ret (de_callTy c_tuple rfl T.m_tuple (by decide +kernel) (da_cons (de_frz (de_slice (dv 2) do_none (do_some (dv 1)))) da_nil))))))
theorem k_law_signs (T : Tx P w K mg) {sp_law_draw : DSp} {sp_law_sign : DSp} (C_law_draw : Callee P w K mg base k "_law_draw" P_law_draw sp_law_draw) (C_law_sign : Callee P w K mg base k "_law_sign" P_law_sign sp_law_sign)
    (F : FunD K "_law_signs" "_law_signs" (defArgs s_law_signs) (defBody s_law_signs) (defScope s_law_signs) [] [] f fd) (hm : mg "_law_signs" = some (.ref f)) (len : ∀ ds G Q E, sp ds G Q E → ds.length = 2)
    (ok : ∀ ds G Q E, sp ds G Q E → (r_law_signs sp_law_draw sp_law_sign) { nx := fun _ G' => Q .non G', rt := Q } (startD 4 ds) G) : Callee P w K mg base (k + 1) "_law_signs" P_law_signs sp :=
  callee_of F hm (dfn_of F sc_law_signs len (b_law_signs T C_law_draw C_law_sign) ok) (fun _ _ _ _ _ _ us hl => match us, hl with | [_, _], _ => rfl) (fun _ _ _ _ _ _ us hl => match us, hl with | [_, _], _ => rfl)
abbrev N_law_heard : List Str := ["_law_ask", "e_in", "_law_families", "_law_good"]
abbrev P_law_heard : List Str := ["_law_ask"]
theorem sc_law_heard : FnScope N_law_heard P_law_heard (defScope s_law_heard) := ⟨rfl, rfl, rfl, by decide +kernel, rfl, by decide +kernel, by decide +kernel⟩
theorem b_law_heard {P : Program} {w : World} {K : PySem.W.Frag} {mg : Str → Option Value} {base : Heap} {k : Nat} {g : Addr} (T : Tx P w K mg)         (cdv : Value) (A : Around) (out : List Env) (st : Shared) (H : Hp) (α : Dl.Act)
    (hr : Room (k + 1) (A.deeper (envOfC "_law_heard" (defScope s_law_heard) st.heap.objs.size g cdv))) (hgd : (A.deeper (envOfC "_law_heard" (defScope s_law_heard) st.heap.objs.size g cdv)).guards = some [])
    (act : ∀ (W : WX) (pn : List (Addr × Obj)) (xe : Value → Shared → Prop) (p1 p2 : Pos), Takes ((cxOf CX0 P w K mg base N_law_heard "_law_heard" (defScope s_law_heard) g cdv A out st H E0).tr pn xe) W → XE1 ((cxOf CX0 P w K mg base N_law_heard "_law_heard" (defScope s_law_heard) g cdv A out st H E0).tr pn xe) W (.Call (.Name "_law_ask" p1) [] [] p2) (xAct 0 α)) :
    DSs (cxOf CX0 P w K mg base N_law_heard "_law_heard" (defScope s_law_heard) g cdv A out st H E0).nox (defBody s_law_heard) (r_law_heard α) := by
  have SC := sc_law_heard
  have hu := hu_of hr
  have hu64 := hr.units
  have hu70 := hu70_of hr
  exact (ds_one (ds_try T.et rfl rfl SC.nd rfl (i := 1) rfl rfl T.g_BarError (by decide) (fun W pn xe tk _ => (xs_one (xs_ret (xe_tup (xa_cons (xe_p de_str) (xa_cons (act W pn xe _ _ tk) (xa_p da_nil))))))) (fun a oe c d pn hz hf =>
  (ds_cons (ds_set (i := 2) SC.nd rfl (by first | exact Or.inl rfl | exact Or.inr rfl) (de_lst (da_cons (de_isX T.et hz hf rfl T.m_isinstance rfl T.g_PaperError (dv 1)) (da_cons (de_isX T.et hz hf rfl T.m_isinstance rfl T.g_WorkError (dv 1)) da_nil))))
  (ds_cons (ds_expr (de_extend (dv 2) (de_frz (de_lst (da_cons (de_isX T.et hz hf rfl T.m_isinstance rfl T.g_LiveError (dv 1)) (da_cons (de_isX T.et hz hf rfl T.m_isinstance rfl T.g_TextError (dv 1)) da_nil))))))
  (ds_cons (ds_if (dt_w (dw_and (dt_cmp (o_eq hu64) (dv 2) (de_frz (de_lst (da_cons de_bl (da_cons de_bl (da_cons de_bl (da_cons de_bl da_nil)))))) (nomark _)) (dw_and1 (dt_tru (de_isX T.et hz hf rfl T.m_isinstance rfl T.g_InvalidPaper (dv 1))))))
  (ds_one (ds_ret (de_tup (da_cons de_str (da_cons (de_exfA T.et hz hf (dv 1)) (da_cons (de_exfA T.et hz hf (dv 1)) da_nil))))))
  ds_nil)
  (ds_cons (ds_if (dt_cmp (o_eq hu64) (dv 2) (de_frz (de_lst (da_cons de_bl (da_cons de_bl (da_cons de_bl (da_cons de_bl da_nil)))))) (nomark _))
  (ds_cons (ds_set (i := 3) SC.nd rfl (by first | exact Or.inl rfl | exact Or.inr rfl) (de_and (de_isX T.et hz hf rfl T.m_isinstance rfl T.g_InvalidText (dv 1)) (de_one (de_not (de_isX T.et hz hf rfl T.m_isinstance rfl T.g_InvalidRow (dv 1))))))
  (ds_one (ds_ret (de_if (dt_tru (dv 3)) (de_tup (da_cons de_str (da_cons (de_exfA T.et hz hf (dv 1)) (da_cons (de_exfA T.et hz hf (dv 1)) da_nil)))) (de_tup (da_cons de_str da_nil))))))
  ds_nil)
  (ds_cons (ds_if (dt_w (dw_or (dt_cmp (o_ne hu64) (dv 2) (de_frz (de_lst (da_cons de_bl (da_cons de_bl (da_cons de_bl (da_cons de_bl da_nil)))))) (nomark _)) (dw_or1 (dt_tru (de_isX T.et hz hf rfl T.m_isinstance rfl T.g_NotNext (dv 1))))))
  (ds_one (ds_ret (de_tup (da_cons de_str da_nil))))
  ds_nil)
  (ds_one (ds_ret (de_if (dt_tru (de_isX T.et hz hf rfl T.m_isinstance rfl T.g_NotUsable (dv 1))) (de_tup (da_cons de_str (da_cons (de_exfA T.et hz hf (dv 1)) (da_cons (de_exfA T.et hz hf (dv 1)) da_nil)))) (de_tup (da_cons de_str da_nil)))))))))))))
theorem k_law_heard {P : Program} {w : World} {K : PySem.W.Frag} {mg : Str → Option Value} {base : Heap} {k : Nat} {g : Addr} {fd : FuncData} (T : Tx P w K mg)
    (F : FunD K "_law_heard" "_law_heard" (defArgs s_law_heard) (defBody s_law_heard) (defScope s_law_heard) [] [] g fd) (hm : mg "_law_heard" = some (.ref g)) : Hearer P w K mg base k "_law_heard" r_law_heard 4 :=
  hearer_of F hm sc_law_heard rfl (by first | exact Or.inl rfl | exact Or.inr (Or.inl rfl)) (b_law_heard T) (fun _ _ _ _ _ _ us hl => match us, hl with | [_], _ => rfl)
abbrev N_law_numeral : List Str := ["_law_term", "_law_letter"]
abbrev P_law_numeral : List Str := ["_law_term"]
theorem sc_law_numeral : FnScope N_law_numeral P_law_numeral (defScope s_law_numeral) := ⟨rfl, rfl, rfl, by decide +kernel, rfl, by decide +kernel, by decide +kernel⟩
theorem b_law_numeral (T : Tx P w K mg)    (cdv : Value) (A : Around) (out : List Env) (st : Shared) (H : Hp) (E : XK)
    (hr : Room k (A.deeper (envOfC "_law_numeral" (defScope s_law_numeral) st.heap.objs.size f cdv))) (hgd : (A.deeper (envOfC "_law_numeral" (defScope s_law_numeral) st.heap.objs.size f cdv)).guards = some []) :
    DSs (cxOf CX0 P w K mg base N_law_numeral "_law_numeral" (defScope s_law_numeral) f cdv A out st H E).nox (defBody s_law_numeral) (r_law_numeral) := by
  have SC := sc_law_numeral
  have hu := hu_of hr
  have hu64 := hr.units
  have hu70 := hu70_of hr
  exact (ds_cons (ds_if (dt_w (dw_or (dt_not (dt_chain o_lt o_lt de_int (de_callB c_len rfl T.m_len PySem.boot_len (da_cons (dv 0) da_nil)) de_int)) (dw_or1 (dt_cmp (o_ne hu64) (de_frz (de_lc (own := [("_law_letter", 1)]) (ct := (.one 1)) rfl SC.nd (di_tx (dv 0)) (blkOk_by (by show blkC N_law_numeral (defScope s_law_numeral) _ _ = true; decide +kernel)) (by decide) (fun _ _ _ _ _ => pg_name (i := 1) SC.nd rfl (Or.inl rfl)) (fun _ _ _ _ _ => (dts_one (dt_cmp o_notInTx (dv 1) de_str rfl))) (fun _ _ _ _ _ => (dv 1)))) (de_frz (de_lst da_nil)) (nomark _)))))
  (ds_one (ds_ret de_non))
  ds_nil)
  (ds_one (ds_ret (de_if (dt_w (dw_and (dt_cmp o_gt (de_callB c_len rfl T.m_len PySem.boot_len (da_cons (dv 0) da_nil)) de_int (nomark _)) (dw_and1 (dt_cmp (o_eq hu64) (de_ixA (dv 0) de_int) de_str (nomark _))))) de_non (de_callTy c_intA rfl T.m_int (by decide +kernel) (da_cons (dv 0) da_nil))))))
theorem k_law_numeral (T : Tx P w K mg)
    (F : FunD K "_law_numeral" "_law_numeral" (defArgs s_law_numeral) (defBody s_law_numeral) (defScope s_law_numeral) [] [] f fd) (hm : mg "_law_numeral" = some (.ref f)) (len : ∀ ds G Q E, sp ds G Q E → ds.length = 1)
    (ok : ∀ ds G Q E, sp ds G Q E → (r_law_numeral) { nx := fun _ G' => Q .non G', rt := Q } (startD 2 ds) G) : Callee P w K mg base (k + 1) "_law_numeral" P_law_numeral sp :=
  callee_of F hm (dfn_of F sc_law_numeral len (b_law_numeral T) ok) (fun _ _ _ _ _ _ us hl => match us, hl with | [_], _ => rfl) (fun _ _ _ _ _ _ us hl => match us, hl with | [_], _ => rfl)
abbrev N_law_sign_of : List Str := ["_law_term", "_law_around", "_law_spot", "_law_head", "_law_rest", "_law_inner"]
abbrev P_law_sign_of : List Str := ["_law_term", "_law_around"]
theorem sc_law_sign_of : FnScope N_law_sign_of P_law_sign_of (defScope s_law_sign_of) := ⟨rfl, rfl, rfl, by decide +kernel, rfl, by decide +kernel, by decide +kernel⟩
theorem b_law_sign_of (T : Tx P w K mg) {sp_law_numeral : DSp} {sp_law_sign_of : DSp} (C_law_numeral : Callee P w K mg base k "_law_numeral" P_law_numeral sp_law_numeral) (C_law_sign_of : Callee P w K mg base k "_law_sign_of" P_law_sign_of sp_law_sign_of)  (cdv : Value) (A : Around) (out : List Env) (st : Shared) (H : Hp) (E : XK)
    (hr : Room k (A.deeper (envOfC "_law_sign_of" (defScope s_law_sign_of) st.heap.objs.size f cdv))) (hgd : (A.deeper (envOfC "_law_sign_of" (defScope s_law_sign_of) st.heap.objs.size f cdv)).guards = some []) :
    DSs (cxOf CX0 P w K mg base N_law_sign_of "_law_sign_of" (defScope s_law_sign_of) f cdv A out st H E).nox (defBody s_law_sign_of) (r_law_sign_of sp_law_numeral sp_law_sign_of) := by
  have SC := sc_law_sign_of
  have hu := hu_of hr
  have hu64 := hr.units
  have hu70 := hu70_of hr
  exact (ds_cons (ds_if (dt_cmp o_gt (dv 1) de_int (nomark _))
  (ds_one (ds_ret de_non))
  ds_nil)
  (ds_cons (ds_if (dt_cmp o_in (dv 0) (de_tup (da_cons de_str (da_cons de_str (da_cons de_str da_nil)))) rfl)
  (ds_one (ds_ret (dv 0)))
  ds_nil)
  (ds_cons (ds_if (dt_cmp o_notInTx de_str (dv 0) rfl)
  (ds_one (ds_ret de_non))
  ds_nil)
  (ds_cons (ds_set (i := 2) SC.nd rfl (by first | exact Or.inl rfl | exact Or.inr rfl) (de_idxS (dv 0) de_str))
  (ds_cons (ds_par (i := 3) (j := 4) rfl SC.nd rfl rfl (by decide) rfl rfl (da_cons (de_slS (dv 0) do_none (do_some (dv 2))) (da_cons (de_slS (dv 0) (do_some (de_op o_add (dv 2) de_int)) do_none) da_nil)) rfl)
  (ds_cons (ds_if (dt_cmp o_notin (dv 3) (de_tup (da_cons de_str (da_cons de_str (da_cons de_str (da_cons de_str da_nil))))) rfl)
  (ds_one (ds_ret de_non))
  ds_nil)
  (ds_cons (ds_set (i := 5) SC.nd rfl (by first | exact Or.inl rfl | exact Or.inr rfl) (de_if (dt_cmp o_in (dv 3) (de_tup (da_cons de_str (da_cons de_str da_nil))) rfl) (dc C_law_numeral hr hgd rfl (da_cons (dv 4) da_nil)) (dc C_law_sign_of hr hgd rfl (da_cons (dv 4) (da_cons (de_op o_add (dv 1) de_int) da_nil)))))
  (ds_one (ds_ret (de_if (dt_cmp o_isN (dv 5) de_non (nomark _)) de_non (de_tup (da_cons (dv 3) (da_cons (dv 5) da_nil)))))))))))))
theorem k_law_sign_of (T : Tx P w K mg) {sp_law_numeral : DSp} {sp_law_sign_of : DSp} (C_law_numeral : Callee P w K mg base k "_law_numeral" P_law_numeral sp_law_numeral) (C_law_sign_of : Callee P w K mg base k "_law_sign_of" P_law_sign_of sp_law_sign_of)
    (F : FunD K "_law_sign_of" "_law_sign_of" (defArgs s_law_sign_of) (defBody s_law_sign_of) (defScope s_law_sign_of) [] [] f fd) (hm : mg "_law_sign_of" = some (.ref f)) (len : ∀ ds G Q E, sp ds G Q E → ds.length = 2)
    (ok : ∀ ds G Q E, sp ds G Q E → (r_law_sign_of sp_law_numeral sp_law_sign_of) { nx := fun _ G' => Q .non G', rt := Q } (startD 6 ds) G) : Callee P w K mg base (k + 1) "_law_sign_of" P_law_sign_of sp :=
  callee_of F hm (dfn_of F sc_law_sign_of len (b_law_sign_of T C_law_numeral C_law_sign_of) ok) (fun _ _ _ _ _ _ us hl => match us, hl with | [_, _], _ => rfl) (fun _ _ _ _ _ _ us hl => match us, hl with | [_, _], _ => rfl)
theorem z_law_sign_of {P : Program} {w : World} {K : PySem.W.Frag} {mg : Str → Option Value} {base : Heap} {f : Addr} {fd : FuncData} {sp : DSp} (F : FunD K "_law_sign_of" "_law_sign_of" (defArgs s_law_sign_of) (defBody s_law_sign_of) (defScope s_law_sign_of) [] [] f fd) (hm : mg "_law_sign_of" = some (.ref f)) (h : ∀ ds G Q E, ¬ sp ds G Q E) : Callee P w K mg base 0 "_law_sign_of" P_law_sign_of sp :=
  callee0 F hm h (fun _ _ _ _ _ _ us hl => match us, hl with | [_, _], _ => rfl) (fun _ _ _ _ _ _ us hl => match us, hl with | [_, _], _ => rfl)
abbrev N_law_sign_word : List Str := ["_law_item"]
abbrev P_law_sign_word : List Str := ["_law_item"]
theorem sc_law_sign_word : FnScope N_law_sign_word P_law_sign_word (defScope s_law_sign_word) := ⟨rfl, rfl, rfl, by decide +kernel, rfl, by decide +kernel, by decide +kernel⟩
theorem b_law_sign_word (T : Tx P w K mg) {sp_law_sign_word : DSp} (C_law_sign_word : Callee P w K mg base k "_law_sign_word" P_law_sign_word sp_law_sign_word)  (cdv : Value) (A : Around) (out : List Env) (st : Shared) (H : Hp) (E : XK)
    (hr : Room k (A.deeper (envOfC "_law_sign_word" (defScope s_law_sign_word) st.heap.objs.size f cdv))) (hgd : (A.deeper (envOfC "_law_sign_word" (defScope s_law_sign_word) st.heap.objs.size f cdv)).guards = some []) :
    DSs (cxOf CX0 P w K mg base N_law_sign_word "_law_sign_word" (defScope s_law_sign_word) f cdv A out st H E).nox (defBody s_law_sign_word) (r_law_sign_word sp_law_sign_word) := by
  have SC := sc_law_sign_word
  have hu := hu_of hr
  have hu64 := hr.units
  have hu70 := hu70_of hr
  exact (ds_cons (ds_if (dt_tru (de_isi (T := "str") (by decide) rfl T.m_isinstance rfl T.m_str (by decide +kernel) (dv 0)))
  (ds_one (ds_ret (dv 0)))
  ds_nil)
  (ds_one (ds_ret (de_op o_add (de_op o_add (de_ixA (dv 0) de_int) de_str) (de_if (dt_cmp o_in (de_ixA (dv 0) de_int) (de_tup (da_cons de_str (da_cons de_str da_nil))) rfl) (de_callTy c_strA rfl T.m_str (by decide +kernel) (da_cons (de_ixA (dv 0) de_int) da_nil)) (dc C_law_sign_word hr hgd rfl (da_cons (de_ixA (dv 0) de_int) da_nil)))))))
theorem k_law_sign_word (T : Tx P w K mg) {sp_law_sign_word : DSp} (C_law_sign_word : Callee P w K mg base k "_law_sign_word" P_law_sign_word sp_law_sign_word)
    (F : FunD K "_law_sign_word" "_law_sign_word" (defArgs s_law_sign_word) (defBody s_law_sign_word) (defScope s_law_sign_word) [] [] f fd) (hm : mg "_law_sign_word" = some (.ref f)) (len : ∀ ds G Q E, sp ds G Q E → ds.length = 1)
    (ok : ∀ ds G Q E, sp ds G Q E → (r_law_sign_word sp_law_sign_word) { nx := fun _ G' => Q .non G', rt := Q } (startD 1 ds) G) : Callee P w K mg base (k + 1) "_law_sign_word" P_law_sign_word sp :=
  callee_of F hm (dfn_of F sc_law_sign_word len (b_law_sign_word T C_law_sign_word) ok) (fun _ _ _ _ _ _ us hl => match us, hl with | [_], _ => rfl) (fun _ _ _ _ _ _ us hl => match us, hl with | [_], _ => rfl)
theorem z_law_sign_word {P : Program} {w : World} {K : PySem.W.Frag} {mg : Str → Option Value} {base : Heap} {f : Addr} {fd : FuncData} {sp : DSp} (F : FunD K "_law_sign_word" "_law_sign_word" (defArgs s_law_sign_word) (defBody s_law_sign_word) (defScope s_law_sign_word) [] [] f fd) (hm : mg "_law_sign_word" = some (.ref f)) (h : ∀ ds G Q E, ¬ sp ds G Q E) : Callee P w K mg base 0 "_law_sign_word" P_law_sign_word sp :=
  callee0 F hm h (fun _ _ _ _ _ _ us hl => match us, hl with | [_], _ => rfl) (fun _ _ _ _ _ _ us hl => match us, hl with | [_], _ => rfl)
abbrev N_law_row_text : List Str := ["_law_row_in", "_law_item"]
abbrev P_law_row_text : List Str := ["_law_row_in"]
theorem sc_law_row_text : FnScope N_law_row_text P_law_row_text (defScope s_law_row_text) := ⟨rfl, rfl, rfl, by decide +kernel, rfl, by decide +kernel, by decide +kernel⟩
theorem b_law_row_text (T : Tx P w K mg) {sp_law_sign_word : DSp} (C_law_sign_word : Callee P w K mg base k "_law_sign_word" P_law_sign_word sp_law_sign_word)  (cdv : Value) (A : Around) (out : List Env) (st : Shared) (H : Hp) (E : XK)
    (hr : Room k (A.deeper (envOfC "_law_row_text" (defScope s_law_row_text) st.heap.objs.size f cdv))) (hgd : (A.deeper (envOfC "_law_row_text" (defScope s_law_row_text) st.heap.objs.size f cdv)).guards = some []) :
    DSs (cxOf CX0 P w K mg base N_law_row_text "_law_row_text" (defScope s_law_row_text) f cdv A out st H E).nox (defBody s_law_row_text) (r_law_row_text sp_law_sign_word) := by
  have SC := sc_law_row_text
  have hu := hu_of hr
  have hu64 := hr.units
  have hu70 := hu70_of hr
  exact (ds_one (ds_ret (de_if (dt_cmp (o_ne hu64) (dv 0) (de_tup da_nil) (nomark _)) (de_join de_str (de_frz (de_lc (own := [("_law_item", 1)]) (ct := (.one 1)) rfl SC.nd (di_seq (dv 0)) (blkOk_by (by show blkC N_law_row_text (defScope s_law_row_text) _ _ = true; decide +kernel)) (by decide) (fun _ _ _ _ _ => pg_name (i := 1) SC.nd rfl (Or.inl rfl)) (fun _ _ _ _ _ => dts_nil) (fun _ _ _ _ _ => (dc C_law_sign_word hr hgd rfl (da_cons (dv 1) da_nil)))))) de_str)))
theorem k_law_row_text (T : Tx P w K mg) {sp_law_sign_word : DSp} (C_law_sign_word : Callee P w K mg base k "_law_sign_word" P_law_sign_word sp_law_sign_word)
    (F : FunD K "_law_row_text" "_law_row_text" (defArgs s_law_row_text) (defBody s_law_row_text) (defScope s_law_row_text) [] [] f fd) (hm : mg "_law_row_text" = some (.ref f)) (len : ∀ ds G Q E, sp ds G Q E → ds.length = 1)
    (ok : ∀ ds G Q E, sp ds G Q E → (r_law_row_text sp_law_sign_word) { nx := fun _ G' => Q .non G', rt := Q } (startD 2 ds) G) : Callee P w K mg base (k + 1) "_law_row_text" P_law_row_text sp :=
  callee_of F hm (dfn_of F sc_law_row_text len (b_law_row_text T C_law_sign_word) ok) (fun _ _ _ _ _ _ us hl => match us, hl with | [_], _ => rfl) (fun _ _ _ _ _ _ us hl => match us, hl with | [_], _ => rfl)
abbrev N_law_spoilt : List Str := ["_law_feed_here", "_law_text_in", "_law_terms", "_law_turn_in", "_law_odd", "_law_k", "_law_term", "_law_told", "_law_spot", "_law_more"]
abbrev P_law_spoilt : List Str := ["_law_feed_here", "_law_text_in"]
theorem sc_law_spoilt : FnScope N_law_spoilt P_law_spoilt (defScope s_law_spoilt) := ⟨rfl, rfl, rfl, by decide +kernel, rfl, by decide +kernel, by decide +kernel⟩
theorem b_law_spoilt (T : Tx P w K mg) {sp_law_draw : DSp} (C_law_draw : Callee P w K mg base k "_law_draw" P_law_draw sp_law_draw)  (cdv : Value) (A : Around) (out : List Env) (st : Shared) (H : Hp) (E : XK)
    (hr : Room k (A.deeper (envOfC "_law_spoilt" (defScope s_law_spoilt) st.heap.objs.size f cdv))) (hgd : (A.deeper (envOfC "_law_spoilt" (defScope s_law_spoilt) st.heap.objs.size f cdv)).guards = some []) :
    DSs (cxOf CX0 P w K mg base N_law_spoilt "_law_spoilt" (defScope s_law_spoilt) f cdv A out st H E).nox (defBody s_law_spoilt) (r_law_spoilt sp_law_draw) := by
  have SC := sc_law_spoilt
  have hu := hu_of hr
  have hu64 := hr.units
  have hu70 := hu70_of hr
  exact (ds_cons (ds_par (i := 2) (j := 3) rfl SC.nd rfl rfl (by decide) rfl rfl (da_cons (de_splt (dv 1) de_str) (da_cons (dc C_law_draw hr hgd rfl (da_cons (dv 0) (da_cons de_int da_nil))) da_nil)) rfl)
  (ds_cons (ds_set (i := 4) SC.nd rfl (by first | exact Or.inl rfl | exact Or.inr rfl) (de_frz (de_lst (da_cons de_str (da_cons de_str (da_cons de_str (da_cons de_str (da_cons de_str (da_cons de_str (da_cons de_str (da_cons de_str (da_cons de_str (da_cons de_str (da_cons de_str da_nil))))))))))))))
  (ds_cons (ds_par (i := 5) (j := 6) rfl SC.nd rfl rfl (by decide) rfl rfl (da_cons (dc C_law_draw hr hgd rfl (da_cons (dv 0) (da_cons (de_callB c_len rfl T.m_len PySem.boot_len (da_cons (dv 2) da_nil)) da_nil))) (da_cons (de_ix (dv 4) (dc C_law_draw hr hgd rfl (da_cons (dv 0) (da_cons de_int da_nil)))) da_nil)) rfl)
  (ds_cons (ds_if (dt_cmp o_lt (dv 3) de_int (nomark _))
  (ds_one (ds_asg (dv 6) (dg_sub (dv 2) (dv 5) set_lst)))
  ds_nil)
  (ds_cons (ds_if (dt_cmp o_in (dv 3) (de_tup (da_cons de_int (da_cons de_int da_nil))) rfl)
  (ds_one (ds_set (i := 2) SC.nd rfl (by first | exact Or.inl rfl | exact Or.inr rfl) (de_if (dt_cmp (o_eq hu64) (dv 3) de_int (nomark _)) (de_op o_add (de_frz (de_slice (dv 2) do_none (do_some (dv 5)))) (de_frz (de_slice (dv 2) (do_some (de_op o_add (dv 5) de_int)) do_none))) (de_op o_add (de_frz (de_slice (dv 2) do_none (do_some (de_op o_add (dv 5) de_int)))) (de_frz (de_slice (dv 2) (do_some (dv 5)) do_none))))))
  ds_nil)
  (ds_cons (ds_set (i := 7) SC.nd rfl (by first | exact Or.inl rfl | exact Or.inr rfl) (de_join de_str (dv 2)))
  (ds_cons (ds_set (i := 8) SC.nd rfl (by first | exact Or.inl rfl | exact Or.inr rfl) (dc C_law_draw hr hgd rfl (da_cons (dv 0) (da_cons (de_op o_add (de_callB c_len rfl T.m_len PySem.boot_len (da_cons (dv 7) da_nil)) de_int) da_nil))))
  (ds_cons (ds_if (dt_cmp o_gt (dv 3) de_int (nomark _))
  (ds_cons (ds_set (i := 9) SC.nd rfl (by first | exact Or.inl rfl | exact Or.inr rfl) (de_if (dt_cmp (o_eq hu64) (dv 3) de_int (nomark _)) de_str (de_ixA de_str (dc C_law_draw hr hgd rfl (da_cons (dv 0) (da_cons de_int da_nil))))))
  (ds_one (ds_set (i := 7) SC.nd rfl (by first | exact Or.inl rfl | exact Or.inr rfl) (de_op o_add (de_op o_add (de_slS (dv 7) do_none (do_some (dv 8))) (dv 9)) (de_slS (dv 7) (do_some (de_op o_add (dv 8) (de_callTy c_int rfl T.m_int (by decide +kernel) (da_cons (de_cmp o_lt (dv 3) de_int (nomark _)) da_nil)))) do_none)))))
  ds_nil)
  (ds_one (ds_ret (dv 7)))))))))))
theorem k_law_spoilt (T : Tx P w K mg) {sp_law_draw : DSp} (C_law_draw : Callee P w K mg base k "_law_draw" P_law_draw sp_law_draw)
    (F : FunD K "_law_spoilt" "_law_spoilt" (defArgs s_law_spoilt) (defBody s_law_spoilt) (defScope s_law_spoilt) [] [] f fd) (hm : mg "_law_spoilt" = some (.ref f)) (len : ∀ ds G Q E, sp ds G Q E → ds.length = 2)
    (ok : ∀ ds G Q E, sp ds G Q E → (r_law_spoilt sp_law_draw) { nx := fun _ G' => Q .non G', rt := Q } (startD 10 ds) G) : Callee P w K mg base (k + 1) "_law_spoilt" P_law_spoilt sp :=
  callee_of F hm (dfn_of F sc_law_spoilt len (b_law_spoilt T C_law_draw) ok) (fun _ _ _ _ _ _ us hl => match us, hl with | [_, _], _ => rfl) (fun _ _ _ _ _ _ us hl => match us, hl with | [_, _], _ => rfl)
abbrev N_law_row_due : List Str := ["_law_text_in", "_law_terms", "_law_found", "_law_k", "_law_item"]
abbrev P_law_row_due : List Str := ["_law_text_in"]
theorem sc_law_row_due : FnScope N_law_row_due P_law_row_due (defScope s_law_row_due) := ⟨rfl, rfl, rfl, by decide +kernel, rfl, by decide +kernel, by decide +kernel⟩
theorem b_law_row_due (T : Tx P w K mg) {sp_law_sign_of : DSp} (C_law_sign_of : Callee P w K mg base k "_law_sign_of" P_law_sign_of sp_law_sign_of)  (cdv : Value) (A : Around) (out : List Env) (st : Shared) (H : Hp) (E : XK)
    (hr : Room k (A.deeper (envOfC "_law_row_due" (defScope s_law_row_due) st.heap.objs.size f cdv))) (hgd : (A.deeper (envOfC "_law_row_due" (defScope s_law_row_due) st.heap.objs.size f cdv)).guards = some []) :
    DSs (cxOf CX0 P w K mg base N_law_row_due "_law_row_due" (defScope s_law_row_due) f cdv A out st H E).nox (defBody s_law_row_due) (r_law_row_due sp_law_sign_of) := by
  have SC := sc_law_row_due
  have hu := hu_of hr
  have hu64 := hr.units
  have hu70 := hu70_of hr
  exact (ds_cons (ds_par (i := 1) (j := 2) rfl SC.nd rfl rfl (by decide) rfl rfl (da_cons (de_frz (de_splt (dv 0) de_str)) (da_cons (de_lst da_nil) da_nil)) rfl)
  (ds_cons (ds_if (dt_cmp (o_eq hu64) (de_ix (dv 1) de_int) de_str (nomark _))
  (ds_one (ds_ret (de_if (dt_cmp (o_eq hu64) (de_callB c_len rfl T.m_len PySem.boot_len (da_cons (dv 1) da_nil)) de_int (nomark _)) (de_tup (da_cons de_str (da_cons (de_tup da_nil) da_nil))) (de_tup (da_cons de_str (da_cons de_int da_nil))))))
  ds_nil)
  (ds_cons (ds_for PassesOwn.never rfl (di_range1 rfl T.m_range (da_cons (de_callB c_len rfl T.m_len PySem.boot_len (da_cons (dv 1) da_nil)) da_nil)) (dg_name (i := 3) SC.nd rfl (by first | exact Or.inl rfl | exact Or.inr rfl))
  (ds_cons (ds_set (i := 4) SC.nd rfl (by first | exact Or.inl rfl | exact Or.inr rfl) (dc C_law_sign_of hr hgd rfl (da_cons (de_ix (dv 1) (dv 3)) (da_cons de_int da_nil))))
  (ds_cons (ds_if (dt_cmp o_isN (dv 4) de_non (nomark _))
  (ds_one (ds_ret (de_tup (da_cons de_str (da_cons (dv 3) da_nil)))))
  ds_nil)
  (ds_one (ds_expr (de_append (dv 2) (dv 4)))))))
  (ds_one (ds_ret (de_tup (da_cons de_str (da_cons (de_callTy c_tuple rfl T.m_tuple (by decide +kernel) (da_cons (dv 2) da_nil)) da_nil))))))))
theorem k_law_row_due (T : Tx P w K mg) {sp_law_sign_of : DSp} (C_law_sign_of : Callee P w K mg base k "_law_sign_of" P_law_sign_of sp_law_sign_of)
    (F : FunD K "_law_row_due" "_law_row_due" (defArgs s_law_row_due) (defBody s_law_row_due) (defScope s_law_row_due) [] [] f fd) (hm : mg "_law_row_due" = some (.ref f)) (len : ∀ ds G Q E, sp ds G Q E → ds.length = 1)
    (ok : ∀ ds G Q E, sp ds G Q E → (r_law_row_due sp_law_sign_of) { nx := fun _ G' => Q .non G', rt := Q } (startD 5 ds) G) : Callee P w K mg base (k + 1) "_law_row_due" P_law_row_due sp :=
  callee_of F hm (dfn_of F sc_law_row_due len (b_law_row_due T C_law_sign_of) ok) (fun _ _ _ _ _ _ us hl => match us, hl with | [_], _ => rfl) (fun _ _ _ _ _ _ us hl => match us, hl with | [_], _ => rfl)
abbrev N_law_sign_due : List Str := ["_law_text_in", "_law_terms", "_law_item"]
abbrev P_law_sign_due : List Str := ["_law_text_in"]
theorem sc_law_sign_due : FnScope N_law_sign_due P_law_sign_due (defScope s_law_sign_due) := ⟨rfl, rfl, rfl, by decide +kernel, rfl, by decide +kernel, by decide +kernel⟩
theorem b_law_sign_due (T : Tx P w K mg) {sp_law_sign_of : DSp} (C_law_sign_of : Callee P w K mg base k "_law_sign_of" P_law_sign_of sp_law_sign_of)  (cdv : Value) (A : Around) (out : List Env) (st : Shared) (H : Hp) (E : XK)
    (hr : Room k (A.deeper (envOfC "_law_sign_due" (defScope s_law_sign_due) st.heap.objs.size f cdv))) (hgd : (A.deeper (envOfC "_law_sign_due" (defScope s_law_sign_due) st.heap.objs.size f cdv)).guards = some []) :
    DSs (cxOf CX0 P w K mg base N_law_sign_due "_law_sign_due" (defScope s_law_sign_due) f cdv A out st H E).nox (defBody s_law_sign_due) (r_law_sign_due sp_law_sign_of) := by
  have SC := sc_law_sign_due
  have hu := hu_of hr
  have hu64 := hr.units
  have hu70 := hu70_of hr
  exact (ds_cons (ds_set (i := 1) SC.nd rfl (by first | exact Or.inl rfl | exact Or.inr rfl) (de_frz (de_splt (dv 0) de_str)))
  (ds_cons (ds_set (i := 2) SC.nd rfl (by first | exact Or.inl rfl | exact Or.inr rfl) (dc C_law_sign_of hr hgd rfl (da_cons (de_ix (dv 1) de_int) (da_cons de_int da_nil))))
  (ds_cons (ds_if (dt_cmp o_isN (dv 2) de_non (nomark _))
  (ds_one (ds_ret (de_tup (da_cons de_str (da_cons de_int da_nil)))))
  ds_nil)
  (ds_one (ds_ret (de_if (dt_cmp (o_eq hu64) (de_callB c_len rfl T.m_len PySem.boot_len (da_cons (dv 1) da_nil)) de_int (nomark _)) (de_tup (da_cons de_str (da_cons (dv 2) da_nil))) (de_tup (da_cons de_str (da_cons de_int da_nil)))))))))
theorem k_law_sign_due (T : Tx P w K mg) {sp_law_sign_of : DSp} (C_law_sign_of : Callee P w K mg base k "_law_sign_of" P_law_sign_of sp_law_sign_of)
    (F : FunD K "_law_sign_due" "_law_sign_due" (defArgs s_law_sign_due) (defBody s_law_sign_due) (defScope s_law_sign_due) [] [] f fd) (hm : mg "_law_sign_due" = some (.ref f)) (len : ∀ ds G Q E, sp ds G Q E → ds.length = 1)
    (ok : ∀ ds G Q E, sp ds G Q E → (r_law_sign_due sp_law_sign_of) { nx := fun _ G' => Q .non G', rt := Q } (startD 3 ds) G) : Callee P w K mg base (k + 1) "_law_sign_due" P_law_sign_due sp :=
  callee_of F hm (dfn_of F sc_law_sign_due len (b_law_sign_due T C_law_sign_of) ok) (fun _ _ _ _ _ _ us hl => match us, hl with | [_], _ => rfl) (fun _ _ _ _ _ _ us hl => match us, hl with | [_], _ => rfl)
abbrev N_law_line_right : List Str := ["_law_text_in", "_law_line_in", "_law_field_in", "_law_lot", "_law_read", "_law_write", "_law_due_in", "_law_want"]
abbrev P_law_line_right : List Str := ["_law_text_in", "_law_line_in", "_law_field_in"]
theorem sc_law_line_right : FnScope N_law_line_right P_law_line_right (defScope s_law_line_right) := ⟨rfl, rfl, rfl, by decide +kernel, rfl, by decide +kernel, by decide +kernel⟩
theorem b_law_line_right {P : Program} {w : World} {K : PySem.W.Frag} {mg : Str → Option Value} {base : Heap} {k : Nat} {f c Tb : Addr} (T : Tx P w K mg) (TB : TabB base mg c Tb) {sp_law_row_due : DSp} {sp_law_sign_due : DSp}  (C_law_row_due : Callee P w K mg base (k + 2) "_law_row_due" P_law_row_due sp_law_row_due) (C_law_sign_due : Callee P w K mg base (k + 2) "_law_sign_due" P_law_sign_due sp_law_sign_due)    {fvw : List (Addr × DSp)} {fvr : List (Addr × DSp)} {fa : List Addr} (FG_fvw_1 : FGs P w K mg base k fvw 1 [] [(0, 0)] []) (FG_fvr_1 : FGs P w K mg base k fvr 1 [] [(0, 0), (1, 0), (1, 1)] [.int (0), .int (0)]) (FG_fvr_1_field_line : FGs P w K mg base k fvr 1 ["field", "line"] [(0, 0), (2, 1), (2, 0)] []) (FN : FNs mg ["sign_read", "sign_text", "signs_read", "signs_text"] fa)  (H_law_heard : Hearer P w K mg base k "_law_heard" r_law_heard 4) (A : Around) (out : List Env) (st : Shared) (H : Hp) (E : XK)
    (hr : Room (k + 2) (A.deeper (envOfC "_law_line_right" (defScope s_law_line_right) st.heap.objs.size f (.ref c)))) (hgd : (A.deeper (envOfC "_law_line_right" (defScope s_law_line_right) st.heap.objs.size f (.ref c))).guards = some []) :
    DSs (cxOf CX0 P w K mg base N_law_line_right "_law_line_right" (defScope s_law_line_right) f (.ref c) A out st H E).nox (defBody s_law_line_right) (r_law_line_right Tb sp_law_row_due sp_law_sign_due fvw fvr fa) := by
  have hr2 := hr
  have SC := sc_law_line_right
  have hu := hu_of hr
  have hu64 := hr.units
  have hu70 := hu70_of hr
  exact (ds_cons (ds_set (i := 3) SC.nd rfl (by first | exact Or.inl rfl | exact Or.inr rfl) (de_frz (de_lst (da_cons (de_tup (da_cons (de_fnm FN 0 (by decide) rfl rfl) (da_cons (de_fnm FN 1 (by decide) rfl rfl) (da_cons (dc C_law_sign_due hr hgd rfl (da_cons (dv 0) da_nil)) da_nil)))) (da_cons (de_tup (da_cons (de_fnm FN 2 (by decide) rfl rfl) (da_cons (de_fnm FN 3 (by decide) rfl rfl) (da_cons (dc C_law_row_due hr hgd rfl (da_cons (dv 0) da_nil)) da_nil)))) da_nil)))))
  (ds_cons (ds_for PassesOwn.never rfl (di_seq (dv 3)) (dg_tup rfl (dgs_cons (dg_name (i := 4) SC.nd rfl (by first | exact Or.inl rfl | exact Or.inr rfl)) (dgs_cons (dg_name (i := 5) SC.nd rfl (by first | exact Or.inl rfl | exact Or.inr rfl)) (dgs_cons (dg_name (i := 6) SC.nd rfl (by first | exact Or.inl rfl | exact Or.inr rfl)) dgs_nil))))
  (ds_cons (ds_set (i := 7) SC.nd rfl (by first | exact Or.inl rfl | exact Or.inr rfl) (de_if (dt_cmp (o_eq hu64) (de_ix (dv 6) de_int) de_str (nomark _)) (dv 6) (de_tup (da_cons de_str (da_cons de_int (da_cons (de_ix (dv 6) de_int) da_nil))))))
  (ds_cons (ds_if (dt_cmp (o_ne hu64) (de_callB (c_repr hgd hu70) rfl T.m_repr (by decide +kernel) (da_cons (de_hearL H_law_heard TB rfl (by first | rfl | kernel_rfl) hr2 hgd rfl rfl (lamS_by (by show lamSB (defScope s_law_line_right) _ = true; decide +kernel)) (fun _ _ _ _ => rfl) (fun A outer s H E f c' hr hgd tk => have hu := hu_of hr; have hu64 := hr.units; have hu70 := hu70_of hr; (xcVG FG_fvr_1 tk hr hgd (dv 4) (da_cons (dv 0) da_nil) dk_nil))) da_nil)) (de_callB (c_repr hgd hu70) rfl T.m_repr (by decide +kernel) (da_cons (dv 7) da_nil)) (nomark _))
  (ds_one (ds_ret de_bl))
  ds_nil)
  (ds_cons (ds_set (i := 7) SC.nd rfl (by first | exact Or.inl rfl | exact Or.inr rfl) (de_if (dt_cmp (o_eq hu64) (de_ix (dv 6) de_int) de_str (nomark _)) (dv 6) (de_tup (da_cons de_str (da_cons (dv 1) (da_cons (de_op o_add (de_ix (dv 6) de_int) (dv 2)) da_nil))))))
  (ds_cons (ds_if (dt_cmp (o_ne hu64) (de_callB (c_repr hgd hu70) rfl T.m_repr (by decide +kernel) (da_cons (de_hearL H_law_heard TB rfl (by first | rfl | kernel_rfl) hr2 hgd rfl rfl (lamS_by (by show lamSB (defScope s_law_line_right) _ = true; decide +kernel)) (fun _ _ _ _ => rfl) (fun A outer s H E f c' hr hgd tk => have hu := hu_of hr; have hu64 := hr.units; have hu70 := hu70_of hr; (xcVG FG_fvr_1_field_line tk hr hgd (dv 4) (da_cons (dv 0) da_nil) (dk_cons (dv 2) (dk_cons (dv 1) dk_nil))))) da_nil)) (de_callB (c_repr hgd hu70) rfl T.m_repr (by decide +kernel) (da_cons (dv 7) da_nil)) (nomark _))
  (ds_one (ds_ret de_bl))
  ds_nil)
  (ds_one (ds_if (dt_w (dw_and (dt_cmp (o_eq hu64) (de_ix (dv 6) de_int) de_str (nomark _)) (dw_and1 (dt_cmp (o_ne hu64) (de_calm (xcVG FG_fvw_1 takes_none (hr.mono (Nat.le_add_right _ _)) hgd (dv 5) (da_cons (de_calm (xcVG FG_fvr_1 takes_none (hr.mono (Nat.le_add_right _ _)) hgd (dv 4) (da_cons (dv 0) da_nil) dk_nil)) da_nil) dk_nil)) (dv 0) (nomark _)))))
  (ds_one (ds_ret de_bl))
  ds_nil)))))))
  (ds_one (ds_ret de_bl))))
theorem d_law_line_right {P : Program} {w : World} {K : PySem.W.Frag} {mg : Str → Option Value} {base : Heap} {k : Nat} {f c Tb : Addr} {fd : FuncData} {sp : DSp} (T : Tx P w K mg) (TB : TabB base mg c Tb) (hc : fd.code = .ref c) {sp_law_row_due : DSp} {sp_law_sign_due : DSp}  (C_law_row_due : Callee P w K mg base (k + 2) "_law_row_due" P_law_row_due sp_law_row_due) (C_law_sign_due : Callee P w K mg base (k + 2) "_law_sign_due" P_law_sign_due sp_law_sign_due)    {fvw : List (Addr × DSp)} {fvr : List (Addr × DSp)} {fa : List Addr} (FG_fvw_1 : FGs P w K mg base k fvw 1 [] [(0, 0)] []) (FG_fvr_1 : FGs P w K mg base k fvr 1 [] [(0, 0), (1, 0), (1, 1)] [.int (0), .int (0)]) (FG_fvr_1_field_line : FGs P w K mg base k fvr 1 ["field", "line"] [(0, 0), (2, 1), (2, 0)] []) (FN : FNs mg ["sign_read", "sign_text", "signs_read", "signs_text"] fa)  (H_law_heard : Hearer P w K mg base k "_law_heard" r_law_heard 4)
    (F : FunD K "_law_line_right" "_law_line_right" (defArgs s_law_line_right) (defBody s_law_line_right) (defScope s_law_line_right) [] [] f fd) (len : ∀ ds G Q E, sp ds G Q E → ds.length = 3)
    (ok : ∀ ds G Q E, sp ds G Q E → (r_law_line_right Tb sp_law_row_due sp_law_sign_due fvw fvr fa) { nx := fun _ G' => Q .non G', rt := Q } (startD 8 ds) G) : DFn P w K mg base (k + 3) f fd P_law_line_right sp :=
  dfn_ofL (β := Unit) (t := fun _ => r_law_line_right Tb sp_law_row_due sp_law_sign_due fvw fvr fa) F hc sc_law_line_right len (fun A out st H E hr hgd => ⟨(), b_law_line_right T TB C_law_row_due C_law_sign_due FG_fvw_1 FG_fvr_1 FG_fvr_1_field_line FN H_law_heard A out st H E hr hgd⟩) (fun _ => ok)
theorem k_law_line_right {P : Program} {w : World} {K : PySem.W.Frag} {mg : Str → Option Value} {base : Heap} {k : Nat} {f c Tb : Addr} {fd : FuncData} {sp : DSp} (T : Tx P w K mg) (TB : TabB base mg c Tb) (hc : fd.code = .ref c) {sp_law_row_due : DSp} {sp_law_sign_due : DSp}  (C_law_row_due : Callee P w K mg base (k + 2) "_law_row_due" P_law_row_due sp_law_row_due) (C_law_sign_due : Callee P w K mg base (k + 2) "_law_sign_due" P_law_sign_due sp_law_sign_due)    {fvw : List (Addr × DSp)} {fvr : List (Addr × DSp)} {fa : List Addr} (FG_fvw_1 : FGs P w K mg base k fvw 1 [] [(0, 0)] []) (FG_fvr_1 : FGs P w K mg base k fvr 1 [] [(0, 0), (1, 0), (1, 1)] [.int (0), .int (0)]) (FG_fvr_1_field_line : FGs P w K mg base k fvr 1 ["field", "line"] [(0, 0), (2, 1), (2, 0)] []) (FN : FNs mg ["sign_read", "sign_text", "signs_read", "signs_text"] fa)  (H_law_heard : Hearer P w K mg base k "_law_heard" r_law_heard 4)
    (F : FunD K "_law_line_right" "_law_line_right" (defArgs s_law_line_right) (defBody s_law_line_right) (defScope s_law_line_right) [] [] f fd) (hm : mg "_law_line_right" = some (.ref f)) (len : ∀ ds G Q E, sp ds G Q E → ds.length = 3)
    (ok : ∀ ds G Q E, sp ds G Q E → (r_law_line_right Tb sp_law_row_due sp_law_sign_due fvw fvr fa) { nx := fun _ G' => Q .non G', rt := Q } (startD 8 ds) G) : Callee P w K mg base (k + 3) "_law_line_right" P_law_line_right sp :=
  callee_of F hm (d_law_line_right T TB hc C_law_row_due C_law_sign_due FG_fvw_1 FG_fvr_1 FG_fvr_1_field_line FN H_law_heard F len ok) (fun _ _ _ _ _ _ us hl => match us, hl with | [_, _, _], _ => rfl) (fun _ _ _ _ _ _ us hl => match us, hl with | [_, _, _], _ => rfl)
abbrev N_law_texts_by_hand : List Str := ["_law_nine", "_law_found", "_law_many"]
abbrev P_law_texts_by_hand : List Str := []
theorem sc_law_texts_by_hand : FnScope N_law_texts_by_hand P_law_texts_by_hand (defScope s_law_texts_by_hand) := ⟨rfl, rfl, rfl, by decide +kernel, rfl, by decide +kernel, by decide +kernel⟩
theorem b_law_texts_by_hand (T : Tx P w K mg)    (cdv : Value) (A : Around) (out : List Env) (st : Shared) (H : Hp) (E : XK)
    (hr : Room k (A.deeper (envOfC "_law_texts_by_hand" (defScope s_law_texts_by_hand) st.heap.objs.size f cdv))) (hgd : (A.deeper (envOfC "_law_texts_by_hand" (defScope s_law_texts_by_hand) st.heap.objs.size f cdv)).guards = some []) :
    DSs (cxOf CX0 P w K mg base N_law_texts_by_hand "_law_texts_by_hand" (defScope s_law_texts_by_hand) f cdv A out st H E).nox (defBody s_law_texts_by_hand) (r_law_texts_by_hand) := by
  have SC := sc_law_texts_by_hand
  have hu := hu_of hr
  have hu64 := hr.units
  have hu70 := hu70_of hr
  exact (ds_cons (ds_set (i := 0) SC.nd rfl (by first | exact Or.inl rfl | exact Or.inr rfl) (de_op o_mulTx de_str de_int))
  (ds_cons (ds_set (i := 1) SC.nd rfl (by first | exact Or.inl rfl | exact Or.inr rfl) (de_splt de_str de_str))
  (ds_cons (ds_expr (de_extend (dv 1) (de_frz (de_splt de_str de_str))))
  (ds_cons (ds_expr (de_extend (dv 1) (de_frz (de_splt de_str de_str))))
  (ds_cons (ds_expr (de_extend (dv 1) (de_frz (de_splt de_str de_str))))
  (ds_cons (ds_expr (de_extend (dv 1) (de_frz (de_splt de_str de_str))))
  (ds_cons (ds_expr (de_extend (dv 1) (de_frz (de_splt de_str de_str))))
  (ds_cons (ds_expr (de_extend (dv 1) (de_frz (de_splt de_str de_str))))
  (ds_cons (ds_expr (de_extend (dv 1) (de_frz (de_splt de_str de_str))))
  (ds_cons (ds_expr (de_extend (dv 1) (de_frz (de_splt de_str de_str))))
  (ds_cons (ds_expr (de_extend (dv 1) (de_frz (de_lst (da_cons (de_op o_add de_str (dv 0)) (da_cons (de_op o_add (de_op o_add de_str (dv 0)) de_str) (da_cons (de_op o_add de_str (dv 0)) da_nil)))))))
  (ds_cons (ds_expr (de_extend (dv 1) (de_frz (de_lst (da_cons (de_op o_add de_str (dv 0)) (da_cons (de_op o_mulTx de_str de_int) (da_cons (de_op o_add (de_op o_mulTx de_str de_int) de_str) da_nil)))))))
  (ds_cons (ds_expr (de_extend (dv 1) (de_frz (de_lst (da_cons (de_op o_mulTx de_str de_int) (da_cons (de_op o_add (de_op o_mulTx de_str de_int) de_str) (da_cons (de_op o_add (de_op o_add (de_op o_mulTx de_str de_int) de_str) de_str) da_nil)))))))
  (ds_cons (ds_for PassesOwn.never rfl (di_seq (de_tup (da_cons de_int (da_cons de_int (da_cons de_int (da_cons de_int (da_cons de_int da_nil))))))) (dg_name (i := 2) SC.nd rfl (by first | exact Or.inl rfl | exact Or.inr rfl))
  (ds_one (ds_expr (de_append (dv 1) (de_op o_add (de_op o_add (de_op o_mulTx de_str (de_op o_fdiv (dv 2) de_int)) (de_op o_mulTx de_str (de_op o_sub (dv 2) (de_op o_mul (de_op o_fdiv (dv 2) de_int) de_int)))) de_str)))))
  (ds_one (ds_ret (de_frz (dv 1))))))))))))))))))
theorem k_law_texts_by_hand (T : Tx P w K mg)
    (F : FunD K "_law_texts_by_hand" "_law_texts_by_hand" (defArgs s_law_texts_by_hand) (defBody s_law_texts_by_hand) (defScope s_law_texts_by_hand) [] [] f fd) (hm : mg "_law_texts_by_hand" = some (.ref f)) (len : ∀ ds G Q E, sp ds G Q E → ds.length = 0)
    (ok : ∀ ds G Q E, sp ds G Q E → (r_law_texts_by_hand) { nx := fun _ G' => Q .non G', rt := Q } (startD 3 ds) G) : Callee P w K mg base (k + 1) "_law_texts_by_hand" P_law_texts_by_hand sp :=
  callee_of F hm (dfn_of F sc_law_texts_by_hand len (b_law_texts_by_hand T) ok) (fun _ _ _ _ _ _ us hl => match us, hl with | [], _ => rfl) (fun _ _ _ _ _ _ us hl => match us, hl with | [], _ => rfl)
abbrev N_law : List Str := ["_law_script", "_law_feed_here", "_law_spot", "_law_line_in", "_law_field_in", "_law_texts", "_law_turn", "_law_row_in", "_law_kept", "_law_item", "_law_text_in", "_law_once", "_law_told"]
abbrev P_law : List Str := ["_law_script"]
theorem sc_law : FnScope N_law P_law (defScope s_law) := ⟨rfl, rfl, rfl, by decide +kernel, rfl, by decide +kernel, by decide +kernel⟩
theorem b_law (T : Tx P w K mg) {sp_signs_read : DSp} {sp_sign_read : DSp} {sp_signs_text : DSp} {sp_sign_text : DSp} {sp_law_line_right : DSp} {sp_law_row_text : DSp} {sp_law_sign_word : DSp} {sp_law_spoilt : DSp} {sp_law_signs : DSp} {sp_law_texts_by_hand : DSp} {sp_law_draw : DSp} {sp_law_feed : DSp} (C_signs_text : Callee P w K mg base k "signs_text" P_signs_text sp_signs_text) (C_sign_text : Callee P w K mg base k "sign_text" P_sign_text sp_sign_text) (C_law_line_right : Callee P w K mg base k "_law_line_right" P_law_line_right sp_law_line_right) (C_law_row_text : Callee P w K mg base k "_law_row_text" P_law_row_text sp_law_row_text) (C_law_sign_word : Callee P w K mg base k "_law_sign_word" P_law_sign_word sp_law_sign_word) (C_law_spoilt : Callee P w K mg base k "_law_spoilt" P_law_spoilt sp_law_spoilt) (C_law_signs : Callee P w K mg base k "_law_signs" P_law_signs sp_law_signs) (C_law_texts_by_hand : Callee P w K mg base k "_law_texts_by_hand" P_law_texts_by_hand sp_law_texts_by_hand) (C_law_draw : Callee P w K mg base k "_law_draw" P_law_draw sp_law_draw) (C_law_feed : Callee P w K mg base k "_law_feed" P_law_feed sp_law_feed) (G_signs_read_1 : CalleeG P w K mg base k "signs_read" 1 [] [(0, 0), (1, 0), (1, 1)] [.int (0), .int (0)] sp_signs_read) (G_signs_read_0_line_text_field : CalleeG P w K mg base k "signs_read" 0 ["line", "text", "field"] [(2, 1), (2, 0), (2, 2)] [] sp_signs_read) (G_sign_read_0_field_line_text : CalleeG P w K mg base k "sign_read" 0 ["field", "line", "text"] [(2, 2), (2, 1), (2, 0)] [] sp_sign_read) (cdv : Value) (A : Around) (out : List Env) (st : Shared) (H : Hp) (E : XK)
    (hr : Room k (A.deeper (envOfC "law" (defScope s_law) st.heap.objs.size f cdv))) (hgd : (A.deeper (envOfC "law" (defScope s_law) st.heap.objs.size f cdv)).guards = some []) :
    DSs (cxOf CX0 P w K mg base N_law "law" (defScope s_law) f cdv A out st H E).nox (defBody s_law) (r_law sp_signs_read sp_sign_read sp_signs_text sp_sign_text sp_law_line_right sp_law_row_text sp_law_sign_word sp_law_spoilt sp_law_signs sp_law_texts_by_hand sp_law_draw sp_law_feed) := by
  have SC := sc_law
  have hu := hu_of hr
  have hu64 := hr.units
  have hu70 := hu70_of hr
  exact (ds_cons (ds_set (i := 1) SC.nd rfl (by first | exact Or.inl rfl | exact Or.inr rfl) (dc C_law_feed hr hgd rfl (da_cons (dv 0) da_nil)))
  (ds_cons (ds_asg (de_tup (da_cons (dc C_law_draw hr hgd rfl (da_cons (dv 1) (da_cons de_int da_nil))) (da_cons (de_ix (de_frz (de_lst (da_cons de_int (da_cons de_int (da_cons de_int da_nil))))) (dc C_law_draw hr hgd rfl (da_cons (dv 1) (da_cons de_int da_nil)))) (da_cons (de_ix (de_frz (de_lst (da_cons de_int (da_cons de_int (da_cons de_int da_nil))))) (dc C_law_draw hr hgd rfl (da_cons (dv 1) (da_cons de_int da_nil)))) da_nil)))) (dg_tup rfl (dgs_cons (dg_name (i := 2) SC.nd rfl (by first | exact Or.inl rfl | exact Or.inr rfl)) (dgs_cons (dg_name (i := 3) SC.nd rfl (by first | exact Or.inl rfl | exact Or.inr rfl)) (dgs_cons (dg_name (i := 4) SC.nd rfl (by first | exact Or.inl rfl | exact Or.inr rfl)) dgs_nil)))))
  (ds_cons (ds_set (i := 5) SC.nd rfl (by first | exact Or.inl rfl | exact Or.inr rfl) (de_step (dc0 C_law_texts_by_hand hr hgd rfl) (dv 2) de_int))
  (ds_cons (ds_for PassesOwn.never rfl (di_range1 rfl T.m_range (da_cons de_int da_nil)) (dg_name (i := 6) SC.nd rfl (by first | exact Or.inl rfl | exact Or.inr rfl))
  (ds_cons (ds_set (i := 7) SC.nd rfl (by first | exact Or.inl rfl | exact Or.inr rfl) (dc C_law_signs hr hgd rfl (da_cons (dv 1) (da_cons de_int da_nil))))
  (ds_cons (ds_set (i := 8) SC.nd rfl (by first | exact Or.inl rfl | exact Or.inr rfl) (de_callB (c_reprA hgd hu70) rfl T.m_repr (by decide +kernel) (da_cons (dv 7) da_nil)))
  (ds_cons (ds_if (dt_w (dw_or (dt_cmp (o_ne hu64) (de_callB (c_reprA hgd hu70) rfl T.m_repr (by decide +kernel) (da_cons (dc C_signs_text hr hgd rfl (da_cons (dv 7) da_nil)) da_nil)) (de_callB (c_reprA hgd hu70) rfl T.m_repr (by decide +kernel) (da_cons (dc C_law_row_text hr hgd rfl (da_cons (dv 7) da_nil)) da_nil)) (nomark _)) (dw_or1 (dt_cmp (o_ne hu64) (de_callB (c_reprA hgd hu70) rfl T.m_repr (by decide +kernel) (da_cons (dv 7) da_nil)) (dv 8) (nomark _)))))
  (ds_one (ds_ret de_bl))
  ds_nil)
  (ds_cons (ds_for PassesOwn.never rfl (di_seq (dv 7)) (dg_name (i := 9) SC.nd rfl (by first | exact Or.inl rfl | exact Or.inr rfl))
  (ds_one (ds_if (dt_cmp (o_ne hu64) (de_callB (c_reprA hgd hu70) rfl T.m_repr (by decide +kernel) (da_cons (dc C_sign_text hr hgd rfl (da_cons (dv 9) da_nil)) da_nil)) (de_callB (c_reprA hgd hu70) rfl T.m_repr (by decide +kernel) (da_cons (dc C_law_sign_word hr hgd rfl (da_cons (dv 9) da_nil)) da_nil)) (nomark _))
  (ds_one (ds_ret de_bl))
  ds_nil)))
  (ds_one (ds_for PassesOwn.never rfl (di_seq (de_frz (de_op o_add (de_frz (de_lst (da_cons (dc C_law_row_text hr hgd rfl (da_cons (dv 7) da_nil)) da_nil))) (de_frz (de_lc (own := [("_law_item", 9)]) (ct := (.one 9)) rfl SC.nd (di_seq (de_slice (dv 7) do_none (do_some de_int))) (blkOk_by (by show blkC N_law (defScope s_law) _ _ = true; decide +kernel)) (by decide) (fun _ _ _ _ _ => pg_name (i := 9) SC.nd rfl (Or.inl rfl)) (fun _ _ _ _ _ => dts_nil) (fun _ _ _ _ _ => (dc C_law_sign_word hr hgd rfl (da_cons (dv 9) da_nil)))))))) (dg_name (i := 10) SC.nd rfl (by first | exact Or.inl rfl | exact Or.inr rfl))
  (ds_cons (ds_set (i := 11) SC.nd rfl (by first | exact Or.inl rfl | exact Or.inr rfl) (dc C_law_spoilt hr hgd rfl (da_cons (dv 1) (da_cons (dv 10) da_nil))))
  (ds_one (ds_expr (de_extend (dv 5) (de_frz (de_lst (da_cons (dv 10) (da_cons (dv 11) (da_cons (dc C_law_spoilt hr hgd rfl (da_cons (dv 1) (da_cons (dv 11) da_nil))) da_nil))))))))))))))))
  (ds_cons (ds_if (dt_cmp (o_ne hu64) (de_frz (de_lc (own := [("_law_text_in", 10)]) (ct := (.one 10)) rfl SC.nd (di_seq (dv 5)) (blkOk_by (by show blkC N_law (defScope s_law) _ _ = true; decide +kernel)) (by decide) (fun _ _ _ _ _ => pg_name (i := 10) SC.nd rfl (Or.inl rfl)) (fun _ _ _ _ _ => (dts_one (dt_not (dt_tru (dc C_law_line_right hr hgd rfl (da_cons (dv 10) (da_cons (dv 3) (da_cons (dv 4) da_nil)))))))) (fun _ _ _ _ _ => (dv 10)))) (de_frz (de_lst da_nil)) (nomark _))
  (ds_one (ds_ret de_bl))
  ds_nil)
  (ds_cons (ds_set (i := 12) SC.nd rfl (by first | exact Or.inl rfl | exact Or.inr rfl) (de_lst (da_cons (dck C_sign_text hr hgd rfl (dk_cons (de_tup (da_cons de_str (da_cons (de_tup (da_cons de_str (da_cons de_int da_nil))) da_nil))) dk_nil)) (da_cons (dck C_signs_text hr hgd rfl (dk_cons (de_tup (da_cons de_str (da_cons (de_tup (da_cons de_str (da_cons (de_tup (da_cons de_str (da_cons de_int da_nil))) da_nil))) da_nil))) dk_nil)) da_nil))))
  (ds_cons (ds_expr (de_extend (dv 12) (de_frz (de_lst (da_cons (dc C_signs_text hr hgd rfl (da_cons (de_tup da_nil) da_nil)) da_nil)))))
  (ds_cons (ds_expr (de_extend (dv 12) (de_frz (de_lst (da_cons (dcg0 G_sign_read_0_field_line_text hr hgd rfl (dk_cons de_int (dk_cons de_int (dk_cons de_str dk_nil)))) (da_cons (dcg0 G_signs_read_0_line_text_field hr hgd rfl (dk_cons de_int (dk_cons de_str (dk_cons de_int dk_nil)))) da_nil))))))
  (ds_cons (ds_expr (de_extend (dv 12) (de_frz (de_lst (da_cons (dcg G_signs_read_1 hr hgd rfl (da_cons de_str da_nil) dk_nil) da_nil)))))
  (ds_one (ds_ret (de_cmp (o_eq hu64) (dv 12) (de_frz (de_lst (da_cons de_str (da_cons de_str (da_cons de_str (da_cons (de_tup (da_cons de_str (da_cons (de_tup (da_cons de_str (da_cons de_int da_nil))) da_nil))) (da_cons (de_tup (da_cons de_str (da_cons de_str da_nil))) (da_cons (de_tup da_nil) da_nil)))))))) (nomark _)))))))))))))
theorem gat_sign_read_0_field_line_text (F : FunD K "sign_read" "sign_read" (defArgs s_sign_read) (defBody s_sign_read) (defScope s_sign_read) [] [("line", .int (0)), ("field", .int (0))] f fd) (D : XFn P w K mg base k f fd P_sign_read sp) : XGAt P w K mg base k f 0 ["field", "line", "text"] [(2, 2), (2, 1), (2, 0)] [] sp :=
  xgat_of (ms := []) F (by simp) (by simp) (fun _ _ => by simp [RepL, RepV]) D fun _ _ _ _ _ _ us mv ws h1 h2 h3 => match us, mv, ws, h1, h2, h3 with | [], [], [_, _, _], _, _, _ => rfl
theorem gat_sign_read_1 (F : FunD K "sign_read" "sign_read" (defArgs s_sign_read) (defBody s_sign_read) (defScope s_sign_read) [] [("line", .int (0)), ("field", .int (0))] f fd) (D : XFn P w K mg base k f fd P_sign_read sp) : XGAt P w K mg base k f 1 [] [(0, 0), (1, 0), (1, 1)] [.int (0), .int (0)] sp :=
  xgat_of (ms := [("line", .int (0)), ("field", .int (0))]) F (by simp) (by simp) (fun _ _ => by simp [RepL, RepV]) D fun _ _ _ _ _ _ us mv ws h1 h2 h3 => match us, mv, ws, h1, h2, h3 with | [_], [_, _], [], _, _, _ => ⟨_, _, _, _, _, _, rfl, rfl, ⟨_, _, _, _, _, _, rfl, rfl, rfl⟩⟩
theorem gat_sign_read_1_field_line (F : FunD K "sign_read" "sign_read" (defArgs s_sign_read) (defBody s_sign_read) (defScope s_sign_read) [] [("line", .int (0)), ("field", .int (0))] f fd) (D : XFn P w K mg base k f fd P_sign_read sp) : XGAt P w K mg base k f 1 ["field", "line"] [(0, 0), (2, 1), (2, 0)] [] sp :=
  xgat_of (ms := []) F (by simp) (by simp) (fun _ _ => by simp [RepL, RepV]) D fun _ _ _ _ _ _ us mv ws h1 h2 h3 => match us, mv, ws, h1, h2, h3 with | [_], [], [_, _], _, _, _ => rfl
theorem gat_signs_read_0_line_text_field (F : FunD K "signs_read" "signs_read" (defArgs s_signs_read) (defBody s_signs_read) (defScope s_signs_read) [] [("line", .int (0)), ("field", .int (0))] f fd) (D : XFn P w K mg base k f fd P_signs_read sp) : XGAt P w K mg base k f 0 ["line", "text", "field"] [(2, 1), (2, 0), (2, 2)] [] sp :=
  xgat_of (ms := []) F (by simp) (by simp) (fun _ _ => by simp [RepL, RepV]) D fun _ _ _ _ _ _ us mv ws h1 h2 h3 => match us, mv, ws, h1, h2, h3 with | [], [], [_, _, _], _, _, _ => rfl
theorem gat_signs_read_1 (F : FunD K "signs_read" "signs_read" (defArgs s_signs_read) (defBody s_signs_read) (defScope s_signs_read) [] [("line", .int (0)), ("field", .int (0))] f fd) (D : XFn P w K mg base k f fd P_signs_read sp) : XGAt P w K mg base k f 1 [] [(0, 0), (1, 0), (1, 1)] [.int (0), .int (0)] sp :=
  xgat_of (ms := [("line", .int (0)), ("field", .int (0))]) F (by simp) (by simp) (fun _ _ => by simp [RepL, RepV]) D fun _ _ _ _ _ _ us mv ws h1 h2 h3 => match us, mv, ws, h1, h2, h3 with | [_], [_, _], [], _, _, _ => ⟨_, _, _, _, _, _, rfl, rfl, ⟨_, _, _, _, _, _, rfl, rfl, rfl⟩⟩
theorem gat_signs_read_1_field_line (F : FunD K "signs_read" "signs_read" (defArgs s_signs_read) (defBody s_signs_read) (defScope s_signs_read) [] [("line", .int (0)), ("field", .int (0))] f fd) (D : XFn P w K mg base k f fd P_signs_read sp) : XGAt P w K mg base k f 1 ["field", "line"] [(0, 0), (2, 1), (2, 0)] [] sp :=
  xgat_of (ms := []) F (by simp) (by simp) (fun _ _ => by simp [RepL, RepV]) D fun _ _ _ _ _ _ us mv ws h1 h2 h3 => match us, mv, ws, h1, h2, h3 with | [_], [], [_, _], _, _, _ => rfl
end
end K08
namespace K08
open PySem L2 Dl K06 K05
open PyProof.Rows LamX NdefX
section
variable {w : World} {K : PySem.W.Frag} {h : Heap} {mg : Str → Option Value}
theorem tx_of (X : K.In h) (G : h.Ns mainGlobals mg) (c : SaysE fx fn (tq.map (·.1)) ex xs pd h K) : Tx (PySem.Challenge.rw_honestbars_k08_signs_written_and_read).prog w K mg := by
  have X1 : exTB K CT = true := (Bool.and_eq_true_iff.mp c.more).1
  have X2 := (Bool.and_eq_true_iff.mp c.more).2
  have Y_InvalidText := X2
  have x_InvalidText : XClass (PySem.Challenge.rw_honestbars_k08_signs_written_and_read).prog w K mg "InvalidText" ["line", "field"] := xclass2 (d := xd_InvalidText) Y_InvalidText (c.ini xd_InvalidText (by unfold xs; simp)) (He.glo_ok X G (c.x.fact 44 (f := .glo "InvalidText") rfl)) rfl rfl (nscope_by (by decide +kernel)) rfl rfl rfl (by decide +kernel) (by decide) (by decide) (by decide) (by decide)
    (fun _ _ _ _ _ _ us hl => match us, hl with | [_, _, _], _ => rfl) (fun _ => rfl) (fun _ => rfl)
  exact ⟨He.free_ok X G (c.x.fact 24 (f := .free "all") rfl), He.free_ok X G (c.x.fact 25 (f := .free "enumerate") rfl), He.free_ok X G (c.x.fact 26 (f := .free "int") rfl), He.free_ok X G (c.x.fact 27 (f := .free "isinstance") rfl), He.free_ok X G (c.x.fact 28 (f := .free "len") rfl), He.free_ok X G (c.x.fact 29 (f := .free "list") rfl), He.free_ok X G (c.x.fact 30 (f := .free "range") rfl), He.free_ok X G (c.x.fact 31 (f := .free "repr") rfl), He.free_ok X G (c.x.fact 32 (f := .free "str") rfl), He.free_ok X G (c.x.fact 33 (f := .free "tuple") rfl), dat_ok X G (c.x.fact 34 (f := .dat "PLAIN_SIGNS" (.tup [(.str "tick"), (.str "more"), (.str "end")])) rfl), dat_ok X G (c.x.fact 35 (f := .dat "NUMBER_SIGNS" (.tup [(.str "many"), (.str "way")])) rfl), dat_ok X G (c.x.fact 36 (f := .dat "SIDES" (.tup [(.str "left"), (.str "right")])) rfl), dat_ok X G (c.x.fact 37 (f := .dat "NO_SIGNS" (.str "-")) rfl), dat_ok X G (c.x.fact 38 (f := .dat "DIGITS" (.str "0123456789")) rfl), dat_ok X G (c.x.fact 39 (f := .dat "MOST_DIGITS" (.int 60)) rfl), dat_ok X G (c.x.fact 40 (f := .dat "MOST_AROUND" (.int 30)) rfl), x_InvalidText, He.glo_ok X G (c.x.fact 41 (f := .glo "BarError") rfl), He.glo_ok X G (c.x.fact 42 (f := .glo "InvalidPaper") rfl), He.glo_ok X G (c.x.fact 43 (f := .glo "InvalidRow") rfl), He.glo_ok X G (c.x.fact 44 (f := .glo "InvalidText") rfl), He.glo_ok X G (c.x.fact 45 (f := .glo "LiveError") rfl), He.glo_ok X G (c.x.fact 46 (f := .glo "NotNext") rfl), He.glo_ok X G (c.x.fact 47 (f := .glo "NotUsable") rfl), He.glo_ok X G (c.x.fact 48 (f := .glo "PaperError") rfl), He.glo_ok X G (c.x.fact 49 (f := .glo "TextError") rfl), He.glo_ok X G (c.x.fact 50 (f := .glo "WorkError") rfl), exTB_ok X1⟩
end
theorem noSg0 (ds : List D) (G : GH) (Q : DK) (E : DXK) : ¬ K06.spSg 0 ds G Q E := fun ⟨_, _, _, h, _⟩ => by omega
theorem noRLo0 (ds : List D) (G : GH) (Q : DK) (E : DXK) : ¬ pSp (RLo 0) ds G Q E := fun ⟨_, ⟨_, _, _, h⟩, _⟩ => by omega
theorem noRSw0 (ds : List D) (G : GH) (Q : DK) (E : DXK) : ¬ pSp (RSw 0) ds G Q E := fun ⟨_, ⟨_, _, h, _⟩, _⟩ => by omega
theorem facts {w : World} {K : PySem.W.Frag} {h : Heap} {mg : Str → Option Value} {f : Addr} (X : K.In h) (G : h.Ns mainGlobals mg) (hfa : mg ("law" : Str) = some (.ref f)) (c : SaysE fx fn (tq.map (·.1)) ex xs pd h K) :
    ∃ fd : FuncData, (∀ (s : Shared) (v : Value), BindsTo s fd ⟨[v], []⟩ [("_law_script", v)]) ∧ ∀ base : Heap, K.In base → base.Ns mainGlobals mg → (∀ p ∈ csT K tq, TabB base mg p.1 p.2) → DFn (PySem.Challenge.rw_honestbars_k08_signs_written_and_read).prog w K mg base 35 f fd ["_law_script"] (spLaw08 (He.cT K ("_law_line_right", none)).2) := by
  have T : Tx (PySem.Challenge.rw_honestbars_k08_signs_written_and_read).prog w K mg := tx_of X G c
  obtain ⟨fd_is_sided, F_is_sided⟩ := c.x.def_ 0 (d := d_is_sided_) rfl
  have m_is_sided := He.glo_ok X G (c.x.fact 0 (f := .glo "is_sided") rfl)
  obtain ⟨fd_sign_text, F_sign_text⟩ := c.x.def_ 1 (d := d_sign_text_) rfl
  have m_sign_text := He.glo_ok X G (c.x.fact 1 (f := .glo "sign_text") rfl)
  obtain ⟨fd_signs_text, F_signs_text⟩ := c.x.def_ 2 (d := d_signs_text_) rfl
  have m_signs_text := He.glo_ok X G (c.x.fact 2 (f := .glo "signs_text") rfl)
  obtain ⟨fd_number_or_none, F_number_or_none⟩ := c.x.def_ 3 (d := d_number_or_none_) rfl
  have m_number_or_none := He.glo_ok X G (c.x.fact 3 (f := .glo "number_or_none") rfl)
  obtain ⟨fd_sign_or_none, F_sign_or_none⟩ := c.x.def_ 4 (d := d_sign_or_none_) rfl
  have m_sign_or_none := He.glo_ok X G (c.x.fact 4 (f := .glo "sign_or_none") rfl)
  obtain ⟨fd_found_or_refused, F_found_or_refused⟩ := c.x.def_ 5 (d := d_found_or_refused_) rfl
  have m_found_or_refused := He.glo_ok X G (c.x.fact 5 (f := .glo "found_or_refused") rfl)
  obtain ⟨fd_require_one, F_require_one⟩ := c.x.def_ 6 (d := d_require_one_) rfl
  have m_require_one := He.glo_ok X G (c.x.fact 6 (f := .glo "require_one") rfl)
  obtain ⟨fd_sign_read, F_sign_read⟩ := c.x.def_ 7 (d := d_sign_read_) rfl
  have m_sign_read := He.glo_ok X G (c.x.fact 7 (f := .glo "sign_read") rfl)
  obtain ⟨fd_signs_read, F_signs_read⟩ := c.x.def_ 8 (d := d_signs_read_) rfl
  have m_signs_read := He.glo_ok X G (c.x.fact 8 (f := .glo "signs_read") rfl)
  obtain ⟨fd_law_feed, F_law_feed⟩ := c.x.def_ 9 (d := d_law_feed_) rfl
  have m_law_feed := He.glo_ok X G (c.x.fact 9 (f := .glo "_law_feed") rfl)
  obtain ⟨fd_law_draw, F_law_draw⟩ := c.x.def_ 10 (d := d_law_draw_) rfl
  have m_law_draw := He.glo_ok X G (c.x.fact 10 (f := .glo "_law_draw") rfl)
  obtain ⟨fd_law_sign, F_law_sign⟩ := c.x.def_ 11 (d := d_law_sign_) rfl
  have m_law_sign := He.glo_ok X G (c.x.fact 11 (f := .glo "_law_sign") rfl)
  obtain ⟨fd_law_signs, F_law_signs⟩ := c.x.def_ 12 (d := d_law_signs_) rfl
  have m_law_signs := He.glo_ok X G (c.x.fact 12 (f := .glo "_law_signs") rfl)
  obtain ⟨fd_law_heard, F_law_heard⟩ := c.x.def_ 13 (d := d_law_heard_) rfl
  have m_law_heard := He.glo_ok X G (c.x.fact 13 (f := .glo "_law_heard") rfl)
  obtain ⟨fd_law_numeral, F_law_numeral⟩ := c.x.def_ 14 (d := d_law_numeral_) rfl
  have m_law_numeral := He.glo_ok X G (c.x.fact 14 (f := .glo "_law_numeral") rfl)
  obtain ⟨fd_law_sign_of, F_law_sign_of⟩ := c.x.def_ 15 (d := d_law_sign_of_) rfl
  have m_law_sign_of := He.glo_ok X G (c.x.fact 15 (f := .glo "_law_sign_of") rfl)
  obtain ⟨fd_law_sign_word, F_law_sign_word⟩ := c.x.def_ 16 (d := d_law_sign_word_) rfl
  have m_law_sign_word := He.glo_ok X G (c.x.fact 16 (f := .glo "_law_sign_word") rfl)
  obtain ⟨fd_law_row_text, F_law_row_text⟩ := c.x.def_ 17 (d := d_law_row_text_) rfl
  have m_law_row_text := He.glo_ok X G (c.x.fact 17 (f := .glo "_law_row_text") rfl)
  obtain ⟨fd_law_spoilt, F_law_spoilt⟩ := c.x.def_ 18 (d := d_law_spoilt_) rfl
  have m_law_spoilt := He.glo_ok X G (c.x.fact 18 (f := .glo "_law_spoilt") rfl)
  obtain ⟨fd_law_row_due, F_law_row_due⟩ := c.x.def_ 19 (d := d_law_row_due_) rfl
  have m_law_row_due := He.glo_ok X G (c.x.fact 19 (f := .glo "_law_row_due") rfl)
  obtain ⟨fd_law_sign_due, F_law_sign_due⟩ := c.x.def_ 20 (d := d_law_sign_due_) rfl
  have m_law_sign_due := He.glo_ok X G (c.x.fact 20 (f := .glo "_law_sign_due") rfl)
  obtain ⟨fd_law_line_right, F_law_line_right⟩ := c.x.def_ 21 (d := d_law_line_right_) rfl
  have m_law_line_right := He.glo_ok X G (c.x.fact 21 (f := .glo "_law_line_right") rfl)
  obtain ⟨fd_law_texts_by_hand, F_law_texts_by_hand⟩ := c.x.def_ 22 (d := d_law_texts_by_hand_) rfl
  have m_law_texts_by_hand := He.glo_ok X G (c.x.fact 22 (f := .glo "_law_texts_by_hand") rfl)
  obtain ⟨fd_law, F_law⟩ := c.x.def_ 23 (d := d_law_) rfl
  have m_law := He.glo_ok X G (c.x.fact 23 (f := .glo "law") rfl)
  have e := hfa.symm.trans m_law
  cases e
  have b := FunD.bindsA (ps := ["_law_script"]) F_law fun _ _ _ _ _ _ us hl => match us, hl with | [_], _ => rfl
  refine ⟨fd_law, fun s v => b s [v] rfl, fun base _ _ TB => ?_⟩
  clear X G c hfa
  have C_is_sided := k_is_sided (w := w) (base := base) (k := 0) T  F_is_sided m_is_sided (fun _ _ _ _ h => by obtain ⟨_, ⟨_, rfl, _⟩, _⟩ := h; rfl) K08.is_sided_rd
  have C_sign_text := k_sign_text (w := w) (base := base) (k := 1) T (C_is_sided.up (by omega)) F_sign_text m_sign_text (fun _ _ _ _ h => by obtain ⟨_, ⟨_, rfl, _⟩, _⟩ := h; rfl) K08.sign_text_rd
  have C_signs_text := k_signs_text (w := w) (base := base) (k := 2) T (C_sign_text.up (by omega)) F_signs_text m_signs_text (fun _ _ _ _ h => by obtain ⟨_, ⟨_, rfl, _⟩, _⟩ := h; rfl) K08.signs_text_rd
  have C_law_numeral := k_law_numeral (w := w) (base := base) (k := 0) T  F_law_numeral m_law_numeral (fun _ _ _ _ h => by obtain ⟨_, ⟨_, rfl, _⟩, _⟩ := h; rfl) K08.law_numeral_rd
  have C_law_sign_of : ∀ n, n ≤ 31 → Callee (PySem.Challenge.rw_honestbars_k08_signs_written_and_read).prog w K mg base (n + 1) "_law_sign_of" P_law_sign_of (pSp (RLo n)) := by
    intro n
    induction n with
    | zero => exact fun _ => (z_law_sign_of F_law_sign_of m_law_sign_of noRLo0).up (by omega)
    | succ n ih => exact fun hn => k_law_sign_of T (C_law_numeral.up (by omega)) (ih (by omega)) F_law_sign_of m_law_sign_of (fun _ _ _ _ h => by obtain ⟨_, ⟨_, _, rfl, _⟩, _⟩ := h; rfl) (law_sign_of_rd)
  have C_law_row_due := k_law_row_due (w := w) (base := base) (k := 32) T ((C_law_sign_of 31 (by decide)).up (by omega)) F_law_row_due m_law_row_due (fun _ _ _ _ h => by obtain ⟨_, ⟨_, rfl, _⟩, _⟩ := h; rfl) (law_row_due_rd (by omega))
  have C_law_sign_due := k_law_sign_due (w := w) (base := base) (k := 32) T ((C_law_sign_of 31 (by decide)).up (by omega)) F_law_sign_due m_law_sign_due (fun _ _ _ _ h => by obtain ⟨_, ⟨_, rfl, _⟩, _⟩ := h; rfl) (law_sign_due_rd (by omega))
  have C_number_or_none := k_number_or_none (w := w) (base := base) (k := 0) T  F_number_or_none m_number_or_none (fun _ _ _ _ h => by obtain ⟨_, ⟨_, rfl, _⟩, _⟩ := h; rfl) K08.number_or_none_rd
  have C_sign_or_none := k_sign_or_none (w := w) (base := base) (k := 1) T (C_number_or_none.up (by omega)) F_sign_or_none m_sign_or_none (fun _ _ _ _ h => by obtain ⟨_, ⟨_, rfl, _⟩, _⟩ := h; rfl) K08.sign_or_none_rd
  have D_require_one := d_require_one (w := w) (base := base) (k := 2) T (by omega) F_require_one (fun _ _ _ _ h => by obtain ⟨_, ⟨_, _, _, rfl, _⟩, _⟩ := h; rfl) K08.require_one_rd
  have X_require_one := k_require_one (w := w) (base := base) (k := 2) T (by omega) F_require_one m_require_one (fun _ _ _ _ h => by obtain ⟨_, ⟨_, _, _, rfl, _⟩, _⟩ := h; rfl) K08.require_one_rd
  have D_found_or_refused := d_found_or_refused (w := w) (base := base) (k := 2) T (by omega) F_found_or_refused (fun _ _ _ _ h => by obtain ⟨_, ⟨_, _, _, rfl, _⟩, _⟩ := h; rfl) K08.found_or_refused_rd
  have X_found_or_refused := k_found_or_refused (w := w) (base := base) (k := 2) T (by omega) F_found_or_refused m_found_or_refused (fun _ _ _ _ h => by obtain ⟨_, ⟨_, _, _, rfl, _⟩, _⟩ := h; rfl) K08.found_or_refused_rd
  have D_sign_read := d_sign_read (w := w) (base := base) (k := 3) T (C_sign_or_none.up (by omega)) (X_require_one.up (by omega)) (X_found_or_refused.up (by omega)) F_sign_read (fun _ _ _ _ h => by obtain ⟨_, ⟨_, _, _, rfl, _⟩, _⟩ := h; rfl) K08.sign_read_rd
  have G_sign_read_0_field_line_text := ((gat_sign_read_0_field_line_text F_sign_read D_sign_read).nm m_sign_read).calm sign_read_calm
  have D_signs_read := d_signs_read (w := w) (base := base) (k := 3) T (C_sign_or_none.up (by omega)) (X_found_or_refused.up (by omega)) (X_require_one.up (by omega)) F_signs_read (fun _ _ _ _ h => by obtain ⟨_, ⟨_, _, _, rfl, _⟩, _⟩ := h; rfl) K08.signs_read_rd
  have G_signs_read_0_line_text_field := ((gat_signs_read_0_line_text_field F_signs_read D_signs_read).nm m_signs_read).calm signs_read_calm
  have G_signs_read_1 := ((gat_signs_read_1 F_signs_read D_signs_read).nm m_signs_read).calm signs_read_calm
  have FN := (FNs.cons m_sign_read (FNs.cons m_sign_text (FNs.cons m_signs_read (FNs.cons m_signs_text FNs.nil))))
  have FG_fvw_1 := (FGs.cons (k := 3) ((C_sign_text.x.at1 m_sign_text).up (by omega)) (FGs.cons (k := 3) ((C_signs_text.x.at1 m_signs_text).up (by omega)) FGs.nil))
  have FG_fvr_1 := (FGs.cons (k := 4) ((gat_sign_read_1 F_sign_read D_sign_read).up (by omega)) (FGs.cons (k := 4) ((gat_signs_read_1 F_signs_read D_signs_read).up (by omega)) FGs.nil))
  have FG_fvr_1_field_line := (FGs.cons (k := 4) ((gat_sign_read_1_field_line F_sign_read D_sign_read).up (by omega)) (FGs.cons (k := 4) ((gat_signs_read_1_field_line F_signs_read D_signs_read).up (by omega)) FGs.nil))
  have C_law_line_right := k_law_line_right (w := w) (base := base) (k := 31) T (TB _ (csT_at (tq := tq) 0 rfl)) (funD_code F_law_line_right) (C_law_row_due.up (by omega)) (C_law_sign_due.up (by omega)) (FG_fvw_1.up (by omega)) (FG_fvr_1.up (by omega)) (FG_fvr_1_field_line.up (by omega)) FN (k_law_heard T F_law_heard m_law_heard) F_law_line_right m_law_line_right (fun _ _ _ _ h => by obtain ⟨_, _, _, rfl, _⟩ := h; rfl) K08.law_line_right_rd
  have C_law_sign_word : ∀ n, n ≤ 31 → Callee (PySem.Challenge.rw_honestbars_k08_signs_written_and_read).prog w K mg base (n + 0) "_law_sign_word" P_law_sign_word (pSp (RSw n)) := by
    intro n
    induction n with
    | zero => exact fun _ => (z_law_sign_word F_law_sign_word m_law_sign_word noRSw0).up (by omega)
    | succ n ih => exact fun hn => k_law_sign_word T (ih (by omega)) F_law_sign_word m_law_sign_word (fun _ _ _ _ h => by obtain ⟨_, ⟨_, rfl, _⟩, _⟩ := h; rfl) (law_sign_word_rd)
  have C_law_row_text := k_law_row_text (w := w) (base := base) (k := 31) T ((C_law_sign_word 31 (by decide)).up (by omega)) F_law_row_text m_law_row_text (fun _ _ _ _ h => by obtain ⟨_, ⟨_, rfl, _⟩, _⟩ := h; rfl) (law_row_text_rd (by omega) (by omega))
  have C_law_draw := k_law_draw (w := w) (base := base) (k := 0) T  F_law_draw m_law_draw (fun _ _ _ _ h => by obtain ⟨_, _, rfl, _⟩ := h; rfl) K08.law_draw_rd
  have C_law_spoilt := k_law_spoilt (w := w) (base := base) (k := 1) T (C_law_draw.up (by omega)) F_law_spoilt m_law_spoilt (fun _ _ _ _ h => by obtain ⟨_, _, _, _, rfl, _⟩ := h; rfl) K08.law_spoilt_rd
  have C_law_sign : ∀ n, n ≤ 4 → Callee (PySem.Challenge.rw_honestbars_k08_signs_written_and_read).prog w K mg base (n + 1) "_law_sign" P_law_sign (K06.spSg n) := by
    intro n
    induction n with
    | zero => exact fun _ => (z_law_sign F_law_sign m_law_sign noSg0).up (by omega)
    | succ n ih => exact fun hn => k_law_sign T (ih (by omega)) (C_law_draw.up (by omega)) F_law_sign m_law_sign (fun _ _ _ _ h => by obtain ⟨_, _, rfl, _⟩ := h; rfl) (K08.law_sign_rd)
  have C_law_signs := k_law_signs (w := w) (base := base) (k := 5) T (C_law_draw.up (by omega)) ((C_law_sign 4 (by decide)).up (by omega)) F_law_signs m_law_signs (fun _ _ _ _ h => by obtain ⟨_, rfl, _⟩ := h; rfl) (K08.law_signs_rd (by omega))
  have C_law_texts_by_hand := k_law_texts_by_hand (w := w) (base := base) (k := 0) T  F_law_texts_by_hand m_law_texts_by_hand (fun _ _ _ _ h => by obtain ⟨rfl, _⟩ := h; rfl) K08.law_texts_by_hand_rd
  have C_law_feed := k_law_feed (w := w) (base := base) (k := 0) T  F_law_feed m_law_feed (fun _ _ _ _ h => by obtain ⟨_, rfl, _⟩ := h; rfl) K08.law_feed_rd
  exact dfn_of (k := 34) F_law sc_law (fun _ _ _ _ h => by obtain ⟨_, rfl, _⟩ := h; rfl) (b_law T (C_signs_text.up (by omega)) (C_sign_text.up (by omega)) (C_law_line_right.up (by omega)) (C_law_row_text.up (by omega)) ((C_law_sign_word 31 (by decide)).up (by omega)) (C_law_spoilt.up (by omega)) (C_law_signs.up (by omega)) (C_law_texts_by_hand.up (by omega)) (C_law_draw.up (by omega)) (C_law_feed.up (by omega)) (G_signs_read_1.up (by omega)) (G_signs_read_0_line_text_field.up (by omega)) (G_sign_read_0_field_line_text.up (by omega))) K08.law_rd
end K08
open PySem Dl in
theorem PySem.Challenge.cw_honestbars_k08_signs_written_and_read_holds : PySem.Challenge.rw_honestbars_k08_signs_written_and_read.Holds :=
  K08.head_of fun w mg fa h K KX c G hmg => by
    obtain ⟨fd, hb, hF⟩ := K08.facts KX G hmg c
    exact ⟨K, fd, _, tabsT K K08.tq, csT K K08.tq, KX, hb, c.empty', c.out', csT_in, tabsT_cs, c.hd' KX, fun ns _ => ⟨ns, rfl, c.at_ (tq := K08.tq) 0 rfl, fun _ => rfl⟩, hF⟩
